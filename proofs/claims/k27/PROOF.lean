import PyProof.Rows.All
import Wide.All
import OpenK.AllK
import Wide.FinOn
import HandS.ForMost
import HandS.ForExc
import HandS.More
import HandS.Defaults
import HandS.Flow
import HandS.Style
import HandS.Wide
import HandS.IsInst
import HandS.TupAny
import HandS.TupMul
import HandS.Zip
import HandS.Codes
import HandS.HeadHook1
import HandS.Lambda
import HandS.HeadHook4
import HandS.HeadHook2
import HandS.Deep
import HandS.TupLen
import KE.KStateDown
import HandS.Ends
import HandS.MakeKwOnly
import KE.DataMinMax
import HandS.Exc
import HandS.ExcIs
import HandS.TryOnly
import HandS.TryMany
import HandS.Head0
import HandS.Head1
import HandS.Head2
import HandS.HeadEnd
import HandS.Dict
import HandS.DictTup
import KE.SortData
import HandS.Conv
import KE.KDictWalk
import KE.KDictSum
import KE.KDictList
import KE.KEqDict
import KE.GoesEnum
import KE.GoesMore
import HandS.Text
import HandS.SetFor
import HandS.Strs
import KE.KDictKeyed
import PyProof.Rows.InDataRows
import HandS.NoneIn
import HandS.Sort
import PyProof.ListRange
import KE.KIndexOf
import KE.DataFind
import HandS.SortInts
import HandS.TupSets
import HandS.SetBool
import HandS.SetTxt0
import HandS.ExcInit
import HandS.ExcField
import KE.KItemsList
import KE.SortKeyHeap
import HandS.HeadWalk
import KE.KExcIs
import KE.KUnpackStar
import HandS.FStr
import HandS.RaiseMore
import HandS.HotCalls
import KE.KCallOwn
import KE.KAssignIn
import KE.KDictDisplayH
import PySem.Challenge.RW_vastview_k27_whole_the_least_of_all_ways
set_option Elab.async false
set_option linter.all false
set_option maxRecDepth 100000
set_option maxHeartbeats 4000000
namespace VV
open PySem PySem.Spec L2
open PyProof.Rows hiding St
abbrev D := PyData
abbrev Ad := Addr → Prop
def rdL (ns : List Int) : D := .dict [(.none, .list (ns.map PyData.int))]
def fzD (ds : List D) : D := .dict [(.none, .tuple ds)]
def fdD (ps : List (D × D)) : D := .dict [(.none, .dict ps)]
def obD (c : Str) (fs : List (Str × D)) : D := .dict ((.none, .str c) :: fs.map fun p => (PyData.str p.1, p.2))
def keyD : Key → D
  | .inl i => .int i
  | .inr x => .str x
def lamQ : Str := "matches_of.<locals>.<lambda>"
def NT : HO → Prop
  | .tbl _ => False
  | _ => True
structure Same (H H' : Hp) : Prop where
  go : ∀ b o, H b = some o → NT o → H' b = some o
  fre : ∀ b, H' b = none → H b = none
  tab : ∀ P, LamX.TabS H P lamQ → LamX.TabS H' P lamQ
theorem Same.ap {H H' : Hp} (s : Same H H') (b : Addr) (o : HO) (h : H b = some o) (nt : NT o := by exact trivial) : H' b = some o := s.go b o h nt
instance {H H' : Hp} : CoeFun (Same H H') fun _ => ∀ b o, H b = some o → (nt : NT o := by exact trivial) → H' b = some o := ⟨@Same.ap H H'⟩
theorem Same.of {H H' : Hp} (e : ∀ b o, H b = some o → H' b = some o) : Same H H' := ⟨fun b o h _ => e b o h, fun b h => by
  cases q : H b with
  | none => rfl
  | some o => (rw [e b o q] at h; cases h), fun P t => t.ext e⟩
theorem Same.refl (H : Hp) : Same H H := .of fun _ _ h => h
theorem Same.trans {H H1 H2 : Hp} (a : Same H H1) (b : Same H1 H2) : Same H H2 := ⟨fun c o h n => b.go c o (a.go c o h n) n, fun c h => a.fre c (b.fre c h), fun P t => b.tab P (a.tab P t)⟩
theorem Same.free {H H' : Hp} (e : Same H H') {l : Addr} (h : H' l = Option.none) : H l = Option.none := e.fre l h
def NC (a : Addr) : HO → Prop
  | HO.tbl _ => False
  | HO.ext φ => ∀ q, HO.ext φ ≠ LamX.CodeO a q
  | _ => True
theorem nc_code {a : Addr} {q : Str} (n : NC a (LamX.CodeO a q)) : False := n q rfl
theorem tabS_off {H H' : Hp} {P l : Addr} {q : Str} {o : HO} (t : LamX.TabS H P q) (hl : H l = some o) (n : NC l o) (e : ∀ b, b ≠ l → H b = H' b) : LamX.TabS H' P q := by
  obtain ⟨ps, h1, h2, h3⟩ := t
  refine ⟨ps, ?_, h2, fun pos cv hc => ?_⟩
  · rw [← e]
    · exact h1
    · intro z; subst z; rw [hl] at h1; cases h1; exact n
  · obtain ⟨c, e1, e2⟩ := h3 pos cv hc
    refine ⟨c, e1, ?_⟩
    rw [← e]
    · exact e2
    · intro z; subst z; rw [hl] at e2; cases e2; exact nc_code n
theorem tabS_upd {H : Hp} {P a : Addr} {q : Str} {o u : HO} (t : LamX.TabS H P q) (ha : H a = some u) (n : NC a u) : LamX.TabS (upd H a o) P q := by
  obtain ⟨ps, h1, h2, h3⟩ := t
  refine ⟨ps, ?_, h2, fun pos cv hc => ?_⟩
  · rw [upd_ne]
    · exact h1
    · intro e; subst e; rw [ha] at h1; cases h1; exact n
  · obtain ⟨c, e1, e2⟩ := h3 pos cv hc
    refine ⟨c, e1, ?_⟩
    rw [upd_ne]
    · exact e2
    · intro e; subst e; rw [ha] at e2; cases e2; exact nc_code n
theorem Same.updN {H H1 : Hp} {a : Addr} {o u : HO} (s : Same H H1) (na : H a = none) (ha : H1 a = some u) (n : NC a u) : Same H (upd H1 a o) := ⟨fun b x hb nt => by
  rw [upd_ne (by intro e; subst e; rw [na] at hb; cases hb)]
  exact s.go b x hb nt, fun b hb => by
  by_cases e : b = a
  · subst e; exact na
  · rw [upd_ne e] at hb; exact s.fre b hb, fun P t => tabS_upd (s.tab P t) ha n⟩
def lamDef : He.Defn := ("matches_of", none)
def tabK (K : PySem.W.Frag) : Addr := (He.cT K lamDef).2
def lamB (K : PySem.W.Frag) : Bool := (K.lookup (tabK K)).isNone
def TbOk (K : PySem.W.Frag) (H : Hp) : Prop := lamB K = true → LamX.TabS H (tabK K) lamQ
theorem TbOk.mono {K : PySem.W.Frag} {H H' : Hp} (t : TbOk K H) (s : Same H H') : TbOk K H' := fun e => s.tab _ (t e)
theorem TbOk.upd {K : PySem.W.Frag} {H : Hp} {a : Addr} {o u : HO} (t : TbOk K H) (ha : H a = some u) (n : NC a u) : TbOk K (upd H a o) := fun e => tabS_upd (t e) ha n
def SqF (K : PySem.W.Frag) (H : Hp) (a : Addr) (xs : List V) : Prop :=
  (∃ o, H a = some (.frz o (.lst xs))) ∨ SqL K (fun _ => none) a xs
theorem SqF.sq {K : PySem.W.Frag} {H : Hp} {a : Addr} {xs : List V} (h : SqF K H a xs) : SqL K H a xs := by
  rcases h with h | (h | ⟨_, h⟩) | h
  · exact .inl (.inr h)
  · cases h
  · cases h
  · exact .inr h
def SqG (K : PySem.W.Frag) (H : Hp) (L : Ad) (a : Addr) (xs : List V) : Prop := SqF K H a xs ∨ (H a = some (.lst xs) ∧ ¬ L a)
theorem SqG.sq {K : PySem.W.Frag} {H : Hp} {L : Ad} {a : Addr} {xs : List V} (h : SqG K H L a xs) : SqL K H a xs := h.elim SqF.sq fun q => .inl (.inl q.1)
mutual
inductive Rp (K : PySem.W.Frag) (H : Hp) (L : Ad) : D → V → Prop
  | non : Rp K H L .none .non
  | bl (b : Bool) : Rp K H L (.bool b) (.bl b)
  | int (i : Int) : Rp K H L (.int i) (.int i)
  | str (x : Str) : Rp K H L (.str x) (.str x)
  | tup {a : Addr} {vs : List V} {ds : List D} : H a = some (.tup vs) → RpL K H L ds vs → Rp K H L (.tuple ds) (.ref a)
  | lst {a : Addr} {vs : List V} {ds : List D} : H a = some (.lst vs) → ¬ L a → RpL K H L ds vs → Rp K H L (.list ds) (.ref a)
  | rd {a : Addr} {ns : List Int} : SqG K H L a (ns.map V.int) → Rp K H L (rdL ns) (.ref a)
  | fz {a : Addr} {o : Obj} {vs : List V} {ds : List D} : H a = some (.frz o (.tup vs)) → o.dict = none → RpL K H L ds vs → Rp K H L (fzD ds) (.ref a)
  | fd {a : Addr} {o : Obj} {kvs : List (List Key × V)} {ps : List (D × D)} : H a = some (.frz o (.dT kvs)) → ps.map (·.1) = kvs.map (fun q => PyData.tuple (q.1.map keyD)) → RpL K H L (ps.map (·.2)) (kvs.map (·.2)) → Rp K H L (fdD ps) (.ref a)
  | ob {a dx : Addr} {c : Str} {fs : List (Str × D)} {vs : List (Str × V)} : H a = some (.ins (He.ga K c) dx vs) → ¬ L a → fs.map (·.1) = vs.map (·.1) → RpL K H L (fs.map (·.2)) (vs.map (·.2)) → Rp K H L (obD c fs) (.ref a)
  | dk {a : Addr} {kvs : List (Key × V)} {ps : List (D × D)} : H a = some (.dK kvs) → ¬ L a → ps.map (·.1) = kvs.map (fun q => keyD q.1) → RpL K H L (ps.map (·.2)) (kvs.map (·.2)) → Rp K H L (.dict ps) (.ref a)
  | dt {a : Addr} {kvs : List (List Key × V)} {ps : List (D × D)} : H a = some (.dT kvs) → ¬ L a → ps.map (·.1) = kvs.map (fun q => PyData.tuple (q.1.map keyD)) → RpL K H L (ps.map (·.2)) (kvs.map (·.2)) → Rp K H L (.dict ((PyData.none, PyData.none) :: ps)) (.ref a)
inductive RpL (K : PySem.W.Frag) (H : Hp) (L : Ad) : List D → List V → Prop
  | nil : RpL K H L [] []
  | cons {d : D} {v : V} {ds : List D} {vs : List V} : Rp K H L d v → RpL K H L ds vs → RpL K H L (d :: ds) (v :: vs)
end
section
variable {K : PySem.W.Frag} {H H' : Hp} {L L' : Ad}
theorem SqF.mono {a : Addr} {xs : List V} (s : Same H H') (h : SqF K H a xs) : SqF K H' a xs := by
  rcases h with ⟨o, h⟩ | h
  · exact .inl ⟨o, s _ _ h⟩
  · exact .inr h
theorem SqG.mono {a : Addr} {xs : List V} (s : Same H H') (h : SqG K H L a xs) : SqG K H' L a xs := h.imp (SqF.mono s) fun q => ⟨s _ _ q.1, q.2⟩
theorem SqG.lives (s : ∀ a, L' a → L a ∨ H a = none) {a : Addr} {xs : List V} (h : SqG K H L a xs) : SqG K H L' a xs := h.imp id fun q => ⟨q.1, fun z => (s _ z).elim q.2 fun e => by rw [e] at q; cases q.1⟩
mutual
theorem Rp.mono (s : Same H H') : ∀ {d : D} {v : V}, Rp K H L d v → Rp K H' L d v
  | _, _, .non => .non
  | _, _, .bl b => .bl b
  | _, _, .int i => .int i
  | _, _, .str x => .str x
  | _, _, .tup h r => .tup (s _ _ h) (RpL.mono s r)
  | _, _, .lst h n r => .lst (s _ _ h) n (RpL.mono s r)
  | _, _, .rd h => .rd (h.mono s)
  | _, _, .fz h e r => .fz (s _ _ h) e (RpL.mono s r)
  | _, _, .fd h e r => .fd (s _ _ h) e (RpL.mono s r)
  | _, _, .ob h n e r => .ob (s _ _ h) n e (RpL.mono s r)
  | _, _, .dk h n e r => .dk (s _ _ h) n e (RpL.mono s r)
  | _, _, .dt h n e r => .dt (s _ _ h) n e (RpL.mono s r)
theorem RpL.mono (s : Same H H') : ∀ {ds : List D} {vs : List V}, RpL K H L ds vs → RpL K H' L ds vs
  | _, _, .nil => .nil
  | _, _, .cons h r => .cons (Rp.mono s h) (RpL.mono s r)
end
mutual
theorem Rp.lives (s : ∀ a, L' a → L a ∨ H a = none) : ∀ {d : D} {v : V}, Rp K H L d v → Rp K H L' d v
  | _, _, .non => .non
  | _, _, .bl b => .bl b
  | _, _, .int i => .int i
  | _, _, .str x => .str x
  | _, _, .tup h r => .tup h (RpL.lives s r)
  | _, _, .lst h n r => .lst h (fun z => (s _ z).elim n fun q => by rw [q] at h; cases h) (RpL.lives s r)
  | _, _, .rd h => .rd (h.lives s)
  | _, _, .fz h e r => .fz h e (RpL.lives s r)
  | _, _, .fd h e r => .fd h e (RpL.lives s r)
  | _, _, .ob h n e r => .ob h (fun z => (s _ z).elim n fun q => by rw [q] at h; cases h) e (RpL.lives s r)
  | _, _, .dk h n e r => .dk h (fun z => (s _ z).elim n fun q => by rw [q] at h; cases h) e (RpL.lives s r)
  | _, _, .dt h n e r => .dt h (fun z => (s _ z).elim n fun q => by rw [q] at h; cases h) e (RpL.lives s r)
theorem RpL.lives (s : ∀ a, L' a → L a ∨ H a = none) : ∀ {ds : List D} {vs : List V}, RpL K H L ds vs → RpL K H L' ds vs
  | _, _, .nil => .nil
  | _, _, .cons h r => .cons (Rp.lives s h) (RpL.lives s r)
end
def Chg : HO → Prop
  | .lst _ => True
  | .dK _ => True
  | .dT _ => True
  | .ext _ => True
  | .ins _ _ _ => True
  | _ => False
theorem SqF.upd {a b : Addr} {o o' : HO} {xs : List V} (hb : H b = some o) (c : Chg o) (h : SqF K H a xs) : SqF K (upd H b o') a xs := by
  rcases h with ⟨q, h⟩ | h
  · refine .inl ⟨q, ?_⟩
    rw [upd_ne]
    · exact h
    · intro e; subst e; rw [hb] at h; cases h; exact c
  · exact .inr h
theorem SqG.upd {a b : Addr} {o o' : HO} {xs : List V} (hb : H b = some o) (c : Chg o) (hl : L b) (h : SqG K H L a xs) : SqG K (upd H b o') L a xs := h.imp (SqF.upd hb c) fun q => ⟨by
  have n : a ≠ b := fun e => q.2 (by rw [e]; exact hl)
  rw [upd_ne n]
  exact q.1, q.2⟩
mutual
theorem Rp.upd {b : Addr} {o o' : HO} (hb : H b = some o) (c : Chg o) (hl : L b) : ∀ {d : D} {v : V}, Rp K H L d v → Rp K (upd H b o') L d v
  | _, _, .non => .non
  | _, _, .bl b => .bl b
  | _, _, .int i => .int i
  | _, _, .str x => .str x
  | _, _, .tup h r => .tup (by rw [upd_ne (by intro e; subst e; rw [hb] at h; cases h; exact c)]; exact h) (RpL.upd hb c hl r)
  | _, _, .lst h n r => .lst (by rw [upd_ne (by intro e; subst e; exact n hl)]; exact h) n (RpL.upd hb c hl r)
  | _, _, .rd h => .rd (SqG.upd hb c hl h)
  | _, _, .fz h e r => .fz (by rw [upd_ne (by intro e; subst e; rw [hb] at h; cases h; exact c)]; exact h) e (RpL.upd hb c hl r)
  | _, _, .fd h e r => .fd (by rw [upd_ne (by intro e; subst e; rw [hb] at h; cases h; exact c)]; exact h) e (RpL.upd hb c hl r)
  | _, _, .ob h n e r => .ob (by rw [upd_ne (by intro e; subst e; exact n hl)]; exact h) n e (RpL.upd hb c hl r)
  | _, _, .dk h n e r => .dk (by rw [upd_ne (by intro e; subst e; exact n hl)]; exact h) n e (RpL.upd hb c hl r)
  | _, _, .dt h n e r => .dt (by rw [upd_ne (by intro e; subst e; exact n hl)]; exact h) n e (RpL.upd hb c hl r)
theorem RpL.upd {b : Addr} {o o' : HO} (hb : H b = some o) (c : Chg o) (hl : L b) : ∀ {ds : List D} {vs : List V}, RpL K H L ds vs → RpL K (upd H b o') L ds vs
  | _, _, .nil => .nil
  | _, _, .cons h r => .cons (Rp.upd hb c hl h) (RpL.upd hb c hl r)
end
theorem RpL.length : ∀ {ds : List D} {vs : List V}, RpL K H L ds vs → ds.length = vs.length
  | _, _, .nil => rfl
  | _, _, .cons _ r => by simp [RpL.length r]
theorem RpL.get : ∀ {ds : List D} {vs : List V} {i : Nat} {d : D}, RpL K H L ds vs → ds[i]? = some d → ∃ v, vs[i]? = some v ∧ Rp K H L d v
  | _, _, _, _, .nil, h => by simp at h
  | _, _, 0, _, .cons r _, h => by simp at h; subst h; exact ⟨_, rfl, r⟩
  | _, _, i + 1, d, .cons _ r, h => by
    obtain ⟨v, e, q⟩ := RpL.get (i := i) (d := d) r (by simpa using h)
    exact ⟨v, by simpa using e, q⟩
theorem RpL.getV : ∀ {ds : List D} {vs : List V} {i : Nat} {v : V}, RpL K H L ds vs → vs[i]? = some v → ∃ d, ds[i]? = some d ∧ Rp K H L d v
  | _, _, _, _, .nil, h => by simp at h
  | _, _, 0, _, .cons r _, h => by simp at h; subst h; exact ⟨_, rfl, r⟩
  | _, _, i + 1, v, .cons _ r, h => by
    obtain ⟨d, e, q⟩ := RpL.getV (i := i) (v := v) r (by simpa using h)
    exact ⟨d, by simpa using e, q⟩
theorem RpL.append : ∀ {ds es : List D} {vs us : List V}, RpL K H L ds vs → RpL K H L es us → RpL K H L (ds ++ es) (vs ++ us)
  | _, _, _, _, .nil, s => s
  | _, _, _, _, .cons r t, s => .cons r (RpL.append t s)
theorem RpL.take (n : Nat) : ∀ {ds : List D} {vs : List V}, RpL K H L ds vs → RpL K H L (ds.take n) (vs.take n) := by
  induction n with
  | zero => intro ds vs _; simp; exact .nil
  | succ n ih =>
    intro ds vs h
    cases h with
    | nil => exact .nil
    | cons r t => exact .cons r (ih t)
theorem RpL.drop (n : Nat) : ∀ {ds : List D} {vs : List V}, RpL K H L ds vs → RpL K H L (ds.drop n) (vs.drop n) := by
  induction n with
  | zero => intro ds vs h; exact h
  | succ n ih =>
    intro ds vs h
    cases h with
    | nil => exact .nil
    | cons r t => exact ih t
theorem RpL.set {d : D} {v : V} (r : Rp K H L d v) (i : Nat) : ∀ {ds : List D} {vs : List V}, RpL K H L ds vs → RpL K H L (ds.set i d) (vs.set i v) := by
  induction i with
  | zero =>
    intro ds vs h
    cases h with
    | nil => exact .nil
    | cons q t => exact .cons r t
  | succ n ih =>
    intro ds vs h
    cases h with
    | nil => exact .nil
    | cons q t => exact .cons q (ih t)
theorem RpL.rep {ds : List D} {vs : List V} (h : RpL K H L ds vs) : ∀ n : Nat, RpL K H L (List.replicate n ds).flatten (List.replicate n vs).flatten
  | 0 => by simp; exact .nil
  | n + 1 => by
    simpa only [List.replicate_succ, List.flatten_cons] using h.append (RpL.rep h n)
theorem RpL.ints : ∀ {ns : List Int} {vs : List V}, RpL K H L (ns.map PyData.int) vs → vs = ns.map V.int
  | [], _, h => by cases h; rfl
  | n :: ns, _, h => by
    cases h with
    | cons r t =>
      cases r
      rw [RpL.ints t]
      rfl
theorem RpL.ofInts (ns : List Int) : RpL K H L (ns.map PyData.int) (ns.map V.int) := by
  induction ns with
  | nil => exact .nil
  | cons n ns ih => exact .cons (.int n) ih
theorem Rp.intV {i : Int} {v : V} (h : Rp K H L (.int i) v) : v = .int i := by cases h; rfl
theorem Rp.blV {b : Bool} {v : V} (h : Rp K H L (.bool b) v) : v = .bl b := by cases h; rfl
theorem Rp.strV {x : Str} {v : V} (h : Rp K H L (.str x) v) : v = .str x := by cases h; rfl
theorem Rp.nonV {v : V} (h : Rp K H L .none v) : v = .non := by cases h; rfl
theorem Rp.tupV {ds : List D} {v : V} (h : Rp K H L (.tuple ds) v) : ∃ a vs, v = .ref a ∧ H a = some (.tup vs) ∧ RpL K H L ds vs := by
  cases h with
  | tup h r => exact ⟨_, _, rfl, h, r⟩
theorem Rp.non_iff {d : D} {v : V} (h : Rp K H L d v) : v = .non ↔ d = .none := by
  cases h <;> simp [rdL, fzD, fdD, obD]
end
inductive Ow (K : PySem.W.Frag) (H : Hp) (L : Ad) : D → Addr → Prop
  | lst {a : Addr} {vs : List V} {ds : List D} : H a = some (.lst vs) → RpL K H L ds vs → Ow K H L (.list ds) a
  | dk {a : Addr} {kvs : List (Key × V)} {ps : List (D × D)} : H a = some (.dK kvs) → ps.map (·.1) = kvs.map (fun q => keyD q.1) → RpL K H L (ps.map (·.2)) (kvs.map (·.2)) → Ow K H L (.dict ps) a
  | dt {a : Addr} {kvs : List (List Key × V)} {ps : List (D × D)} : H a = some (.dT kvs) → ps.map (·.1) = kvs.map (fun q => PyData.tuple (q.1.map keyD)) → RpL K H L (ps.map (·.2)) (kvs.map (·.2)) → Ow K H L (.dict ((PyData.none, PyData.none) :: ps)) a
  | ob {a dx : Addr} {c : Str} {fs : List (Str × D)} {vs : List (Str × V)} : H a = some (.ins (He.ga K c) dx vs) → fs.map (·.1) = vs.map (·.1) → RpL K H L (fs.map (·.2)) (vs.map (·.2)) → Ow K H L (obD c fs) a
def Rb (K : PySem.W.Frag) (H : Hp) (L : Ad) (d : D) (v : V) : Prop := Rp K H L d v ∨ ∃ a, v = .ref a ∧ Ow K H L d a
section
variable {K : PySem.W.Frag} {H H' : Hp} {L L' : Ad} {d : D} {v : V}
theorem Rp.rb (h : Rp K H L d v) : Rb K H L d v := .inl h
theorem Ow.mono {a : Addr} (s : Same H H') (h : Ow K H L d a) : Ow K H' L d a := by
  cases h with
  | lst h r => exact .lst (s _ _ h) (r.mono s)
  | dk h e r => exact .dk (s _ _ h) e (r.mono s)
  | dt h e r => exact .dt (s _ _ h) e (r.mono s)
  | ob h e r => exact .ob (s _ _ h) e (r.mono s)
theorem Ow.lives {a : Addr} (s : ∀ a, L' a → L a ∨ H a = none) (h : Ow K H L d a) : Ow K H L' d a := by
  cases h with
  | lst h r => exact .lst h (r.lives s)
  | dk h e r => exact .dk h e (r.lives s)
  | dt h e r => exact .dt h e (r.lives s)
  | ob h e r => exact .ob h e (r.lives s)
theorem Ow.upd {a b : Addr} {o o' : HO} (hb : H b = some o) (c : Chg o) (hl : L b) (ne : a ≠ b) (h : Ow K H L d a) : Ow K (L2.upd H b o') L d a := by
  cases h with
  | lst h r => exact .lst (by rw [upd_ne ne]; exact h) (r.upd hb c hl)
  | dk h e r => exact .dk (by rw [upd_ne ne]; exact h) e (r.upd hb c hl)
  | dt h e r => exact .dt (by rw [upd_ne ne]; exact h) e (r.upd hb c hl)
  | ob h e r => exact .ob (by rw [upd_ne ne]; exact h) e (r.upd hb c hl)
theorem Ow.rp {a : Addr} (h : Ow K H L d a) (n : ¬ L a) : Rp K H L d (.ref a) := by
  cases h with
  | lst h r => exact .lst h n r
  | dk h e r => exact .dk h n e r
  | dt h e r => exact .dt h n e r
  | ob h e r => exact .ob h n e r
theorem Ow.chg {a : Addr} (h : Ow K H L d a) : ∃ o, H a = some o ∧ Chg o := by
  cases h with
  | lst h r => exact ⟨_, h, trivial⟩
  | dk h e r => exact ⟨_, h, trivial⟩
  | dt h e r => exact ⟨_, h, trivial⟩
  | ob h e r => exact ⟨_, h, trivial⟩
theorem Ow.nc {a : Addr} (h : Ow K H L d a) : ∃ o, H a = some o ∧ NC a o := by
  cases h with
  | lst h r => exact ⟨_, h, trivial⟩
  | dk h e r => exact ⟨_, h, trivial⟩
  | dt h e r => exact ⟨_, h, trivial⟩
  | ob h e r => exact ⟨_, h, trivial⟩
theorem Rb.mono (s : Same H H') (h : Rb K H L d v) : Rb K H' L d v := by
  rcases h with h | ⟨a, e, h⟩
  · exact .inl (h.mono s)
  · exact .inr ⟨a, e, h.mono s⟩
theorem Rb.lstV {ds : List D} (h : Rb K H L (.list ds) v) : ∃ a vs, v = .ref a ∧ H a = some (.lst vs) ∧ RpL K H L ds vs := by
  rcases h with h | ⟨a, e, h⟩
  · cases h with
    | lst h n r => exact ⟨_, _, rfl, h, r⟩
  · cases h with
    | lst h r => exact ⟨a, _, e, h, r⟩
theorem Rb.tupV {ds : List D} (h : Rb K H L (.tuple ds) v) : ∃ a vs, v = .ref a ∧ H a = some (.tup vs) ∧ RpL K H L ds vs := by
  rcases h with h | ⟨a, e, h⟩
  · exact h.tupV
  · cases h
theorem Rb.intV {i : Int} (h : Rb K H L (.int i) v) : v = .int i := by
  rcases h with h | ⟨a, e, h⟩
  · exact h.intV
  · cases h
theorem Rb.blV {b : Bool} (h : Rb K H L (.bool b) v) : v = .bl b := by
  rcases h with h | ⟨a, e, h⟩
  · exact h.blV
  · cases h
theorem Rb.strV {x : Str} (h : Rb K H L (.str x) v) : v = .str x := by
  rcases h with h | ⟨a, e, h⟩
  · exact h.strV
  · cases h
theorem Rb.nonV (h : Rb K H L .none v) : v = .non := by
  rcases h with h | ⟨a, e, h⟩
  · exact h.nonV
  · cases h
theorem Rb.non_iff (h : Rb K H L d v) : v = .non ↔ d = .none := by
  rcases h with h | ⟨a, e, h⟩
  · exact h.non_iff
  · subst e
    cases h <;> simp [obD]
end
end VV
namespace VV
open PySem PySem.Spec L2
open PyProof.Rows hiding St
inductive Rs where
  | ok (d : D)
  | exc (c : Str) (fs : List (Str × D))
  | bad
def Rs.bind (r : Rs) (k : D → Rs) : Rs := match r with
  | .ok d => k d
  | .exc c fs => .exc c fs
  | .bad => .bad
def Rs.of : Option D → Rs
  | some d => .ok d
  | none => .bad
@[simp] theorem Rs.bind_ok (d : D) (k : D → Rs) : (Rs.ok d).bind k = k d := rfl
@[simp] theorem Rs.bind_exc (c : Str) (fs : List (Str × D)) (k : D → Rs) : (Rs.exc c fs).bind k = .exc c fs := rfl
@[simp] theorem Rs.bind_bad (k : D → Rs) : Rs.bad.bind k = .bad := rfl
@[simp] theorem Rs.of_some (d : D) : Rs.of (some d) = .ok d := rfl
@[simp] theorem Rs.of_none : Rs.of none = .bad := rfl
abbrev Kn := Option (Addr × Option (List Addr))
structure GrX where
  dat : D
  R : PySem.W.Frag → Hp → Ad → Addr → List Addr → Prop
  evo : ∀ {K : PySem.W.Frag} {H H' : Hp} {L L' : Ad} {b : Addr} {cs : List Addr}, (∀ c, c = b ∨ c ∈ cs → ∀ o, H c = some o → NT o → H' c = some o) → (∀ x y, Rp K H L x y → Rp K H' L' x y) → R K H L b cs → R K H' L' b cs
  there : ∀ {K : PySem.W.Frag} {H : Hp} {L : Ad} {a : Addr} {bs : List Addr}, R K H L a bs → H a ≠ none ∧ ∀ b ∈ bs, H b ≠ none
  same : ∀ {K : PySem.W.Frag} {H H' : Hp} {L L' : Ad} {a : Addr} {bs bs' : List Addr}, R K H L a bs → R K H' L' a bs' → Same H H' → bs' = bs
inductive Gr where
  | rows (rs : List (List D))
  | stu (o : Kn) (d : D)
  | gx (x : GrX)
inductive Sl where
  | val (d : D)
  | own (d : D)
  | grid (g : Gr)
  | pin (a : Addr)
  | ownP (d : D)
abbrev En := List (Option Sl)
abbrev EF := En → Rs
inductive Out where
  | nx (ρ : En)
  | rt (d : D)
  | rn (d : D)
  | rm (d : D) (ρ : En)
  | rq (i : Nat) (ρ : En)
  | bk (ρ : En)
  | ct (ρ : En)
  | exc (c : Str) (fs : List (Str × D)) (ρ : En)
  | bad
abbrev SF := En → Out
structure LvOk (K : PySem.W.Frag) (H : Hp) (L : Ad) : Prop where
  go : ∀ a, L a → H a ≠ none
  tb : TbOk K H
instance {K : PySem.W.Frag} {H : Hp} {L : Ad} : CoeFun (LvOk K H L) fun _ => ∀ a, L a → H a ≠ none := ⟨fun s => s.go⟩
theorem LvOk.mono {K : PySem.W.Frag} {H H' : Hp} {L : Ad} (h : LvOk K H L) (s : Same H H') : LvOk K H' L := ⟨fun a z e => h a z (s.free e), h.tb.mono s⟩
structure Ogr (K : PySem.W.Frag) (H : Hp) (L : Ad) (rows : List (List D)) (a : Addr) (bs : List Addr) : Prop where
  top : H a = some (.lst (bs.map V.ref))
  len : rows.length = bs.length
  row : ∀ (k : Nat) (r : List D) (b : Addr), rows[k]? = some r → bs[k]? = some b → ∃ us, H b = some (.lst us) ∧ RpL K H L r us
def inD (ds : List D) : D := .dict [(.none, .bool true), (.none, .list ds)]
theorem no_inD {K : PySem.W.Frag} {H : Hp} {L : Ad} {ds : List D} {v : V} (h : Rp K H L (inD ds) v) : False := by
  unfold inD at h
  generalize e : PyData.dict [(PyData.none, PyData.bool true), (PyData.none, PyData.list ds)] = d at h
  cases h with
  | dk h n q r =>
    cases e
    rename_i kvs
    cases kvs with
    | nil => cases q
    | cons kv kvs =>
      simp only [List.map_cons, List.cons.injEq] at q
      obtain ⟨k, _⟩ := kv
      cases k <;> cases q.1
  | _ => simp [rdL, fzD, fdD, obD] at e
inductive Fl (K : PySem.W.Frag) (H : Hp) (L : Ad) : List D → List V → List Addr → Prop
  | nil : Fl K H L [] [] []
  | val {d : D} {v : V} {ds : List D} {vs : List V} {bs : List Addr} : Rp K H L d v → Fl K H L ds vs bs → Fl K H L (d :: ds) (v :: vs) bs
  | inn {l : List D} {us : List V} {b : Addr} {ds : List D} {vs : List V} {bs : List Addr} : H b = some (.lst us) → RpL K H L l us → Fl K H L ds vs bs → Fl K H L (inD l :: ds) (.ref b :: vs) (b :: bs)
structure Os (K : PySem.W.Frag) (H : Hp) (L : Ad) (o : Kn) (d : D) (a : Addr) (bs : List Addr) : Prop where
  at_ : ∀ a0 q, o = some (a0, q) → a = a0 ∧ ∀ cs, q = some cs → bs = cs
  ex : ∃ (C : Str) (fs : List (Str × D)) (dx : Addr) (vs : List (Str × V)), d = obD C fs ∧ H a = some (.ins (He.ga K C) dx vs) ∧ fs.map (·.1) = vs.map (·.1) ∧ Fl K H L (fs.map (·.2)) (vs.map (·.2)) bs
def Og (K : PySem.W.Frag) (H : Hp) (L : Ad) : Gr → Addr → List Addr → Prop
  | .rows rs => Ogr K H L rs
  | .stu o d => Os K H L o d
  | .gx x => x.R K H L
theorem obD_inj {c c' : Str} {fs fs' : List (Str × D)} (h : obD c fs = obD c' fs') : c = c' ∧ fs = fs' := by
  unfold obD at h
  simp only [PyData.dict.injEq, List.cons.injEq, Prod.mk.injEq, PyData.str.injEq, true_and] at h
  refine ⟨h.1, ?_⟩
  have aux : ∀ xs ys : List (Str × D), xs.map (fun p => (PyData.str p.1, p.2)) = ys.map (fun p => (PyData.str p.1, p.2)) → xs = ys := by
    intro xs
    induction xs with
    | nil => intro ys h; cases ys with
      | nil => rfl
      | cons _ _ => cases h
    | cons x xs ih => intro ys h; cases ys with
      | nil => cases h
      | cons y ys =>
        simp only [List.map_cons, List.cons.injEq, Prod.mk.injEq, PyData.str.injEq] at h
        rw [ih ys h.2, Prod.ext h.1.1 h.1.2]
  exact aux _ _ h.2
section
variable {K : PySem.W.Frag} {H H' : Hp} {L L' : Ad} {rows : List (List D)} {g : Gr} {o : Kn} {d : D} {a : Addr} {bs : List Addr} {ds : List D} {vs : List V}
theorem Ogr.mono (s : Same H H') (h : Ogr K H L rows a bs) : Ogr K H' L rows a bs := ⟨s _ _ h.top, h.len, fun k r b e1 e2 => let ⟨us, q, rl⟩ := h.row k r b e1 e2; ⟨us, s _ _ q, rl.mono s⟩⟩
theorem Ogr.lives (s : ∀ a, L' a → L a ∨ H a = none) (h : Ogr K H L rows a bs) : Ogr K H L' rows a bs := ⟨h.top, h.len, fun k r b e1 e2 => let ⟨us, q, rl⟩ := h.row k r b e1 e2; ⟨us, q, rl.lives s⟩⟩
theorem Ogr.upd {c : Addr} {o o' : HO} (hc : H c = some o) (ch : Chg o) (hl : L c) (na : a ≠ c) (nb : ∀ b ∈ bs, b ≠ c) (h : Ogr K H L rows a bs) : Ogr K (L2.upd H c o') L rows a bs :=
  ⟨by rw [upd_ne na]; exact h.top, h.len, fun k r b e1 e2 => let ⟨us, q, rl⟩ := h.row k r b e1 e2; ⟨us, by rw [upd_ne (nb b (List.mem_of_getElem? e2))]; exact q, rl.upd hc ch hl⟩⟩
theorem Ogr.there (h : Ogr K H L rows a bs) : H a ≠ none ∧ ∀ b ∈ bs, H b ≠ none := by
  refine ⟨by rw [h.top]; simp, fun b hb => ?_⟩
  obtain ⟨k, hk⟩ := List.mem_iff_getElem?.mp hb
  have lt : k < rows.length := by rw [h.len]; exact (List.getElem?_eq_some_iff.mp hk).1
  obtain ⟨us, q, _⟩ := h.row k rows[k] b (List.getElem?_eq_getElem lt) hk
  rw [q]
  simp
theorem Ogr.same {bs' : List Addr} {rows' : List (List D)} (h : Ogr K H L rows a bs) (h' : Ogr K H' L' rows' a bs') (s : Same H H') : bs' = bs := by
  have e := (s _ _ h.top).symm.trans h'.top
  have e2 : bs.map V.ref = bs'.map V.ref := by injection (Option.some.inj e)
  have aux : ∀ xs ys : List Addr, xs.map V.ref = ys.map V.ref → ys = xs := by
    intro xs
    induction xs with
    | nil => intro ys h; cases ys with
      | nil => rfl
      | cons _ _ => cases h
    | cons x xs ih => intro ys h; cases ys with
      | nil => cases h
      | cons y ys =>
        simp only [List.map_cons, List.cons.injEq] at h
        rw [ih ys h.2]
        injection h.1 with h1
        rw [h1]
  exact aux _ _ e2
theorem Fl.mono (s : Same H H') (h : Fl K H L ds vs bs) : Fl K H' L ds vs bs := by
  induction h with
  | nil => exact .nil
  | val r _ ih => exact .val (r.mono s) ih
  | inn h r _ ih => exact .inn (s _ _ h) (r.mono s) ih
theorem Fl.lives (s : ∀ a, L' a → L a ∨ H a = none) (h : Fl K H L ds vs bs) : Fl K H L' ds vs bs := by
  induction h with
  | nil => exact .nil
  | val r _ ih => exact .val (r.lives s) ih
  | inn h r _ ih => exact .inn h (r.lives s) ih
theorem Fl.upd {c : Addr} {o o' : HO} (hc : H c = some o) (ch : Chg o) (hl : L c) (h : Fl K H L ds vs bs) : (∀ b ∈ bs, b ≠ c) → Fl K (L2.upd H c o') L ds vs bs := by
  induction h with
  | nil => exact fun _ => .nil
  | val r _ ih => exact fun n => .val (r.upd hc ch hl) (ih n)
  | inn h r _ ih => exact fun n => .inn (by rw [upd_ne (n _ (by simp))]; exact h) (r.upd hc ch hl) (ih fun b hb => n b (by simp [hb]))
theorem Fl.there (h : Fl K H L ds vs bs) : ∀ b ∈ bs, H b ≠ none := by
  induction h with
  | nil => exact fun b hb => by cases hb
  | val _ _ ih => exact ih
  | inn h _ _ ih => exact fun b hb => (List.mem_cons.mp hb).elim (fun e => by rw [e, h]; simp) (ih b)
theorem Fl.same {bs' : List Addr} (h : Fl K H L ds vs bs) : Fl K H' L' ds vs bs' → bs' = bs := by
  induction h generalizing bs' with
  | nil => intro h'; cases h'; rfl
  | val r _ ih =>
    intro h'
    generalize e : _ :: _ = ds2 at h'
    cases h' with
    | val _ r2 => cases e; exact ih r2
    | inn _ _ _ => cases e; exact (no_inD r).elim
  | inn h r _ ih =>
    intro h'
    generalize e : inD _ :: _ = ds2 at h'
    cases h' with
    | val r2 _ => cases e; exact (no_inD r2).elim
    | inn _ _ r2 =>
      simp only [List.cons.injEq] at e
      obtain ⟨_, e⟩ := e
      subst e
      rw [ih r2]
theorem Os.mono (s : Same H H') (h : Os K H L o d a bs) : Os K H' L o d a bs := ⟨h.at_, let ⟨C, fs, dx, vs, e, h1, h2, h3⟩ := h.ex; ⟨C, fs, dx, vs, e, s _ _ h1, h2, h3.mono s⟩⟩
theorem Os.lives (s : ∀ a, L' a → L a ∨ H a = none) (h : Os K H L o d a bs) : Os K H L' o d a bs := ⟨h.at_, let ⟨C, fs, dx, vs, e, h1, h2, h3⟩ := h.ex; ⟨C, fs, dx, vs, e, h1, h2, h3.lives s⟩⟩
theorem Os.upd {c : Addr} {u u' : HO} (hc : H c = some u) (ch : Chg u) (hl : L c) (na : a ≠ c) (nb : ∀ b ∈ bs, b ≠ c) (h : Os K H L o d a bs) : Os K (L2.upd H c u') L o d a bs := ⟨h.at_, let ⟨C, fs, dx, vs, e, h1, h2, h3⟩ := h.ex; ⟨C, fs, dx, vs, e, by rw [upd_ne na]; exact h1, h2, h3.upd hc ch hl nb⟩⟩
theorem Os.there (h : Os K H L o d a bs) : H a ≠ none ∧ ∀ b ∈ bs, H b ≠ none := let ⟨_, _, _, _, _, h1, _, h3⟩ := h.ex; ⟨by rw [h1]; simp, h3.there⟩
theorem Os.same {bs' : List Addr} (h : Os K H L o d a bs) (h' : Os K H' L' o d a bs') (s : Same H H') : bs' = bs := by
  obtain ⟨C, fs, dx, vs, e, h1, h2, h3⟩ := h.ex
  obtain ⟨C', fs', dx', vs', e', h1', h2', h3'⟩ := h'.ex
  obtain ⟨rfl, rfl⟩ := obD_inj (e.symm.trans e')
  have q := (s _ _ h1).symm.trans h1'
  cases q
  exact h3.same h3'
theorem Og.mono (s : Same H H') (h : Og K H L g a bs) : Og K H' L g a bs := by
  cases g with
  | rows rs => exact Ogr.mono s h
  | stu o d => exact Os.mono s h
  | gx x => exact x.evo (fun c _ o q nt => s.go c o q nt) (fun _ _ r => r.mono s) h
theorem Og.lives (s : ∀ a, L' a → L a ∨ H a = none) (h : Og K H L g a bs) : Og K H L' g a bs := by
  cases g with
  | rows rs => exact Ogr.lives s h
  | stu o d => exact Os.lives s h
  | gx x => exact x.evo (fun c _ o q _ => q) (fun _ _ r => r.lives s) h
theorem Og.upd {c : Addr} {u u' : HO} (hc : H c = some u) (ch : Chg u) (hl : L c) (na : a ≠ c) (nb : ∀ b ∈ bs, b ≠ c) (h : Og K H L g a bs) : Og K (L2.upd H c u') L g a bs := by
  cases g with
  | rows rs => exact Ogr.upd hc ch hl na nb h
  | stu o d => exact Os.upd hc ch hl na nb h
  | gx x => exact x.evo (fun z hz o q _ => by rw [upd_ne (hz.elim (fun e => e ▸ na) (nb z))]; exact q) (fun _ _ r => r.upd hc ch hl) h
theorem Og.there (h : Og K H L g a bs) : H a ≠ none ∧ ∀ b ∈ bs, H b ≠ none := by
  cases g with
  | rows rs => exact Ogr.there h
  | stu o d => exact Os.there h
  | gx x => exact x.there h
theorem Og.same {bs' : List Addr} (h : Og K H L g a bs) (h' : Og K H' L' g a bs') (s : Same H H') : bs' = bs := by
  cases g with
  | rows rs => exact Ogr.same h h' s
  | stu o d => exact Os.same h h' s
  | gx x => exact x.same h h' s
end
def SlR (K : PySem.W.Frag) (H : Hp) (L : Ad) : Sl → Option V → Prop
  | .val d, o => ∃ v, o = some v ∧ Rp K H L d v
  | .own d, o => ∃ a, o = some (.ref a) ∧ Ow K H L d a
  | .grid rows, o => ∃ a bs, o = some (.ref a) ∧ Og K H L rows a bs
  | .pin a, o => o = some (.ref a)
  | .ownP d, o => ∃ a, o = some (.ref a) ∧ Ow K H L d a
structure RE (K : PySem.W.Frag) (H : Hp) (L : Ad) (ρ : En) (σ : St) : Prop where
  lv : LvOk K H L
  len : ρ.length = σ.length
  sl : ∀ (i : Nat) (x : Sl), ρ[i]? = some (some x) → ∃ o, σ[i]? = some o ∧ SlR K H L x o
theorem SlR.mono {K : PySem.W.Frag} {H H' : Hp} {L : Ad} {x : Sl} {o : Option V} (s : Same H H') (h : SlR K H L x o) : SlR K H' L x o := by
  cases x with
  | val d => obtain ⟨v, e, r⟩ := h; exact ⟨v, e, r.mono s⟩
  | own d => obtain ⟨a, e, r⟩ := h; exact ⟨a, e, r.mono s⟩
  | grid rows => obtain ⟨a, bs, e, r⟩ := h; exact ⟨a, bs, e, r.mono s⟩
  | pin a => exact h
  | ownP d => obtain ⟨a, e, r⟩ := h; exact ⟨a, e, r.mono s⟩
theorem RE.mono {K : PySem.W.Frag} {H H' : Hp} {L : Ad} {ρ : En} {σ : St} (h : RE K H L ρ σ) (s : Same H H') : RE K H' L ρ σ :=
  ⟨h.lv.mono s, h.len, fun i x e => let ⟨o, e1, r⟩ := h.sl i x e; ⟨o, e1, r.mono s⟩⟩
def XR (K : PySem.W.Frag) (H : Hp) (L : Ad) (fs : List (Str × D)) (x : Option Addr) : Prop :=
  (fs = [] ∧ x = none) ∨ ∃ (dd : Addr) (gs : List (Str × V)), fs ≠ [] ∧ x = some dd ∧ H dd = some (.xd gs) ∧ gs.map (·.1) = fs.map (·.1) ∧ RpL K H L (fs.map (·.2)) (gs.map (·.2))
def Post (K : PySem.W.Frag) (W : WX) (L : Ad) (σ : St) (H : Hp) (r : Rs) (Q : VK) : Prop := match r with
  | .ok d => ∀ (H' : Hp) (v : V), Same H H' → Rp K H' L d v → Q v H'
  | .exc c fs => ∀ (H' : Hp) (x : Option Addr), Same H H' → XR K H' L fs x → W (.ref (He.ga K c)) x σ H'
  | .bad => False
def PostB (K : PySem.W.Frag) (W : WX) (L : Ad) (σ : St) (H : Hp) (r : Rs) (Q : VK) : Prop := match r with
  | .ok d => ∀ (H' : Hp) (v : V), Same H H' → Rb K H' L d v → Q v H'
  | .exc c fs => ∀ (H' : Hp) (x : Option Addr), Same H H' → XR K H' L fs x → W (.ref (He.ga K c)) x σ H'
  | .bad => False
def Lp (L : Ad) (a : Addr) : Ad := fun z => L z ∨ z = a
def PostN (K : PySem.W.Frag) (W : WX) (L : Ad) (σ : St) (H : Hp) (r : Rs) (Q : VK) : Prop := match r with
  | .ok d => ∀ (H' : Hp) (a : Addr), Same H H' → H a = none → Ow K H' (Lp L a) d a → Q (.ref a) H'
  | .exc c fs => ∀ (H' : Hp) (x : Option Addr), Same H H' → XR K H' L fs x → W (.ref (He.ga K c)) x σ H'
  | .bad => False
def PostT (K : PySem.W.Frag) (W : WX) (L : Ad) (σ : St) (H : Hp) (r : Rs) (Q : Bool → Hp → Prop) : Prop := match r with
  | .ok (.bool b) => ∀ (H' : Hp), Same H H' → Q b H'
  | .exc c fs => ∀ (H' : Hp) (x : Option Addr), Same H H' → XR K H' L fs x → W (.ref (He.ga K c)) x σ H'
  | _ => False
section
variable {K : PySem.W.Frag} {W : WX} {L : Ad} {σ : St} {H H1 : Hp} {r : Rs} {Q R : VK}
theorem Post.mono (h : Post K W L σ H r Q) (s : Same H H1) : Post K W L σ H1 r Q := by
  cases r with
  | ok d => exact fun H' v s' => h H' v (s.trans s')
  | exc c fs => exact fun H' x s' => h H' x (s.trans s')
  | bad => exact h
theorem PostB.mono (h : PostB K W L σ H r Q) (s : Same H H1) : PostB K W L σ H1 r Q := by
  cases r with
  | ok d => exact fun H' v s' => h H' v (s.trans s')
  | exc c fs => exact fun H' x s' => h H' x (s.trans s')
  | bad => exact h
theorem PostT.mono {QT : Bool → Hp → Prop} (h : PostT K W L σ H r QT) (s : Same H H1) : PostT K W L σ H1 r QT := by
  cases r with
  | ok d =>
    cases d with
    | bool b => exact fun H' s' => h H' (s.trans s')
    | _ => exact h
  | exc c fs => exact fun H' x s' => h H' x (s.trans s')
  | bad => exact h
theorem Post.step {k : D → Rs} (h : Post K W L σ H (r.bind k) Q) (hk : ∀ d H1 v, Same H H1 → Rb K H1 L d v → Post K W L σ H1 (k d) Q → R v H1) : PostB K W L σ H r R := by
  cases r with
  | ok d => exact fun H' v s' rv => hk d H' v s' rv (Post.mono h s')
  | exc c fs => exact h
  | bad => exact h
theorem Post.stepE {k : D → Rs} (h : Post K W L σ H (r.bind k) Q) (hk : ∀ d H1 v, Same H H1 → Rp K H1 L d v → Post K W L σ H1 (k d) Q → R v H1) : Post K W L σ H r R := by
  cases r with
  | ok d => exact fun H' v s' rv => hk d H' v s' rv (Post.mono h s')
  | exc c fs => exact h
  | bad => exact h
theorem PostT.step {k : D → Rs} {QT : Bool → Hp → Prop} (h : PostT K W L σ H (r.bind k) QT) (hk : ∀ d H1 v, Same H H1 → Rb K H1 L d v → PostT K W L σ H1 (k d) QT → R v H1) : PostB K W L σ H r R := by
  cases r with
  | ok d => exact fun H' v s' rv => hk d H' v s' rv (PostT.mono h s')
  | exc c fs => exact h
  | bad => exact h
theorem PostT.stepT {k : D → Rs} {QT RT : Bool → Hp → Prop} (h : PostT K W L σ H (r.bind k) QT) (hb : ∀ d, (∀ b, d ≠ .bool b) → k d = .bad) (hk : ∀ b H1, Same H H1 → PostT K W L σ H1 (k (.bool b)) QT → RT b H1) : PostT K W L σ H r RT := by
  have key : ∀ d : D, (∀ b, d ≠ .bool b) → PostT K W L σ H ((Rs.ok d).bind k) QT → False := fun d hd h => by
    simp only [Rs.bind_ok] at h
    rw [hb d hd] at h
    exact h
  cases r with
  | ok d =>
    cases d with
    | bool b => exact fun H' s' => hk b H' s' (PostT.mono h s')
    | _ => exact (key _ (by intro b z; cases z) h).elim
  | exc c fs => exact h
  | bad => exact h
end
def tE (K : PySem.W.Frag) (W : WX) (f : EF) : TE := fun σ H Q => ∃ L ρ, RE K H L ρ σ ∧ Post K W L σ H (f ρ) Q
def tB (K : PySem.W.Frag) (W : WX) (f : EF) : TE := fun σ H Q => ∃ L ρ, RE K H L ρ σ ∧ PostB K W L σ H (f ρ) Q
def tN (K : PySem.W.Frag) (W : WX) (f : EF) : TE := fun σ H Q => ∃ L ρ, RE K H L ρ σ ∧ PostN K W L σ H (f ρ) Q
def tT (K : PySem.W.Frag) (W : WX) (f : EF) : TT := fun σ H Q => ∃ L ρ, RE K H L ρ σ ∧ PostT K W L σ H (f ρ) Q
abbrev SE (X : Cx) (W : WX) (e : Expr) (f : EF) : Prop := PE X e (tE X.K W f)
abbrev SB (X : Cx) (W : WX) (e : Expr) (f : EF) : Prop := PE X e (tB X.K W f)
abbrev SN (X : Cx) (W : WX) (e : Expr) (f : EF) : Prop := PE X e (tN X.K W f)
abbrev ST (X : Cx) (W : WX) (e : Expr) (f : EF) : Prop := PT X e (tT X.K W f)
section
variable {X : Cx} {W : WX} {e : Expr} {f : EF}
theorem _root_.L2.PE.weak {t t' : TE} (h : PE X e t) (hw : ∀ σ H Q, t' σ H Q → t σ H Q) : PE X e t' := ⟨fun pins s σ H Q I q => h.run pins s σ H Q I (hw σ H Q q)⟩
theorem _root_.L2.PT.weak {t t' : TT} (h : PT X e t) (hw : ∀ σ H Q, t' σ H Q → t σ H Q) : PT X e t' := ⟨fun pins s σ H Q I q => h.run pins s σ H Q I (hw σ H Q q)⟩
theorem seb (h : SE X W e f) : SB X W e f := L2.PE.weak h fun σ H Q ⟨L, ρ, re, p⟩ => ⟨L, ρ, re, by
  cases hf : f ρ with
  | ok d => rw [hf] at p; exact fun H' v s r => p H' v s r.rb
  | exc c fs => rw [hf] at p; exact p
  | bad => rw [hf] at p; exact p⟩
theorem sne (h : SN X W e f) : SE X W e f := L2.PE.weak h fun σ H Q ⟨L, ρ, re, p⟩ => ⟨L, ρ, re, by
  cases hf : f ρ with
  | ok d => rw [hf] at p; exact fun H' a s n r => p H' (.ref a) s ((r.lives fun z q => .inl (.inl q)).rp fun z => re.lv a z n)
  | exc c fs => rw [hf] at p; exact p
  | bad => rw [hf] at p; exact p⟩
theorem snb (h : SN X W e f) : SB X W e f := seb (sne h)
end
def eV (i : Nat) : EF := fun ρ => match ρ[i]? with
  | some (some (.val d)) => .ok d
  | _ => .bad
def eB (i : Nat) : EF := fun ρ => match ρ[i]? with
  | some (some (.val d)) => .ok d
  | some (some (.own d)) => .ok d
  | some (some (.ownP d)) => .ok d
  | _ => .bad
def eC (d : D) : EF := fun _ => .ok d
section
variable {X : Cx} {W : WX}
theorem se_v (i : Nat) {x : Str} {pos : Pos} (hN : X.N[i]? = some x := by rfl) (hv : Vis X.env.scope x := by first | exact Or.inl rfl | exact Or.inr (Or.inl rfl) | exact Or.inr (Or.inr rfl)) (hd : (x == ("__debug__" : Str)) = false := by decide)
    (hcd : (x == ("__classdict__" : Str)) = false := by decide) : SE X W (.Name x pos) (eV i) := (pe_var hN hv hd hcd).weak fun σ H Q ⟨L, ρ, re, p⟩ => by
  unfold eV at p
  cases hx : ρ[i]? with
  | none => simp only [hx] at p; exact p.elim
  | some o =>
    cases o with
    | none => simp only [hx] at p; exact p.elim
    | some x =>
      cases x with
      | own d => simp only [hx] at p; exact p.elim
      | grid _ => simp only [hx] at p; exact p.elim
      | pin _ => simp only [hx] at p; exact p.elim
      | ownP _ => simp only [hx] at p; exact p.elim
      | val d =>
        simp only [hx] at p
        obtain ⟨o, e1, v, e2, r⟩ := re.sl i _ hx
        subst e2
        exact ⟨v, e1, p H v (Same.refl H) r⟩
theorem sb_v (i : Nat) {x : Str} {pos : Pos} (hN : X.N[i]? = some x := by rfl) (hv : Vis X.env.scope x := by first | exact Or.inl rfl | exact Or.inr (Or.inl rfl) | exact Or.inr (Or.inr rfl)) (hd : (x == ("__debug__" : Str)) = false := by decide)
    (hcd : (x == ("__classdict__" : Str)) = false := by decide) : SB X W (.Name x pos) (eB i) := (pe_var hN hv hd hcd).weak fun σ H Q ⟨L, ρ, re, p⟩ => by
  unfold eB at p
  cases hx : ρ[i]? with
  | none => simp only [hx] at p; exact p.elim
  | some o =>
    cases o with
    | none => simp only [hx] at p; exact p.elim
    | some x =>
      cases x with
      | grid _ => simp only [hx] at p; exact p.elim
      | pin _ => simp only [hx] at p; exact p.elim
      | ownP d =>
        simp only [hx] at p
        obtain ⟨o, e1, a, e2, r⟩ := re.sl i _ hx
        subst e2
        exact ⟨_, e1, p H _ (Same.refl H) (.inr ⟨a, rfl, r⟩)⟩
      | own d =>
        simp only [hx] at p
        obtain ⟨o, e1, a, e2, r⟩ := re.sl i _ hx
        subst e2
        exact ⟨_, e1, p H _ (Same.refl H) (.inr ⟨a, rfl, r⟩)⟩
      | val d =>
        simp only [hx] at p
        obtain ⟨o, e1, v, e2, r⟩ := re.sl i _ hx
        subst e2
        exact ⟨v, e1, p H v (Same.refl H) r.rb⟩
theorem se_int {i j pos} : SE X W (.Constant (.int i) j pos) (eC (.int i)) := pe_int.weak fun σ H Q ⟨L, ρ, re, p⟩ => p H _ (Same.refl H) (.int i)
theorem se_bl {b j pos} : SE X W (.Constant (.bool b) j pos) (eC (.bool b)) := pe_bl.weak fun σ H Q ⟨L, ρ, re, p⟩ => p H _ (Same.refl H) (.bl b)
theorem se_non {j pos} : SE X W (.Constant .none j pos) (eC .none) := pe_non.weak fun σ H Q ⟨L, ρ, re, p⟩ => p H _ (Same.refl H) .non
theorem se_str {x j pos} : SE X W (.Constant (.str x) j pos) (eC (.str x)) := pe_str.weak fun σ H Q ⟨L, ρ, re, p⟩ => p H _ (Same.refl H) (.str x)
theorem se_globI {x : Str} {i : Int} {pos : Pos} (hm : ∃ t, X.mg x = some (.int i t)) (hg : Gl X x := by rfl) (hd : (x == ("__debug__" : Str)) = false := by decide) : SE X W (.Name x pos) (eC (.int i)) := by
  obtain ⟨t, hm⟩ := hm
  exact (pe_glob (v := .int i) hg hm ⟨t, rfl⟩ hd).weak fun σ H Q ⟨L, ρ, re, p⟩ => p H _ (Same.refl H) (.int i)
end
def eOp (fn : D → D → Option D) (f g : EF) : EF := fun ρ => (f ρ).bind fun x => (g ρ).bind fun y => Rs.of (fn x y)
def eUn (fn : D → Option D) (f : EF) : EF := fun ρ => (f ρ).bind fun x => Rs.of (fn x)
def rD2 (K : PySem.W.Frag) (fn : D → D → Option D) : R2 := fun x y H Q => ∃ L dx dy d, LvOk K H L ∧ Rb K H L dx x ∧ Rb K H L dy y ∧ fn dx dy = some d ∧ ∀ H' v, Same H H' → Rp K H' L d v → Q v H'
abbrev OpD (X : Cx) (op : Operator) (fn : D → D → Option D) : Prop := OpR X (binaryOp op) (rD2 X.K fn)
abbrev CmD (X : Cx) (op : CmpOp) (fn : D → D → Option D) : Prop := OpR X (compareOp op) (rD2 X.K fn)
def rD1 (K : PySem.W.Frag) (fn : D → Option D) : V → Hp → VK → Prop := fun x H Q => ∃ L dx d, LvOk K H L ∧ Rb K H L dx x ∧ fn dx = some d ∧ ∀ H' v, Same H H' → Rp K H' L d v → Q v H'
section
variable {X : Cx} {W : WX} {a b c : Expr} {f g h : EF} {pos : Pos}
theorem tOp_of {K : PySem.W.Frag} {fn : D → D → Option D} : ∀ σ H Q, tE K W (eOp fn f g) σ H Q → tOp (rD2 K fn) (tB K W f) (tB K W g) σ H Q := fun σ H Q ⟨L, ρ, re, p⟩ =>
  ⟨L, ρ, re, p.step fun dx H1 x s1 rx p1 => ⟨L, ρ, re.mono s1, p1.step fun dy H2 y s2 ry p2 => by
    cases hd : fn dx dy with
    | none => rw [hd] at p2; exact p2.elim
    | some d => rw [hd] at p2; exact ⟨L, dx, dy, d, re.lv.mono (s1.trans s2), rx.mono s2, ry, hd, p2⟩⟩⟩
theorem se_op {op : Operator} {fn : D → D → Option D} (ho : OpD X op fn) (ha : SB X W a f) (hb : SB X W b g) : SE X W (.BinOp a op b pos) (eOp fn f g) := (pe_op ho ha hb).weak tOp_of
theorem se_cmp {op : CmpOp} {fn : D → D → Option D} (ho : CmD X op fn) (ha : SB X W a f) (hb : SB X W b g) (hm : behindInMarks op b = false := by first | exact nomark _ | rfl) : SE X W (.Compare a [op] [b] pos) (eOp fn f g) := (pe_cmpR ho ha hb hm).weak tOp_of
theorem st_cmp {op : CmpOp} {fn : D → D → Option D} (ho : CmD X op fn) (hfn : ∀ x y d, fn x y = some d → ∃ b, d = .bool b) (ha : SB X W a f) (hb : SB X W b g) (hm : behindInMarks op b = false := by first | exact nomark _ | rfl) :
    ST X W (.Compare a [op] [b] pos) (eOp fn f g) := (pt_cmpR ho ha hb hm).weak fun σ H Q ⟨L, ρ, re, p⟩ =>
  ⟨L, ρ, re, p.step fun dx H1 x s1 rx p1 => ⟨L, ρ, re.mono s1, p1.step fun dy H2 y s2 ry p2 => by
    cases hd : fn dx dy with
    | none => rw [hd] at p2; exact p2.elim
    | some d =>
      obtain ⟨b, e⟩ := hfn _ _ _ hd
      subst e
      rw [hd] at p2
      exact ⟨L, dx, dy, _, re.lv.mono (s1.trans s2), rx.mono s2, ry, hd, fun H' v s r => ⟨b, r.blV, p2 H' s⟩⟩⟩⟩
def eChain (fn fn' : D → D → Option D) (f g h : EF) : EF := fun ρ => (f ρ).bind fun x => (g ρ).bind fun y => (Rs.of (fn x y)).bind fun b => match b with
  | .bool true => (h ρ).bind fun z => Rs.of (fn' y z)
  | .bool false => .ok (.bool false)
  | _ => .bad
theorem se_un {op : UnaryOp} {fn : D → Option D} (ho : UnR X (unaryOp op) (rD1 X.K fn)) (ha : SB X W a f) : SE X W (.UnaryOp op a pos) (eUn fn f) := (pe_un ho ha).weak fun σ H Q ⟨L, ρ, re, p⟩ =>
  ⟨L, ρ, re, p.step fun dx H1 x s1 rx p1 => by
    cases hd : fn dx with
    | none => rw [hd] at p1; exact p1.elim
    | some d => rw [hd] at p1; exact ⟨L, dx, d, re.lv.mono s1, rx, hd, p1⟩⟩
end
end VV
namespace VV
open PySem PySem.Spec L2
open PyProof.Rows hiding St
theorem same_upd {H : Hp} {p : Addr} {o : HO} (free : H p = none) : Same H (upd H p o) := .of fun _ _ e => (upd_ne (ne_of_none e free)).trans e
theorem new_not {K : PySem.W.Frag} {H : Hp} {L : Ad} {p : Addr} (lv : LvOk K H L) (h : H p = none) : ¬ L p := fun z => lv p z h
theorem Lp_new {H : Hp} {L : Ad} {p : Addr} (h : H p = none) : ∀ a, Lp L p a → L a ∨ H a = none := fun a z => z.elim .inl fun e => by subst e; exact .inr h
def mulOk (i j : Int) : Bool := decide ((-(2 ^ 64) < i ∧ i < 2 ^ 64) ∨ (-(2 ^ 64) < j ∧ j < 2 ^ 64)) || decide (i.natAbs.log2 + j.natAbs.log2 < 1000000)
def divOk (j : Int) : Bool := decide (j ≠ 0) && decide (j.natAbs.log2 < 9000)
def addF : D → D → Option D
  | .int i, .int j => some (.int (i + j))
  | .str x, .str y => if x.length + y.length ≤ sizeLine then some (.str (x ++ y)) else none
  | .list xs, .list ys => if xs.length + ys.length ≤ sizeLine then some (.list (xs ++ ys)) else none
  | .tuple xs, .tuple ys => if xs.length + ys.length ≤ sizeLine then some (.tuple (xs ++ ys)) else none
  | _, _ => none
def subF : D → D → Option D
  | .int i, .int j => some (.int (i - j))
  | _, _ => none
def mulF : D → D → Option D
  | .int i, .int j => if mulOk i j = true then some (.int (i * j)) else none
  | .list xs, .int k => if (decide (-(2 ^ 63) ≤ k) && decide (k < 2 ^ 63) && decide (xs.length * k.toNat ≤ sizeLine)) = true then some (.list (List.replicate k.toNat xs).flatten) else none
  | .tuple xs, .int k => if (!xs.isEmpty && decide (2 ≤ k) && decide (k ≤ 1000) && decide (xs.length ≤ 1000)) = true then some (.tuple (List.replicate k.toNat xs).flatten) else none
  | _, _ => none
def divF : D → D → Option D
  | .int i, .int j => if divOk j = true then some (.int (i.fdiv j)) else none
  | _, _ => none
def modF : D → D → Option D
  | .int i, .int j => if j = 0 then none else some (.int (i.fmod j))
  | _, _ => none
def powF : D → D → Option D
  | .int i, .int j => if (decide (0 ≤ j) && decide (j ≤ 1000000) && decide (i.natAbs < 2 ^ 64)) = true then some (.int (i ^ j.toNat)) else none
  | _, _ => none
def negF : D → Option D
  | .int i => some (.int (-i))
  | _ => none
section
variable {X : Cx}
theorem op_addD : OpD X .Add addF := by
  intro pn s σ H x y v u Q I rx ry h
  obtain ⟨L, dx, dy, d, lv, bx, by', hf, k⟩ := h
  unfold addF at hf
  split at hf
  · obtain rfl := bx.intV
    obtain rfl := by'.intV
    cases hf
    exact op_add pn s σ H _ _ v u Q I rx ry ⟨_, _, rfl, rfl, k H _ (Same.refl H) (.int _)⟩
  · obtain rfl := bx.strV
    obtain rfl := by'.strV
    split at hf
    · cases hf
      exact op_add_str pn s σ H _ _ v u Q I rx ry ⟨_, _, rfl, rfl, by assumption, k H _ (Same.refl H) (.str _)⟩
    · cases hf
  · obtain ⟨a, vs, rfl, ha, ra⟩ := bx.lstV
    obtain ⟨b, us, rfl, hb, rb⟩ := by'.lstV
    split at hf
    · cases hf
      rename_i hz
      rw [ra.length, rb.length] at hz
      exact op_cat pn s σ H _ _ v u Q I rx ry ⟨a, b, vs, us, rfl, rfl, ha, hb, hz, fun p hp => k _ _ (same_upd hp) (.lst upd_same (new_not lv hp) ((ra.append rb).mono (same_upd hp)))⟩
    · cases hf
  · obtain ⟨a, vs, rfl, ha, ra⟩ := bx.tupV
    obtain ⟨b, us, rfl, hb, rb⟩ := by'.tupV
    split at hf
    · cases hf
      rename_i hz
      rw [ra.length, rb.length] at hz
      refine op_catA pn s σ H _ _ v u Q I rx ry ⟨a, b, vs, us, rfl, rfl, SqT.of ha, SqT.of hb, hz, ?_, ?_, ?_⟩
      · intro e
        subst e
        cases ra
        exact k H _ (Same.refl H) (.tup hb rb)
      · intro _ e
        subst e
        cases rb
        rw [List.append_nil] at k
        exact k H _ (Same.refl H) (.tup ha ra)
      · intro _ _ p hp
        exact k _ _ (same_upd hp) (.tup upd_same ((ra.append rb).mono (same_upd hp)))
    · cases hf
  · cases hf
theorem op_subD : OpD X .Sub subF := by
  intro pn s σ H x y v u Q I rx ry h
  obtain ⟨L, dx, dy, d, lv, bx, by', hf, k⟩ := h
  unfold subF at hf
  split at hf
  · obtain rfl := bx.intV
    obtain rfl := by'.intV
    cases hf
    exact op_sub pn s σ H _ _ v u Q I rx ry ⟨_, _, rfl, rfl, k H _ (Same.refl H) (.int _)⟩
  · cases hf
theorem op_mulD : OpD X .Mult mulF := by
  intro pn s σ H x y v u Q I rx ry h
  obtain ⟨L, dx, dy, d, lv, bx, by', hf, k⟩ := h
  unfold mulF at hf
  split at hf
  · obtain rfl := bx.intV
    obtain rfl := by'.intV
    split at hf
    · cases hf
      rename_i hz
      unfold mulOk at hz
      rcases Bool.or_eq_true_iff.mp hz with q | q
      · have q' := of_decide_eq_true q
        exact op_mul pn s σ H _ _ v u Q I rx ry ⟨_, _, rfl, rfl, q', k H _ (Same.refl H) (.int _)⟩
      · have q' := of_decide_eq_true q
        exact op_mulW pn s σ H _ _ v u Q I rx ry ⟨_, _, rfl, rfl, q', k H _ (Same.refl H) (.int _)⟩
    · cases hf
  · obtain ⟨a, vs, rfl, ha, ra⟩ := bx.lstV
    obtain rfl := by'.intV
    split at hf
    · cases hf
      rename_i hz
      simp only [Bool.and_eq_true, decide_eq_true_eq] at hz
      obtain ⟨⟨h1, h2⟩, h3⟩ := hz
      rw [ra.length] at h3
      exact op_rep pn s σ H _ _ v u Q I rx ry ⟨a, _, vs, rfl, rfl, ha, h1, h2, h3, fun p hp => k _ _ (same_upd hp) (.lst upd_same (new_not lv hp) ((ra.rep _).mono (same_upd hp)))⟩
    · cases hf
  · obtain ⟨a, vs, rfl, ha, ra⟩ := bx.tupV
    obtain rfl := by'.intV
    split at hf
    · cases hf
      rename_i hz
      simp only [Bool.and_eq_true, decide_eq_true_eq, Bool.not_eq_true'] at hz
      obtain ⟨⟨⟨h0, h1⟩, h2⟩, h3⟩ := hz
      rw [ra.length] at h3
      refine op_repT pn s σ H _ _ v u Q I rx ry ⟨a, _, vs, rfl, rfl, SqT.of ha, ?_, h1, h2, h3, fun p hp => k _ _ (same_upd hp) (.tup upd_same ((ra.rep _).mono (same_upd hp)))⟩
      intro e
      subst e
      cases ra
      cases h0
    · cases hf
  · cases hf
theorem op_divD : OpD X .FloorDiv divF := by
  intro pn s σ H x y v u Q I rx ry h
  obtain ⟨L, dx, dy, d, lv, bx, by', hf, k⟩ := h
  unfold divF at hf
  split at hf
  · obtain rfl := bx.intV
    obtain rfl := by'.intV
    split at hf
    · cases hf
      rename_i hz
      unfold divOk at hz
      simp only [Bool.and_eq_true, decide_eq_true_eq] at hz
      obtain ⟨t, rfl⟩ := rx
      obtain ⟨t', rfl⟩ := ry
      exact floordiv_int hz.1 ⟨.int _, H, I.tok _, ⟨_, rfl⟩, k H _ (Same.refl H) (.int _)⟩ (.inl (PyProof.noPylong_of_log2 hz.2))
    · cases hf
  · cases hf
theorem op_modD : OpD X .Mod modF := by
  intro pn s σ H x y v u Q I rx ry h
  obtain ⟨L, dx, dy, d, lv, bx, by', hf, k⟩ := h
  unfold modF at hf
  split at hf
  · obtain rfl := bx.intV
    obtain rfl := by'.intV
    split at hf
    · cases hf
    · cases hf
      exact op_modN pn s σ H _ _ v u Q I rx ry ⟨_, _, rfl, rfl, by assumption, k H _ (Same.refl H) (.int _)⟩
  · cases hf
theorem op_powD : OpD X .Pow powF := by
  intro pn s σ H x y v u Q I rx ry h
  obtain ⟨L, dx, dy, d, lv, bx, by', hf, k⟩ := h
  unfold powF at hf
  split at hf
  · obtain rfl := bx.intV
    obtain rfl := by'.intV
    split at hf
    · cases hf
      rename_i hz
      simp only [Bool.and_eq_true, decide_eq_true_eq] at hz
      exact op_pow pn s σ H _ _ v u Q I rx ry ⟨_, _, rfl, rfl, ⟨hz.1.1, hz.1.2, hz.2⟩, k H _ (Same.refl H) (.int _)⟩
    · cases hf
  · cases hf
theorem un_negD : UnR X (unaryOp .USub) (rD1 X.K negF) := by
  intro pn s σ H x v Q I rx h
  obtain ⟨L, dx, d, lv, bx, hf, k⟩ := h
  unfold negF at hf
  split at hf
  · obtain rfl := bx.intV
    cases hf
    exact un_neg pn s σ H _ v Q I rx ⟨_, rfl, k H _ (Same.refl H) (.int _)⟩
  · cases hf
end
def cmpF (p : Int → Int → Bool) (q : List Nat → List Nat → Bool) : D → D → Option D
  | .int i, .int j => some (.bool (p i j))
  | .str x, .str y => some (.bool (q x.cps.toList y.cps.toList))
  | _, _ => none
def ltF := cmpF (fun i j => decide (i < j)) fun x y => decide (x < y)
def leF := cmpF (fun i j => decide (i ≤ j)) fun x y => !decide (y < x)
def gtF := cmpF (fun i j => decide (j < i)) fun x y => decide (y < x)
def geF := cmpF (fun i j => decide (j ≤ i)) fun x y => !decide (x < y)
def eqF : D → D → Option D := fun x y => if (SeqAt.shaped x && SeqAt.shaped y) = true then some (.bool (PyData.eqv x y)) else none
def neF : D → D → Option D := fun x y => if (SeqAt.shaped x && SeqAt.shaped y) = true then some (.bool (!PyData.eqv x y)) else none
def isNone : D → Bool
  | .none => true
  | _ => false
def isF : D → D → Option D := fun x y => if isNone y = true then some (.bool (isNone x)) else none
def isNotF : D → D → Option D := fun x y => if isNone y = true then some (.bool (!isNone x)) else none
theorem isNone_iff {d : D} : isNone d = true ↔ d = .none := by cases d <;> simp [isNone]
theorem cmpF_b {p q x y d} (h : cmpF p q x y = some d) : ∃ b, d = .bool b := by
  unfold cmpF at h
  split at h <;> cases h <;> exact ⟨_, rfl⟩
theorem eqF_b {x y d} (h : eqF x y = some d) : ∃ b, d = .bool b := by
  unfold eqF at h
  split at h <;> cases h; exact ⟨_, rfl⟩
theorem neF_b {x y d} (h : neF x y = some d) : ∃ b, d = .bool b := by
  unfold neF at h
  split at h <;> cases h; exact ⟨_, rfl⟩
theorem isF_b {x y d} (h : isF x y = some d) : ∃ b, d = .bool b := by
  unfold isF at h
  split at h <;> cases h; exact ⟨_, rfl⟩
theorem not_lay_dict {ps : List (D × D)} : ¬ (PyData.dict ps).canLay0 = true := by simp [PyData.canLay0]
section
variable {K : PySem.W.Frag} {H : Hp} {L : Ad}
mutual
theorem Rp.dp : ∀ {d : D} {v : V}, Rp K H L d v → d.canLay0 = true → Dp K H v d
  | _, _, .non, _ => .non
  | _, _, .bl b, _ => .bl b
  | _, _, .int i, _ => .int i
  | _, _, .str x, _ => .str x
  | _, _, .tup h r, c => .tup (SqT.of h) (RpL.dp r (by simpa [PyData.canLay0] using c))
  | _, _, .lst h n r, c => .lst (SqL.of h) (RpL.dp r (by simpa [PyData.canLay0] using c))
  | _, _, .rd h, c => (not_lay_dict c).elim
  | _, _, .fz h e r, c => (not_lay_dict c).elim
  | _, _, .fd h e r, c => (not_lay_dict c).elim
  | _, _, .dk _ _ _ _, c => (not_lay_dict c).elim
  | _, _, .dt _ _ _ _, c => (not_lay_dict c).elim
  | _, _, .ob _ _ _ _, c => (not_lay_dict c).elim
theorem RpL.dp : ∀ {ds : List D} {vs : List V}, RpL K H L ds vs → PyData.canLayAll0 ds = true → DpAll K H vs ds
  | _, _, .nil, _ => .nil
  | _, _, .cons h r, c => by
    rw [PyData.canLayAll0, Bool.and_eq_true] at c
    exact .cons (Rp.dp h c.1) (RpL.dp r c.2)
end
theorem Rb.dp {d : D} {v : V} (h : Rb K H L d v) (c : d.canLay0 = true) : Dp K H v d := by
  rcases h with h | ⟨a, e, h⟩
  · exact h.dp c
  · subst e
    cases h with
    | lst h r => exact .lst (SqL.of h) (RpL.dp r (by simpa [PyData.canLay0] using c))
    | dk _ _ _ => exact (not_lay_dict c).elim
    | dt _ _ _ => exact (not_lay_dict c).elim
    | ob _ _ _ => exact (not_lay_dict c).elim
end
section
variable {X : Cx}
theorem op_cmpD {op : CmpOp} {p : Int → Int → Bool} {q : List Nat → List Nat → Bool} (h1 : OpR X (compareOp op) (rI0 fun i j => .bl (p i j))) (h2 : OpR X (compareOp op) (fun x y H Q => ∃ i j, x = .str i ∧ y = .str j ∧ Q (.bl (q i.cps.toList j.cps.toList)) H)) : CmD X op (cmpF p q) := by
  intro pn s σ H x y v u Q I rx ry h
  obtain ⟨L, dx, dy, d, lv, bx, by', hf, k⟩ := h
  unfold cmpF at hf
  split at hf
  · obtain rfl := bx.intV
    obtain rfl := by'.intV
    cases hf
    exact h1 pn s σ H _ _ v u Q I rx ry ⟨_, _, rfl, rfl, k H _ (Same.refl H) (.bl _)⟩
  · obtain rfl := bx.strV
    obtain rfl := by'.strV
    cases hf
    exact h2 pn s σ H _ _ v u Q I rx ry ⟨_, _, rfl, rfl, k H _ (Same.refl H) (.bl _)⟩
  · cases hf
theorem op_ltD : CmD X .Lt ltF := op_cmpD op_lt op_lt_str
theorem op_leD : CmD X .LtE leF := op_cmpD op_le op_le_str
theorem op_gtD : CmD X .Gt gtF := op_cmpD op_gt op_gt_str
theorem op_geD : CmD X .GtE geF := op_cmpD op_ge op_ge_str
theorem op_eqX {k : Nat} (hr : Room k X.A) : CmD X .Eq eqF := by
  intro pn s σ H x y v u Q I rx ry h
  obtain ⟨L, dx, dy, d, lv, bx, by', hf, k⟩ := h
  unfold eqF at hf
  split at hf
  · cases hf
    rename_i hz
    rw [Bool.and_eq_true] at hz
    exact op_eqD hr.units pn s σ H _ _ v u Q I rx ry ⟨dx, dy, bx.dp (SeqAt.canLay_of_shaped hz.1), by'.dp (SeqAt.canLay_of_shaped hz.2), hz.1, hz.2, k H _ (Same.refl H) (.bl _)⟩
  · cases hf
theorem op_neX {k : Nat} (hr : Room k X.A) : CmD X .NotEq neF := by
  intro pn s σ H x y v u Q I rx ry h
  obtain ⟨L, dx, dy, d, lv, bx, by', hf, k⟩ := h
  unfold neF at hf
  split at hf
  · cases hf
    rename_i hz
    rw [Bool.and_eq_true] at hz
    exact op_neD hr.units pn s σ H _ _ v u Q I rx ry ⟨dx, dy, bx.dp (SeqAt.canLay_of_shaped hz.1), by'.dp (SeqAt.canLay_of_shaped hz.2), hz.1, hz.2, k H _ (Same.refl H) (.bl _)⟩
  · cases hf
theorem op_isX : CmD X .Is isF := by
  intro pn s σ H x y v u Q I rx ry h
  obtain ⟨L, dx, dy, d, lv, bx, by', hf, k⟩ := h
  unfold isF at hf
  split at hf
  · cases hf
    rename_i hz
    have e := isNone_iff.mp hz
    subst e
    obtain rfl := by'.nonV
    refine op_isN pn s σ H _ _ v u Q I rx ry ⟨rfl, k H _ (Same.refl H) ?_⟩
    have e2 : decide (x = .non) = isNone dx := by
      cases hx : isNone dx with
      | true => exact decide_eq_true (bx.non_iff.mpr (isNone_iff.mp hx))
      | false => exact decide_eq_false fun z => by rw [isNone_iff.mpr (bx.non_iff.mp z)] at hx; cases hx
    rw [e2]
    exact .bl _
  · cases hf
theorem op_isNotX : CmD X .IsNot isNotF := by
  intro pn s σ H x y v u Q I rx ry h
  obtain ⟨L, dx, dy, d, lv, bx, by', hf, k⟩ := h
  unfold isNotF at hf
  split at hf
  · cases hf
    rename_i hz
    have e := isNone_iff.mp hz
    subst e
    obtain rfl := by'.nonV
    refine op_notN pn s σ H _ _ v u Q I rx ry ⟨rfl, k H _ (Same.refl H) ?_⟩
    have e2 : decide (x = .non) = isNone dx := by
      cases hx : isNone dx with
      | true => exact decide_eq_true (bx.non_iff.mpr (isNone_iff.mp hx))
      | false => exact decide_eq_false fun z => by rw [isNone_iff.mpr (bx.non_iff.mp z)] at hx; cases hx
    rw [e2]
    exact .bl _
  · cases hf
end
end VV
namespace VV
open PySem PySem.Spec L2
open PyProof.Rows hiding St
def tru : D → Option Bool
  | .none => some false
  | .bool b => some b
  | .int i => some (i != 0)
  | .str x => if x.length ≤ sizeLine then some ((x.length : Int) != 0) else none
  | .list ds => some (!ds.isEmpty)
  | .tuple ds => some (!ds.isEmpty)
  | .dict _ => none
theorem isEmpty_len {α β : Type} {xs : List α} {ys : List β} (h : xs.length = ys.length) : xs.isEmpty = ys.isEmpty := by
  cases xs <;> cases ys <;> simp at h ⊢
theorem Rb.tru {K : PySem.W.Frag} {H : Hp} {L : Ad} {d : D} {v : V} {k : Bool} (h : Rb K H L d v) (e : tru d = some k) : TruV K v H k := by
  cases d with
  | none => obtain rfl := h.nonV; cases e; rfl
  | bool b => obtain rfl := h.blV; cases e; rfl
  | int i => obtain rfl := h.intV; cases e; rfl
  | str x =>
    obtain rfl := h.strV
    simp only [VV.tru] at e
    split at e
    · cases e; exact ⟨by assumption, rfl⟩
    · cases e
  | list ds =>
    obtain ⟨a, vs, rfl, ha, r⟩ := h.lstV
    cases e
    exact .inl ⟨vs, SqL.of ha, by rw [isEmpty_len r.length]⟩
  | tuple ds =>
    obtain ⟨a, vs, rfl, ha, r⟩ := h.tupV
    cases e
    exact .inr (.inl ⟨vs, SqT.of ha, by rw [isEmpty_len r.length]⟩)
  | dict ps => cases e
def truR (d : D) : Rs := match tru d with
  | some b => .ok (.bool b)
  | none => .bad
def gTru (f : EF) : EF := fun ρ => (f ρ).bind truR
def notR : D → Rs
  | .bool b => .ok (.bool (!b))
  | _ => .bad
def gNot (f : EF) : EF := fun ρ => (f ρ).bind notR
def andR (r : Rs) : D → Rs
  | .bool true => r
  | .bool false => .ok (.bool false)
  | _ => .bad
def orR (r : Rs) : D → Rs
  | .bool false => r
  | .bool true => .ok (.bool true)
  | _ => .bad
def gAnd (f g : EF) : EF := fun ρ => (f ρ).bind (andR (g ρ))
def gOr (f g : EF) : EF := fun ρ => (f ρ).bind (orR (g ρ))
def eAnd (f g : EF) : EF := fun ρ => (f ρ).bind fun d => match tru d with
  | some true => g ρ
  | some false => .ok d
  | none => .bad
def eOr (f g : EF) : EF := fun ρ => (f ρ).bind fun d => match tru d with
  | some true => .ok d
  | some false => g ρ
  | none => .bad
def eNot (f : EF) : EF := fun ρ => (f ρ).bind fun d => match tru d with
  | some b => .ok (.bool (!b))
  | none => .bad
def ifR (r1 r2 : Rs) : D → Rs
  | .bool true => r1
  | .bool false => r2
  | _ => .bad
def eIf (c f g : EF) : EF := fun ρ => (c ρ).bind (ifR (f ρ) (g ρ))
abbrev SW (X : Cx) (W : WX) (e : Expr) (f : EF) : Prop := PW X e (tT X.K W f)
section
variable {X : Cx} {W : WX} {a b c : Expr} {f g h : EF} {pos : Pos} {rest : List Expr}
theorem _root_.L2.PW.weak {e : Expr} {t t' : TT} (h : PW X e t) (hw : ∀ σ H Q, t' σ H Q → t σ H Q) : PW X e t' := ⟨fun wh pn s σ H Q I q => h.run wh pn s σ H Q I (hw σ H Q q)⟩
theorem st_tru (ha : SB X W a f) (he : ∀ whole, isTrue a X.env whole = (do let v ← whole; standAt a.pos; holding [v] (truthy v)) := by intro _; rfl) : ST X W a (gTru f) := (pt_truth ha he).weak fun σ H Q ⟨L, ρ, re, p⟩ =>
  ⟨L, ρ, re, p.step fun d H1 v s1 r p1 => by
    unfold truR at p1
    cases e : tru d with
    | none => simp only [e] at p1; exact p1.elim
    | some k => simp only [e] at p1; exact ⟨k, r.tru e, p1 H1 (Same.refl H1)⟩⟩
theorem notR_bad (d : D) (h : ∀ b, d ≠ .bool b) : notR d = .bad := by
  cases d with
  | bool b => exact absurd rfl (h b)
  | _ => rfl
theorem andR_bad {r : Rs} (d : D) (h : ∀ b, d ≠ .bool b) : andR r d = .bad := by
  cases d with
  | bool b => exact absurd rfl (h b)
  | _ => rfl
theorem orR_bad {r : Rs} (d : D) (h : ∀ b, d ≠ .bool b) : orR r d = .bad := by
  cases d with
  | bool b => exact absurd rfl (h b)
  | _ => rfl
theorem st_not (ha : ST X W a f) : ST X W (.UnaryOp .Not a pos) (gNot f) := (pt_not ha).weak fun σ H Q ⟨L, ρ, re, p⟩ =>
  ⟨L, ρ, re, p.stepT notR_bad fun b H1 s1 p1 => p1 H1 (Same.refl H1)⟩
theorem sw_and1 (ha : ST X W a f) : SW X W (.BoolOp .And [a] pos) f := pw_and1 ha
theorem sw_or1 (ha : ST X W a f) : SW X W (.BoolOp .Or [a] pos) f := pw_or1 ha
theorem sw_and (ha : ST X W a f) (hb : SW X W (.BoolOp .And (b :: rest) pos) g) : SW X W (.BoolOp .And (a :: b :: rest) pos) (gAnd f g) := (pw_and ha hb).weak fun σ H Q ⟨L, ρ, re, p⟩ =>
  ⟨L, ρ, re, p.stepT andR_bad fun b H1 s1 p1 => by
    cases b with
    | true => rw [if_pos rfl]; exact ⟨L, ρ, re.mono s1, p1⟩
    | false => rw [if_neg Bool.false_ne_true]; exact p1 H1 (Same.refl H1)⟩
theorem sw_or (ha : ST X W a f) (hb : SW X W (.BoolOp .Or (b :: rest) pos) g) : SW X W (.BoolOp .Or (a :: b :: rest) pos) (gOr f g) := (pw_or ha hb).weak fun σ H Q ⟨L, ρ, re, p⟩ =>
  ⟨L, ρ, re, p.stepT orR_bad fun b H1 s1 p1 => by
    cases b with
    | true => rw [if_pos rfl]; exact p1 H1 (Same.refl H1)
    | false => rw [if_neg Bool.false_ne_true]; exact ⟨L, ρ, re.mono s1, p1⟩⟩
theorem st_w (h : SW X W a f) : ST X W a f := PW.pt h
theorem se_one {op} (h : SE X W a f) : SE X W (.BoolOp op [a] pos) f := pe_one h
theorem se_and (ha : SE X W a f) (hb : SE X W (.BoolOp .And (b :: rest) pos) g) : SE X W (.BoolOp .And (a :: b :: rest) pos) (eAnd f g) := (pe_andT ha hb).weak fun σ H Q ⟨L, ρ, re, p⟩ =>
  ⟨L, ρ, re, p.stepE fun d H1 v s1 r p1 => by
    cases e : tru d with
    | none => simp only [e] at p1; exact p1.elim
    | some k =>
      simp only [e] at p1
      refine ⟨k, r.rb.tru e, ?_⟩
      cases k with
      | true => rw [if_pos rfl]; exact ⟨L, ρ, re.mono s1, p1⟩
      | false => rw [if_neg Bool.false_ne_true]; exact p1 H1 v (Same.refl H1) r⟩
theorem se_or (ha : SE X W a f) (hb : SE X W (.BoolOp .Or (b :: rest) pos) g) : SE X W (.BoolOp .Or (a :: b :: rest) pos) (eOr f g) := (pe_orT ha hb).weak fun σ H Q ⟨L, ρ, re, p⟩ =>
  ⟨L, ρ, re, p.stepE fun d H1 v s1 r p1 => by
    cases e : tru d with
    | none => simp only [e] at p1; exact p1.elim
    | some k =>
      simp only [e] at p1
      refine ⟨k, r.rb.tru e, ?_⟩
      cases k with
      | true => rw [if_pos rfl]; exact p1 H1 v (Same.refl H1) r
      | false => rw [if_neg Bool.false_ne_true]; exact ⟨L, ρ, re.mono s1, p1⟩⟩
theorem se_not (ha : SB X W a f) : SE X W (.UnaryOp .Not a pos) (eNot f) := (pe_notT ha).weak fun σ H Q ⟨L, ρ, re, p⟩ =>
  ⟨L, ρ, re, p.step fun d H1 v s1 r p1 => by
    cases e : tru d with
    | none => simp only [e] at p1; exact p1.elim
    | some k => simp only [e] at p1; exact ⟨k, r.tru e, p1 H1 _ (Same.refl H1) (.bl _)⟩⟩
theorem se_if (hc : ST X W c h) (ha : SE X W a f) (hb : SE X W b g) : SE X W (.IfExp c a b pos) (eIf h f g) := (pe_ifExp hc ha hb).weak fun σ H Q ⟨L, ρ, re, p⟩ => by
  refine ⟨L, ρ, re, ?_⟩
  unfold eIf at p
  cases hr : h ρ with
  | bad => rw [hr] at p; exact p
  | exc c fs => rw [hr] at p; exact p
  | ok d =>
    rw [hr] at p
    cases d with
    | bool k =>
      intro H1 s1
      have p1 := p.mono s1
      cases k with
      | true => rw [if_pos rfl]; exact ⟨L, ρ, re.mono s1, p1⟩
      | false => rw [if_neg Bool.false_ne_true]; exact ⟨L, ρ, re.mono s1, p1⟩
    | _ => exact p
theorem se_chain {op op' : CmpOp} {fn fn' : D → D → Option D} {h : EF} (ho : CmD X op fn) (ho' : CmD X op' fn') (hfn : ∀ x y d, fn x y = some d → ∃ b, d = .bool b) (ha : SB X W a f) (hb : SB X W b g) (hc : SB X W c h)
    (hm : lastMarks [op, op'] [b, c] = false := by with_unfolding_all rfl) : SE X W (.Compare a [op, op'] [b, c] pos) (eChain fn fn' f g h) :=
  (pe_chain ho ho' ha hb hc hm).weak fun σ H Q ⟨L, ρ, re, p⟩ =>
  ⟨L, ρ, re, p.step fun dx H1 x s1 rx p1 => ⟨L, ρ, re.mono s1, p1.step fun dy H2 y s2 ry p2 => by
    cases hd : fn dx dy with
    | none => rw [hd] at p2; exact p2.elim
    | some d =>
      obtain ⟨k, e⟩ := hfn _ _ _ hd
      subst e
      rw [hd] at p2
      refine ⟨L, dx, dy, _, re.lv.mono (s1.trans s2), rx.mono s2, ry, hd, fun H3 v s3 r => ⟨k, r.blV, ?_⟩⟩
      simp only [Rs.of_some, Rs.bind_ok] at p2
      have p3 := p2.mono s3
      cases k with
      | false => exact p3 H3 _ (Same.refl H3) (.bl _)
      | true =>
        refine ⟨L, ρ, re.mono (s1.trans (s2.trans s3)), p3.step fun dz H4 z s4 rz p4 => ?_⟩
        cases hz : fn' dy dz with
        | none => rw [hz] at p4; exact p4.elim
        | some d' => rw [hz] at p4; exact ⟨L, dy, dz, d', re.lv.mono (s1.trans (s2.trans (s3.trans s4))), ry.mono (s3.trans s4), rz, hz, p4⟩⟩⟩
theorem st_chain {op op' : CmpOp} {fn fn' : D → D → Option D} {h : EF} (ho : CmD X op fn) (ho' : CmD X op' fn') (hfn : ∀ x y d, fn x y = some d → ∃ b, d = .bool b) (hfn' : ∀ x y d, fn' x y = some d → ∃ b, d = .bool b) (ha : SB X W a f) (hb : SB X W b g) (hc : SB X W c h)
    (hm : lastMarks [op, op'] [b, c] = false := by with_unfolding_all rfl) : ST X W (.Compare a [op, op'] [b, c] pos) (eChain fn fn' f g h) :=
  (pt_chain ho ho' ha hb hc hm).weak fun σ H Q ⟨L, ρ, re, p⟩ =>
  ⟨L, ρ, re, p.step fun dx H1 x s1 rx p1 => ⟨L, ρ, re.mono s1, p1.step fun dy H2 y s2 ry p2 => by
    cases hd : fn dx dy with
    | none => rw [hd] at p2; exact p2.elim
    | some d =>
      obtain ⟨k, e⟩ := hfn _ _ _ hd
      subst e
      rw [hd] at p2
      refine ⟨L, dx, dy, _, re.lv.mono (s1.trans s2), rx.mono s2, ry, hd, fun H3 v s3 r => ⟨k, r.blV, ?_⟩⟩
      simp only [Rs.of_some, Rs.bind_ok] at p2
      have p3 := p2.mono s3
      cases k with
      | false => exact ⟨false, rfl, p3 H3 (Same.refl H3)⟩
      | true =>
        refine ⟨L, ρ, re.mono (s1.trans (s2.trans s3)), p3.step fun dz H4 z s4 rz p4 => ?_⟩
        cases hz : fn' dy dz with
        | none => rw [hz] at p4; exact p4.elim
        | some d' =>
          obtain ⟨k', e'⟩ := hfn' _ _ _ hz
          subst e'
          rw [hz] at p4
          exact ⟨L, dy, dz, _, re.lv.mono (s1.trans (s2.trans (s3.trans s4))), ry.mono (s3.trans s4), rz, hz, fun H5 v s5 r => ⟨k', r.blV, p4 H5 s5⟩⟩⟩⟩
end
end VV
namespace VV
open PySem PySem.Spec L2
open PyProof.Rows hiding St
inductive RL where
  | ok (ds : List D)
  | exc (c : Str) (fs : List (Str × D))
  | bad
def RL.bind (r : RL) (k : List D → Rs) : Rs := match r with
  | .ok ds => k ds
  | .exc c fs => .exc c fs
  | .bad => .bad
@[simp] theorem RL.bind_ok (d : List D) (k : List D → Rs) : (RL.ok d).bind k = k d := rfl
@[simp] theorem RL.bind_exc (c : Str) (fs : List (Str × D)) (k : List D → Rs) : (RL.exc c fs).bind k = .exc c fs := rfl
@[simp] theorem RL.bind_bad (k : List D → Rs) : RL.bad.bind k = .bad := rfl
def RL.cons (r : Rs) (q : RL) : RL := match r with
  | .ok d => (match q with
    | .ok ds => .ok (d :: ds)
    | .exc c fs => .exc c fs
    | .bad => .bad)
  | .exc c fs => .exc c fs
  | .bad => .bad
@[simp] theorem RL.cons_ok (d : D) (ds : List D) : RL.cons (.ok d) (.ok ds) = .ok (d :: ds) := rfl
@[simp] theorem RL.cons_exc (c : Str) (fs : List (Str × D)) (q : RL) : RL.cons (.exc c fs) q = .exc c fs := rfl
@[simp] theorem RL.cons_bad (q : RL) : RL.cons .bad q = .bad := rfl
@[simp] theorem RL.cons_ok_exc (d : D) (c : Str) (fs : List (Str × D)) : RL.cons (.ok d) (.exc c fs) = .exc c fs := rfl
@[simp] theorem RL.cons_ok_bad (d : D) : RL.cons (.ok d) .bad = .bad := rfl
def evA : List EF → En → RL
  | [], _ => .ok []
  | f :: fs, ρ => RL.cons (f ρ) (evA fs ρ)
@[simp] theorem evA_nil (ρ : En) : evA [] ρ = .ok [] := rfl
@[simp] theorem evA_cons (f : EF) (fs : List EF) (ρ : En) : evA (f :: fs) ρ = RL.cons (f ρ) (evA fs ρ) := rfl
inductive RbL (K : PySem.W.Frag) (H : Hp) (L : Ad) : List D → List V → Prop
  | nil : RbL K H L [] []
  | cons {d : D} {v : V} {ds : List D} {vs : List V} : Rb K H L d v → RbL K H L ds vs → RbL K H L (d :: ds) (v :: vs)
def PostA (K : PySem.W.Frag) (W : WX) (L : Ad) (σ : St) (H : Hp) (r : RL) (Q : List V → Hp → Prop) : Prop := match r with
  | .ok ds => ∀ (H' : Hp) (vs : List V), Same H H' → RpL K H' L ds vs → Q vs H'
  | .exc c fs => ∀ (H' : Hp) (x : Option Addr), Same H H' → XR K H' L fs x → W (.ref (He.ga K c)) x σ H'
  | .bad => False
def PostBA (K : PySem.W.Frag) (W : WX) (L : Ad) (σ : St) (H : Hp) (r : RL) (Q : List V → Hp → Prop) : Prop := match r with
  | .ok ds => ∀ (H' : Hp) (vs : List V), Same H H' → RbL K H' L ds vs → Q vs H'
  | .exc c fs => ∀ (H' : Hp) (x : Option Addr), Same H H' → XR K H' L fs x → W (.ref (He.ga K c)) x σ H'
  | .bad => False
section
variable {K : PySem.W.Frag} {W : WX} {L : Ad} {σ : St} {H H1 : Hp} {Q : VK} {QL : List V → Hp → Prop}
theorem RbL.mono {ds : List D} {vs : List V} (s : Same H H1) (h : RbL K H L ds vs) : RbL K H1 L ds vs := by
  induction h with
  | nil => exact .nil
  | cons r _ ih => exact .cons (r.mono s) ih
theorem PostA.mono {r : RL} (h : PostA K W L σ H r QL) (s : Same H H1) : PostA K W L σ H1 r QL := by
  cases r with
  | ok d => exact fun H' v s' => h H' v (s.trans s')
  | exc c fs => exact fun H' x s' => h H' x (s.trans s')
  | bad => exact h
theorem PostBA.mono {r : RL} (h : PostBA K W L σ H r QL) (s : Same H H1) : PostBA K W L σ H1 r QL := by
  cases r with
  | ok d => exact fun H' v s' => h H' v (s.trans s')
  | exc c fs => exact fun H' x s' => h H' x (s.trans s')
  | bad => exact h
theorem PostN.mono {r : Rs} (h : PostN K W L σ H r Q) (s : Same H H1) : PostN K W L σ H1 r Q := by
  cases r with
  | ok d => exact fun H' v s' n => h H' v (s.trans s') (s.free n)
  | exc c fs => exact fun H' x s' => h H' x (s.trans s')
  | bad => exact h
theorem Post.stepA {r : RL} {k : List D → Rs} (h : Post K W L σ H (r.bind k) Q) (hk : ∀ ds H1 vs, Same H H1 → RpL K H1 L ds vs → Post K W L σ H1 (k ds) Q → QL vs H1) : PostA K W L σ H r QL := by
  cases r with
  | ok d => exact fun H' v s' rv => hk d H' v s' rv (Post.mono h s')
  | exc c fs => exact h
  | bad => exact h
theorem Post.stepBA {r : RL} {k : List D → Rs} (h : Post K W L σ H (r.bind k) Q) (hk : ∀ ds H1 vs, Same H H1 → RbL K H1 L ds vs → Post K W L σ H1 (k ds) Q → QL vs H1) : PostBA K W L σ H r QL := by
  cases r with
  | ok d => exact fun H' v s' rv => hk d H' v s' rv (Post.mono h s')
  | exc c fs => exact h
  | bad => exact h
theorem PostN.stepA {r : RL} {k : List D → Rs} (h : PostN K W L σ H (r.bind k) Q) (hk : ∀ ds H1 vs, Same H H1 → RpL K H1 L ds vs → PostN K W L σ H1 (k ds) Q → QL vs H1) : PostA K W L σ H r QL := by
  cases r with
  | ok d => exact fun H' v s' rv => hk d H' v s' rv (PostN.mono h s')
  | exc c fs => exact h
  | bad => exact h
theorem PostN.stepBA {r : RL} {k : List D → Rs} (h : PostN K W L σ H (r.bind k) Q) (hk : ∀ ds H1 vs, Same H H1 → RbL K H1 L ds vs → PostN K W L σ H1 (k ds) Q → QL vs H1) : PostBA K W L σ H r QL := by
  cases r with
  | ok d => exact fun H' v s' rv => hk d H' v s' rv (PostN.mono h s')
  | exc c fs => exact h
  | bad => exact h
theorem PostN.stepB {r : Rs} {k : D → Rs} {R : VK} (h : PostN K W L σ H (r.bind k) Q) (hk : ∀ d H1 v, Same H H1 → Rb K H1 L d v → PostN K W L σ H1 (k d) Q → R v H1) : PostB K W L σ H r R := by
  cases r with
  | ok d => exact fun H' v s' rv => hk d H' v s' rv (PostN.mono h s')
  | exc c fs => exact h
  | bad => exact h
theorem RbL.one {d : D} {vs : List V} (h : RbL K H L [d] vs) : ∃ v, vs = [v] ∧ Rb K H L d v := by
  cases h with
  | cons r t => cases t; exact ⟨_, rfl, r⟩
theorem RbL.two {d e : D} {vs : List V} (h : RbL K H L [d, e] vs) : ∃ v w, vs = [v, w] ∧ Rb K H L d v ∧ Rb K H L e w := by
  cases h with
  | cons r t =>
    cases t with
    | cons r' t' => cases t'; exact ⟨_, _, rfl, r, r'⟩
end
def tA (K : PySem.W.Frag) (W : WX) (fs : List EF) : TA := fun σ H Q => ∃ L ρ, RE K H L ρ σ ∧ PostA K W L σ H (evA fs ρ) Q
def tBA (K : PySem.W.Frag) (W : WX) (fs : List EF) : TA := fun σ H Q => ∃ L ρ, RE K H L ρ σ ∧ PostBA K W L σ H (evA fs ρ) Q
abbrev SA (X : Cx) (W : WX) (es : List Expr) (fs : List EF) : Prop := PA X es (tA X.K W fs)
abbrev SBA (X : Cx) (W : WX) (es : List Expr) (fs : List EF) : Prop := PA X es (tBA X.K W fs)
section
variable {X : Cx} {W : WX} {e : Expr} {es : List Expr} {f : EF} {fs : List EF} {pos : Pos}
theorem _root_.L2.PA.weak {t t' : TA} (h : PA X es t) (hw : ∀ σ H Q, t' σ H Q → t σ H Q) : PA X es t' := ⟨fun p pn s σ H Q I q => h.run p pn s σ H Q I (hw σ H Q q)⟩
theorem sa_nil : SA X W [] [] := pa_nil.weak fun σ H Q ⟨L, ρ, re, p⟩ => p H [] (Same.refl H) .nil
theorem sba_nil : SBA X W [] [] := pa_nil.weak fun σ H Q ⟨L, ρ, re, p⟩ => p H [] (Same.refl H) .nil
theorem sa_cons (ha : SE X W e f) (hr : SA X W es fs) (hs : starEach (e :: es) X.env = (false, eval e X.env) :: starEach es X.env := by rfl) : SA X W (e :: es) (f :: fs) := (pa_cons ha hr hs).weak fun σ H Q ⟨L, ρ, re, p⟩ => by
  refine ⟨L, ρ, re, ?_⟩
  simp only [evA_cons] at p
  cases hf : f ρ with
  | bad => rw [hf] at p; exact p
  | exc c fs => rw [hf] at p; exact p
  | ok d =>
    rw [hf] at p
    intro H1 v s1 r1
    refine ⟨L, ρ, re.mono s1, ?_⟩
    cases hg : evA fs ρ with
    | bad => rw [hg] at p; exact p
    | exc c fs => rw [hg] at p; exact fun H' x s' => p H' x (s1.trans s')
    | ok ds => rw [hg] at p; exact fun H' vs s' r' => p H' (v :: vs) (s1.trans s') (.cons (r1.mono s') r')
theorem sba_cons (ha : SB X W e f) (hr : SBA X W es fs) (hs : starEach (e :: es) X.env = (false, eval e X.env) :: starEach es X.env := by rfl) : SBA X W (e :: es) (f :: fs) := (pa_cons ha hr hs).weak fun σ H Q ⟨L, ρ, re, p⟩ => by
  refine ⟨L, ρ, re, ?_⟩
  simp only [evA_cons] at p
  cases hf : f ρ with
  | bad => rw [hf] at p; exact p
  | exc c fs => rw [hf] at p; exact p
  | ok d =>
    rw [hf] at p
    intro H1 v s1 r1
    refine ⟨L, ρ, re.mono s1, ?_⟩
    cases hg : evA fs ρ with
    | bad => rw [hg] at p; exact p
    | exc c fs => rw [hg] at p; exact fun H' x s' => p H' x (s1.trans s')
    | ok ds => rw [hg] at p; exact fun H' vs s' r' => p H' (v :: vs) (s1.trans s') (.cons (r1.mono s') r')
def tupR (ds : List D) : Rs := if ds.length ≤ sizeLine then .ok (.tuple ds) else .bad
def lstR (ds : List D) : Rs := if ds.length ≤ sizeLine then .ok (.list ds) else .bad
def eTup (fs : List EF) : EF := fun ρ => (evA fs ρ).bind tupR
def eLst (fs : List EF) : EF := fun ρ => (evA fs ρ).bind lstR
theorem se_tup {x1} (h : SA X W es fs) : SE X W (.Tuple es x1 pos) (eTup fs) := (pe_tup h).weak fun σ H Q ⟨L, ρ, re, p⟩ =>
  ⟨L, ρ, re, p.stepA fun ds H1 vs s1 r p1 => by
    unfold tupR at p1
    split at p1
    · rename_i hz
      rw [r.length] at hz
      exact ⟨hz, fun q hq => p1 _ _ (same_upd hq) (.tup upd_same (r.mono (same_upd hq)))⟩
    · exact p1.elim⟩
theorem sn_lst (h : SA X W es fs) : SN X W (.List es pos) (eLst fs) := (pe_lst h).weak fun σ H Q ⟨L, ρ, re, p⟩ =>
  ⟨L, ρ, re, p.stepA fun ds H1 vs s1 r p1 => by
    unfold lstR at p1
    split at p1
    · rename_i hz
      rw [r.length] at hz
      exact ⟨hz, fun q hq => p1 _ _ (same_upd hq) hq (.lst upd_same ((r.lives (Lp_new hq)).mono (same_upd hq)))⟩
    · exact p1.elim⟩
def rDL (K : PySem.W.Frag) (fn : List D → Option D) : List V → Hp → VK → Prop := fun xs H Q => ∃ L ds d, LvOk K H L ∧ RbL K H L ds xs ∧ fn ds = some d ∧ ∀ H' v, Same H H' → Rp K H' L d v → Q v H'
def rDN (K : PySem.W.Frag) (fn : List D → Option D) : List V → Hp → VK → Prop := fun xs H Q => ∃ L ds d, LvOk K H L ∧ RbL K H L ds xs ∧ fn ds = some d ∧ ∀ H' a, Same H H' → H a = none → Ow K H' (Lp L a) d a → Q (.ref a) H'
abbrev ClD (X : Cx) (f : Value) (fn : List D → Option D) : Prop := CallR X f (rDL X.K fn)
abbrev ClN (X : Cx) (f : Value) (fn : List D → Option D) : Prop := CallR X f (rDN X.K fn)
def eCB (fn : List D → Option D) (fs : List EF) : EF := fun ρ => (evA fs ρ).bind fun ds => Rs.of (fn ds)
theorem tCB_of {K : PySem.W.Frag} {fn : List D → Option D} : ∀ σ H Q, tE K W (eCB fn fs) σ H Q → tCB (rDL K fn) (tBA K W fs) σ H Q := fun σ H Q ⟨L, ρ, re, p⟩ =>
  ⟨L, ρ, re, p.stepBA fun ds H1 vs s1 r p1 => by
    cases hd : fn ds with
    | none => rw [hd] at p1; exact p1.elim
    | some d => rw [hd] at p1; exact ⟨L, ds, d, re.lv.mono s1, r, hd, p1⟩⟩
theorem tCBN_of {K : PySem.W.Frag} {fn : List D → Option D} : ∀ σ H Q, tN K W (eCB fn fs) σ H Q → tCB (rDN K fn) (tBA K W fs) σ H Q := fun σ H Q ⟨L, ρ, re, p⟩ =>
  ⟨L, ρ, re, p.stepBA fun ds H1 vs s1 r p1 => by
    cases hd : fn ds with
    | none => rw [hd] at p1; exact p1.elim
    | some d => rw [hd] at p1; exact ⟨L, ds, d, re.lv.mono s1, r, hd, p1⟩⟩
variable {x : Str} {p : Pos} {id T : String} {fn : List D → Option D}
theorem se_cb (hc : ClD X (.builtin id) fn) (hm : X.mg x = none) (ha : SBA X W (e :: es) fs) (hg : Gl X x := by rfl) (hv : bootBuiltins x = some (.builtin id) := by decide +kernel) (hn : x ≠ "__name__" := by decide) (hdb : (x == ("__debug__" : Str)) = false := by decide)
    (he : starEach (e :: es) X.env = (false, eval e X.env) :: starEach es X.env := by rfl) (hpl : (backTo pos (starEach es X.env)).any (·.1) = false := by rfl) : SE X W (.Call (.Name x p) (e :: es) [] pos) (eCB fn fs) :=
  (pe_callB hc hg hm hv ha hn hdb he hpl).weak tCB_of
theorem sn_cb (hc : ClN X (.builtin id) fn) (hm : X.mg x = none) (ha : SBA X W (e :: es) fs) (hg : Gl X x := by rfl) (hv : bootBuiltins x = some (.builtin id) := by decide +kernel) (hn : x ≠ "__name__" := by decide) (hdb : (x == ("__debug__" : Str)) = false := by decide)
    (he : starEach (e :: es) X.env = (false, eval e X.env) :: starEach es X.env := by rfl) (hpl : (backTo pos (starEach es X.env)).any (·.1) = false := by rfl) : SN X W (.Call (.Name x p) (e :: es) [] pos) (eCB fn fs) :=
  (pe_callB hc hg hm hv ha hn hdb he hpl).weak tCBN_of
theorem se_ct (hc : ClD X (.type T) fn) (hm : X.mg x = none) (ha : SBA X W (e :: es) fs) (hg : Gl X x := by rfl) (hv : bootBuiltins x = some (.type T) := by decide +kernel) (hn : x ≠ "__name__" := by decide) (hdb : (x == ("__debug__" : Str)) = false := by decide)
    (he : starEach (e :: es) X.env = (false, eval e X.env) :: starEach es X.env := by rfl) (hpl : (backTo pos (starEach es X.env)).any (·.1) = false := by rfl) : SE X W (.Call (.Name x p) (e :: es) [] pos) (eCB fn fs) :=
  (pe_callTy hc hg hm hv ha hn hdb he hpl).weak tCB_of
def spP (K : PySem.W.Frag) (n : Nat) (f : List D → Rs) : Sp := fun vs H Q E => ∃ L ds, LvOk K H L ∧ ds.length = n ∧ RpL K H L ds vs ∧ match f ds with
  | .ok d => ∀ H' v, Same H H' → Rp K H' L d v → Q v H'
  | .exc c fs => ∀ H' x, Same H H' → XR K H' L fs x → E (.ref (He.ga K c)) x H'
  | .bad => False
structure Dn (P : Program) (w : World) (K : PySem.W.Frag) (mg : Str → Option Value) (base : Heap) (x : Str) (k n : Nat) (f : List D → Rs) : Prop where
  ex : ∃ (fa : Addr) (fd : FuncData) (ps : List Str), mg x = some (.ref fa) ∧ FnOk P w K mg base (L2.CX P w) k fa fd ps (spP K n f) ∧ PySem.W.keepIn K (.ref fa) = true ∧ Binds K fd ps []
def eCall (f : List D → Rs) (fs : List EF) : EF := fun ρ => (evA fs ρ).bind f
theorem se_call {k n : Nat} {g : List D → Rs} (F : Dn X.prog X.w X.K X.mg X.base x k n g) (hr : Room k X.A) (tk : Takes X W) (ha : SA X W (e :: es) fs) (hlen : (e :: es).length = n := by rfl) (hfl : fs.length = n := by rfl) (hg : Gl X x := by rfl) (hdb : (x == ("__debug__" : Str)) = false := by decide)
    (he : starEach (e :: es) X.env = (false, eval e X.env) :: starEach es X.env := by rfl) (hpl : (backTo pos (starEach es X.env)).any (·.1) = false := by rfl) : SE X W (.Call (.Name x p) (e :: es) [] pos) (eCall g fs) := by
  obtain ⟨fa, fd, ps, hm, F, hk, hb⟩ := F.ex
  have len : ∀ (gs : List EF) (ρ : En) (ds : List D), evA gs ρ = .ok ds → ds.length = gs.length := by
    intro gs
    induction gs with
    | nil => intro ρ ds h; cases h; rfl
    | cons g gs ih =>
      intro ρ ds h
      rw [evA_cons] at h
      cases hg : g ρ with
      | bad => rw [hg] at h; cases h
      | exc c fs => rw [hg] at h; cases h
      | ok d =>
        rw [hg] at h
        cases hq : evA gs ρ with
        | bad => rw [hq] at h; cases h
        | exc c fs => rw [hq] at h; cases h
        | ok es => rw [hq] at h; cases h; simp [ih ρ es hq]
  refine (pe_callS (E := WE W) F hr hg hm hk hb (fun σ => passAt tk σ) ha hdb he hpl).weak fun σ H Q ⟨L, ρ, re, p⟩ => ⟨L, ρ, re, ?_⟩
  unfold eCall at p
  cases hA : evA fs ρ with
  | bad => rw [hA] at p; exact p
  | exc c fs => rw [hA] at p; exact p
  | ok ds =>
    rw [hA] at p
    simp only [RL.bind_ok] at p
    refine fun H1 vs s1 r => ⟨L, ds, re.lv.mono s1, (len fs ρ ds hA).trans hfl, r, ?_⟩
    have p1 := p.mono s1
    cases hg : g ds with
    | bad => rw [hg] at p1; exact p1.elim
    | exc c fs => rw [hg] at p1; exact p1
    | ok d => rw [hg] at p1; exact p1
end
end VV
namespace VV
open PySem PySem.Spec L2
open PyProof.Rows hiding St
def asFz : D → Option (List D)
  | .dict [(.none, .tuple ds)] => some ds
  | _ => none
theorem asFz_eq {d : D} {ds : List D} (h : asFz d = some ds) : d = fzD ds := by
  unfold asFz at h
  split at h
  · cases h; rfl
  · cases h
def asRd : D → Option (List D)
  | .dict [(.none, .list ds)] => some ds
  | .dict [(.none, .tuple ds)] => some ds
  | .dict [(.none, .dict _)] => some []
  | .dict ((.none, .str _) :: _) => some []
  | _ => none
def isFd : List (D × D) → Bool
  | [(.none, .dict _)] => true
  | (.none, .str _) :: _ => true
  | _ => false
def ixF : D → D → Option D
  | .list ds, .int i => atI ds i
  | .tuple ds, .int i => atI ds i
  | .str z, .int i => if z.length ≤ sizeLine then (atI z.cps.toList i).map fun c => .str ⟨#[c]⟩ else none
  | .dict ps, .int i => (asRd (.dict ps)).bind fun ds => atI ds i
  | _, _ => none
section
variable {K : PySem.W.Frag} {H : Hp} {L : Ad}
theorem RpL.atI {ds : List D} {vs : List V} {i : Int} {d : D} (r : RpL K H L ds vs) (h : L2.atI ds i = some d) : ∃ v, L2.atI vs i = some v ∧ Rp K H L d v := by
  unfold L2.atI at h
  cases e : ixN ds.length i with
  | none => exact absurd h (by rw [e]; simp)
  | some j =>
    rw [e] at h
    obtain ⟨v, e1, rv⟩ := r.get (i := j) h
    refine ⟨v, ?_, rv⟩
    unfold L2.atI
    rw [← r.length, e]
    exact e1
theorem keyD_ne (k : Key) : keyD k ≠ .none := by cases k <;> simp [keyD]
theorem asRd_split {ps : List (D × D)} {ds : List D} (e : asRd (.dict ps) = some ds) : ps = [(.none, .list ds)] ∨ ps = [(.none, .tuple ds)] ∨ (ds = [] ∧ isFd ps = true) := by
  unfold asRd at e
  split at e
  · rename_i h1
    cases h1
    cases e
    exact .inl rfl
  · rename_i h1
    cases h1
    cases e
    exact .inr (.inl rfl)
  · rename_i h1
    cases h1
    cases e
    exact .inr (.inr ⟨rfl, rfl⟩)
  · rename_i h1
    cases h1
    cases e
    exact .inr (.inr ⟨rfl, rfl⟩)
  · cases e
theorem no_key1 {x : D} {kvs : List (Key × V)} (z : ([(PyData.none, x)] : List (D × D)).map (·.1) = kvs.map (fun q => keyD q.1)) : False := by
  cases kvs with
  | nil => cases z
  | cons q r =>
    simp only [List.map_cons, List.cons.injEq] at z
    exact keyD_ne _ z.1.symm
theorem Rb.rdV {ds : List D} {v : V} (h : Rb K H L (.dict [(.none, .list ds)]) v) : ∃ (a : Addr) (ns : List Int), v = .ref a ∧ SqL K H a (ns.map V.int) ∧ ds = ns.map PyData.int := by
  rcases h with h | ⟨a, e1, h⟩
  · generalize hd : (PyData.dict [(PyData.none, PyData.list ds)]) = dd at h
    cases h with
    | rd h =>
      unfold rdL at hd
      simp only [PyData.dict.injEq, List.cons.injEq, Prod.mk.injEq, PyData.list.injEq, and_true, true_and] at hd
      exact ⟨_, _, rfl, h.sq, hd⟩
    | fz h e r => unfold fzD at hd; cases hd
    | fd h e r => unfold fdD at hd; cases hd
    | dk _ _ z _ => cases hd; exact (no_key1 z).elim
    | dt _ _ z _ => cases hd
    | _ => cases hd
  · cases h with
    | dk _ z _ => exact (no_key1 z).elim
theorem Rb.fzV {ds : List D} {v : V} (h : Rb K H L (fzD ds) v) : ∃ (a : Addr) (o : Obj) (vs : List V), v = .ref a ∧ H a = some (.frz o (.tup vs)) ∧ o.dict = none ∧ RpL K H L ds vs := by
  unfold fzD at h
  rcases h with h | ⟨a, e1, h⟩
  · generalize hd : (PyData.dict [(PyData.none, PyData.tuple ds)]) = dd at h
    cases h with
    | rd h => unfold rdL at hd; cases hd
    | fd h e r => unfold fdD at hd; cases hd
    | fz h e r =>
      unfold fzD at hd
      simp only [PyData.dict.injEq, List.cons.injEq, Prod.mk.injEq, PyData.tuple.injEq, and_true, true_and] at hd
      subst hd
      exact ⟨_, _, _, rfl, h, e, r⟩
    | dk _ _ z _ => cases hd; exact (no_key1 z).elim
    | dt _ _ z _ => cases hd
    | _ => cases hd
  · cases h with
    | dk _ z _ => exact (no_key1 z).elim
theorem SqT.ofF {o : Obj} {a : Addr} {vs : List V} (h : H a = some (.frz o (.tup vs))) : SqT K H a vs := .inl (.inr ⟨o, h⟩)
end
section
variable {X : Cx} {W : WX} {a b : Expr} {f g : EF} {pos : Pos}
theorem ix_D : IxR X (rD2 X.K ixF) := by
  intro value slice pn s σ H x y v u Q I rx ry h hs
  obtain ⟨L, dx, dy, d, lv, bx, by', hf, k⟩ := h
  unfold ixF at hf
  split at hf
  · obtain ⟨p, vs, rfl, hp, r⟩ := bx.lstV
    obtain rfl := by'.intV
    obtain ⟨z, e, rz⟩ := r.atI hf
    exact ix_list value slice pn s σ H _ _ v u Q I rx ry ⟨p, vs, _, z, rfl, rfl, SqL.of hp, e, k H z (Same.refl H) rz⟩ hs
  · obtain ⟨p, vs, rfl, hp, r⟩ := bx.tupV
    obtain rfl := by'.intV
    obtain ⟨z, e, rz⟩ := r.atI hf
    exact ix_tup value slice pn s σ H _ _ v u Q I rx ry ⟨p, vs, _, z, rfl, rfl, SqT.of hp, e, k H z (Same.refl H) rz⟩ hs
  · obtain rfl := bx.strV
    obtain rfl := by'.intV
    split at hf
    · rename_i hz
      obtain ⟨c, e, rfl⟩ := Option.map_eq_some_iff.mp hf
      exact ix_str value slice pn s σ H _ _ v u Q I rx ry ⟨_, _, c, rfl, rfl, hz, e, k H _ (Same.refl H) (.str _)⟩ hs
    · cases hf
  · obtain rfl := by'.intV
    cases e : asRd (.dict _) with
    | none => rw [e] at hf; cases hf
    | some ds =>
      rw [e] at hf
      rcases asRd_split e with rfl | rfl | ⟨rfl, _⟩
      rotate_right
      · have hf' : L2.atI ([] : List D) _ = some d := hf
        unfold L2.atI ixN at hf'
        simp at hf'
      · obtain ⟨p, ns, rfl, hp, rfl⟩ := bx.rdV
        have hf' : L2.atI (ns.map PyData.int) _ = some d := hf
        obtain ⟨z, e2, rz⟩ := (RpL.ofInts (K := X.K) (H := H) (L := L) ns).atI hf'
        exact ix_list value slice pn s σ H _ _ v u Q I rx ry ⟨p, _, _, z, rfl, rfl, hp, e2, k H z (Same.refl H) rz⟩ hs
      · obtain ⟨p, o, vs, rfl, hp, _, r⟩ := Rb.fzV (ds := ds) bx
        have hf' : L2.atI ds _ = some d := hf
        obtain ⟨z, e2, rz⟩ := r.atI hf'
        exact ix_tup value slice pn s σ H _ _ v u Q I rx ry ⟨p, vs, _, z, rfl, rfl, SqT.ofF hp, e2, k H z (Same.refl H) rz⟩ hs
  · cases hf
theorem se_ix (ha : SB X W a f) (hb : SB X W b g) (hs : PlainIx b := by exact fun _ _ => rfl) : SE X W (.Subscript a b pos) (eOp ixF f g) := (pe_ix ix_D ha hb hs).weak tOp_of
def cutL {α : Type} (xs : List α) (lo hi : Option Int) : List α := (xs.drop (HT.sIx xs.length 0 lo)).take (HT.sIx xs.length xs.length hi - HT.sIx xs.length 0 lo)
def slF : D → Option Int → Option Int → Option D
  | .list ds, lo, hi => some (.list (cutL ds lo hi))
  | .tuple ds, lo, hi => some (.tuple (cutL ds lo hi))
  | .str z, lo, hi => if z.length ≤ sizeLine then some (.str (cutS z lo hi)) else none
  | _, _, _ => none
def optI (g : Option EF) (ρ : En) (k : Option Int → Rs) : Rs := match g with
  | none => k none
  | some g => (g ρ).bind fun d => match d with
    | .int i => k (some i)
    | _ => .bad
def eSl (f : EF) (lo hi : Option EF) : EF := fun ρ => (f ρ).bind fun x => optI lo ρ fun l => optI hi ρ fun h => Rs.of (slF x l h)
def tSO (K : PySem.W.Frag) (W : WX) : Option EF → TO
  | none => tNoPart
  | some g => tPart (tB K W g)
abbrev SO (X : Cx) (W : WX) (e : Option Expr) (g : Option EF) : Prop := PO X e (tSO X.K W g)
theorem so_none : SO X W none none := po_none
theorem so_some (h : SB X W a f) : SO X W (some a) (some f) := po_some h
theorem RpL.cut {K : PySem.W.Frag} {H : Hp} {L : Ad} {ds : List D} {vs : List V} (r : RpL K H L ds vs) (lo hi : Option Int) : RpL K H L (cutL ds lo hi) (cutV vs lo hi) := by
  unfold cutL cutV
  rw [r.length]
  exact (r.drop _).take _
theorem cutL_whole {α : Type} {xs : List α} {lo hi : Option Int} (h : HT.sIx xs.length 0 lo = 0 ∧ HT.sIx xs.length xs.length hi = xs.length) : cutL xs lo hi = xs := by
  unfold cutL
  rw [h.1, h.2, List.drop_zero, Nat.sub_zero, List.take_length]
theorem sl_D : L2.SlR X (fun x lo hi H Q => ∃ L dx d, LvOk X.K H L ∧ Rb X.K H L dx x ∧ slF dx lo hi = some d ∧ ∀ H' v, Same H H' → Rp X.K H' L d v → Q v H') := by
  intro pn s σ H x v vl vu lo hi sl Q I rx hs pl pu h
  obtain ⟨L, dx, d, lv, bx, hf, k⟩ := h
  unfold slF at hf
  split at hf
  · obtain ⟨p, vs, rfl, hp, r⟩ := bx.lstV
    cases hf
    exact sl_list pn s σ H _ v vl vu lo hi sl Q I rx hs pl pu ⟨p, vs, rfl, SqL.of hp, fun q hq => k _ _ (same_upd hq) (.lst upd_same (new_not lv hq) ((r.cut lo hi).mono (same_upd hq)))⟩
  · obtain ⟨p, vs, rfl, hp, r⟩ := bx.tupV
    cases hf
    refine sl_tupA pn s σ H _ v vl vu lo hi sl Q I rx hs pl pu ⟨p, vs, rfl, SqT.of hp, fun hw => ?_, fun _ q hq => k _ _ (same_upd hq) (.tup upd_same ((r.cut lo hi).mono (same_upd hq)))⟩
    rw [← r.length] at hw
    rw [cutL_whole hw] at k
    exact k H _ (Same.refl H) (.tup hp r)
  · obtain rfl := bx.strV
    split at hf
    · cases hf
      exact sl_str pn s σ H _ v vl vu lo hi sl Q I rx hs pl pu ⟨_, rfl, by assumption, k H _ (Same.refl H) (.str _)⟩
    · cases hf
  · cases hf
theorem Post.stepO {K : PySem.W.Frag} {L : Ad} {σ : St} {H : Hp} {ρ : En} {go : Option EF} {k : Option Int → Rs} {Q : VK} {R : Option Int → Hp → Prop} (re : RE K H L ρ σ) (h : Post K W L σ H (optI go ρ k) Q)
    (hk : ∀ o H1, Same H H1 → Post K W L σ H1 (k o) Q → R o H1) : tSO K W go σ H R := by
  cases go with
  | none => exact hk none H (Same.refl H) h
  | some g =>
    refine ⟨L, ρ, re, h.step fun d H1 v s1 r p1 => ?_⟩
    cases d with
    | int i => exact ⟨i, r.intV, hk (some i) H1 s1 p1⟩
    | _ => exact p1.elim
theorem se_sl {lo hi : Option Expr} {gl gh : Option EF} {p2 : Pos} (ha : SB X W a f) (hl : SO X W lo gl) (hh : SO X W hi gh) : SE X W (.Subscript a (.Slice lo hi none p2) pos) (eSl f gl gh) := (pe_slice sl_D ha hl hh).weak fun σ H Q ⟨L, ρ, re, p⟩ =>
  ⟨L, ρ, re, p.step fun dx H1 x s1 rx p1 => Post.stepO (re.mono s1) p1 fun l H2 s2 p2 => Post.stepO (re.mono (s1.trans s2)) p2 fun h H3 s3 p3 => by
    cases hd : slF dx l h with
    | none => rw [hd] at p3; exact p3.elim
    | some d => rw [hd] at p3; exact ⟨L, dx, d, re.lv.mono (s1.trans (s2.trans s3)), rx.mono (s2.trans s3), hd, p3⟩⟩
end
def intsOf : List D → Option (List Int)
  | [] => some []
  | .int i :: r => (intsOf r).map fun is => i :: is
  | _ => none
theorem intsOf_eq : ∀ {ds : List D} {ns : List Int}, intsOf ds = some ns → ds = ns.map PyData.int
  | [], ns, h => by cases h; rfl
  | d :: ds, ns, h => by
    cases d with
    | int i =>
      unfold intsOf at h
      obtain ⟨is, e, rfl⟩ := Option.map_eq_some_iff.mp h
      rw [intsOf_eq e]
      rfl
    | _ => cases h
@[simp] theorem intsOf_map (ns : List Int) : intsOf (ns.map PyData.int) = some ns := by
  induction ns with
  | nil => rfl
  | cons n ns ih => simp [intsOf, ih]
def minI : List Int → Int
  | [] => 0
  | [n] => n
  | n :: m :: r => let z := minI (m :: r); if z < n then z else n
def dLen : List (D × D) → Nat
  | (.none, .none) :: ps => ps.length
  | ps => ps.length
theorem dLen_dk {ps : List (D × D)} {kvs : List (Key × V)} (z : ps.map (·.1) = kvs.map (fun q => keyD q.1)) : dLen ps = ps.length := by
  unfold dLen
  split
  · cases kvs with
    | nil => simp at z
    | cons q r =>
      simp only [List.map_cons, List.cons.injEq] at z
      obtain ⟨z, _⟩ := z
      obtain ⟨qk, qv⟩ := q
      cases qk <;> cases z
  · rfl
def lenF : List D → Option D
  | [.list ds] => some (.int ds.length)
  | [.tuple ds] => some (.int ds.length)
  | [.str z] => if z.length ≤ sizeLine then some (.int z.length) else none
  | [.dict ps] => (match asRd (.dict ps) with
    | some ds => if isFd ps = true then none else some (.int ds.length)
    | none => some (.int (dLen ps)))
  | _ => none
def absF : List D → Option D
  | [.int i] => some (.int (if i < 0 then -i else i))
  | _ => none
def intF : List D → Option D
  | [.int i] => some (.int i)
  | [.bool b] => some (.int (if b then 1 else 0))
  | _ => none
def tupF : List D → Option D
  | [.list ds] => some (.tuple ds)
  | [.tuple ds] => some (.tuple ds)
  | _ => none
def sumF : List D → Option D
  | [.list ds] => (intsOf ds).map fun ns => .int ns.sum
  | [.tuple ds] => (intsOf ds).map fun ns => .int ns.sum
  | _ => none
def max2F : List D → Option D
  | [.int i, .int j] => some (.int (if j > i then j else i))
  | _ => none
def min2F : List D → Option D
  | [.int i, .int j] => some (.int (if j < i then j else i))
  | _ => none
def minF : List D → Option D
  | [.list ds] => (intsOf ds).bind fun ns => if ns = [] then none else some (.int (minI ns))
  | _ => none
section
variable {X : Cx}
theorem Rb.dictV {K : PySem.W.Frag} {H : Hp} {L : Ad} {ps : List (D × D)} {v : V} (h : Rb K H L (.dict ps) v) (e : asRd (.dict ps) = none) : ∃ a, v = .ref a ∧ Ow K H L (.dict ps) a := by
  rcases h with h | ⟨a, e1, h⟩
  · generalize hd : (PyData.dict ps) = dd at h e
    cases h with
    | rd h => unfold rdL at e; simp [asRd] at e
    | fz h _ r => unfold fzD at e; simp [asRd] at e
    | fd h _ r => unfold fdD at e; simp [asRd] at e
    | ob h _ _ r => unfold obD at e; simp [asRd] at e
    | dk h1 _ z r => exact ⟨_, rfl, .dk h1 z r⟩
    | dt h1 _ z r => exact ⟨_, rfl, .dt h1 z r⟩
    | _ => cases hd
  · exact ⟨a, e1, h⟩
theorem cl_max2 (hc : X.calm = true) : ClD X (.builtin "max") max2F := by
  intro pn s σ H xs us Q I rs h
  obtain ⟨L, ds, d, lv, rb, hf, k⟩ := h
  unfold max2F at hf
  split at hf
  · obtain ⟨v, w, rfl, r, r'⟩ := rb.two
    obtain rfl := r.intV
    obtain rfl := r'.intV
    cases hf
    exact call_max2 hc pn s σ H _ us Q I rs ⟨_, _, rfl, k H _ (Same.refl H) (.int _)⟩
  · cases hf
theorem cl_min2 (hc : X.calm = true) : ClD X (.builtin "min") min2F := by
  intro pn s σ H xs us Q I rs h
  obtain ⟨L, ds, d, lv, rb, hf, k⟩ := h
  unfold min2F at hf
  split at hf
  · obtain ⟨v, w, rfl, r, r'⟩ := rb.two
    obtain rfl := r.intV
    obtain rfl := r'.intV
    cases hf
    exact call_min2 hc pn s σ H _ us Q I rs ⟨_, _, rfl, k H _ (Same.refl H) (.int _)⟩
  · cases hf
theorem cl_tup : ClD X (.type "tuple") tupF := by
  intro pn s σ H xs us Q I rs h
  obtain ⟨L, ds, d, lv, rb, hf, k⟩ := h
  unfold tupF at hf
  split at hf
  · obtain ⟨v, rfl, r⟩ := rb.one
    obtain ⟨a, vs, rfl, ha, rl⟩ := r.lstV
    cases hf
    exact call_tuple_of pn s σ H _ us Q I rs ⟨a, vs, rfl, .inl ⟨SqL.of ha, fun p hp => k _ _ (same_upd hp) (.tup upd_same (rl.mono (same_upd hp)))⟩⟩
  · obtain ⟨v, rfl, r⟩ := rb.one
    obtain ⟨a, vs, rfl, ha, rl⟩ := r.tupV
    cases hf
    exact call_tuple_of pn s σ H _ us Q I rs ⟨a, vs, rfl, .inr ⟨SqT.of ha, k H _ (Same.refl H) (.tup ha rl)⟩⟩
  · cases hf
theorem cl_len : ClD X (.builtin "len") lenF := by
  intro pn s σ H xs us Q I rs h
  obtain ⟨L, ds, d, lv, rb, hf, k⟩ := h
  unfold lenF at hf
  split at hf
  · obtain ⟨v, rfl, r⟩ := rb.one
    obtain ⟨a, vs, rfl, ha, rl⟩ := r.lstV
    cases hf
    rw [rl.length] at k
    exact call_len pn s σ H _ us Q I rs ⟨_, _, rfl, .inl ⟨vs, SqL.of ha, rfl⟩, k H _ (Same.refl H) (.int _)⟩
  · obtain ⟨v, rfl, r⟩ := rb.one
    obtain ⟨a, vs, rfl, ha, rl⟩ := r.tupV
    cases hf
    rw [rl.length] at k
    exact call_len pn s σ H _ us Q I rs ⟨_, _, rfl, .inr ⟨vs, SqT.of ha, rfl⟩, k H _ (Same.refl H) (.int _)⟩
  · obtain ⟨v, rfl, r⟩ := rb.one
    obtain rfl := r.strV
    split at hf
    · cases hf
      exact call_len pn s σ H _ us Q I rs ⟨_, _, rfl, ⟨by assumption, rfl⟩, k H _ (Same.refl H) (.int _)⟩
    · cases hf
  · obtain ⟨v, rfl, r⟩ := rb.one
    split at hf
    · rename_i e
      rcases asRd_split e with rfl | rfl | ⟨_, fd⟩
      rotate_right
      · rw [if_pos fd] at hf
        cases hf
      · obtain ⟨a, ns, rfl, ha, rfl⟩ := r.rdV
        cases hf
        have e2 : ((ns.map PyData.int).length : Int) = ((ns.map V.int).length : Int) := by simp
        rw [e2] at k
        exact call_len pn s σ H _ us Q I rs ⟨_, _, rfl, .inl ⟨_, ha, rfl⟩, k H _ (Same.refl H) (.int _)⟩
      · obtain ⟨a, o, vs, rfl, ha, _, rl⟩ := Rb.fzV r
        cases hf
        rw [rl.length] at k
        exact call_len pn s σ H _ us Q I rs ⟨_, _, rfl, .inr ⟨vs, SqT.ofF ha, rfl⟩, k H _ (Same.refl H) (.int _)⟩
    · rename_i e
      obtain ⟨a, rfl, ow⟩ := r.dictV e
      cases hf
      obtain ⟨u, rfl, ru⟩ := vals1 rs
      cases ru
      cases ow with
      | dk h1 z rl =>
        have e2 := congrArg List.length z
        rw [List.length_map, List.length_map] at e2
        rw [dLen_dk z, e2] at k
        exact d_len I (.inl h1) fun t s' I' => ⟨.int _, H, I', ⟨t, rfl⟩, k H _ (Same.refl H) (.int _)⟩
      | dt h1 z rl =>
        have e2 := congrArg List.length z
        rw [List.length_map, List.length_map] at e2
        simp only [dLen] at k
        rw [e2] at k
        exact call_len_dT pn s σ H [.ref a] [.ref a] Q I (.cons rfl .nil) ⟨a, _, rfl, h1, k H _ (Same.refl H) (.int _)⟩
      | ob _ _ _ => cases e
  · cases hf
theorem preSum_take (ns : List Int) : ∀ k : Nat, k ≤ ns.length → preSum (fun i => ns.getD i 0) k = (ns.take k).sum
  | 0, _ => by simp [preSum]
  | k + 1, hk => by
    have hlt : k < ns.length := hk
    have tk : ns.take (k + 1) = ns.take k ++ [ns.getD k 0] := by
      rw [List.take_add_one, List.getElem?_eq_getElem hlt, List.getD_eq_getElem?_getD, List.getElem?_eq_getElem hlt]
      simp
    rw [tk, List.sum_append, ← preSum_take ns k (by omega)]
    simp [preSum]
theorem sum_tuple {prog : Program} {w : World} {A : Around} {E : Value → Shared → Prop} {s : Shared} {l : Addr} {its : List Value} {ns : List Int} {Q : Value → Shared → Prop} (hh : A.handled = none) (hl : s.heap.IsTuple l its.toArray) (hi : IntsAre its ns)
    (hq : ∀ hp tk t, (∀ b o, s.heap.get? b = some o → hp.get? b = some o) → Q (.int ns.sum t) { s with heap := hp, toks := tk }) : wpAny (model prog w) A (call (.builtin "sum") [.ref l]) Q E s := by
  have below : l < s.heap.objs.size := let ⟨_, ho, _⟩ := hl; Heap.lt_size ho
  have size : its.toArray.size = ns.length := by rw [List.size_toArray]; exact hi.length
  refine call_sum_walkG (wpAny_pyIter_tuple hl ⟨_, _, _, _, _, _, fun i => ns.getD i 0, rfl, Walks.tuple (A := A.in1) hh _ l (Nat.ne_of_lt below) its.toArray, ⟨⟨_, Heap.get?_push_size _ rfl, rfl, rfl⟩, hl.push _⟩, fun b hb => ?_, fun i v hv => ?_, fun hp tk t keep => ?_⟩)
  · have two : b = s.heap.objs.size ∨ b = l := by simpa using hb
    have grown : (s.heap.push { cls := .type "tuple_iterator", data := .fields #[.ref l, .int 0 0] }).objs.size = s.heap.objs.size + 1 := Heap.size_push ..
    show b < (s.heap.push { cls := .type "tuple_iterator", data := .fields #[.ref l, .int 0 0] }).objs.size
    rw [grown]
    rcases two with z | z
    · rw [z]; exact Nat.lt_succ_self _
    · rw [z]; exact Nat.lt_succ_of_lt below
  · exact PyProof.Rows.IntsAre.int_at hi i v (by simpa using hv)
  · rw [size, preSum_take ns _ (Nat.le_refl _), List.take_length]
    refine hq hp tk t fun b o ho => keep b o (fun z => ?_) (Heap.get?_push_of_some _ ho)
    have eb : b = s.heap.objs.size := by simpa using z
    have lb := Heap.lt_size ho
    rw [eb] at lb
    exact Nat.lt_irrefl _ lb
theorem cl_sum (hc : X.calm = true) : ClD X (.builtin "sum") sumF := by
  intro pn s σ H xs us Q I rs h
  obtain ⟨L, ds, d, lv, rb, hf, k⟩ := h
  unfold sumF at hf
  split at hf
  · obtain ⟨v, rfl, r⟩ := rb.one
    obtain ⟨a, vs, rfl, ha, rl⟩ := r.lstV
    obtain ⟨ns, e, rfl⟩ := Option.map_eq_some_iff.mp hf
    have ed := intsOf_eq e
    subst ed
    have ev := rl.ints
    subst ev
    exact cr_sum hc pn s σ H _ us Q I rs ⟨a, ns, rfl, SqL.of ha, k H _ (Same.refl H) (.int _)⟩
  · obtain ⟨v, rfl, r⟩ := rb.one
    obtain ⟨a, vs, rfl, ha, rl⟩ := r.tupV
    obtain ⟨ns, e, rfl⟩ := Option.map_eq_some_iff.mp hf
    have ed := intsOf_eq e
    subst ed
    have ev := rl.ints
    subst ev
    obtain ⟨u, rfl, ru⟩ := vals1 rs
    cases ru
    obtain ⟨its, rv, pl, hz⟩ := I.tuple (SqT.of ha)
    exact sum_tuple (I.ok.hd hc) pl (Vals.ints rv) fun h' tk t' kp => ⟨.int _, H, I.kept kp, ⟨t', rfl⟩, k H _ (Same.refl H) (.int _)⟩
  · cases hf
def tyN : D → Option String
  | .none => some "NoneType"
  | .bool _ => some "bool"
  | .int _ => some "int"
  | .str _ => some "str"
  | .list _ => some "list"
  | .tuple _ => some "tuple"
  | .dict ps => if (asFz (.dict ps)).isSome then some "tuple" else none
def isInt : D → Bool
  | .int _ => true
  | .bool _ => true
  | _ => false
def isBool : D → Bool
  | .bool _ => true
  | _ => false
def isTup : D → Bool
  | .tuple _ => true
  | .dict ps => (asFz (.dict ps)).isSome
  | _ => false
def isLst : D → Bool
  | .list _ => true
  | _ => false
def isStr : D → Bool
  | .str _ => true
  | _ => false
def eIsi (g : D → Bool) (f : EF) : EF := fun ρ => (f ρ).bind fun d => match d with
  | .dict ps => if (asFz (.dict ps)).isSome then .ok (.bool (g (.dict ps))) else .bad
  | d => .ok (.bool (g d))
theorem tyN_dict {ps : List (D × D)} {t : String} (h : tyN (.dict ps) = some t) : t = "tuple" ∧ (asFz (.dict ps)).isSome = true := by
  unfold tyN at h
  dsimp only at h
  split at h
  · rename_i hz
    cases h
    exact ⟨rfl, hz⟩
  · cases h
theorem kit_int (d : D) (t : String) (h : tyN d = some t) : kitB t "int" = some (isInt d) := by
  cases d with
  | dict ps =>
    obtain ⟨h1, h2⟩ := tyN_dict h
    subst h1
    show kitB "tuple" "int" = some false
    decide +kernel
  | _ => cases h <;> first | rfl | decide +kernel
theorem kit_bool (d : D) (t : String) (h : tyN d = some t) : kitB t "bool" = some (isBool d) := by
  cases d with
  | dict ps =>
    obtain ⟨h1, h2⟩ := tyN_dict h
    subst h1
    show kitB "tuple" "bool" = some false
    decide +kernel
  | _ => cases h <;> first | rfl | decide +kernel
theorem kit_tup (d : D) (t : String) (h : tyN d = some t) : kitB t "tuple" = some (isTup d) := by
  cases d with
  | dict ps =>
    obtain ⟨h1, h2⟩ := tyN_dict h
    subst h1
    rw [show isTup (.dict ps) = true from h2]
    decide +kernel
  | _ => cases h <;> first | rfl | decide +kernel
theorem kit_lst (d : D) (t : String) (h : tyN d = some t) : kitB t "list" = some (isLst d) := by
  cases d with
  | dict ps =>
    obtain ⟨h1, h2⟩ := tyN_dict h
    subst h1
    show kitB "tuple" "list" = some false
    decide +kernel
  | _ => cases h <;> first | rfl | decide +kernel
theorem kit_str (d : D) (t : String) (h : tyN d = some t) : kitB t "str" = some (isStr d) := by
  cases d with
  | dict ps =>
    obtain ⟨h1, h2⟩ := tyN_dict h
    subst h1
    show kitB "tuple" "str" = some false
    decide +kernel
  | _ => cases h <;> first | rfl | decide +kernel
theorem Rb.ty {K : PySem.W.Frag} {H : Hp} {L : Ad} {d : D} {v : V} {t : String} (h : Rb K H L d v) (e : tyN d = some t) : TyX K H v (.type t) := by
  cases d with
  | none => obtain rfl := h.nonV; cases e; exact .base .non
  | bool b => obtain rfl := h.blV; cases e; exact .base (.bl b)
  | int i => obtain rfl := h.intV; cases e; exact .base (.int i)
  | str x => obtain rfl := h.strV; cases e; exact .base (.str x)
  | list ds => obtain ⟨a, vs, rfl, ha, r⟩ := h.lstV; cases e; exact .base (.lst ha)
  | tuple ds => obtain ⟨a, vs, rfl, ha, r⟩ := h.tupV; cases e; exact .base (.tup ha)
  | dict ps =>
    obtain ⟨h1, h2⟩ := tyN_dict e
    subst h1
    obtain ⟨ds, hds⟩ := Option.isSome_iff_exists.mp h2
    rw [asFz_eq hds] at h
    obtain ⟨a, o, vs, rfl, ha, _, r⟩ := h.fzV
    exact .fTuple ha
theorem se_isi {W : WX} {a : Expr} {f : EF} {T : String} {x : Str} {g : D → Bool} {p p2 pos : Pos} (hT : ∀ d t, tyN d = some t → kitB t T = some (g d)) (hm : X.mg "isinstance" = none) (hmT : X.mg x = none) (ha : SB X W a f)
    (hg : Gl X "isinstance" := by rfl) (hgT : Gl X x := by rfl) (hv : bootBuiltins "isinstance" = some (.builtin "isinstance") := by decide +kernel) (hvT : bootBuiltins x = some (.type T) := by decide +kernel)
    (hn : x ≠ "__name__" := by decide) (hd : (x == ("__debug__" : Str)) = false := by decide)
    (he : starEach (a :: [Expr.Name x p2]) X.env = (false, eval a X.env) :: starEach [Expr.Name x p2] X.env := by rfl) (he2 : starEach (Expr.Name x p2 :: []) X.env = (false, eval (Expr.Name x p2) X.env) :: starEach [] X.env := by rfl) (hpl : (backTo pos (starEach [Expr.Name x p2] X.env)).any (·.1) = false := by rfl) :
    SE X W (.Call (.Name "isinstance" p) [a, .Name x p2] [] pos) (eIsi g f) :=
  (pe_callB call_isi hg hm hv (pa_cons ha (pa_cons (pe_bltn (v := .ty T) hgT hmT hvT rfl hn hd) pa_nil he2) he) (by decide) (by decide) he hpl).weak fun σ H Q ⟨L, ρ, re, pp⟩ =>
    ⟨L, ρ, re, pp.step fun d H1 v s1 r p1 => by
      cases e : tyN d with
      | none =>
        cases d with
        | dict ps =>
          have hn : ¬ (asFz (.dict ps)).isSome = true := fun z => by
            unfold tyN at e
            dsimp only at e
            rw [if_pos z] at e
            cases e
          dsimp only at p1
          rw [if_neg hn] at p1
          exact p1.elim
        | _ => cases e
      | some t =>
        refine ⟨v, .ty T, .type t, .type T, g d, rfl, .ty T, r.ty e, kit_ty (hT d t e), ?_⟩
        cases d with
        | dict ps =>
          dsimp only at p1
          rw [if_pos (tyN_dict e).2] at p1
          exact p1 H1 _ (Same.refl H1) (.bl _)
        | _ => exact p1 H1 _ (Same.refl H1) (.bl _)⟩
end
end VV
namespace VV
open PySem PySem.Spec L2
open PyProof.Rows hiding St
section
variable {K : PySem.W.Frag} {H H' : Hp} {L L' : Ad} {d : D} {v : V}
theorem Rb.lives (s : ∀ a, L' a → L a ∨ H a = none) (h : Rb K H L d v) : Rb K H L' d v := by
  rcases h with h | ⟨a, e, h⟩
  · exact .inl (h.lives s)
  · exact .inr ⟨a, e, h.lives s⟩
theorem SlR.lives {x : Sl} {o : Option V} (s : ∀ a, L' a → L a ∨ H a = none) (h : SlR K H L x o) : SlR K H L' x o := by
  cases x with
  | val d => obtain ⟨v, e, r⟩ := h; exact ⟨v, e, r.lives s⟩
  | own d => obtain ⟨a, e, r⟩ := h; exact ⟨a, e, r.lives s⟩
  | grid rows => obtain ⟨a, bs, e, r⟩ := h; exact ⟨a, bs, e, r.lives s⟩
  | pin a => exact h
  | ownP d => obtain ⟨a, e, r⟩ := h; exact ⟨a, e, r.lives s⟩
theorem RE.lives {ρ : En} {σ : St} (s : ∀ a, L' a → L a ∨ H a = none) (lv : LvOk K H L') (h : RE K H L ρ σ) : RE K H L' ρ σ :=
  ⟨lv, h.len, fun i x e => let ⟨o, e1, r⟩ := h.sl i x e; ⟨o, e1, r.lives s⟩⟩
end
structure ItB (K : PySem.W.Frag) (ds : List D) (J : It) (S : Hp → Ad → Prop) : Prop where
  go : ∀ i H L, S H L → i < ds.length → J.go i H
  stop : ∀ i H L, S H L → ds.length ≤ i → J.stop i H
  yld : ∀ i H L x H', S H L → J.yld i H x H' → Same H H' ∧ ∀ d, ds[i]? = some d → Rp K H' L d x
  keep : ∀ H L H' L', S H L → Same H H' → (∀ a, L' a → L a ∨ H a = none) → S H' L'
structure ItS (K : PySem.W.Frag) (ds : List D) (J : It) (S : Hp → Ad → Prop) : Prop extends ItB K ds J S where
  evo : ∀ H L H' L', S H L → (∀ d v, Rp K H L d v → Rp K H' L' d v) → S H' L'
def PostI (K : PySem.W.Frag) (W : WX) (L : Ad) (σ : St) (H : Hp) (r : RL) (R : It → Hp → Prop) : Prop := match r with
  | .ok ds => ∀ (J : It) (S : Hp → Ad → Prop) (H' : Hp), Same H H' → ItB K ds J S → S H' L → R J H'
  | .exc c fs => ∀ (H' : Hp) (x : Option Addr), Same H H' → XR K H' L fs x → W (.ref (He.ga K c)) x σ H'
  | .bad => False
def PostIS (K : PySem.W.Frag) (W : WX) (L : Ad) (σ : St) (H : Hp) (r : RL) (R : It → Hp → Prop) : Prop := match r with
  | .ok ds => ∀ (J : It) (S : Hp → Ad → Prop) (H' : Hp), Same H H' → ItS K ds J S → S H' L → R J H'
  | .exc c fs => ∀ (H' : Hp) (x : Option Addr), Same H H' → XR K H' L fs x → W (.ref (He.ga K c)) x σ H'
  | .bad => False
abbrev IF := En → RL
def tI (K : PySem.W.Frag) (W : WX) (f : IF) : TI := fun σ H R => ∃ L ρ, RE K H L ρ σ ∧ PostI K W L σ H (f ρ) R
def tIS (K : PySem.W.Frag) (W : WX) (f : IF) : TI := fun σ H R => ∃ L ρ, RE K H L ρ σ ∧ PostIS K W L σ H (f ρ) R
abbrev SI (X : Cx) (W : WX) (tg e : Expr) (f : IF) : Prop := PI X tg e (tI X.K W f)
abbrev SIS (X : Cx) (W : WX) (tg e : Expr) (f : IF) : Prop := PI X tg e (tIS X.K W f)
def Rs.items (r : Rs) (fn : D → Option (List D)) : RL := match r with
  | .ok d => (match fn d with
    | some ds => .ok ds
    | none => .bad)
  | .exc c fs => .exc c fs
  | .bad => .bad
def itF : D → Option (List D)
  | .list ds => some ds
  | .tuple ds => some ds
  | .str z => some (z.cps.toList.map fun c => .str ⟨#[c]⟩)
  | .dict ps => asFz (.dict ps)
  | _ => none
def iSeq (f : EF) : IF := fun ρ => (f ρ).items itF
section
variable {X : Cx} {W : WX} {tg e a b c : Expr} {f g h : EF} {pos p : Pos}
theorem _root_.L2.PI.weak {t t' : TI} (h : PI X tg e t) (hw : ∀ σ H Q, t' σ H Q → t σ H Q) : PI X tg e t' := ⟨fun pn s σ H Q I q => h.run pn s σ H Q I (hw σ H Q q)⟩
theorem itb_list {K : PySem.W.Frag} {ds : List D} {a : Addr} : ItB K ds (Itl K a) (fun H L => ∃ vs, H a = some (.lst vs) ∧ RpL K H L ds vs) where
  go := fun i H L ⟨vs, ha, r⟩ hi => by
    rw [r.length] at hi
    exact ⟨vs, vs[i], SqL.of ha, by simp [hi]⟩
  stop := fun i H L ⟨vs, ha, r⟩ hi => ⟨vs, SqL.of ha, by rw [← r.length]; exact hi⟩
  yld := fun i H L x H' ⟨vs, ha, r⟩ ⟨e, y⟩ => by
    subst e
    refine ⟨Same.refl _, fun d hd => ?_⟩
    obtain ⟨v, e1, rv⟩ := r.get hd
    rw [y vs (SqL.of ha)] at e1
    cases e1
    exact rv
  keep := fun H L H' L' ⟨vs, ha, r⟩ s l => ⟨vs, s _ _ ha, (r.lives l).mono s⟩
theorem itb_tup {K : PySem.W.Frag} {ds : List D} {a : Addr} : ItB K ds (Itt K a) (fun H L => ∃ vs, H a = some (.tup vs) ∧ RpL K H L ds vs) where
  go := fun i H L ⟨vs, ha, r⟩ hi => by
    rw [r.length] at hi
    exact ⟨vs, vs[i], SqT.of ha, by simp [hi]⟩
  stop := fun i H L ⟨vs, ha, r⟩ hi => ⟨vs, SqT.of ha, by rw [← r.length]; exact hi⟩
  yld := fun i H L x H' ⟨vs, ha, r⟩ ⟨e, y⟩ => by
    subst e
    refine ⟨Same.refl _, fun d hd => ?_⟩
    obtain ⟨v, e1, rv⟩ := r.get hd
    rw [y vs (SqT.of ha)] at e1
    cases e1
    exact rv
  keep := fun H L H' L' ⟨vs, ha, r⟩ s l => ⟨vs, s _ _ ha, (r.lives l).mono s⟩
theorem itb_fz {K : PySem.W.Frag} {ds : List D} {a : Addr} : ItB K ds (Itt K a) (fun H L => Rp K H L (fzD ds) (.ref a)) where
  go := fun i H L q hi => by
    obtain ⟨_, o, vs, e, ha, _, r⟩ := q.rb.fzV
    cases e
    rw [r.length] at hi
    exact ⟨vs, vs[i], SqT.ofF ha, by simp [hi]⟩
  stop := fun i H L q hi => by
    obtain ⟨_, o, vs, e, ha, _, r⟩ := q.rb.fzV
    cases e
    exact ⟨vs, SqT.ofF ha, by rw [← r.length]; exact hi⟩
  yld := fun i H L x H' q ⟨e, y⟩ => by
    obtain ⟨_, o, vs, e2, ha, _, r⟩ := q.rb.fzV
    cases e2
    subst e
    refine ⟨Same.refl _, fun d hd => ?_⟩
    obtain ⟨v, e1, rv⟩ := r.get hd
    rw [y vs (SqT.ofF ha)] at e1
    cases e1
    exact rv
  keep := fun H L H' L' q s l => (q.lives l).mono s
theorem Rb.fzR {K : PySem.W.Frag} {H : Hp} {L : Ad} {ds : List D} {v : V} (h : Rb K H L (fzD ds) v) : Rp K H L (fzD ds) v := by
  obtain ⟨a, o, vs, rfl, ha, e, r⟩ := h.fzV
  exact .fz ha e r
theorem itb_str {K : PySem.W.Frag} {z : Str} : ItB K (z.cps.toList.map fun c => PyData.str ⟨#[c]⟩) (Its z) (fun _ _ => True) where
  go := fun i H L _ hi => show i < z.cps.size by simpa using hi
  stop := fun i H L _ hi => show z.cps.size ≤ i by simpa using hi
  yld := fun i H L x H' _ ⟨e, c, e1, e2⟩ => by
    subst e
    refine ⟨Same.refl _, fun d hd => ?_⟩
    rw [List.getElem?_map, Array.getElem?_toList, e1] at hd
    cases hd
    subst e2
    exact .str _
  keep := fun H L H' L' _ s l => trivial
theorem si_seq (ha : SB X W e f) : SI X W tg e (iSeq f) := ⟨fun pn s σ H R I ⟨L, ρ, re, p⟩ => by
  unfold iSeq Rs.items at p
  match hf : f ρ with
  | .bad => rw [hf] at p; exact p.elim
  | .exc c fs =>
    rw [hf] at p
    refine (pi_list ha).run pn s σ H R I ⟨L, ρ, re, ?_⟩
    rw [hf]
    exact p
  | .ok (.list ds) =>
    rw [hf] at p
    refine (pi_list ha).run pn s σ H R I ⟨L, ρ, re, ?_⟩
    rw [hf]
    intro H1 v s1 r
    obtain ⟨b, vs, ev, hb, rl⟩ := r.lstV
    exact ⟨b, ev, ⟨vs, SqL.of hb⟩, p _ _ H1 s1 itb_list ⟨vs, hb, rl⟩⟩
  | .ok (.tuple ds) =>
    rw [hf] at p
    refine (pi_tup ha).run pn s σ H R I ⟨L, ρ, re, ?_⟩
    rw [hf]
    intro H1 v s1 r
    obtain ⟨b, vs, ev, hb, rl⟩ := r.tupV
    exact ⟨b, ev, ⟨vs, SqT.of hb⟩, p _ _ H1 s1 itb_tup ⟨vs, hb, rl⟩⟩
  | .ok (.str z) =>
    rw [hf] at p
    refine (pi_str ha).run pn s σ H R I ⟨L, ρ, re, ?_⟩
    rw [hf]
    exact fun H1 v s1 r => ⟨z, r.strV, p _ _ H1 s1 itb_str trivial⟩
  | .ok .none => rw [hf] at p; exact p.elim
  | .ok (.bool _) => rw [hf] at p; exact p.elim
  | .ok (.int _) => rw [hf] at p; exact p.elim
  | .ok (.dict ps) =>
    rw [hf] at p
    cases hz : asFz (.dict ps) with
    | none => simp only [itF, hz] at p; exact p.elim
    | some ds =>
      simp only [itF, hz] at p
      refine (pi_tup ha).run pn s σ H R I ⟨L, ρ, re, ?_⟩
      rw [hf]
      intro H1 v s1 r
      rw [asFz_eq hz] at r
      have rr := r.fzR
      obtain ⟨b, o, vs, ev, hb, _, rl⟩ := r.fzV
      subst ev
      exact ⟨b, rfl, ⟨vs, SqT.ofF hb⟩, p _ _ H1 s1 itb_fz rr⟩⟩
theorem its_lst {K : PySem.W.Frag} {ds : List D} {a : Addr} : ItS K ds (Itl K a) (fun H L => Rp K H L (.list ds) (.ref a)) := by
  have un : ∀ {H : Hp} {L : Ad}, Rp K H L (.list ds) (.ref a) → ∃ vs, H a = some (.lst vs) ∧ RpL K H L ds vs := fun r => by
    cases r with
    | lst h n rl => exact ⟨_, h, rl⟩
  exact ⟨⟨fun i H L q => itb_list.go i H L (un q), fun i H L q => itb_list.stop i H L (un q), fun i H L x H' q => itb_list.yld i H L x H' (un q), fun H L H' L' q sm l => (q.lives l).mono sm⟩, fun H L H' L' q ev => ev _ _ q⟩
theorem its_tup {K : PySem.W.Frag} {ds : List D} {a : Addr} : ItS K ds (Itt K a) (fun H L => Rp K H L (.tuple ds) (.ref a)) := by
  have un : ∀ {H : Hp} {L : Ad}, Rp K H L (.tuple ds) (.ref a) → ∃ vs, H a = some (.tup vs) ∧ RpL K H L ds vs := fun r => by
    cases r with
    | tup h rl => exact ⟨_, h, rl⟩
  exact ⟨⟨fun i H L q => itb_tup.go i H L (un q), fun i H L q => itb_tup.stop i H L (un q), fun i H L x H' q => itb_tup.yld i H L x H' (un q), fun H L H' L' q sm l => (q.lives l).mono sm⟩, fun H L H' L' q ev => ev _ _ q⟩
theorem sis_seq (ha : SE X W e f) : SIS X W tg e (iSeq f) := ⟨fun pn s σ H R I ⟨L, ρ, re, p⟩ => by
  unfold iSeq Rs.items at p
  match hf : f ρ with
  | .bad => rw [hf] at p; exact p.elim
  | .exc c fs =>
    rw [hf] at p
    refine (pi_list ha).run pn s σ H R I ⟨L, ρ, re, ?_⟩
    rw [hf]
    exact p
  | .ok (.list ds) =>
    rw [hf] at p
    refine (pi_list ha).run pn s σ H R I ⟨L, ρ, re, ?_⟩
    rw [hf]
    intro H1 v s1 r
    obtain ⟨b, vs, ev, hb, _⟩ := r.rb.lstV
    subst ev
    exact ⟨b, rfl, ⟨vs, SqL.of hb⟩, p _ _ H1 s1 its_lst r⟩
  | .ok (.tuple ds) =>
    rw [hf] at p
    refine (pi_tup ha).run pn s σ H R I ⟨L, ρ, re, ?_⟩
    rw [hf]
    intro H1 v s1 r
    obtain ⟨b, vs, ev, hb, _⟩ := r.tupV
    subst ev
    exact ⟨b, rfl, ⟨vs, SqT.of hb⟩, p _ _ H1 s1 its_tup r⟩
  | .ok (.str z) =>
    rw [hf] at p
    refine (pi_str ha).run pn s σ H R I ⟨L, ρ, re, ?_⟩
    rw [hf]
    exact fun H1 v s1 r => ⟨z, r.strV, p _ _ H1 s1 ⟨itb_str, fun _ _ _ _ _ _ => trivial⟩ trivial⟩
  | .ok .none => rw [hf] at p; exact p.elim
  | .ok (.bool _) => rw [hf] at p; exact p.elim
  | .ok (.int _) => rw [hf] at p; exact p.elim
  | .ok (.dict ps) =>
    rw [hf] at p
    cases hz : asFz (.dict ps) with
    | none => simp only [itF, hz] at p; exact p.elim
    | some ds =>
      simp only [itF, hz] at p
      refine (pi_tup ha).run pn s σ H R I ⟨L, ρ, re, ?_⟩
      rw [hf]
      intro H1 v s1 r
      rw [asFz_eq hz] at r
      obtain ⟨b, o, vs, ev, hb, _, _⟩ := r.rb.fzV
      subst ev
      exact ⟨b, rfl, ⟨vs, SqT.ofF hb⟩, p _ _ H1 s1 ⟨itb_fz, fun H L H' L' q ev => ev _ _ q⟩ r⟩⟩
def rangeD (lo : Int) (n : Nat) : List D := (List.range n).map fun (i : Nat) => PyData.int (lo + (i : Int))
def smallI (i : Int) : Bool := decide (-(2 ^ 62) ≤ i) && decide (i < 2 ^ 62)
def rng1 : List D → Option (List D)
  | [.int j] => if smallI j = true then some (rangeD 0 j.toNat) else none
  | _ => none
def rng2 : List D → Option (List D)
  | [.int i, .int j] => if (smallI i && smallI j) = true then some (rangeD i (j - i).toNat) else none
  | _ => none
def RL.items (r : RL) (fn : List D → Option (List D)) : RL := match r with
  | .ok d => (match fn d with
    | some ds => .ok ds
    | none => .bad)
  | .exc c fs => .exc c fs
  | .bad => .bad
def iRange1 (fs : List EF) : IF := fun ρ => (evA fs ρ).items rng1
def iRange2 (fs : List EF) : IF := fun ρ => (evA fs ρ).items rng2
theorem its_range {K : PySem.W.Frag} {lo : Int} {n : Nat} : ItS K (rangeD lo n) (Itr lo n) (fun _ _ => True) where
  go := fun i H L _ hi => show i < n by simpa [rangeD] using hi
  stop := fun i H L _ hi => show n ≤ i by simpa [rangeD] using hi
  yld := fun i H L x H' _ ⟨e, e2⟩ => by
    subst e e2
    refine ⟨Same.refl _, fun d hd => ?_⟩
    unfold rangeD at hd
    rw [List.getElem?_map] at hd
    by_cases hi : i < n
    · rw [List.getElem?_range hi] at hd
      cases hd
      exact .int _
    · rw [List.getElem?_eq_none (by simpa using hi)] at hd
      cases hd
  keep := fun H L H' L' _ s l => trivial
  evo := fun H L H' L' _ ev => trivial
theorem rng1_eq {ds es : List D} (h : rng1 ds = some es) : ∃ j : Int, ds = [.int j] ∧ -(2 ^ 62) ≤ j ∧ j < 2 ^ 62 ∧ es = rangeD 0 j.toNat := by
  unfold rng1 at h
  split at h
  · split at h
    · cases h
      rename_i hz
      simp only [smallI, Bool.and_eq_true, decide_eq_true_eq] at hz
      exact ⟨_, rfl, hz.1, hz.2, rfl⟩
    · cases h
  · cases h
theorem rng2_eq {ds es : List D} (h : rng2 ds = some es) : ∃ i j : Int, ds = [.int i, .int j] ∧ (-(2 ^ 62) ≤ i ∧ i < 2 ^ 62 ∧ -(2 ^ 62) ≤ j ∧ j < 2 ^ 62) ∧ es = rangeD i (j - i).toNat := by
  unfold rng2 at h
  split at h
  · split at h
    · cases h
      rename_i hz
      simp only [smallI, Bool.and_eq_true, decide_eq_true_eq] at hz
      exact ⟨_, _, rfl, ⟨hz.1.1, hz.1.2, hz.2.1, hz.2.2⟩, rfl⟩
    · cases h
  · cases h
theorem tI_range1 {K : PySem.W.Frag} {fs : List EF} : ∀ σ H R, tI K W (iRange1 fs) σ H R → iRng1 (tBA K W fs) σ H R := fun σ H R ⟨L, ρ, re, p⟩ => by
  refine ⟨L, ρ, re, ?_⟩
  unfold iRange1 RL.items at p
  cases hf : evA fs ρ with
  | bad => rw [hf] at p; exact p
  | exc c fs => rw [hf] at p; exact p
  | ok ds =>
    rw [hf] at p
    intro H1 vs s1 r
    cases hq : rng1 ds with
    | none => simp only [hq] at p; exact p.elim
    | some es =>
      simp only [hq] at p
      obtain ⟨j, rfl, h1, h2, rfl⟩ := rng1_eq hq
      obtain ⟨v, rfl, rv⟩ := r.one
      obtain rfl := rv.intV
      exact ⟨_, rfl, h1, h2, p _ _ H1 s1 its_range.toItB trivial⟩
theorem tI_range2 {K : PySem.W.Frag} {fs : List EF} : ∀ σ H R, tI K W (iRange2 fs) σ H R → iRng2 (tBA K W fs) σ H R := fun σ H R ⟨L, ρ, re, p⟩ => by
  refine ⟨L, ρ, re, ?_⟩
  unfold iRange2 RL.items at p
  cases hf : evA fs ρ with
  | bad => rw [hf] at p; exact p
  | exc c fs => rw [hf] at p; exact p
  | ok ds =>
    rw [hf] at p
    intro H1 vs s1 r
    cases hq : rng2 ds with
    | none => simp only [hq] at p; exact p.elim
    | some es =>
      simp only [hq] at p
      obtain ⟨i, j, rfl, h1, rfl⟩ := rng2_eq hq
      obtain ⟨v, w, rfl, rv, rw'⟩ := r.two
      obtain rfl := rv.intV
      obtain rfl := rw'.intV
      exact ⟨_, _, rfl, h1, p _ _ H1 s1 its_range.toItB trivial⟩
theorem tIS_range1 {K : PySem.W.Frag} {fs : List EF} : ∀ σ H R, tIS K W (iRange1 fs) σ H R → iRng1 (tBA K W fs) σ H R := fun σ H R ⟨L, ρ, re, p⟩ => by
  refine ⟨L, ρ, re, ?_⟩
  unfold iRange1 RL.items at p
  cases hf : evA fs ρ with
  | bad => rw [hf] at p; exact p
  | exc c fs => rw [hf] at p; exact p
  | ok ds =>
    rw [hf] at p
    intro H1 vs s1 r
    cases hq : rng1 ds with
    | none => simp only [hq] at p; exact p.elim
    | some es =>
      simp only [hq] at p
      obtain ⟨j, rfl, h1, h2, rfl⟩ := rng1_eq hq
      obtain ⟨v, rfl, rv⟩ := r.one
      obtain rfl := rv.intV
      exact ⟨_, rfl, h1, h2, p _ _ H1 s1 its_range trivial⟩
theorem tIS_range2 {K : PySem.W.Frag} {fs : List EF} : ∀ σ H R, tIS K W (iRange2 fs) σ H R → iRng2 (tBA K W fs) σ H R := fun σ H R ⟨L, ρ, re, p⟩ => by
  refine ⟨L, ρ, re, ?_⟩
  unfold iRange2 RL.items at p
  cases hf : evA fs ρ with
  | bad => rw [hf] at p; exact p
  | exc c fs => rw [hf] at p; exact p
  | ok ds =>
    rw [hf] at p
    intro H1 vs s1 r
    cases hq : rng2 ds with
    | none => simp only [hq] at p; exact p.elim
    | some es =>
      simp only [hq] at p
      obtain ⟨i, j, rfl, h1, rfl⟩ := rng2_eq hq
      obtain ⟨v, w, rfl, rv, rw'⟩ := r.two
      obtain rfl := rv.intV
      obtain rfl := rw'.intV
      exact ⟨_, _, rfl, h1, p _ _ H1 s1 its_range trivial⟩
theorem si_range1 {f : EF} (hm : X.mg "range" = none) (ha : SBA X W [a] [f]) (hg : Gl X "range" := by rfl) (hs : starEach [a] X.env = [(false, eval a X.env)] := by rfl) : SI X W tg (.Call (.Name "range" p) [a] [] pos) (iRange1 [f]) := (pi_range1 hg hm ha hs).weak tI_range1
theorem sis_range1 {f : EF} (hm : X.mg "range" = none) (ha : SBA X W [a] [f]) (hg : Gl X "range" := by rfl) (hs : starEach [a] X.env = [(false, eval a X.env)] := by rfl) : SIS X W tg (.Call (.Name "range" p) [a] [] pos) (iRange1 [f]) := (pi_range1 hg hm ha hs).weak tIS_range1
theorem si_range2 {fs : List EF} (hm : X.mg "range" = none) (ha : SBA X W [a, b] fs) (hg : Gl X "range" := by rfl) (hs : starEach [a, b] X.env = [(false, eval a X.env), (false, eval b X.env)] := by rfl) (hs2 : starEach [b] X.env = [(false, eval b X.env)] := by rfl) :
    SI X W tg (.Call (.Name "range" p) [a, b] [] pos) (iRange2 fs) := (pi_range2 hg hm ha hs hs2).weak tI_range2
theorem sis_range2 {fs : List EF} (hm : X.mg "range" = none) (ha : SBA X W [a, b] fs) (hg : Gl X "range" := by rfl) (hs : starEach [a, b] X.env = [(false, eval a X.env), (false, eval b X.env)] := by rfl) (hs2 : starEach [b] X.env = [(false, eval b X.env)] := by rfl) :
    SIS X W tg (.Call (.Name "range" p) [a, b] [] pos) (iRange2 fs) := (pi_range2 hg hm ha hs hs2).weak tIS_range2
end
inductive Tg where
  | nm (i : Nat)
  | tp (ts : List Tg)
mutual
def gT (K : PySem.W.Frag) : Tg → TG
  | .nm i => gName i
  | .tp ts => gTup K ts.length (gTs K ts)
def gTs (K : PySem.W.Frag) : List Tg → TGs
  | [] => gNil
  | t :: ts => gCons (gT K t) (gTs K ts)
end
mutual
def bindT : Tg → D → En → Option En
  | .nm i, d, ρ => some (ρ.set i (some (.val d)))
  | .tp ts, .tuple ds, ρ => bindTs ts ds ρ
  | .tp _, _, _ => none
def bindTs : List Tg → List D → En → Option En
  | [], [], ρ => some ρ
  | t :: ts, d :: ds, ρ => (bindT t d ρ).bind fun ρ => bindTs ts ds ρ
  | _, _, _ => none
end
mutual
def slotsT : Tg → List Nat
  | .nm i => [i]
  | .tp ts => slotsTs ts
def slotsTs : List Tg → List Nat
  | [] => []
  | t :: ts => slotsT t ++ slotsTs ts
end
theorem RE.set {K : PySem.W.Frag} {H : Hp} {L : Ad} {ρ : En} {σ : St} {i : Nat} {d : D} {v : V} (re : RE K H L ρ σ) (r : Rp K H L d v) : RE K H L (ρ.set i (some (.val d))) (σ.set i (some v)) := by
  have hl := re.len
  refine ⟨re.lv, by simp [hl], fun j x e => ?_⟩
  by_cases hj : i = j
  · subst hj
    by_cases hi : i < ρ.length
    · rw [List.getElem?_set_self hi] at e
      cases e
      exact ⟨_, List.getElem?_set_self (by rw [← hl]; exact hi), v, rfl, r⟩
    · rw [List.getElem?_eq_none (by simpa using hi)] at e
      cases e
  · rw [List.getElem?_set_ne hj] at e
    obtain ⟨o, e1, q⟩ := re.sl j x e
    exact ⟨o, by rw [List.getElem?_set_ne hj]; exact e1, q⟩
structure Ch (is : List Nat) (ρ ρ1 : En) (σ σ1 : St) : Prop where
  lr : ρ1.length = ρ.length
  ls : σ1.length = σ.length
  r : ∀ j, j ∉ is → ρ1[j]? = ρ[j]?
  s : ∀ j, j ∉ is → σ1[j]? = σ[j]?
  v : ∀ j, j ∈ is → ∀ d, ρ1[j]? ≠ some (some (.own d))
  g : ∀ j, j ∈ is → ∀ rows, ρ1[j]? ≠ some (some (.grid rows))
  p : ∀ j, j ∈ is → ∀ d, ρ1[j]? ≠ some (some (.ownP d))
mutual
theorem gT_of {K : PySem.W.Frag} {H : Hp} {L : Ad} : ∀ {t : Tg} {d : D} {v : V} {ρ ρ1 : En} {σ : St} {Q : St → Hp → Prop}, RE K H L ρ σ → Rp K H L d v → bindT t d ρ = some ρ1 →
    (∀ σ1, RE K H L ρ1 σ1 → Ch (slotsT t) ρ ρ1 σ σ1 → Q σ1 H) → gT K t v σ H Q
  | .nm i, d, v, ρ, ρ1, σ, Q, re, r, hb, k => by
    simp only [bindT, Option.some.injEq] at hb
    subst hb
    refine k _ (re.set r) ⟨by simp, by simp, fun j hj => ?_, fun j hj => ?_, fun j hj d' z => ?_, fun j hj d' z => ?_, fun j hj d' z => ?_⟩
    · exact List.getElem?_set_ne (fun e => hj (by simp [slotsT, e]))
    · exact List.getElem?_set_ne (fun e => hj (by simp [slotsT, e]))
    all_goals
      have e : j = i := by simpa [slotsT] using hj
      subst e
      by_cases hi : j < ρ.length
      · rw [List.getElem?_set_self hi] at z
        cases z
      · rw [List.getElem?_eq_none (by simpa using hi)] at z
        cases z
  | .tp ts, .tuple ds, v, ρ, ρ1, σ, Q, re, r, hb, k => by
    obtain ⟨a, vs, rfl, ha, rl⟩ := r.tupV
    simp only [bindT] at hb
    obtain ⟨e1, q⟩ := gTs_of (Q := Q) re rl hb k
    exact ⟨a, vs, rfl, SqT.of ha, e1, q⟩
  | .tp ts, .none, v, ρ, ρ1, σ, Q, re, r, hb, k => by simp [bindT] at hb
  | .tp ts, .bool _, v, ρ, ρ1, σ, Q, re, r, hb, k => by simp [bindT] at hb
  | .tp ts, .int _, v, ρ, ρ1, σ, Q, re, r, hb, k => by simp [bindT] at hb
  | .tp ts, .str _, v, ρ, ρ1, σ, Q, re, r, hb, k => by simp [bindT] at hb
  | .tp ts, .list _, v, ρ, ρ1, σ, Q, re, r, hb, k => by simp [bindT] at hb
  | .tp ts, .dict _, v, ρ, ρ1, σ, Q, re, r, hb, k => by simp [bindT] at hb
theorem gTs_of {K : PySem.W.Frag} {H : Hp} {L : Ad} : ∀ {ts : List Tg} {ds : List D} {vs : List V} {ρ ρ1 : En} {σ : St} {Q : St → Hp → Prop}, RE K H L ρ σ → RpL K H L ds vs → bindTs ts ds ρ = some ρ1 →
    (∀ σ1, RE K H L ρ1 σ1 → Ch (slotsTs ts) ρ ρ1 σ σ1 → Q σ1 H) → vs.length = ts.length ∧ gTs K ts vs σ H Q
  | [], [], vs, ρ, ρ1, σ, Q, re, r, hb, k => by
    cases r
    simp only [bindTs, Option.some.injEq] at hb
    subst hb
    exact ⟨rfl, rfl, k σ re ⟨rfl, rfl, fun _ _ => rfl, fun _ _ => rfl, fun j hj => by simp [slotsTs] at hj, fun j hj => by simp [slotsTs] at hj, fun j hj => by simp [slotsTs] at hj⟩⟩
  | t :: ts, d :: ds, vs, ρ, ρ1, σ, Q, re, r, hb, k => by
    cases r with
    | cons r1 rl =>
      rename_i v vs
      simp only [bindTs] at hb
      obtain ⟨ρ2, e2, hb⟩ := Option.bind_eq_some_iff.mp hb
      have hlen : vs.length = ts.length := by
        have aux : ∀ (ts : List Tg) (ds : List D) (ρ ρ1 : En), bindTs ts ds ρ = some ρ1 → ds.length = ts.length := by
          intro ts
          induction ts with
          | nil => intro ds ρ ρ1 h; cases ds with
            | nil => rfl
            | cons _ _ => simp [bindTs] at h
          | cons t ts ih =>
            intro ds ρ ρ1 h
            cases ds with
            | nil => simp [bindTs] at h
            | cons d ds =>
              simp only [bindTs] at h
              obtain ⟨ρ2, _, h⟩ := Option.bind_eq_some_iff.mp h
              simp [ih ds ρ2 ρ1 h]
        rw [← rl.length]
        exact aux ts ds ρ2 ρ1 hb
      refine ⟨by simp [hlen], v, vs, rfl, gT_of re r1 e2 fun σ1 re1 c1 => ?_⟩
      refine (gTs_of re1 rl hb fun σ2 re2 c2 => k σ2 re2 ?_).2
      refine ⟨c2.lr.trans c1.lr, c2.ls.trans c1.ls, fun j hj => ?_, fun j hj => ?_, fun j hj d' => ?_, fun j hj d' => ?_, fun j hj d' => ?_⟩
      · rw [slotsTs, List.mem_append, not_or] at hj
        rw [c2.r j hj.2, c1.r j hj.1]
      · rw [slotsTs, List.mem_append, not_or] at hj
        rw [c2.s j hj.2, c1.s j hj.1]
      · by_cases h2 : j ∈ slotsTs ts
        · exact c2.v j h2 d'
        · rw [c2.r j h2]
          rw [slotsTs, List.mem_append] at hj
          exact c1.v j (hj.resolve_right h2) d'
      · by_cases h2 : j ∈ slotsTs ts
        · exact c2.g j h2 d'
        · rw [c2.r j h2]
          rw [slotsTs, List.mem_append] at hj
          exact c1.g j (hj.resolve_right h2) d'
      · by_cases h2 : j ∈ slotsTs ts
        · exact c2.p j h2 d'
        · rw [c2.r j h2]
          rw [slotsTs, List.mem_append] at hj
          exact c1.p j (hj.resolve_right h2) d'
  | [], d :: ds, vs, ρ, ρ1, σ, Q, re, r, hb, k => by simp [bindTs] at hb
  | t :: ts, [], vs, ρ, ρ1, σ, Q, re, r, hb, k => by simp [bindTs] at hb
end
end VV
namespace VV
open PySem PySem.Spec L2
open PyProof.Rows hiding St
abbrev WF : WX := fun _ _ _ _ => False
def wipeE (ρ : En) : List Nat → En
  | [] => ρ
  | v :: vs => (wipeE ρ vs).set v none
theorem wipeE_length (ρ : En) : ∀ vs : List Nat, (wipeE ρ vs).length = ρ.length
  | [] => rfl
  | v :: vs => by unfold wipeE; rw [List.length_set, wipeE_length ρ vs]
theorem wipeE_get (ρ : En) (i : Nat) : ∀ vs : List Nat, i ∉ vs → (wipeE ρ vs)[i]? = ρ[i]?
  | [], _ => rfl
  | v :: vs, hn => by
    have hv : v ≠ i := fun z => hn (z ▸ List.mem_cons_self ..)
    show ((wipeE ρ vs).set v none)[i]? = _
    rw [List.getElem?_set_ne hv, wipeE_get ρ i vs fun z => hn (List.mem_cons_of_mem _ z)]
theorem wipeE_gone (ρ : En) (i : Nat) (x : Sl) : ∀ vs : List Nat, i ∈ vs → (wipeE ρ vs)[i]? ≠ some (some x)
  | v :: vs, hm, he => by
    have he' : ((wipeE ρ vs).set v none)[i]? = some (some x) := he
    rw [List.getElem?_set] at he'
    split at he'
    · split at he' <;> cases he'
    · rename_i hne
      exact wipeE_gone ρ i x vs ((List.mem_cons.mp hm).resolve_left fun z => hne z.symm) he'
theorem wipeE_some {ρ : En} {i : Nat} {x : Sl} {vs : List Nat} (he : (wipeE ρ vs)[i]? = some (some x)) : ρ[i]? = some (some x) ∧ i ∉ vs := by
  have hn : i ∉ vs := fun z => wipeE_gone ρ i x vs z he
  exact ⟨(wipeE_get ρ i vs hn) ▸ he, hn⟩
theorem wipe_at {σ : St} {i : Nat} : ∀ {vs : List Nat}, i ∉ vs → (wipe σ vs)[i]? = σ[i]?
  | [], _ => rfl
  | v :: vs, h => by
    simp only [List.mem_cons, not_or] at h
    unfold wipe
    rw [List.getElem?_set_ne (Ne.symm h.1)]
    exact wipe_at h.2
theorem wipe_in {σ : St} {i : Nat} (hi : i < σ.length) : ∀ {vs : List Nat}, i ∈ vs → (wipe σ vs)[i]? = some none
  | v :: vs, h => by
    unfold wipe
    by_cases e : v = i
    · subst e
      exact List.getElem?_set_self (by rw [wipe_length]; exact hi)
    · rw [List.getElem?_set_ne e]
      exact wipe_in hi ((List.mem_cons.mp h).resolve_left (Ne.symm e))
theorem wipe_eq {σ σ1 : St} {vs : List Nat} (hl : σ1.length = σ.length) (h : ∀ j, j ∉ vs → σ1[j]? = σ[j]?) : wipe σ1 vs = wipe σ vs := by
  apply List.ext_getElem?
  intro i
  by_cases hi : i ∈ vs
  · by_cases hlt : i < σ.length
    · rw [wipe_in hlt hi, wipe_in (by rw [hl]; exact hlt) hi]
    · rw [List.getElem?_eq_none (by rw [wipe_length]; omega), List.getElem?_eq_none (by rw [wipe_length]; omega)]
  · rw [wipe_at hi, wipe_at hi, h i hi]
theorem wipe_twice {σ : St} {vs : List Nat} : wipe (wipe σ vs) vs = wipe σ vs := wipe_eq (wipe_length _ _) fun j hj => wipe_at hj
theorem RE.wipe {K : PySem.W.Frag} {H : Hp} {L : Ad} {ρ : En} {σ : St} (vs : List Nat) (re : RE K H L ρ σ) : RE K H L (wipeE ρ vs) (L2.wipe σ vs) := by
  refine ⟨re.lv, by rw [wipeE_length, wipe_length]; exact re.len, fun i x e => ?_⟩
  obtain ⟨h1, h2⟩ := wipeE_some e
  obtain ⟨o, e1, r⟩ := re.sl i x h1
  exact ⟨o, by rw [wipe_at h2]; exact e1, r⟩
def lcOne (t : Tg) (c e : EF) (ρ : En) (d : D) (k : RL) : RL := match bindT t d ρ with
  | none => .bad
  | some ρ1 => match c ρ1 with
    | .ok (.bool true) => (match e ρ1 with
      | .ok y => RL.cons (.ok y) k
      | _ => .bad)
    | .ok (.bool false) => k
    | _ => .bad
def lcGo (t : Tg) (c e : EF) (ρ : En) : List D → RL
  | [] => .ok []
  | d :: ds => lcOne t c e ρ d (lcGo t c e ρ ds)
def eLc (vs : List Nat) (fi : IF) (t : Tg) (c e : EF) : EF := fun ρ => (fi ρ).bind fun ds => (lcGo t c e (wipeE ρ vs) ds).bind lstR
theorem lcOne_ok {t : Tg} {c e : EF} {ρ : En} {d : D} {k : RL} {rs : List D} (h : lcOne t c e ρ d k = .ok rs) :
    ∃ ρ1, bindT t d ρ = some ρ1 ∧ ((c ρ1 = .ok (.bool true) ∧ ∃ y r, e ρ1 = .ok y ∧ k = .ok r ∧ rs = y :: r) ∨ (c ρ1 = .ok (.bool false) ∧ k = .ok rs)) := by
  unfold lcOne at h
  cases hb : bindT t d ρ with
  | none => exact absurd h (by rw [hb]; simp)
  | some ρ1 =>
    rw [hb] at h
    refine ⟨ρ1, rfl, ?_⟩
    cases hc : c ρ1 with
    | bad => simp only [hc] at h; cases h
    | exc c fs => simp only [hc] at h; cases h
    | ok b =>
      simp only [hc] at h
      cases b with
      | bool b =>
        cases b with
        | true =>
          cases he : e ρ1 with
          | bad => simp only [he] at h; cases h
          | exc c fs => simp only [he] at h; cases h
          | ok y =>
            simp only [he] at h
            cases k with
            | bad => cases h
            | exc c fs => cases h
            | ok r => cases h; exact .inl ⟨rfl, y, r, rfl, rfl, rfl⟩
        | false => exact .inr ⟨rfl, h⟩
      | _ => cases h
abbrev STs (X : Cx) (ifs : List Expr) (c : EF) : Prop := PTs X ifs (tT X.K WF c)
section
variable {X : Cx} {W : WX}
theorem sts_nil : STs X [] (eC (.bool true)) := ⟨fun pins s σ H Q I ⟨L, ρ, re, p⟩ => pts_nil.run pins s σ H Q I (p H (Same.refl H))⟩
theorem sts_one {c : Expr} {f : EF} (h : ST X WF c f) : STs X [c] f := pts_one h
theorem lc_loop {K : PySem.W.Frag} {L : Ad} {σ : St} {ρ : En} {H1 : Hp} {J : It} {S : Hp → Ad → Prop} {ds rs : List VV.D} {t : Tg} {c e : EF} {vs : List Nat} {Q : VK} (re : RE K H1 L ρ σ) (it : ItB K ds J S) (hS : S H1 L)
    (hsl : ∀ i ∈ slotsT t, i ∈ vs) (hgo : lcGo t c e (wipeE ρ vs) ds = .ok rs) (hz : rs.length ≤ sizeLine) (hQ : ∀ D H, H1 D = none → Same H1 H → Ow K H (Lp L D) (.list rs) D → Q (.ref D) H) :
    tLc (fun _ _ R => R J H1) (gT K t) (tT K WF c) (tE K WF e) vs σ H1 Q := by
  intro D hD
  let L' : Ad := Lp L D
  have hL' : ∀ a, L' a → L a ∨ H1 a = none := fun a z => z.elim .inl fun q => by subst q; exact .inr hD
  -- what holds between two turns
  let Iv : Nat → Hp → Prop := fun i H => i ≤ ds.length ∧ Same H1 H ∧ ∃ (acc : List V) (racc rest : List VV.D), H D = some (.lst acc) ∧ RpL K H L' racc acc ∧ lcGo t c e (wipeE ρ vs) (ds.drop i) = .ok rest ∧ racc ++ rest = rs
  refine ⟨fun i m H => m = ds.length - i ∧ Iv i H, ⟨ds.length, by simp, Nat.zero_le _, same_upd hD, [], [], rs, upd_same, .nil, hgo, rfl⟩, ?_⟩
  rintro i m H ⟨rfl, hi, s1, acc, racc, rest, hacc, racc', hrest, htot⟩
  have hSn : S H L' := it.keep H1 L H L' hS s1 hL'
  have lv' : LvOk K H L' := ⟨fun a z => z.elim (fun q => re.lv.mono s1 a q) fun q => by subst q; rw [hacc]; simp, re.lv.tb.mono s1⟩
  have reH : RE K H L' ρ σ := by
    have r0 : RE K H L ρ σ := re.mono s1
    refine ⟨lv', r0.len, fun j x q => ?_⟩
    obtain ⟨o, e1, r⟩ := re.sl j x q
    exact ⟨o, e1, (r.lives (L' := L') hL').mono s1⟩
  by_cases hlt : i < ds.length
  · refine .inr ⟨it.go i H L' hSn hlt, Iv (i + 1), fun H' p' => ⟨ds.length - (i + 1), by omega, rfl, p'⟩, fun x H' y => ?_⟩
    obtain ⟨s2, hx⟩ := it.yld i H L' x H' hSn y
    have hdrop : ds.drop i = ds[i] :: ds.drop (i + 1) := List.drop_eq_getElem_cons hlt
    have rx := hx ds[i] (by simp [hlt])
    rw [hdrop] at hrest
    obtain ⟨ρ1, hb, hcase⟩ := lcOne_ok hrest
    refine gT_of ((reH.mono s2).wipe vs) rx hb fun σ1 re1 ch => ?_
    refine ⟨?_, L', ρ1, re1, ?_⟩
    · rw [← wipe_twice (σ := σ)]
      exact wipe_eq ch.ls fun j hj => ch.s j fun q => hj (hsl j q)
    · rcases hcase with ⟨hc, y, r, he, hk, hr⟩ | ⟨hc, hk⟩
      · rw [hc]
        intro H3 s3
        rw [if_pos rfl]
        refine ⟨L', ρ1, re1.mono s3, ?_⟩
        rw [he]
        intro H4 v s4 rv
        have s24 : Same H H4 := s2.trans (s3.trans s4)
        have hD4 : H4 D = some (.lst acc) := s24 _ _ hacc
        have la : acc.length = racc.length := racc'.length.symm
        subst hr
        refine ⟨acc, hD4, ?_, hlt, (s1.trans s24).updN hD hD4 trivial, acc ++ [v], racc ++ [y], r, upd_same, ?_, hk, by rw [← htot]; simp⟩
        · rw [la]
          have := congrArg List.length htot
          simp only [List.length_append, List.length_cons] at this
          omega
        · exact RpL.upd hD4 trivial (.inr rfl) ((racc'.mono s24).append (.cons rv .nil))
      · rw [hc]
        intro H3 s3
        rw [if_neg (by decide)]
        have s23 : Same H H3 := s2.trans s3
        exact ⟨hlt, s1.trans s23, acc, racc, rest, s23 _ _ hacc, racc'.mono s23, hk, htot⟩
  · have e : i = ds.length := by omega
    subst e
    rw [List.drop_length] at hrest
    cases hrest
    rw [List.append_nil] at htot
    subst htot
    exact .inl ⟨it.stop _ H L' hSn (Nat.le_refl _), hQ D H hD s1 (.lst hacc racc')⟩
theorem tLc_of {K : PySem.W.Frag} {fi : IF} {t : Tg} {c e : EF} {vs : List Nat} (hsl : ∀ i ∈ slotsT t, i ∈ vs) : ∀ σ H Q, tN K W (eLc vs fi t c e) σ H Q → tLc (tI K W fi) (gT K t) (tT K WF c) (tE K WF e) vs σ H Q := fun σ H Q ⟨L, ρ, re, p⟩ => by
  refine ⟨L, ρ, re, ?_⟩
  unfold eLc at p
  cases hf : fi ρ with
  | bad => rw [hf] at p; exact p
  | exc c fs => rw [hf] at p; exact p
  | ok ds =>
    rw [hf] at p
    simp only [RL.bind_ok] at p
    cases hg : lcGo t c e (wipeE ρ vs) ds with
    | bad => rw [hg] at p; exact p.elim
    | exc c' fs =>
      have aux : ∀ ds : List D, ∀ c' fs, lcGo t c e (wipeE ρ vs) ds ≠ .exc c' fs := by
        intro ds
        induction ds with
        | nil => intro c' fs h; cases h
        | cons d ds ih =>
          intro c' fs h
          simp only [lcGo] at h
          unfold lcOne at h
          cases hb : bindT t d (wipeE ρ vs) with
          | none => exact absurd h (by rw [hb]; simp)
          | some ρ1 =>
            rw [hb] at h
            cases hc : c ρ1 with
            | bad => simp only [hc] at h; cases h
            | exc c fs => simp only [hc] at h; cases h
            | ok b =>
              simp only [hc] at h
              cases b with
              | bool b =>
                cases b with
                | true =>
                  cases he : e ρ1 with
                  | bad => simp only [he] at h; cases h
                  | exc c fs => simp only [he] at h; cases h
                  | ok y =>
                    simp only [he] at h
                    cases hk : lcGo t c e (wipeE ρ vs) ds with
                    | bad => rw [hk] at h; cases h
                    | exc c' fs' => exact ih _ _ hk
                    | ok r => rw [hk] at h; cases h
                | false => exact ih _ _ h
              | _ => cases h
      exact (aux _ _ _ hg).elim
    | ok rs =>
      rw [hg] at p
      simp only [RL.bind_ok] at p
      unfold lstR at p
      split at p
      · rename_i hz
        intro J S H1 s1 it hS
        exact lc_loop (re.mono s1) it hS hsl hg hz fun D H' hD s' ow => p H' D (s1.trans s') (s1.free hD) ow
      · exact p.elim
theorem sn_lc {elt tg iter : Expr} {ifs : List Expr} {scope : Scope} {own : List (Str × Nat)} {pos : Pos} {fi : IF} {t : Tg} {c e : EF} (hN : X.N.Nodup) (hi : SI X W tg iter fi) (ok : BlkOk X.N X.env.scope scope own)
    (hg : ∀ (s : Shared) (H : Hp) (C : Addr) (cl : List (Str × Addr)) (fp : List Addr), PG (X.blk s H scope (compEnvC scope cl C X.env) fp) tg (gT X.K t)) (ht : ∀ (s : Shared) (H : Hp) (C : Addr) (cl : List (Str × Addr)) (fp : List Addr), STs (X.blk s H scope (compEnvC scope cl C X.env) fp) ifs c)
    (he : ∀ (s : Shared) (H : Hp) (C : Addr) (cl : List (Str × Addr)) (fp : List Addr), SE (X.blk s H scope (compEnvC scope cl C X.env) fp) WF elt e) (hsl : ∀ i ∈ slotsT t, i ∈ own.map (·.2) := by decide) (hc : X.calm = true := by rfl) (hs : ∀ x, foldedSetIterable iter X.env x = pure x := by intro _; rfl) :
    SN X W (.ListComp elt [⟨tg, iter, ifs, 0⟩] scope pos) (eLc (own.map (·.2)) fi t c e) := (pe_lc hc hN hi ok hg ht he hs).weak (tLc_of hsl)
end
end VV
namespace VV
open PySem PySem.Spec L2
open PyProof.Rows hiding St
def Lv (Lo : Ad) (α : Nat → Option Addr) : Ad := fun a => Lo a ∨ ∃ i, α i = some a
def vix (i k : Nat) : Nat := (k + 1) * 1000 + i
theorem vix_inj {i i' k k' : Nat} (h : i < 1000) (h' : i' < 1000) (e : vix i k = vix i' k') : i = i' ∧ k = k' := by
  unfold vix at e
  omega
theorem vix_ge (i k : Nat) : 1000 ≤ vix i k := by
  unfold vix
  omega
structure Pr (K : PySem.W.Frag) (H0 H : Hp) (Lo L : Ad) (ρ : En) (σ : St) : Prop where
  par : ∀ (i : Nat) (d : D), ρ[i]? = some (some (.ownP d)) → ∃ a, Lo a ∧ H0 a = none ∧ σ[i]? = some (some (.ref a)) ∧ Ow K H L d a
  one : ∀ (i j : Nat) (d e : D), ρ[i]? = some (some (.ownP d)) → ρ[j]? = some (some (.ownP e)) → i = j
theorem Pr.of {K : PySem.W.Frag} {H0 H H1 : Hp} {Lo L L1 : Ad} {ρ ρ1 : En} {σ σ1 : St} (h : Pr K H0 H Lo L ρ σ) (k : ∀ (j : Nat) (d : D), ρ1[j]? = some (some (.ownP d)) → ρ[j]? = some (some (.ownP d)) ∧ σ1[j]? = σ[j]?)
    (t : ∀ (d : D) (a : Addr), Lo a → Ow K H L d a → Ow K H1 L1 d a) : Pr K H0 H1 Lo L1 ρ1 σ1 :=
  ⟨fun i d e => by
    obtain ⟨e1, e2⟩ := k i d e
    obtain ⟨a, p1, p2, p3, p4⟩ := h.par i d e1
    exact ⟨a, p1, p2, e2.trans p3, t d a p1 p4⟩, fun i j d e e1 e2 => h.one i j d e (k i d e1).1 (k j e e2).1⟩
theorem Pr.set {K : PySem.W.Frag} {H0 H H1 : Hp} {Lo L L1 : Ad} {ρ : En} {σ : St} {i : Nat} {x : Option Sl} (h : Pr K H0 H Lo L ρ σ) (n : ∀ d : D, x ≠ some (.ownP d)) (t : ∀ (d : D) (a : Addr), Lo a → Ow K H L d a → Ow K H1 L1 d a) : Pr K H0 H1 Lo L1 (ρ.set i x) σ :=
  h.of (fun j d e => ⟨by
    by_cases hj : i = j
    · subst hj
      by_cases hi : i < ρ.length
      · rw [List.getElem?_set_self hi] at e
        exact absurd (Option.some.inj e) (n d)
      · rw [List.getElem?_eq_none (by simpa using hi)] at e
        cases e
    · rwa [List.getElem?_set_ne hj] at e, rfl⟩) t
theorem Pr.set2 {K : PySem.W.Frag} {H0 H H1 : Hp} {Lo L L1 : Ad} {ρ : En} {σ : St} {i : Nat} {x : Option Sl} {o : Option V} (h : Pr K H0 H Lo L ρ σ) (n : ∀ d : D, x ≠ some (.ownP d)) (t : ∀ (d : D) (a : Addr), Lo a → Ow K H L d a → Ow K H1 L1 d a) : Pr K H0 H1 Lo L1 (ρ.set i x) (σ.set i o) :=
  h.of (fun j d e => by
    by_cases hj : i = j
    · subst hj
      by_cases hi : i < ρ.length
      · rw [List.getElem?_set_self hi] at e
        exact absurd (Option.some.inj e) (n d)
      · rw [List.getElem?_eq_none (by simpa using hi)] at e
        cases e
    · rw [List.getElem?_set_ne hj] at e
      exact ⟨e, List.getElem?_set_ne hj⟩) t
structure RSt (K : PySem.W.Frag) (H0 : Hp) (Lo : Ad) (ρ : En) (α : Nat → Option Addr) (σ : St) (H : Hp) : Prop where
  re : RE K H (Lv Lo α) ρ σ
  same : Same H0 H
  lo : ∀ a b, Lo a → Lo b → H0 a = none → H0 b = none → a = b
  new : ∀ i a, α i = some a → H0 a = none
  inj : ∀ i j a, α i = some a → α j = some a → i = j
  own : ∀ i d, ρ[i]? = some (some (.own d)) → ∃ a, α i = some a ∧ σ[i]? = some (some (.ref a)) ∧ Ow K H (Lv Lo α) d a
  sm : ρ.length ≤ 1000
  grd : ∀ i rows, ρ[i]? = some (some (.grid rows)) → ∃ a bs, α i = some a ∧ σ[i]? = some (some (.ref a)) ∧ (∀ k b, bs[k]? = some b → α (vix i k) = some b) ∧ Og K H (Lv Lo α) rows a bs
  nl : ∀ i a, α i = some a → ¬ Lo a
  pr : Pr K H0 H Lo (Lv Lo α) ρ σ
def Evo (K : PySem.W.Frag) (Lo : Ad) (H : Hp) (α : Nat → Option Addr) (H' : Hp) (α' : Nat → Option Addr) : Prop := ∀ d v, Rp K H (Lv Lo α) d v → Rp K H' (Lv Lo α') d v
theorem Evo.refl {K : PySem.W.Frag} {Lo : Ad} {H : Hp} {α : Nat → Option Addr} : Evo K Lo H α H α := fun _ _ h => h
theorem Evo.trans {K : PySem.W.Frag} {Lo : Ad} {H H1 H2 : Hp} {α α1 α2 : Nat → Option Addr} (a : Evo K Lo H α H1 α1) (b : Evo K Lo H1 α1 H2 α2) : Evo K Lo H α H2 α2 := fun d v h => b d v (a d v h)
theorem Evo.of_same {K : PySem.W.Frag} {Lo : Ad} {H H' : Hp} {α : Nat → Option Addr} (s : Same H H') : Evo K Lo H α H' α := fun d v h => h.mono s
def rms (α : Nat → Option Addr) (is : List Nat) : Nat → Option Addr := fun j => if j ∈ is ∧ j < 1000 then none else α j
section
variable {K : PySem.W.Frag} {H0 H H' : Hp} {Lo : Ad} {ρ ρ1 : En} {α : Nat → Option Addr} {σ σ1 : St}
theorem rms_some {is : List Nat} {j : Nat} {a : Addr} (h : rms α is j = some a) : α j = some a ∧ ¬ (j ∈ is ∧ j < 1000) := by
  unfold rms at h
  split at h
  · cases h
  · exact ⟨h, by assumption⟩
theorem Lv_rms {is : List Nat} (a : Addr) (h : Lv Lo (rms α is) a) : Lv Lo α a := h.elim .inl fun ⟨i, e⟩ => .inr ⟨i, (rms_some e).1⟩
theorem RSt.mono (h : RSt K H0 Lo ρ α σ H) (s : Same H H') : RSt K H0 Lo ρ α σ H' :=
  ⟨h.re.mono s, h.same.trans s, h.lo, h.new, h.inj, fun i d e => let ⟨a, e1, e2, o⟩ := h.own i d e; ⟨a, e1, e2, o.mono s⟩, h.sm, fun i rows e => let ⟨a, bs, e1, e2, e3, o⟩ := h.grd i rows e; ⟨a, bs, e1, e2, e3, o.mono s⟩, h.nl, h.pr.of (fun _ _ e => ⟨e, rfl⟩) fun _ _ _ o => o.mono s⟩
theorem rms_far {is : List Nat} {i k : Nat} : rms α is (vix i k) = α (vix i k) := by
  unfold rms
  rw [if_neg (fun z => absurd z.2 (Nat.not_lt.mpr (vix_ge i k)))]
theorem rms_off {is : List Nat} {i : Nat} (h : i ∉ is) : rms α is i = α i := by
  unfold rms
  rw [if_neg fun z => h z.1]
theorem Evo.rms (is : List Nat) : Evo K Lo H α H (rms α is) := fun d v h => h.lives fun a z => .inl (Lv_rms a z)
theorem RSt.ch {is : List Nat} (h : RSt K H0 Lo ρ α σ H) (re : RE K H (Lv Lo α) ρ1 σ1) (c : Ch is ρ ρ1 σ σ1) : RSt K H0 Lo ρ1 (VV.rms α is) σ1 H := by
  refine ⟨re.lives (fun a z => .inl (Lv_rms a z)) ⟨fun a z => h.re.lv a (Lv_rms a z), h.re.lv.tb⟩, h.same, h.lo, fun i a e => h.new i a (rms_some e).1, fun i j a e1 e2 => h.inj i j a (rms_some e1).1 (rms_some e2).1, fun i d e => ?_, by rw [c.lr]; exact h.sm, fun i rows e => ?_, fun i a e => h.nl i a (rms_some e).1, h.pr.of (fun j d e => ?_) fun _ _ _ o => o.lives fun a z => .inl (Lv_rms a z)⟩
  · by_cases hi : i ∈ is
    · exact (c.v i hi d e).elim
    · rw [c.r i hi] at e
      obtain ⟨a, e1, e2, o⟩ := h.own i d e
      exact ⟨a, (rms_off hi).trans e1, by rw [c.s i hi]; exact e2, o.lives fun a z => .inl (Lv_rms a z)⟩
  · by_cases hi : i ∈ is
    · exact (c.g i hi rows e).elim
    · rw [c.r i hi] at e
      obtain ⟨a, bs, e1, e2, e3, o⟩ := h.grd i rows e
      exact ⟨a, bs, (rms_off hi).trans e1, by rw [c.s i hi]; exact e2, fun k b q => rms_far.trans (e3 k b q), o.lives fun a z => .inl (Lv_rms a z)⟩
  · by_cases hi : j ∈ is
    · exact (c.p j hi d e).elim
    · rw [c.r j hi] at e
      exact ⟨e, c.s j hi⟩
theorem RSt.set {i : Nat} {d : D} {v : V} (h : RSt K H0 Lo ρ α σ H) (r : Rp K H (Lv Lo α) d v) : RSt K H0 Lo (ρ.set i (some (.val d))) (VV.rms α [i]) (σ.set i (some v)) H := by
  refine h.ch (h.re.set r) ⟨by simp, by simp, fun j hj => ?_, fun j hj => ?_, fun j hj d' z => ?_, fun j hj d' z => ?_, fun j hj d' z => ?_⟩
  · exact List.getElem?_set_ne (fun e => hj (by simp [e]))
  · exact List.getElem?_set_ne (fun e => hj (by simp [e]))
  all_goals
    have e : j = i := by simpa using hj
    subst e
    by_cases hi : j < ρ.length
    · rw [List.getElem?_set_self hi] at z
      cases z
    · rw [List.getElem?_eq_none (by simpa using hi)] at z
      cases z
theorem RSt.setOwn {i : Nat} {d : D} {a : Addr} {H1 : Hp} (i1 : i < 1000) (h : RSt K H0 Lo ρ α σ H) (s : Same H H1) (n : H a = none) (o : Ow K H1 (Lp (Lv Lo α) a) d a) :
    RSt K H0 Lo (ρ.set i (some (.own d))) (fun j => if j = i then some a else α j) (σ.set i (some (.ref a))) H1 ∧ Evo K Lo H α H1 (fun j => if j = i then some a else α j) := by
  have na : ¬ Lv Lo α a := fun z => h.re.lv a z n
  have hL : ∀ z, Lv Lo (fun j => if j = i then some a else α j) z → Lp (Lv Lo α) a z := fun z q => by
    rcases q with q | ⟨j, q⟩
    · exact .inl (.inl q)
    · dsimp only at q
      split at q
      · cases q; exact .inr rfl
      · exact .inl (.inr ⟨j, q⟩)
  have hL2 : ∀ z, Lv Lo (fun j => if j = i then some a else α j) z → Lv Lo α z ∨ H z = none := fun z q => (hL z q).elim .inl fun e => by subst e; exact .inr n
  have ev : Evo K Lo H α H1 (fun j => if j = i then some a else α j) := fun d v r => (r.lives hL2).mono s
  have o' : Ow K H1 (Lv Lo (fun j => if j = i then some a else α j)) d a := o.lives fun z q => .inl (hL z q)
  have nn : H1 a ≠ none := by obtain ⟨ob, e, _⟩ := o.chg; rw [e]; simp
  refine ⟨⟨⟨⟨fun z q => ?_, h.re.lv.tb.mono s⟩, by simp [h.re.len], fun j x e => ?_⟩, h.same.trans s, h.lo, fun j z e => ?_, fun j l z e1 e2 => ?_, fun j d' e => ?_, by simpa using h.sm, fun j rows e => ?_, fun j z e => ?_, h.pr.set2 (by intro _ z; cases z) fun _ _ _ o => (o.lives hL2).mono s⟩, ev⟩
  · rcases hL z q with q | e
    · exact h.re.lv.mono s z q
    · subst e; exact nn
  · by_cases hj : i = j
    · subst hj
      by_cases hi : i < ρ.length
      · rw [List.getElem?_set_self hi] at e
        cases e
        exact ⟨_, List.getElem?_set_self (by rw [← h.re.len]; exact hi), a, rfl, o'⟩
      · rw [List.getElem?_eq_none (by simpa using hi)] at e
        cases e
    · rw [List.getElem?_set_ne hj] at e
      obtain ⟨ob, e1, r⟩ := h.re.sl j x e
      exact ⟨ob, by rw [List.getElem?_set_ne hj]; exact e1, (r.lives hL2).mono s⟩
  · split at e
    · cases e; exact h.same.free n
    · exact h.new j z e
  · split at e1
    · cases e1
      split at e2
      · rename_i x y; rw [x, y]
      · exact (na (.inr ⟨l, e2⟩)).elim
    · split at e2
      · cases e2; exact (na (.inr ⟨j, e1⟩)).elim
      · exact h.inj j l z e1 e2
  · by_cases hj : i = j
    · subst hj
      by_cases hi : i < ρ.length
      · rw [List.getElem?_set_self hi] at e
        cases e
        exact ⟨a, by simp, List.getElem?_set_self (by rw [← h.re.len]; exact hi), o'⟩
      · rw [List.getElem?_eq_none (by simpa using hi)] at e
        cases e
    · rw [List.getElem?_set_ne hj] at e
      obtain ⟨b, e1, e2, ob⟩ := h.own j d' e
      refine ⟨b, ?_, by rw [List.getElem?_set_ne hj]; exact e2, (ob.lives hL2).mono s⟩
      rw [if_neg (Ne.symm hj)]
      exact e1
  · by_cases hj : i = j
    · subst hj
      by_cases hi : i < ρ.length
      · rw [List.getElem?_set_self hi] at e
        cases e
      · rw [List.getElem?_eq_none (by simpa using hi)] at e
        cases e
    · rw [List.getElem?_set_ne hj] at e
      obtain ⟨b, bs, e1, e2, e3, og⟩ := h.grd j rows e
      refine ⟨b, bs, ?_, by rw [List.getElem?_set_ne hj]; exact e2, fun k c q => ?_, (og.lives hL2).mono s⟩
      · rw [if_neg (Ne.symm hj)]
        exact e1
      · rw [if_neg (fun z => absurd (vix_ge j k) (by omega))]
        exact e3 k c q
  · split at e
    · cases e; exact fun z => na (.inl z)
    · exact h.nl j z e
theorem RSt.write {i : Nat} {d d' : D} {a : Addr} {o' : HO} (h : RSt K H0 Lo ρ α σ H) (hi : ρ[i]? = some (some (.own d))) (ha : σ[i]? = some (some (.ref a))) (o : Ow K (upd H a o') (Lv Lo α) d' a) :
    RSt K H0 Lo (ρ.set i (some (.own d'))) α σ (upd H a o') ∧ Evo K Lo H α (upd H a o') α := by
  obtain ⟨b, e1, e2, ob⟩ := h.own i d hi
  have eb : b = a := by rw [ha] at e2; cases e2; rfl
  subst eb
  obtain ⟨oo, eo, ch⟩ := ob.chg
  obtain ⟨o2, eo2, nc2⟩ := ob.nc
  have hL : Lv Lo α b := .inr ⟨i, e1⟩
  have hlt : i < ρ.length := by
    rcases Nat.lt_or_ge i ρ.length with q | q
    · exact q
    · rw [List.getElem?_eq_none q] at hi; cases hi
  have far : ∀ (j : Nat) {bs : List Addr}, (∀ k b', bs[k]? = some b' → α (vix j k) = some b') → ∀ b' ∈ bs, b' ≠ b := fun j bs hb b' m z => by
    subst z
    obtain ⟨k, hk⟩ := List.mem_iff_getElem?.mp m
    have q1 := h.inj _ _ _ e1 (hb k b' hk)
    have q2 := vix_ge j k
    have q3 := h.sm
    omega
  refine ⟨⟨⟨⟨fun z q => ?_, h.re.lv.tb.upd eo2 nc2⟩, by simp [h.re.len], fun j x e => ?_⟩, h.same.updN (h.new i b e1) eo2 nc2, h.lo, h.new, h.inj, fun j d2 e => ?_, by simpa using h.sm, fun j rows e => ?_, h.nl, h.pr.set (by intro _ z; cases z) fun _ c lc o => o.upd eo ch hL (fun z => h.nl i b e1 (z ▸ lc))⟩, fun d v r => r.upd eo ch hL⟩
  · by_cases hz : z = b
    · subst hz; rw [upd_same]; simp
    · rw [upd_ne hz]; exact h.re.lv z q
  · by_cases hj : i = j
    · subst hj
      rw [List.getElem?_set_self hlt] at e
      cases e
      exact ⟨_, ha, b, rfl, o⟩
    · rw [List.getElem?_set_ne hj] at e
      obtain ⟨w, f1, r⟩ := h.re.sl j x e
      refine ⟨w, f1, ?_⟩
      cases x with
      | val d3 => obtain ⟨v, g1, g2⟩ := r; exact ⟨v, g1, g2.upd eo ch hL⟩
      | own d3 =>
        obtain ⟨c, g1, g2, g3⟩ := h.own j d3 e
        have nc : c ≠ b := fun z => by subst z; exact hj (h.inj i j c e1 g1)
        rw [f1] at g2
        cases g2
        exact ⟨c, rfl, g3.upd eo ch hL nc⟩
      | grid rows =>
        obtain ⟨c, bs, g1, g2, g3, g4⟩ := h.grd j rows e
        have nc : c ≠ b := fun z => by subst z; exact hj (h.inj i j c e1 g1)
        rw [f1] at g2
        cases g2
        exact ⟨c, bs, rfl, g4.upd eo ch hL nc (far j g3)⟩
      | pin a => exact r
      | ownP d3 =>
        obtain ⟨c, lc, _, g2, g3⟩ := h.pr.par j d3 e
        rw [f1] at g2
        cases g2
        exact ⟨c, rfl, g3.upd eo ch hL (fun z => h.nl i b e1 (z ▸ lc))⟩
  · by_cases hj : i = j
    · subst hj
      rw [List.getElem?_set_self hlt] at e
      cases e
      exact ⟨b, e1, ha, o⟩
    · rw [List.getElem?_set_ne hj] at e
      obtain ⟨c, g1, g2, g3⟩ := h.own j d2 e
      have nc : c ≠ b := fun z => by subst z; exact hj (h.inj i j c e1 g1)
      exact ⟨c, g1, g2, g3.upd eo ch hL nc⟩
  · by_cases hj : i = j
    · subst hj
      rw [List.getElem?_set_self hlt] at e
      cases e
    · rw [List.getElem?_set_ne hj] at e
      obtain ⟨c, bs, g1, g2, g3, g4⟩ := h.grd j rows e
      have nc : c ≠ b := fun z => by subst z; exact hj (h.inj i j c e1 g1)
      exact ⟨c, bs, g1, g2, g3, g4.upd eo ch hL nc (far j g3)⟩
theorem RSt.frz {i : Nat} {d : D} (h : RSt K H0 Lo ρ α σ H) (hi : ρ[i]? = some (some (.own d))) : RSt K H0 Lo (ρ.set i (some (.val d))) (VV.rms α [i]) σ H := by
  obtain ⟨a, e1, e2, ob⟩ := h.own i d hi
  have hlt : i < ρ.length := by
    rcases Nat.lt_or_ge i ρ.length with q | q
    · exact q
    · rw [List.getElem?_eq_none q] at hi; cases hi
  have hL : ∀ z, Lv Lo (VV.rms α [i]) z → Lv Lo α z ∨ H z = none := fun z q => .inl (Lv_rms z q)
  have na : ¬ Lv Lo (VV.rms α [i]) a := fun z => by
    rcases z with z | ⟨j, z⟩
    · exact h.nl i a e1 z
    · obtain ⟨z1, z2⟩ := rms_some z
      have ej := h.inj i j a e1 z1
      have := h.sm
      exact z2 ⟨by simp [ej], by omega⟩
  refine ⟨⟨⟨fun z q => h.re.lv z (Lv_rms z q), h.re.lv.tb⟩, by simp [h.re.len], fun j x e => ?_⟩, h.same, h.lo, fun j z e => h.new j z (rms_some e).1, fun j l z f1 f2 => h.inj j l z (rms_some f1).1 (rms_some f2).1, fun j d2 e => ?_, by simpa using h.sm, fun j rows e => ?_, fun j z e => h.nl j z (rms_some e).1, h.pr.set (by intro _ z; cases z) fun _ _ _ o => o.lives hL⟩
  · by_cases hj : i = j
    · subst hj
      rw [List.getElem?_set_self hlt] at e
      cases e
      exact ⟨_, e2, _, rfl, (ob.lives hL).rp na⟩
    · rw [List.getElem?_set_ne hj] at e
      obtain ⟨w, f1, r⟩ := h.re.sl j x e
      exact ⟨w, f1, r.lives hL⟩
  · by_cases hj : i = j
    · subst hj
      rw [List.getElem?_set_self hlt] at e
      cases e
    · rw [List.getElem?_set_ne hj] at e
      obtain ⟨c, g1, g2, g3⟩ := h.own j d2 e
      exact ⟨c, (rms_off (by simp [Ne.symm hj])).trans g1, g2, g3.lives hL⟩
  · by_cases hj : i = j
    · subst hj
      rw [List.getElem?_set_self hlt] at e
      cases e
    · rw [List.getElem?_set_ne hj] at e
      obtain ⟨c, bs, g1, g2, g3, g4⟩ := h.grd j rows e
      exact ⟨c, bs, (rms_off (by simp [Ne.symm hj])).trans g1, g2, fun k b q => rms_far.trans (g3 k b q), g4.lives hL⟩
end
def PostS (K : PySem.W.Frag) (H0 : Hp) (Lo : Ad) (W : WX) (H : Hp) (α : Nat → Option Addr) (o : Out) (D : Ends) : Prop := match o with
  | .nx ρ' => ∀ α' σ' H', RSt K H0 Lo ρ' α' σ' H' → Evo K Lo H α H' α' → D.nx σ' H'
  | .rt d => ∀ H' v, Same H0 H' → Rp K H' Lo d v → D.rt v H'
  | .rn d => ∀ H' a, Same H0 H' → H0 a = none → Ow K H' (Lp Lo a) d a → D.rt (.ref a) H'
  | .rm d ρ' => ∀ α' σ' H' v, RSt K H0 Lo ρ' α' σ' H' → Evo K Lo H α H' α' → Rp K H' (Lv Lo α') d v → D.rt v H'
  | .rq i ρ' => ∀ α' σ' H' b ds, RSt K H0 Lo ρ' α' σ' H' → Evo K Lo H α H' α' → α' i = some b → ρ'[i]? = some (some (.own (.list ds))) → D.rt (.ref b) H'
  | .bk ρ' => ∀ α' σ' H', RSt K H0 Lo ρ' α' σ' H' → Evo K Lo H α H' α' → D.bk σ' H'
  | .ct ρ' => ∀ α' σ' H', RSt K H0 Lo ρ' α' σ' H' → Evo K Lo H α H' α' → D.ct σ' H'
  | .exc c fs ρ' => ∀ α' σ' H' x, RSt K H0 Lo ρ' α' σ' H' → Evo K Lo H α H' α' → XR K H' (Lv Lo α') fs x → W (.ref (He.ga K c)) x σ' H'
  | .bad => False
theorem PostS.evo {K : PySem.W.Frag} {H0 H H' : Hp} {Lo : Ad} {W : WX} {α α' : Nat → Option Addr} {o : Out} {D : Ends} (h : PostS K H0 Lo W H α o D) (e : Evo K Lo H α H' α') : PostS K H0 Lo W H' α' o D := by
  cases o with
  | nx ρ => exact fun a s H2 r e2 => h a s H2 r (e.trans e2)
  | rt d => exact h
  | rn d => exact h
  | rm d ρ => exact fun a s H2 v r e2 => h a s H2 v r (e.trans e2)
  | rq i ρ => exact fun a s H2 b ds r e2 => h a s H2 b ds r (e.trans e2)
  | bk ρ => exact fun a s H2 r e2 => h a s H2 r (e.trans e2)
  | ct ρ => exact fun a s H2 r e2 => h a s H2 r (e.trans e2)
  | exc c fs ρ => exact fun a s H2 x r e2 => h a s H2 x r (e.trans e2)
  | bad => exact h
def tS (K : PySem.W.Frag) (H0 : Hp) (Lo : Ad) (W : WX) (f : SF) : TS := fun D σ H => ∃ ρ α, RSt K H0 Lo ρ α σ H ∧ PostS K H0 Lo W H α (f ρ) D
abbrev SS (X : Cx) (W : WX) (st : Stmt) (f : SF) : Prop := ∀ (H0 : Hp) (Lo : Ad), PS X st (tS X.K H0 Lo W f)
abbrev SSs (X : Cx) (W : WX) (sts : List Stmt) (f : SF) : Prop := ∀ (H0 : Hp) (Lo : Ad), PSs X sts (tS X.K H0 Lo W f)
def Rs.out (r : Rs) (ρ : En) (k : D → Out) : Out := match r with
  | .ok d => k d
  | .exc c fs => .exc c fs ρ
  | .bad => .bad
@[simp] theorem Rs.out_ok (d : D) (ρ : En) (k : D → Out) : (Rs.ok d).out ρ k = k d := rfl
@[simp] theorem Rs.out_exc (c : Str) (fs : List (Str × D)) (ρ : En) (k : D → Out) : (Rs.exc c fs).out ρ k = .exc c fs ρ := rfl
@[simp] theorem Rs.out_bad (ρ : En) (k : D → Out) : Rs.bad.out ρ k = .bad := rfl
section
variable {K : PySem.W.Frag} {H0 H : Hp} {Lo : Ad} {W : WX} {ρ : En} {α : Nat → Option Addr} {σ : St} {r : Rs} {k : D → Out} {D : Ends} {R : VK}
theorem PostS.expr (rst : RSt K H0 Lo ρ α σ H) (h : PostS K H0 Lo W H α (r.out ρ k) D) (hk : ∀ d H1 v, Same H H1 → Rp K H1 (Lv Lo α) d v → RSt K H0 Lo ρ α σ H1 → PostS K H0 Lo W H1 α (k d) D → R v H1) : Post K W (Lv Lo α) σ H r R := by
  cases r with
  | ok d => exact fun H1 v s rv => hk d H1 v s rv (rst.mono s) (PostS.evo h (.of_same s))
  | exc c fs => exact fun H1 x s xr => h α σ H1 x (rst.mono s) (.of_same s) xr
  | bad => exact h
theorem PostS.exprB (rst : RSt K H0 Lo ρ α σ H) (h : PostS K H0 Lo W H α (r.out ρ k) D) (hk : ∀ d H1 v, Same H H1 → Rb K H1 (Lv Lo α) d v → RSt K H0 Lo ρ α σ H1 → PostS K H0 Lo W H1 α (k d) D → R v H1) : PostB K W (Lv Lo α) σ H r R := by
  cases r with
  | ok d => exact fun H1 v s rv => hk d H1 v s rv (rst.mono s) (PostS.evo h (.of_same s))
  | exc c fs => exact fun H1 x s xr => h α σ H1 x (rst.mono s) (.of_same s) xr
  | bad => exact h
theorem PostS.exprN (rst : RSt K H0 Lo ρ α σ H) (h : PostS K H0 Lo W H α (r.out ρ k) D) (hk : ∀ d H1 a, Same H H1 → H a = none → Ow K H1 (Lp (Lv Lo α) a) d a → PostS K H0 Lo W H α (k d) D → R (.ref a) H1) : PostN K W (Lv Lo α) σ H r R := by
  cases r with
  | ok d => exact fun H1 a s n o => hk d H1 a s n o h
  | exc c fs => exact fun H1 x s xr => h α σ H1 x (rst.mono s) (.of_same s) xr
  | bad => exact h
end
section
variable {X : Cx} {W : WX} {st : Stmt} {sts rest body : List Stmt} {f g : SF} {e a b c o : Expr} {ef eg : EF} {pos pos' : Pos} {i : Nat} {x : Str}
theorem _root_.L2.PS.weak {t t' : TS} (h : PS X st t) (hw : ∀ D σ H, t' D σ H → t D σ H) : PS X st t' := ⟨fun pn s σ H D I q => h.run pn s σ H D I (hw D σ H q)⟩
theorem _root_.L2.PSs.weak {t t' : TS} (h : PSs X sts t) (hw : ∀ D σ H, t' D σ H → t D σ H) : PSs X sts t' := ⟨fun pn s σ H D I q => h.run pn s σ H D I (hw D σ H q)⟩
def sNx : SF := fun ρ => .nx ρ
def sSeq (f g : SF) : SF := fun ρ => match f ρ with
  | .nx ρ' => g ρ'
  | o => o
theorem ss_nil : SSs X W [] sNx := fun H0 Lo => pss_nil.weak fun D σ H ⟨ρ, α, rst, p⟩ => p α σ H rst .refl
theorem ss_cons (h1 : SS X W st f) (h2 : SSs X W rest g) : SSs X W (st :: rest) (sSeq f g) := fun H0 Lo => (pss_cons (h1 H0 Lo) (h2 H0 Lo)).weak fun D σ H ⟨ρ, α, rst, p⟩ => by
  refine ⟨ρ, α, rst, ?_⟩
  unfold sSeq at p
  cases hf : f ρ with
  | nx ρ' => rw [hf] at p; exact fun α' σ' H' r ev => ⟨ρ', α', r, p.evo ev⟩
  | rt d => rw [hf] at p; exact p
  | rn d => rw [hf] at p; exact p
  | rm d ρ' => rw [hf] at p; exact p
  | rq i ρ' => rw [hf] at p; exact p
  | bk ρ' => rw [hf] at p; exact p
  | ct ρ' => rw [hf] at p; exact p
  | exc c fs ρ' => rw [hf] at p; exact p
  | bad => rw [hf] at p; exact p
theorem ss_one (h1 : SS X W st f) : SSs X W [st] f := fun H0 Lo => pss_one (h1 H0 Lo)
def sFrz (i : Nat) (f : SF) : SF := fun ρ => match ρ[i]? with
  | some (some (.own d)) => f (ρ.set i (some (.val d)))
  | some (some (.val _)) => f ρ
  | _ => .bad
theorem ss_frz (i : Nat) (h : SSs X W sts f) : SSs X W sts (sFrz i f) := fun H0 Lo => (h H0 Lo).weak fun D σ H ⟨ρ, α, rst, p⟩ => by
  unfold sFrz at p
  cases hi : ρ[i]? with
  | none => simp only [hi] at p; exact p.elim
  | some q =>
    cases q with
    | none => simp only [hi] at p; exact p.elim
    | some q =>
      cases q with
      | own d => simp only [hi] at p; exact ⟨_, _, rst.frz hi, p.evo (Evo.rms [i])⟩
      | grid _ => simp only [hi] at p; exact p.elim
      | pin _ => simp only [hi] at p; exact p.elim
      | ownP _ => simp only [hi] at p; exact p.elim
      | val d => simp only [hi] at p; exact ⟨_, _, rst, p⟩
def sDrop (f : EF) : SF := fun ρ => (f ρ).out ρ fun _ => .nx ρ
theorem ss_drop (he : SE X W e ef) (hs : swapsWith e none pos.line X.env = pure false := by rfl) : SS X W (.Expr e pos) (sDrop ef) := fun H0 Lo => (ps_expr he hs).weak fun D σ H ⟨ρ, α, rst, p⟩ =>
  ⟨_, ρ, rst.re, p.expr rst fun d H1 v s r rst1 p1 => p1 α σ H1 rst1 .refl⟩
def sRet (f : EF) : SF := fun ρ => (f ρ).out ρ fun d => .rt d
theorem ss_ret (he : SE X W e ef) : SS X W (.Return (some e) pos) (sRet ef) := fun H0 Lo => (ps_ret he).weak fun D σ H ⟨ρ, α, rst, p⟩ =>
  ⟨_, ρ, rst.re, p.expr rst fun d H1 v s r rst1 p1 => p1 H1 v rst1.same (r.lives fun z q => .inl (.inl q))⟩
def sRetV (i : Nat) : SF := fun ρ => match ρ[i]? with
  | some (some (.own d)) => .rt d
  | some (some (.val d)) => .rt d
  | _ => .bad
theorem ss_retV (i : Nat) {x : Str} {p : Pos} (hN : X.N[i]? = some x := by rfl) (hv : Vis X.env.scope x := by first | exact Or.inl rfl | exact Or.inr (Or.inl rfl) | exact Or.inr (Or.inr rfl)) (hd : (x == ("__debug__" : Str)) = false := by decide)
    (hcd : (x == ("__classdict__" : Str)) = false := by decide) : SS X W (.Return (some (.Name x p)) pos) (sRetV i) := fun H0 Lo => (ps_ret (pe_var hN hv hd hcd)).weak fun D σ H ⟨ρ, α, rst, p⟩ => by
  unfold sRetV at p
  cases hi : ρ[i]? with
  | none => simp only [hi] at p; exact p.elim
  | some q =>
    cases q with
    | none => simp only [hi] at p; exact p.elim
    | some q =>
      cases q with
      | grid _ => simp only [hi] at p; exact p.elim
      | pin _ => simp only [hi] at p; exact p.elim
      | ownP _ => simp only [hi] at p; exact p.elim
      | own d =>
        simp only [hi] at p
        obtain ⟨a, e1, e2, ob⟩ := rst.own i d hi
        exact ⟨.ref a, e2, p H _ rst.same ((ob.lives fun z q => .inl (.inl q)).rp fun z => rst.nl i a e1 z)⟩
      | val d =>
        simp only [hi] at p
        obtain ⟨w, e1, v, e2, r⟩ := rst.re.sl i _ hi
        subst e2
        exact ⟨v, e1, p H _ rst.same (r.lives fun z q => .inl (.inl q))⟩
def outIf (f g : Out) : D → Out
  | .bool true => f
  | .bool false => g
  | _ => .bad
def sIf (c : EF) (f g : SF) : SF := fun ρ => (c ρ).out ρ (outIf (f ρ) (g ρ))
theorem ss_if {sa sb : List Stmt} (hc : ST X W c ef) (ha : SSs X W sa f) (hb : SSs X W sb g) : SS X W (.If c sa sb pos) (sIf ef f g) := fun H0 Lo => (ps_if hc (ha H0 Lo) (hb H0 Lo)).weak fun D σ H ⟨ρ, α, rst, p⟩ => by
  refine ⟨_, ρ, rst.re, ?_⟩
  unfold sIf at p
  cases hr : ef ρ with
  | bad => rw [hr] at p; exact p
  | exc c fs => rw [hr] at p; exact fun H1 x s xr => p α σ H1 x (rst.mono s) (.of_same s) xr
  | ok d =>
    rw [hr] at p
    cases d with
    | bool k =>
      intro H1 s1
      have p1 := p.evo (.of_same s1)
      cases k with
      | true => rw [if_pos rfl]; exact ⟨ρ, α, rst.mono s1, p1⟩
      | false => rw [if_neg Bool.false_ne_true]; exact ⟨ρ, α, rst.mono s1, p1⟩
    | _ => exact p
def outB (r : Option En) : Out := match r with
  | some ρ => .nx ρ
  | none => .bad
def sAsg (t : Tg) (f : EF) : SF := fun ρ => (f ρ).out ρ fun d => outB (bindT t d ρ)
theorem gT_st {K : PySem.W.Frag} {H0 H : Hp} {Lo : Ad} {t : Tg} {d : D} {v : V} {ρ : En} {α : Nat → Option Addr} {σ : St} {D : Ends} (rst : RSt K H0 Lo ρ α σ H) (r : Rp K H (Lv Lo α) d v) (p : PostS K H0 Lo W H α (outB (bindT t d ρ)) D) : gT K t v σ H D.nx := by
  unfold outB at p
  cases hb : bindT t d ρ with
  | none => rw [hb] at p; exact p.elim
  | some ρ1 => rw [hb] at p; exact gT_of rst.re r hb fun σ1 re1 ch => p _ σ1 H (rst.ch re1 ch) (Evo.rms _)
theorem ss_asg {tg : Expr} {t : Tg} (he : SE X W e ef) (hg : PG X tg (gT X.K t)) (hs : swapsWithSole [tg] e pos.line X.env = pure false := by rfl) (hw : swappedStores [tg] e X.env = pure none := by rfl)
    (h1 : (assignEach [tg] X.env).map (·.2) = [assign tg X.env] := by rfl) : SS X W (.Assign [tg] e pos) (sAsg t ef) := fun H0 Lo => (ps_asg he hg hs hw h1).weak fun D σ H ⟨ρ, α, rst, p⟩ =>
  ⟨_, ρ, rst.re, p.expr rst fun d H1 v s r rst1 p1 => gT_st rst1 r p1⟩
def sSet (i : Nat) (f : EF) : SF := fun ρ => (f ρ).out ρ fun d => .nx (ρ.set i (some (.val d)))
def sOwn (i : Nat) (f : EF) : SF := fun ρ => (f ρ).out ρ fun d => .nx (ρ.set i (some (.own d)))
theorem ss_set (hN : X.N.Nodup) (he : SE X W e ef) (hi : X.N[i]? = some x := by rfl) (hx : Loc X.env.scope x := by first | exact Or.inl rfl | exact Or.inr rfl) (hs : swapsWith e (some (.Name x pos')) pos.line X.env = pure false := by rfl) (hf : X.fn x = true ∨ X.env.scope.names.lookup x = some .local := by first | exact .inl rfl | exact .inr rfl) :
    SS X W (.Assign [.Name x pos'] e pos) (sSet i ef) := fun H0 Lo => (ps_set hN hi hx he hs hf).weak fun D σ H ⟨ρ, α, rst, p⟩ =>
  ⟨_, ρ, rst.re, p.expr rst fun d H1 v s r rst1 p1 => p1 _ _ H1 (rst1.set r) (Evo.rms _)⟩
theorem ss_own (hN : X.N.Nodup) (he : SN X W e ef) (hi : X.N[i]? = some x := by rfl) (hx : Loc X.env.scope x := by first | exact Or.inl rfl | exact Or.inr rfl) (hs : swapsWith e (some (.Name x pos')) pos.line X.env = pure false := by rfl) (hf : X.fn x = true ∨ X.env.scope.names.lookup x = some .local := by first | exact .inl rfl | exact .inr rfl) (i1 : i < 1000 := by decide) :
    SS X W (.Assign [.Name x pos'] e pos) (sOwn i ef) := fun H0 Lo => (ps_set hN hi hx he hs hf).weak fun D σ H ⟨ρ, α, rst, p⟩ =>
  ⟨_, ρ, rst.re, p.exprN rst fun d H1 a s n o p1 => let ⟨q1, q2⟩ := rst.setOwn i1 s n o; p1 _ _ H1 q1 q2⟩
theorem ss_setLc {elt tg iter : Expr} {ifs : List Expr} {scope : Scope} {own : List (Str × Nat)} {py spos : Pos} {fi : IF} {t : Tg} {cf f : EF} (hN : X.N.Nodup) (hi : SI X W tg iter fi) (ok : BlkOk X.N X.env.scope scope own)
    (hg : ∀ (s : Shared) (H : Hp) (C : Addr) (cl : List (Str × Addr)) (fp : List Addr), PG (X.blk s H scope (compEnvC scope cl C X.env) fp) tg (gT X.K t)) (ht : ∀ (s : Shared) (H : Hp) (C : Addr) (cl : List (Str × Addr)) (fp : List Addr), STs (X.blk s H scope (compEnvC scope cl C X.env) fp) ifs cf)
    (he : ∀ (s : Shared) (H : Hp) (C : Addr) (cl : List (Str × Addr)) (fp : List Addr), SE (X.blk s H scope (compEnvC scope cl C X.env) fp) WF elt f) (hsw : swapsWith (.ListComp elt [⟨tg, iter, ifs, 0⟩] scope pos) (some (.Name x py)) spos.line X.env = pure true)
    (hsl : ∀ i ∈ slotsT t, i ∈ own.map (·.2) := by decide) (hy : X.N[i]? = some x := by rfl) (hyl : X.env.scope.names.lookup x = some .local := by rfl) (hc : X.calm = true := by rfl) (hs : ∀ x, foldedSetIterable iter X.env x = pure x := by intro _; rfl) :
    SS X W (.Assign [.Name x py] (.ListComp elt [⟨tg, iter, ifs, 0⟩] scope pos) spos) (sSet i (eLc (own.map (·.2)) fi t cf f)) := fun H0 Lo => (ps_setLc hc hN hy hyl hsw hi ok hg ht he hs).weak fun D σ H ⟨ρ, α, rst, p⟩ =>
  tLc_of hsl σ H _ ⟨_, ρ, rst.re, p.exprN rst fun d H1 a s n o p1 => (p1.evo (.of_same s)) _ _ H1 ((rst.mono s).set ((o.lives fun z q => .inl (.inl q)).rp fun z => rst.re.lv a z n)) (Evo.rms _)⟩
end
end VV
namespace VV
open PySem PySem.Spec L2
open PyProof.Rows hiding St
section
variable {X : Cx} {W : WX} {st : Stmt} {sts rest body : List Stmt} {f g : SF} {e a b c o : Expr} {ef eg : EF} {pos pos' : Pos} {i : Nat} {x : Str}
def ownL (ρ : En) (i : Nat) (k : List D → Out) : Out := match ρ[i]? with
  | some (some (.own (.list ds))) => k ds
  | _ => .bad
theorem PostS.ownL {K : PySem.W.Frag} {H0 H : Hp} {Lo : Ad} {ρ : En} {α : Nat → Option Addr} {σ : St} {k : List D → Out} {Dn : Ends} (rst : RSt K H0 Lo ρ α σ H) (p : PostS K H0 Lo W H α (VV.ownL ρ i k) Dn) :
    ∃ ds a vs, ρ[i]? = some (some (.own (.list ds))) ∧ σ[i]? = some (some (.ref a)) ∧ H a = some (.lst vs) ∧ RpL K H (Lv Lo α) ds vs ∧ PostS K H0 Lo W H α (k ds) Dn ∧ Lv Lo α a := by
  unfold VV.ownL at p
  cases hi : ρ[i]? with
  | none => simp only [hi] at p; exact p.elim
  | some q =>
    cases q with
    | none => simp only [hi] at p; exact p.elim
    | some q =>
      cases q with
      | val d => simp only [hi] at p; exact p.elim
      | grid _ => simp only [hi] at p; exact p.elim
      | pin _ => simp only [hi] at p; exact p.elim
      | ownP _ => simp only [hi] at p; exact p.elim
      | own d =>
        cases d with
        | list ds =>
          simp only [hi] at p
          obtain ⟨a, e1, e2, ob⟩ := rst.own i _ hi
          cases ob with
          | lst h1 r => exact ⟨ds, a, _, rfl, e2, h1, r, p, .inr ⟨i, e1⟩⟩
        | _ => simp only [hi] at p; exact p.elim
def sApp (i : Nat) (f : EF) : SF := fun ρ => ownL ρ i fun ds => (f ρ).out ρ fun d => if ds.length < sizeLine then .nx (ρ.set i (some (.own (.list (ds ++ [d]))))) else .bad
theorem ss_app (i : Nat) {x : Str} {p apos cpos : Pos} (he : SE X W e ef) (hN : X.N[i]? = some x := by rfl) (hv : Vis X.env.scope x := by first | exact Or.inl rfl | exact Or.inr (Or.inl rfl) | exact Or.inr (Or.inr rfl)) (hd : (x == ("__debug__" : Str)) = false := by decide)
    (hcd : (x == ("__classdict__" : Str)) = false := by decide) (hbase : attributeBase (.Name x p) "append" X.env (eval (.Name x p) X.env) = eval (.Name x p) X.env := by rfl)
    (hfew : ((backTo cpos (starEach (e :: []) X.env)).all (fun x => !x.1) && (backToKw cpos (keywordEach [] X.env)).all (fun x => x.1.isSome) && decide ((e :: []).length + ([] : List Keyword).length + (if ([] : List Keyword).isEmpty then 0 else 1) < 30)) = true := by rfl)
    (hline : (apos.endLine == cpos.line) = true := by rfl) (hs : starEach (e :: []) X.env = (false, eval e X.env) :: starEach [] X.env := by rfl) (hplain : (backTo cpos (starEach [] X.env)).any (·.1) = false := by rfl) :
    SS X W (.Expr (.Call (.Attribute (.Name x p) "append" apos) [e] [] cpos) pos) (sApp i ef) := fun H0 Lo =>
  (ps_expr (pe_bm PySem.F.plainAttrs_list PySem.F.slot_list_append PySem.F.type_list_append mt_append (pe_var hN hv hd hcd) (pa_cons he pa_nil hs) hbase hfew hline hs hplain)).weak fun D σ H ⟨ρ, α, rst, p⟩ => by
  obtain ⟨ds, l, vs, h1, h2, h3, rl, p, hL⟩ := PostS.ownL rst p
  refine ⟨.ref l, h2, .inl ⟨rfl, vs, SqL.of h3⟩, _, ρ, rst.re, p.expr rst fun d H1 v s r rst1 p1 => ?_⟩
  split at p1
  · rename_i hz
    rw [rl.length] at hz
    refine ⟨l, vs, v, rfl, rfl, s _ _ h3, hz, ?_⟩
    have hl3 := s _ _ h3
    obtain ⟨q1, q2⟩ := rst1.write (d' := .list (ds ++ [d])) (o' := .lst (vs ++ [v])) h1 h2 (.lst upd_same (RpL.upd hl3 trivial hL ((rl.mono s).append (.cons r .nil))))
    exact p1 α σ _ q1 q2
  · exact p1.elim
def sExt (i : Nat) (f : EF) : SF := fun ρ => ownL ρ i fun ds => (f ρ).out ρ fun d => match d with
  | .list es => if ds.length + es.length ≤ sizeLine then .nx (ρ.set i (some (.own (.list (ds ++ es))))) else .bad
  | _ => .bad
theorem ss_ext (i : Nat) {x : Str} {p apos cpos : Pos} (he : SB X W e ef) (hN : X.N[i]? = some x := by rfl) (hv : Vis X.env.scope x := by first | exact Or.inl rfl | exact Or.inr (Or.inl rfl) | exact Or.inr (Or.inr rfl)) (hd : (x == ("__debug__" : Str)) = false := by decide)
    (hcd : (x == ("__classdict__" : Str)) = false := by decide) (hbase : attributeBase (.Name x p) "extend" X.env (eval (.Name x p) X.env) = eval (.Name x p) X.env := by rfl)
    (hfew : ((backTo cpos (starEach (e :: []) X.env)).all (fun x => !x.1) && (backToKw cpos (keywordEach [] X.env)).all (fun x => x.1.isSome) && decide ((e :: []).length + ([] : List Keyword).length + (if ([] : List Keyword).isEmpty then 0 else 1) < 30)) = true := by rfl)
    (hline : (apos.endLine == cpos.line) = true := by rfl) (hs : starEach (e :: []) X.env = (false, eval e X.env) :: starEach [] X.env := by rfl) (hplain : (backTo cpos (starEach [] X.env)).any (·.1) = false := by rfl) :
    SS X W (.Expr (.Call (.Attribute (.Name x p) "extend" apos) [e] [] cpos) pos) (sExt i ef) := fun H0 Lo =>
  (ps_expr (pe_bm PySem.F.plainAttrs_list PySem.F.slot_list_extend PySem.F.type_list_extend mt_extend (pe_var hN hv hd hcd) (pa_cons he pa_nil hs) hbase hfew hline hs hplain)).weak fun D σ H ⟨ρ, α, rst, p⟩ => by
  obtain ⟨ds, l, vs, h1, h2, h3, rl, p, hL⟩ := PostS.ownL rst p
  refine ⟨.ref l, h2, .inl ⟨rfl, vs, SqL.of h3⟩, _, ρ, rst.re, p.exprB rst fun d H1 v s r rst1 p1 => ?_⟩
  cases d with
  | list es =>
    simp only at p1
    split at p1
    · rename_i hz
      obtain ⟨b, us, rfl, hb, rb⟩ := r.lstV
      rw [rl.length, rb.length] at hz
      have hl3 := s _ _ h3
      refine ⟨l, b, vs, us, rfl, rfl, hl3, hb, hz, ?_⟩
      obtain ⟨q1, q2⟩ := rst1.write (d' := .list (ds ++ es)) (o' := .lst (vs ++ us)) h1 h2 (.lst upd_same (RpL.upd hl3 trivial hL ((rl.mono s).append rb)))
      exact p1 α σ _ q1 q2
    · exact p1.elim
  | _ => exact p1.elim
def sPutL (i : Nat) (fk fv : EF) : SF := fun ρ => (fv ρ).out ρ fun v => ownL ρ i fun ds => (fk ρ).out ρ fun k => match k with
  | .int j => (match ixN ds.length j with
    | some n => .nx (ρ.set i (some (.own (.list (ds.set n v)))))
    | none => .bad)
  | _ => .bad
def forOne (t : Tg) (f : SF) (d : D) (ρ : En) (k : En → Out) : Out := match bindT t d ρ with
  | none => .bad
  | some ρ1 => match f ρ1 with
    | .nx ρ2 => k ρ2
    | .ct ρ2 => k ρ2
    | .bk ρ2 => .nx ρ2
    | .rt d => .rt d
    | .rn d => .rn d
    | .rm d ρ2 => .rm d ρ2
    | .rq i ρ2 => .rq i ρ2
    | .exc c fs ρ2 => .exc c fs ρ2
    | .bad => .bad
def forGo (t : Tg) (f : SF) : List D → En → Out
  | [], ρ => .nx ρ
  | d :: ds, ρ => forOne t f d ρ (forGo t f ds)
def RL.out (r : RL) (ρ : En) (k : List D → Out) : Out := match r with
  | .ok d => k d
  | .exc c fs => .exc c fs ρ
  | .bad => .bad
@[simp] theorem RL.out_ok (d : List D) (ρ : En) (k : List D → Out) : (RL.ok d).out ρ k = k d := rfl
@[simp] theorem RL.out_exc (c : Str) (fs : List (Str × D)) (ρ : En) (k : List D → Out) : (RL.exc c fs).out ρ k = .exc c fs ρ := rfl
@[simp] theorem RL.out_bad (ρ : En) (k : List D → Out) : RL.bad.out ρ k = .bad := rfl
def sFor (fi : IF) (t : Tg) (f : SF) : SF := fun ρ => (fi ρ).out ρ fun ds => forGo t f ds ρ
theorem ss_for {tg iter : Expr} {fi : IF} {t : Tg} (hp : PassesOwn (model X.prog X.w) X.A X.env X.xe) (hi : SIS X W tg iter fi) (hg : PG X tg (gT X.K t)) (hb : SSs X W body f) (hc : X.calm = true := by rfl) (hs : ∀ x, foldedSetIterable iter X.env x = pure x := by intro _; rfl) :
    SS X W (.For tg iter body [] pos) (sFor fi t f) := fun H0 Lo => (ps_for hp hc hi hg (hb H0 Lo) hs).weak fun D σ H ⟨ρ, α, rst, p⟩ => by
  refine ⟨_, ρ, rst.re, ?_⟩
  unfold sFor at p
  cases hf : fi ρ with
  | bad => rw [hf] at p; exact p
  | exc c fs => rw [hf] at p; exact fun H1 x s xr => p α σ H1 x (rst.mono s) (.of_same s) xr
  | ok ds =>
    rw [hf] at p
    simp only [RL.out_ok] at p
    intro J S H1 s1 it hS
    let Iv : Nat → St → Hp → Prop := fun i σ H => i ≤ ds.length ∧ ∃ ρ α, RSt X.K H0 Lo ρ α σ H ∧ S H (Lv Lo α) ∧ PostS X.K H0 Lo W H α (forGo t f (ds.drop i) ρ) D
    refine ⟨fun i m σ H => m = ds.length - i ∧ Iv i σ H, ⟨ds.length, by simp, Nat.zero_le _, ρ, α, rst.mono s1, hS, by rw [List.drop_zero]; exact p.evo (.of_same s1)⟩, ?_⟩
    rintro i m σ2 H2 ⟨rfl, hi, ρ2, α2, rst2, hS2, p2⟩
    by_cases hlt : i < ds.length
    · refine .inr ⟨it.go i H2 _ hS2 hlt, Iv (i + 1), fun σ' H' q => ⟨ds.length - (i + 1), by omega, rfl, q⟩, fun x H3 y => ?_⟩
      obtain ⟨s3, hx⟩ := it.yld i H2 _ x H3 hS2 y
      have rx := hx ds[i] (by simp [hlt])
      rw [List.drop_eq_getElem_cons hlt] at p2
      simp only [forGo] at p2
      unfold forOne at p2
      have rst3 := rst2.mono s3
      cases hbt : bindT t ds[i] ρ2 with
      | none => rw [hbt] at p2; exact p2.elim
      | some ρ3 =>
        rw [hbt] at p2
        simp only at p2
        refine gT_of rst3.re rx hbt fun σ3 re3 ch => ?_
        have rst4 := rst3.ch re3 ch
        have ev4 : Evo X.K Lo H2 α2 H3 (rms α2 (slotsT t)) := (Evo.of_same s3).trans (Evo.rms _)
        refine ⟨ρ3, _, rst4, ?_⟩
        have hS4 : S H3 (Lv Lo (rms α2 (slotsT t))) := it.evo _ _ _ _ hS2 ev4
        have p4 := p2.evo ev4
        cases hb3 : f ρ3 with
        | nx ρ5 => rw [hb3] at p4; exact fun α5 σ5 H5 r5 e5 => ⟨hlt, ρ5, α5, r5, it.evo _ _ _ _ hS4 e5, p4.evo e5⟩
        | ct ρ5 => rw [hb3] at p4; exact fun α5 σ5 H5 r5 e5 => ⟨hlt, ρ5, α5, r5, it.evo _ _ _ _ hS4 e5, p4.evo e5⟩
        | bk ρ5 => rw [hb3] at p4; exact p4
        | rt d => rw [hb3] at p4; exact p4
        | rn d => rw [hb3] at p4; exact p4
        | rm d ρ5 => rw [hb3] at p4; exact p4
        | rq i ρ5 => rw [hb3] at p4; exact p4
        | exc c fs ρ5 => rw [hb3] at p4; exact p4
        | bad => rw [hb3] at p4; exact p4
    · have e : i = ds.length := by omega
      subst e
      rw [List.drop_length] at p2
      exact .inl ⟨it.stop _ H2 _ hS2 (Nat.le_refl _), p2 α2 σ2 H2 rst2 .refl⟩
def whGo (c : EF) (f : SF) : Nat → En → Out
  | 0, _ => .bad
  | n + 1, ρ => (c ρ).out ρ fun b => match b with
    | .bool true => (match f ρ with
      | .nx ρ2 => whGo c f n ρ2
      | .ct ρ2 => whGo c f n ρ2
      | .bk ρ2 => .nx ρ2
      | .rt d => .rt d
      | .rn d => .rn d
      | .rm d ρ2 => .rm d ρ2
      | .rq i ρ2 => .rq i ρ2
      | .exc c fs ρ2 => .exc c fs ρ2
      | .bad => .bad)
    | .bool false => .nx ρ
    | _ => .bad
def sWh (n : Nat) (c : EF) (f : SF) : SF := whGo c f n
theorem ss_while (n : Nat) (hp : PassesOwn (model X.prog X.w) X.A X.env X.xe) (hc : ST X W c ef) (hb : SSs X W body f) : SS X W (.While c body [] pos) (sWh n ef f) := fun H0 Lo => (ps_while hp hc (hb H0 Lo)).weak fun D σ H ⟨ρ, α, rst, p⟩ => by
  refine ⟨fun m σ H => ∃ ρ α, RSt X.K H0 Lo ρ α σ H ∧ PostS X.K H0 Lo W H α (whGo ef f m ρ) D, ⟨n, ρ, α, rst, p⟩, ?_⟩
  rintro m σ1 H1 ⟨ρ1, α1, rst1, p1⟩
  cases m with
  | zero => exact p1.elim
  | succ m =>
    refine ⟨_, ρ1, rst1.re, ?_⟩
    simp only [whGo] at p1
    cases hr : ef ρ1 with
    | bad => rw [hr] at p1; exact p1
    | exc c fs => rw [hr] at p1; exact fun H2 x s xr => p1 α1 σ1 H2 x (rst1.mono s) (.of_same s) xr
    | ok d =>
      rw [hr] at p1
      simp only [Rs.out_ok] at p1
      cases d with
      | bool k =>
        intro H2 s2
        have p2 := p1.evo (.of_same s2)
        have rst2 := rst1.mono s2
        cases k with
        | true =>
          rw [if_pos rfl]
          refine ⟨fun σ H => ∃ ρ α, RSt X.K H0 Lo ρ α σ H ∧ PostS X.K H0 Lo W H α (whGo ef f m ρ) D, fun σ' H' q => ⟨m, Nat.lt_succ_self m, q⟩, ρ1, α1, rst2, ?_⟩
          simp only at p2
          cases hb3 : f ρ1 with
          | nx ρ5 => rw [hb3] at p2; exact fun α5 σ5 H5 r5 e5 => ⟨ρ5, α5, r5, p2.evo e5⟩
          | ct ρ5 => rw [hb3] at p2; exact fun α5 σ5 H5 r5 e5 => ⟨ρ5, α5, r5, p2.evo e5⟩
          | bk ρ5 => rw [hb3] at p2; exact p2
          | rt d => rw [hb3] at p2; exact p2
          | rn d => rw [hb3] at p2; exact p2
          | rm d ρ5 => rw [hb3] at p2; exact p2
          | rq i ρ5 => rw [hb3] at p2; exact p2
          | exc c fs ρ5 => rw [hb3] at p2; exact p2
          | bad => rw [hb3] at p2; exact p2
        | false => rw [if_neg Bool.false_ne_true]; exact p2 α1 σ1 H2 rst2 .refl
      | _ => exact p1
def sRaise (c : Str) : SF := fun ρ => .exc c [] ρ
structure ExK (K : PySem.W.Frag) (mg : Str → Option Value) (x : Str) : Prop where
  g : mg x = some (.ref (He.ga K x))
  c : (He.Fa.exc x).ok K = true
theorem ss_raise {m : Str} {j : Nat} {p p2 q : Pos} (tk : Takes X W) (T : ExK X.K X.mg x) (hg : Gl X x := by rfl) (hdb : (x == ("__debug__" : Str)) = false := by decide) (hc : X.calm = true := by rfl) :
    SS X W (.Raise (some (.Call (.Name x p) [.Constant (.str m) j p2] [] q)) none pos) (sRaise x) := fun H0 Lo => by
  obtain ⟨k1, k2, k3, k4⟩ := He.exc_ok T.c
  exact (ps_raise hc tk (pmk_own PySem.F.excBase_ValueError k1 T.g k2 (raises_own k3 k4) hg hdb)).weak fun D σ H ⟨ρ, α, rst, p⟩ => p α σ H none rst .refl (.inl ⟨rfl, rfl⟩)
def augR (fn : Int → Int → Int) : D → D → Option D
  | .int i, .int j => some (.int (fn i j))
  | _, _ => none
def sAug (fn : Int → Int → Int) (i : Nat) (f : EF) : SF := fun ρ => (eV i ρ).out ρ fun x => (f ρ).out ρ fun y => match augR fn x y with
  | some d => .nx (ρ.set i (some (.val d)))
  | none => .bad
theorem ss_aug {op : Operator} {fn : Int → Int → Int} {p : Pos} (ho : PIp X op (ipI fn)) (hN : X.N.Nodup) (he : SB X W e ef) (hi : X.N[i]? = some x := by rfl) (hx : Loc X.env.scope x := by first | exact Or.inl rfl | exact Or.inr rfl) (hf : X.fn x = true ∨ X.env.scope.names.lookup x = some .local := by first | exact .inl rfl | exact .inr rfl) :
    SS X W (.AugAssign (.Name x p) op e pos) (sAug fn i ef) := fun H0 Lo => (ps_aug hN hi hx he ho hf).weak fun D σ H ⟨ρ, α, rst, p⟩ => by
  unfold sAug eV at p
  cases hq : ρ[i]? with
  | none => simp only [hq] at p; exact p.elim
  | some o =>
    cases o with
    | none => simp only [hq] at p; exact p.elim
    | some o =>
      cases o with
      | grid _ => simp only [hq] at p; exact p.elim
      | pin _ => simp only [hq] at p; exact p.elim
      | ownP _ => simp only [hq] at p; exact p.elim
      | own d => simp only [hq] at p; exact p.elim
      | val dx =>
        simp only [hq, Rs.out_ok] at p
        obtain ⟨w, e1, v, e2, r⟩ := rst.re.sl i _ hq
        subst e2
        refine ⟨v, e1, _, ρ, rst.re, p.exprB rst fun dy H1 y s ry rst1 p1 => ?_⟩
        cases hd : augR fn dx dy with
        | none => simp only [hd] at p1; exact p1.elim
        | some d =>
          simp only [hd] at p1
          unfold augR at hd
          split at hd
          · obtain rfl := r.intV
            obtain rfl := ry.intV
            cases hd
            exact ⟨_, _, rfl, rfl, p1 _ _ H1 (rst1.set (.int _)) (Evo.rms _)⟩
          · cases hd
def sPar (i j : Nat) (fs : List EF) : SF := fun ρ => (evA fs ρ).out ρ fun ds => match ds with
  | [x, y] => .nx ((ρ.set i (some (.val x))).set j (some (.val y)))
  | _ => .bad
theorem PostS.args {K : PySem.W.Frag} {H0 H : Hp} {Lo : Ad} {ρ : En} {α : Nat → Option Addr} {σ : St} {r : RL} {k : List D → Out} {Dn : Ends} {R : List V → Hp → Prop} (rst : RSt K H0 Lo ρ α σ H) (h : PostS K H0 Lo W H α (r.out ρ k) Dn)
    (hk : ∀ d H1 v, Same H H1 → RpL K H1 (Lv Lo α) d v → RSt K H0 Lo ρ α σ H1 → PostS K H0 Lo W H1 α (k d) Dn → R v H1) : PostA K W (Lv Lo α) σ H r R := by
  cases r with
  | ok d => exact fun H1 v s rv => hk d H1 v s rv (rst.mono s) (PostS.evo h (.of_same s))
  | exc c fs => exact fun H1 x s xr => h α σ H1 x (rst.mono s) (.of_same s) xr
  | bad => exact h
theorem ss_par {i j : Nat} {x y : Str} {a b : Expr} {fs : List EF} {px py pt : Pos} {kt k2 pt2} (hN : X.N.Nodup) (hij : i ≠ j) (ha : SA X W [a, b] fs) (hw : swappedStores [.Tuple [.Name x px, .Name y py] kt pt] (.Tuple [a, b] k2 pt2) X.env = pure (some [x, y]))
    (hi : X.N[i]? = some x := by rfl) (hj : X.N[j]? = some y := by rfl) (hx : X.env.scope.names.lookup x = some .local := by rfl) (hy : X.env.scope.names.lookup y = some .local := by rfl)
    (hs : swapsWithSole [.Tuple [.Name x px, .Name y py] kt pt] (.Tuple [a, b] k2 pt2) pos.line X.env = pure false := by rfl) (hc : X.calm = true := by rfl) :
    SS X W (.Assign [.Tuple [.Name x px, .Name y py] kt pt] (.Tuple [a, b] k2 pt2) pos) (sPar i j fs) := fun H0 Lo => (ps_par hc hN hi hj hij hx hy ha hw hs).weak fun D σ H ⟨ρ, α, rst, p⟩ =>
  ⟨_, ρ, rst.re, p.args rst fun ds H1 vs s rl rst1 p1 => by
    cases rl with
    | nil => exact p1.elim
    | cons r1 rl =>
      cases rl with
      | nil => exact p1.elim
      | cons r2 rl =>
        cases rl with
        | nil =>
          refine ⟨_, _, rfl, ?_⟩
          have q1 := rst1.set (i := i) r1
          have q2 := q1.set (i := j) (r2.lives fun z q => .inl (Lv_rms z q))
          exact p1 _ _ H1 q2 ((Evo.rms _).trans (Evo.rms _))
        | cons _ _ => exact p1.elim⟩
end
def runB (n N : Nat) (f : SF) : List D → Rs := fun ds => if ds.length = n then
  (match f (ds.map (fun d => some (.val d)) ++ List.replicate (N - n) none) with
    | .nx _ => .ok .none
    | .rt d => .ok d
    | .rn _ => .bad
    | .rm _ _ => .bad
    | .rq _ _ => .bad
    | .exc c fs _ => .exc c fs
    | .bk _ => .bad
    | .ct _ => .bad
    | .bad => .bad) else .bad
theorem re_start {K : PySem.W.Frag} {H : Hp} {L : Ad} {N : List Str} {ds : List D} {vs : List V} (lv : LvOk K H L) (r : RpL K H L ds vs) : RE K H L (ds.map (fun d => some (Sl.val d)) ++ List.replicate (N.length - ds.length) none) (start N vs) := by
  refine ⟨lv, ?_, fun i x e => ?_⟩
  · unfold L2.start
    simp [r.length]
  · rcases Nat.lt_or_ge i ds.length with hi | hi
    · rw [List.getElem?_append_left (by simpa using hi), List.getElem?_map] at e
      cases hd : ds[i]? with
      | none => rw [hd] at e; cases e
      | some d =>
        rw [hd] at e
        cases e
        obtain ⟨v, e1, rv⟩ := r.get hd
        refine ⟨some v, ?_, v, rfl, rv⟩
        unfold L2.start
        rw [List.getElem?_append_left (by rw [List.length_map, ← r.length]; exact hi), List.getElem?_map, e1]
        rfl
    · rw [List.getElem?_append_right (by simpa using hi)] at e
      obtain ⟨_, e⟩ := List.getElem?_eq_some_iff.mp e
      rw [List.getElem_replicate] at e
      cases e
def OutOk (K : PySem.W.Frag) (H : Hp) (L : Ad) (o : Out) (Q : VK) (E : XK) : Prop := match o with
  | .nx _ => ∀ H', Same H H' → Q .non H'
  | .rt d => ∀ H' v, Same H H' → Rp K H' L d v → Q v H'
  | .rn d => ∀ H' a, Same H H' → H a = none → Ow K H' (Lp L a) d a → Q (.ref a) H'
  | .exc c fs _ => ∀ H' x, Same H H' → XR K H' L fs x → E (.ref (He.ga K c)) x H'
  | _ => False
theorem fn_genC {P : Program} {w : World} {K : PySem.W.Frag} {mg : Str → Option Value} {base : Heap} {x qual : Str} {params : Arguments} {body : List Stmt} {scope : Scope} {dvs : List V} {kws : List (Str × V)} {fa : Addr} {fd : FuncData} {N ps : List Str} {k : Nat} {f : SF} {sp : Sp}
    (F : FunD K x qual params body scope dvs kws fa fd) (S : FnScope N ps scope)
    (hb : ∀ (cdv : Value) (A : Around) (outer : List Env) (s : Shared) (H : Hp) (E : XK), fd.code = cdv → Room k (A.deeper (envOfC qual scope s.heap.objs.size fa cdv)) → Takes (cxOf (L2.CX P w) P w K mg base N qual scope fa cdv A outer s H E) (fun cls d _ H => E cls d H) →
      PassesOwn (model P w) (A.deeper (envOfC qual scope s.heap.objs.size fa cdv)) (envOfC qual scope s.heap.objs.size fa cdv) (cxOf (L2.CX P w) P w K mg base N qual scope fa cdv A outer s H E).xe →
      SSs (cxOf (L2.CX P w) P w K mg base N qual scope fa cdv A outer s H E) (fun cls d _ H => E cls d H) body f) (small : N.length ≤ 1000) (less : ps.length ≤ N.length)
    (hsp : ∀ vs H Q E, sp vs H Q E → ∃ L ds, LvOk K H L ∧ ds.length = ps.length ∧ RpL K H L ds vs ∧ OutOk K H L (f (ds.map (fun d => some (Sl.val d)) ++ List.replicate (N.length - ps.length) none)) Q E) :
    FnOk P w K mg base (L2.CX P w) (k + 1) fa fd ps sp := by
  obtain ⟨oc, od, dV, kV, doc, pm, an, cdv, ct, osl, efd, lk, hcd, _, _⟩ := F.ex
  have ecd : fd.code = cdv := by rw [efd]
  subst efd
  refine fn_of lk hcd S (fun vs H Q E h => ?_) (fun A outer s H vs Q E hr h => ?_)
  · obtain ⟨L, ds, lv, hl, r, _⟩ := hsp vs H Q E h
    rw [← r.length]
    exact hl
  · obtain ⟨L, ds, lv, hl, r, h⟩ := hsp vs H Q E h
    refine ⟨_, hb cdv A outer s H E ecd hr (takes_of rfl rfl rfl rfl) (passes_of rfl) H L, ?_⟩
    have re := re_start (N := N) lv r
    have hLv : ∀ a, Lv L (fun _ => none) a → L a := fun a z => z.elim id fun ⟨i, e⟩ => by cases e
    have vals : ∀ (i : Nat) (x : Sl), (ds.map (fun d => some (Sl.val d)) ++ List.replicate (N.length - ds.length) none)[i]? = some (some x) → ∃ d, x = .val d := fun i x e => by
      rcases Nat.lt_or_ge i ds.length with hi | hi
      · rw [List.getElem?_append_left (by simpa using hi), List.getElem?_map] at e
        cases hd : ds[i]? with
        | none => rw [hd] at e; cases e
        | some d => rw [hd] at e; cases e; exact ⟨d, rfl⟩
      · rw [List.getElem?_append_right (by simpa using hi)] at e
        obtain ⟨_, e⟩ := List.getElem?_eq_some_iff.mp e
        rw [List.getElem_replicate] at e
        cases e
    refine ⟨_, fun _ => none, ⟨re.lives (fun a z => .inl (hLv a z)) ⟨fun a z => lv a (hLv a z), lv.tb⟩, Same.refl H, (fun a b z _ e _ => (lv a z e).elim), (fun i a e => by cases e), (fun i j a e => by cases e), fun i d e => ?_, ?_, fun i d e => ?_, (fun i a e => by cases e), ⟨fun i d e => (by obtain ⟨_, z⟩ := vals i _ e; cases z), fun i j d e e1 _ => (by obtain ⟨_, z⟩ := vals i _ e1; cases z)⟩⟩, ?_⟩
    · obtain ⟨_, z⟩ := vals i _ e
      cases z
    · rw [List.length_append, List.length_map, List.length_replicate, hl]
      omega
    · obtain ⟨_, z⟩ := vals i _ e
      cases z
    · rw [← hl] at h
      cases ho : f (ds.map (fun d => some (Sl.val d)) ++ List.replicate (N.length - ds.length) none) with
      | nx ρ => rw [ho] at h; exact fun α' σ' H' rst _ => h H' rst.same
      | rt d => rw [ho] at h; exact h
      | rn d => rw [ho] at h; exact h
      | rm d ρ => rw [ho] at h; exact h.elim
      | rq i ρ => rw [ho] at h; exact h.elim
      | bk ρ => rw [ho] at h; exact h.elim
      | ct ρ => rw [ho] at h; exact h.elim
      | exc c fs ρ => rw [ho] at h; exact fun α' σ' H' x rst _ xr => h H' x rst.same (xr.imp id fun ⟨dd, gs, a1, a2, a3, a4, a5⟩ => ⟨dd, gs, a1, a2, a3, a4, a5.lives fun z q => .inl (.inl q)⟩)
      | bad => rw [ho] at h; exact h.elim
theorem fn_gen {P : Program} {w : World} {K : PySem.W.Frag} {mg : Str → Option Value} {base : Heap} {x qual : Str} {params : Arguments} {body : List Stmt} {scope : Scope} {dvs : List V} {kws : List (Str × V)} {fa : Addr} {fd : FuncData} {N ps : List Str} {k : Nat} {f : SF} {sp : Sp}
    (F : FunD K x qual params body scope dvs kws fa fd) (S : FnScope N ps scope)
    (hb : ∀ (cdv : Value) (A : Around) (outer : List Env) (s : Shared) (H : Hp) (E : XK), Room k (A.deeper (envOfC qual scope s.heap.objs.size fa cdv)) → Takes (cxOf (L2.CX P w) P w K mg base N qual scope fa cdv A outer s H E) (fun cls d _ H => E cls d H) →
      PassesOwn (model P w) (A.deeper (envOfC qual scope s.heap.objs.size fa cdv)) (envOfC qual scope s.heap.objs.size fa cdv) (cxOf (L2.CX P w) P w K mg base N qual scope fa cdv A outer s H E).xe →
      SSs (cxOf (L2.CX P w) P w K mg base N qual scope fa cdv A outer s H E) (fun cls d _ H => E cls d H) body f) (small : N.length ≤ 1000) (less : ps.length ≤ N.length)
    (hsp : ∀ vs H Q E, sp vs H Q E → ∃ L ds, LvOk K H L ∧ ds.length = ps.length ∧ RpL K H L ds vs ∧ OutOk K H L (f (ds.map (fun d => some (Sl.val d)) ++ List.replicate (N.length - ps.length) none)) Q E) :
    FnOk P w K mg base (L2.CX P w) (k + 1) fa fd ps sp :=
  fn_genC F S (fun cdv A outer s H E _ => hb cdv A outer s H E) small less hsp
theorem fn_sem {P : Program} {w : World} {K : PySem.W.Frag} {mg : Str → Option Value} {base : Heap} {x qual : Str} {params : Arguments} {body : List Stmt} {scope : Scope} {dvs : List V} {kws : List (Str × V)} {fa : Addr} {fd : FuncData} {N ps : List Str} {k : Nat} {f : SF}
    (F : FunD K x qual params body scope dvs kws fa fd) (S : FnScope N ps scope)
    (hb : ∀ (cdv : Value) (A : Around) (outer : List Env) (s : Shared) (H : Hp) (E : XK), Room k (A.deeper (envOfC qual scope s.heap.objs.size fa cdv)) → Takes (cxOf (L2.CX P w) P w K mg base N qual scope fa cdv A outer s H E) (fun cls d _ H => E cls d H) →
      PassesOwn (model P w) (A.deeper (envOfC qual scope s.heap.objs.size fa cdv)) (envOfC qual scope s.heap.objs.size fa cdv) (cxOf (L2.CX P w) P w K mg base N qual scope fa cdv A outer s H E).xe →
      SSs (cxOf (L2.CX P w) P w K mg base N qual scope fa cdv A outer s H E) (fun cls d _ H => E cls d H) body f) (small : N.length ≤ 1000 := by decide) (less : ps.length ≤ N.length := by decide) :
    FnOk P w K mg base (L2.CX P w) (k + 1) fa fd ps (spP K ps.length (runB ps.length N.length f)) := by
  refine fn_gen F S hb small less fun vs H Q E ⟨L, ds, lv, hl, r, h⟩ => ⟨L, ds, lv, hl, r, ?_⟩
  unfold runB at h
  rw [if_pos hl] at h
  cases ho : f (ds.map (fun d => some (Sl.val d)) ++ List.replicate (N.length - ps.length) none) with
  | nx ρ => rw [ho] at h; exact fun H' s => h H' .non s .non
  | rt d => rw [ho] at h; exact h
  | exc c fs ρ => rw [ho] at h; exact h
  | _ => rw [ho] at h; exact h.elim
end VV
namespace VV
open PySem PySem.Spec L2
open PyProof.Rows hiding St
section
variable {X : Cx} {pos : Pos}
theorem sg_nm {i : Nat} {x : Str} (hN : X.N.Nodup) (hi : X.N[i]? = some x := by rfl) (hx : Loc X.env.scope x := by first | exact Or.inl rfl | exact Or.inr rfl) (hf : X.fn x = true ∨ X.env.scope.names.lookup x = some .local := by first | exact .inl rfl | exact .inr rfl) :
    PG X (.Name x pos) (gT X.K (.nm i)) := by
  unfold gT
  exact pg_name hN hi hx hf
theorem sgs_nil : PGs X [] (gTs X.K []) := by
  unfold gTs
  exact pgs_nil
theorem sgs_cons {e : Expr} {es : List Expr} {t : Tg} {ts : List Tg} (h1 : PG X e (gT X.K t)) (h2 : PGs X es (gTs X.K ts))
    (hs : (assignEach (e :: es) X.env).map (·.2) = assign e X.env :: (assignEach es X.env).map (·.2) := by rfl) : PGs X (e :: es) (gTs X.K (t :: ts)) := by
  unfold gTs
  exact pgs_cons h1 h2 hs
theorem sg_tp {es : List Expr} {k : Nat} {ts : List Tg} (h : PGs X es (gTs X.K ts)) (hc : X.calm = true := by rfl)
    (hn : (assignEach es X.env).length = ts.length := by rfl) (hst : (assignEach es X.env).findIdx? (·.1) = none := by rfl) : PG X (.Tuple es k pos) (gT X.K (.tp ts)) := by
  unfold gT
  exact pg_tup hc h hn hst
end
section
variable {P : Program} {w : World} {A : Around} {E : Value → Shared → Prop} {s : Shared} {t sl : Addr} {u : Tok}
end
section
variable {X : Cx} {W : WX} {e : Expr} {k : Nat} {p1 p2 p3 pos : Pos}
end
def revF : D → Option D
  | .list ds => some (.list ds.reverse)
  | .tuple ds => some (.tuple ds.reverse)
  | _ => none
section
variable {X : Cx} {W : WX}
end
def lc2Go (vs1 : List Nat) (t : Tg) (c : EF) (fi1 : IF) (t1 : Tg) (c1 e : EF) (ρ : En) : List D → RL
  | [] => .ok []
  | d :: ds => match bindT t d ρ with
    | none => .bad
    | some ρ1 => match c ρ1 with
      | .ok (.bool true) => (match fi1 ρ1 with
        | .ok ds1 => (match lcGo t1 c1 e (wipeE ρ1 vs1) ds1 with
          | .ok rs => (match lc2Go vs1 t c fi1 t1 c1 e ρ ds with
            | .ok r => .ok (rs ++ r)
            | _ => .bad)
          | _ => .bad)
        | _ => .bad)
      | .ok (.bool false) => (match lc2Go vs1 t c fi1 t1 c1 e ρ ds with
        | .ok r => .ok r
        | _ => .bad)
      | _ => .bad
def lc2R : RL → Rs
  | .ok ds => lstR ds
  | _ => .bad
def eLc2 (vs vs1 : List Nat) (fi : IF) (t : Tg) (c : EF) (fi1 : IF) (t1 : Tg) (c1 e : EF) : EF := fun ρ => (fi ρ).bind fun ds => lc2R (lc2Go vs1 t c fi1 t1 c1 e (wipeE ρ vs) ds)
theorem lc2Go_ok {vs1 : List Nat} {t : Tg} {c : EF} {fi1 : IF} {t1 : Tg} {c1 e : EF} {ρ : En} {d : D} {ds rs : List D} (h : lc2Go vs1 t c fi1 t1 c1 e ρ (d :: ds) = .ok rs) :
    ∃ ρ1, bindT t d ρ = some ρ1 ∧ ((c ρ1 = .ok (.bool true) ∧ ∃ ds1 r0 r, fi1 ρ1 = .ok ds1 ∧ lcGo t1 c1 e (wipeE ρ1 vs1) ds1 = .ok r0 ∧ lc2Go vs1 t c fi1 t1 c1 e ρ ds = .ok r ∧ rs = r0 ++ r) ∨ (c ρ1 = .ok (.bool false) ∧ lc2Go vs1 t c fi1 t1 c1 e ρ ds = .ok rs)) := by
  unfold lc2Go at h
  cases hb : bindT t d ρ with
  | none => exact absurd h (by rw [hb]; simp)
  | some ρ1 =>
    rw [hb] at h
    refine ⟨ρ1, rfl, ?_⟩
    cases hc : c ρ1 with
    | bad => simp only [hc] at h; cases h
    | exc c fs => simp only [hc] at h; cases h
    | ok b =>
      simp only [hc] at h
      cases b with
      | bool b =>
        cases b with
        | true =>
          cases h1 : fi1 ρ1 with
          | bad => simp only [h1] at h; cases h
          | exc c fs => simp only [h1] at h; cases h
          | ok ds1 =>
            simp only [h1] at h
            cases h2 : lcGo t1 c1 e (wipeE ρ1 vs1) ds1 with
            | bad => simp only [h2] at h; cases h
            | exc c fs => simp only [h2] at h; cases h
            | ok r0 =>
              simp only [h2] at h
              cases h3 : lc2Go vs1 t c fi1 t1 c1 e ρ ds with
              | bad => simp only [h3] at h; cases h
              | exc c fs => simp only [h3] at h; cases h
              | ok r => simp only [h3] at h; cases h; exact .inl ⟨rfl, ds1, r0, r, rfl, h2, rfl, rfl⟩
        | false =>
          cases h3 : lc2Go vs1 t c fi1 t1 c1 e ρ ds with
          | bad => simp only [h3] at h; cases h
          | exc c fs => simp only [h3] at h; cases h
          | ok r => simp only [h3] at h; cases h; exact .inr ⟨rfl, rfl⟩
      | _ => cases h
structure NoOwn (K : PySem.W.Frag) (D : Addr) (G : Hp) (ρ : En) (σ : St) : Prop where
  own : ∀ (j : Nat) (d : VV.D) (a : Addr), ρ[j]? = some (some (.own d)) → σ[j]? = some (some (.ref a)) → a ≠ D
  grid : ∀ (j : Nat) (g : Gr) (a : Addr), ρ[j]? = some (some (.grid g)) → σ[j]? = some (some (.ref a)) → a ≠ D ∧ ∃ (L : Ad) (bs : List Addr), Og K G L g a bs ∧ D ∉ bs
  par : ∀ (j : Nat) (d : VV.D) (a : Addr), ρ[j]? = some (some (.ownP d)) → σ[j]? = some (some (.ref a)) → a ≠ D
theorem RE.upd {K : PySem.W.Frag} {G H : Hp} {L : Ad} {ρ : En} {σ : St} {D : Addr} {o o' : HO} (re : RE K H L ρ σ) (no : NoOwn K D G ρ σ) (sm : Same G H) (hD : H D = some o) (c : Chg o) (nc : NC D o) (hL : L D) : RE K (L2.upd H D o') L ρ σ := by
  refine ⟨⟨fun a z => ?_, re.lv.tb.upd hD nc⟩, re.len, fun i x e => ?_⟩
  · by_cases h : a = D
    · subst h; rw [upd_same]; simp
    · rw [upd_ne h]; exact re.lv a z
  · obtain ⟨ob, e1, r⟩ := re.sl i x e
    refine ⟨ob, e1, ?_⟩
    cases x with
    | val d => obtain ⟨v, g1, g2⟩ := r; exact ⟨v, g1, g2.upd hD c hL⟩
    | own d =>
      obtain ⟨a, g1, g2⟩ := r
      subst g1
      exact ⟨a, rfl, g2.upd hD c hL (no.own i d a e e1)⟩
    | grid rows =>
      obtain ⟨a, bs, g1, g2⟩ := r
      subst g1
      obtain ⟨na, _, bs', q1, q2⟩ := no.grid i rows a e e1
      have eb : bs = bs' := q1.same g2 sm
      subst eb
      exact ⟨a, bs, rfl, g2.upd hD c hL na fun b hb z => q2 (z ▸ hb)⟩
    | pin a => exact r
    | ownP d =>
      obtain ⟨a, g1, g2⟩ := r
      subst g1
      exact ⟨a, rfl, g2.upd hD c hL (no.par i d a e e1)⟩
section
variable {X : Cx} {W : WX}
theorem lc2_loop {K : PySem.W.Frag} {L : Ad} {σ : St} {ρ : En} {H1 : Hp} {J : It} {S : Hp → Ad → Prop} {ds rs : List VV.D} {t t1 : Tg} {c c1 e : EF} {fi1 : IF} {vs vs1 : List Nat} {Q : VK} (re : RE K H1 L ρ σ) (it : ItB K ds J S) (hS : S H1 L)
    (hsl : ∀ i ∈ slotsT t, i ∈ vs) (hsl1 : ∀ i ∈ slotsT t1, i ∈ vs1) (hgo : lc2Go vs1 t c fi1 t1 c1 e (wipeE ρ vs) ds = .ok rs) (hz : rs.length ≤ sizeLine) (hQ : ∀ D H, H1 D = none → Same H1 H → Ow K H (Lp L D) (.list rs) D → Q (.ref D) H) :
    tLc2 (fun _ _ R => R J H1) (gT K t) (tT K WF c) (tIS K WF fi1) (gT K t1) (tT K WF c1) (tE K WF e) vs vs1 σ H1 Q := by
  intro D hD
  let L' : Ad := Lp L D
  have hL' : ∀ a, L' a → L a ∨ H1 a = none := fun a z => z.elim .inl fun q => by subst q; exact .inr hD
  let Iv : Nat → Hp → Prop := fun i H => i ≤ ds.length ∧ Same H1 H ∧ ∃ (acc : List V) (racc rest : List VV.D), H D = some (.lst acc) ∧ RpL K H L' racc acc ∧ lc2Go vs1 t c fi1 t1 c1 e (wipeE ρ vs) (ds.drop i) = .ok rest ∧ racc ++ rest = rs
  refine ⟨fun i m H => m = ds.length - i ∧ Iv i H, ⟨ds.length, by simp, Nat.zero_le _, same_upd hD, [], [], rs, upd_same, .nil, hgo, rfl⟩, ?_⟩
  rintro i m H ⟨rfl, hi, s1, acc, racc, rest, hacc, racc', hrest, htot⟩
  have hSn : S H L' := it.keep H1 L H L' hS s1 hL'
  have lv' : LvOk K H L' := ⟨fun a z => z.elim (fun q => re.lv.mono s1 a q) fun q => by subst q; rw [hacc]; simp, re.lv.tb.mono s1⟩
  have reH : RE K H L' ρ σ := by
    have r0 : RE K H L ρ σ := re.mono s1
    refine ⟨lv', r0.len, fun j x q => ?_⟩
    obtain ⟨o, e1, r⟩ := re.sl j x q
    exact ⟨o, e1, (r.lives (L' := L') hL').mono s1⟩
  by_cases hlt : i < ds.length
  · refine .inr ⟨it.go i H L' hSn hlt, Iv (i + 1), fun H' p' => ⟨ds.length - (i + 1), by omega, rfl, p'⟩, fun x H' y => ?_⟩
    obtain ⟨s2, hx⟩ := it.yld i H L' x H' hSn y
    have hdrop : ds.drop i = ds[i] :: ds.drop (i + 1) := List.drop_eq_getElem_cons hlt
    have rx := hx ds[i] (by simp [hlt])
    rw [hdrop] at hrest
    obtain ⟨ρ1, hb, hcase⟩ := lc2Go_ok hrest
    refine gT_of ((reH.mono s2).wipe vs) rx hb fun σ1 re1 ch => ?_
    have back : ∀ (j : Nat) (x : Sl) (v : V), ρ1[j]? = some (some x) → σ1[j]? = some (some v) → j ∉ slotsT t → ρ[j]? = some (some x) ∧ σ[j]? = some (some v) := fun j x v h1 h2 hj => by
      rw [ch.r j hj] at h1
      obtain ⟨h3, h4⟩ := wipeE_some h1
      rw [ch.s j hj, wipe_at h4] at h2
      exact ⟨h3, h2⟩
    have no : NoOwn K D H1 ρ1 σ1 := by
      constructor
      · intro j d a h1 h2
        obtain ⟨h3, h4⟩ := back j _ _ h1 h2 fun z => ch.v j z d h1
        obtain ⟨o, e1, a', e2, ow⟩ := re.sl j _ h3
        rw [e1] at h4
        cases h4
        cases e2
        obtain ⟨ob, q, _⟩ := ow.chg
        exact ne_of_none q hD
      · intro j rows a h1 h2
        obtain ⟨h3, h4⟩ := back j _ _ h1 h2 fun z => ch.g j z rows h1
        obtain ⟨o, e1, a', bs, e2, og⟩ := re.sl j _ h3
        rw [e1] at h4
        cases h4
        cases e2
        exact ⟨fun z => og.there.1 (z ▸ hD), _, bs, og, fun z => og.there.2 D z hD⟩
      · intro j d a h1 h2
        obtain ⟨h3, h4⟩ := back j _ _ h1 h2 fun z => ch.p j z d h1
        obtain ⟨o, e1, a', e2, ow⟩ := re.sl j _ h3
        rw [e1] at h4
        cases h4
        cases e2
        obtain ⟨ob, q, _⟩ := ow.chg
        exact ne_of_none q hD
    refine ⟨?_, L', ρ1, re1, ?_⟩
    · rw [← wipe_twice (σ := σ)]
      exact wipe_eq ch.ls fun j hj => ch.s j fun q => hj (hsl j q)
    · rcases hcase with ⟨hc, ds1, r0, r, h1, h2, hk, hr⟩ | ⟨hc, hk⟩
      · rw [hc]
        intro H3 s3
        rw [if_pos rfl]
        refine ⟨L', ρ1, re1.mono s3, ?_⟩
        rw [h1]
        intro J1 S1 H4 s4 it1 hS1
        have s24 : Same H H4 := s2.trans (s3.trans s4)
        have re4 : RE K H4 L' ρ1 σ1 := re1.mono (s3.trans s4)
        let Iv1 : Nat → Hp → Prop := fun j Hn => j ≤ ds1.length ∧ Same H1 Hn ∧ S1 Hn L' ∧ RE K Hn L' ρ1 σ1 ∧ ∃ (a1 : List V) (ra1 rest1 : List VV.D), Hn D = some (.lst a1) ∧ RpL K Hn L' ra1 a1 ∧ lcGo t1 c1 e (wipeE ρ1 vs1) (ds1.drop j) = .ok rest1 ∧ ra1 ++ rest1 = racc ++ r0
        refine ⟨fun j k Hn => k = ds1.length - j ∧ Iv1 j Hn, ⟨ds1.length, by simp, Nat.zero_le _, s1.trans s24, hS1, re4, acc, racc, r0, s24 _ _ hacc, racc'.mono s24, h2, rfl⟩, ?_⟩
        rintro j k Hn ⟨rfl, hj, sn, hSn1, ren, a1, ra1, rest1, hDn, rla, hgo1, htot1⟩
        by_cases hjl : j < ds1.length
        · refine .inr ⟨it1.go j Hn L' hSn1 hjl, Iv1 (j + 1), fun H' p' => ⟨ds1.length - (j + 1), by omega, rfl, p'⟩, fun x1 H5 y1 => ?_⟩
          obtain ⟨s5, hx1⟩ := it1.yld j Hn L' x1 H5 hSn1 y1
          have hdrop1 : ds1.drop j = ds1[j] :: ds1.drop (j + 1) := List.drop_eq_getElem_cons hjl
          have rx1 := hx1 ds1[j] (by simp [hjl])
          rw [hdrop1] at hgo1
          obtain ⟨ρ2, hb2, hcase2⟩ := lcOne_ok hgo1
          refine gT_of ((ren.mono s5).wipe vs1) rx1 hb2 fun σ2 re2 ch2 => ?_
          refine ⟨?_, L', ρ2, re2, ?_⟩
          · rw [← wipe_twice (σ := σ1)]
            exact wipe_eq ch2.ls fun j hj => ch2.s j fun q => hj (hsl1 j q)
          · rcases hcase2 with ⟨hc2, y2, r2, he2, hk2, hr2⟩ | ⟨hc2, hk2⟩
            · rw [hc2]
              intro H6 s6
              rw [if_pos rfl]
              refine ⟨L', ρ2, re2.mono s6, ?_⟩
              rw [he2]
              intro H7 v s7 rv
              have s57 : Same Hn H7 := s5.trans (s6.trans s7)
              have hD7 : H7 D = some (.lst a1) := s57 _ _ hDn
              have hLD : L' D := .inr rfl
              refine ⟨a1, hD7, ?_, hjl, (sn.trans s57).updN hD hD7 trivial, ?_, ?_, a1 ++ [v], ra1 ++ [y2], r2, upd_same, ?_, hk2, by rw [← htot1, hr2]; simp⟩
              · have e1 : a1.length = ra1.length := rla.length.symm
                have e2 := congrArg List.length htot1
                have e3 := congrArg List.length htot
                rw [hr2] at e2
                rw [hr] at e3
                simp only [List.length_append, List.length_cons] at e2 e3
                omega
              · exact it1.evo H7 L' _ L' (it1.keep Hn L' H7 L' hSn1 s57 fun _ q => .inl q) fun d w r => r.upd hD7 trivial hLD
              · exact (ren.mono s57).upd no (sn.trans s57) hD7 trivial trivial hLD
              · exact RpL.upd hD7 trivial hLD ((rla.mono s57).append (.cons rv .nil))
            · rw [hc2]
              intro H6 s6
              rw [if_neg (by decide)]
              have s56 : Same Hn H6 := s5.trans s6
              exact ⟨hjl, sn.trans s56, it1.keep Hn L' H6 L' hSn1 s56 fun _ q => .inl q, ren.mono s56, a1, ra1, rest1, s56 _ _ hDn, rla.mono s56, hk2, htot1⟩
        · have e : j = ds1.length := by omega
          subst e
          rw [List.drop_length] at hgo1
          cases hgo1
          rw [List.append_nil] at htot1
          refine .inl ⟨it1.stop _ Hn L' hSn1 (Nat.le_refl _), hlt, sn, a1, ra1, r, hDn, rla, hk, ?_⟩
          rw [htot1, ← htot, hr, List.append_assoc]
      · rw [hc]
        intro H3 s3
        rw [if_neg (by decide)]
        have s23 : Same H H3 := s2.trans s3
        exact ⟨hlt, s1.trans s23, acc, racc, rest, s23 _ _ hacc, racc'.mono s23, hk, htot⟩
  · have e : i = ds.length := by omega
    subst e
    rw [List.drop_length] at hrest
    cases hrest
    rw [List.append_nil] at htot
    subst htot
    exact .inl ⟨it.stop _ H L' hSn (Nat.le_refl _), hQ D H hD s1 (.lst hacc racc')⟩
theorem tLc2_of {K : PySem.W.Frag} {fi fi1 : IF} {t t1 : Tg} {c c1 e : EF} {vs vs1 : List Nat} (hsl : ∀ i ∈ slotsT t, i ∈ vs) (hsl1 : ∀ i ∈ slotsT t1, i ∈ vs1) : ∀ σ H Q, tN K W (eLc2 vs vs1 fi t c fi1 t1 c1 e) σ H Q → tLc2 (tI K W fi) (gT K t) (tT K WF c) (tIS K WF fi1) (gT K t1) (tT K WF c1) (tE K WF e) vs vs1 σ H Q := fun σ H Q ⟨L, ρ, re, p⟩ => by
  refine ⟨L, ρ, re, ?_⟩
  unfold eLc2 at p
  cases hf : fi ρ with
  | bad => rw [hf] at p; exact p
  | exc c fs => rw [hf] at p; exact p
  | ok ds =>
    rw [hf] at p
    simp only [RL.bind_ok] at p
    cases hg : lc2Go vs1 t c fi1 t1 c1 e (wipeE ρ vs) ds with
    | bad => rw [hg] at p; exact p.elim
    | exc c' fs => rw [hg] at p; exact p.elim
    | ok rs =>
      rw [hg] at p
      unfold lc2R lstR at p
      dsimp only at p
      split at p
      · rename_i hz
        intro J S H1 s1 it hS
        exact lc2_loop (re.mono s1) it hS hsl hsl1 hg hz fun D H' hD s' ow => p H' D (s1.trans s') (s1.free hD) ow
      · exact p.elim
variable {elt tg iter tg1 iter1 : Expr} {ifs ifs1 : List Expr} {scope : Scope} {own : List (Str × Nat)} {pos : Pos} {fi fi1 : IF} {t t1 : Tg} {c c1 e : EF} {i : Nat} {x : Str}
theorem sn_lc2 (vs1 : List Nat) (hN : X.N.Nodup) (hi : SI X W tg iter fi) (ok : BlkOk X.N X.env.scope scope own)
    (hg : ∀ (s : Shared) (H : Hp) (C : Addr) (cl : List (Str × Addr)) (fp : List Addr), PG (X.blk s H scope (compEnvC scope cl C X.env) fp) tg (gT X.K t)) (ht : ∀ (s : Shared) (H : Hp) (C : Addr) (cl : List (Str × Addr)) (fp : List Addr), STs (X.blk s H scope (compEnvC scope cl C X.env) fp) ifs c)
    (hi1 : ∀ (s : Shared) (H : Hp) (C : Addr) (cl : List (Str × Addr)) (fp : List Addr), SIS (X.blk s H scope (compEnvC scope cl C X.env) fp) WF tg1 iter1 fi1)
    (hg1 : ∀ (s : Shared) (H : Hp) (C : Addr) (cl : List (Str × Addr)) (fp : List Addr), PG (X.blk s H scope (compEnvC scope cl C X.env) fp) tg1 (gT X.K t1)) (ht1 : ∀ (s : Shared) (H : Hp) (C : Addr) (cl : List (Str × Addr)) (fp : List Addr), STs (X.blk s H scope (compEnvC scope cl C X.env) fp) ifs1 c1)
    (he : ∀ (s : Shared) (H : Hp) (C : Addr) (cl : List (Str × Addr)) (fp : List Addr), SE (X.blk s H scope (compEnvC scope cl C X.env) fp) WF elt e) (hv : ∀ i ∈ vs1, i ∈ own.map (·.2) := by decide) (hsl : ∀ i ∈ slotsT t, i ∈ own.map (·.2) := by decide) (hsl1 : ∀ i ∈ slotsT t1, i ∈ vs1 := by decide)
    (hc : X.calm = true := by rfl) (hs : ∀ x, foldedSetIterable iter X.env x = pure x := by intro _; rfl) (hs1 : ∀ env x, foldedSetIterable iter1 env x = pure x := by intro _ _; rfl) :
    SN X W (.ListComp elt [⟨tg, iter, ifs, 0⟩, ⟨tg1, iter1, ifs1, 0⟩] scope pos) (eLc2 (own.map (·.2)) vs1 fi t c fi1 t1 c1 e) := (pe_lc2 hc hN hi ok hv hg ht hi1 hg1 ht1 he hs hs1).weak (tLc2_of hsl hsl1)
theorem ss_setLc2 {py spos : Pos} (vs1 : List Nat) (hN : X.N.Nodup) (hi : SI X W tg iter fi) (ok : BlkOk X.N X.env.scope scope own)
    (hg : ∀ (s : Shared) (H : Hp) (C : Addr) (cl : List (Str × Addr)) (fp : List Addr), PG (X.blk s H scope (compEnvC scope cl C X.env) fp) tg (gT X.K t)) (ht : ∀ (s : Shared) (H : Hp) (C : Addr) (cl : List (Str × Addr)) (fp : List Addr), STs (X.blk s H scope (compEnvC scope cl C X.env) fp) ifs c)
    (hi1 : ∀ (s : Shared) (H : Hp) (C : Addr) (cl : List (Str × Addr)) (fp : List Addr), SIS (X.blk s H scope (compEnvC scope cl C X.env) fp) WF tg1 iter1 fi1)
    (hg1 : ∀ (s : Shared) (H : Hp) (C : Addr) (cl : List (Str × Addr)) (fp : List Addr), PG (X.blk s H scope (compEnvC scope cl C X.env) fp) tg1 (gT X.K t1)) (ht1 : ∀ (s : Shared) (H : Hp) (C : Addr) (cl : List (Str × Addr)) (fp : List Addr), STs (X.blk s H scope (compEnvC scope cl C X.env) fp) ifs1 c1)
    (he : ∀ (s : Shared) (H : Hp) (C : Addr) (cl : List (Str × Addr)) (fp : List Addr), SE (X.blk s H scope (compEnvC scope cl C X.env) fp) WF elt e) (hsw : swapsWith (.ListComp elt [⟨tg, iter, ifs, 0⟩, ⟨tg1, iter1, ifs1, 0⟩] scope pos) (some (.Name x py)) spos.line X.env = pure true) (hv : ∀ i ∈ vs1, i ∈ own.map (·.2) := by decide) (hsl : ∀ i ∈ slotsT t, i ∈ own.map (·.2) := by decide) (hsl1 : ∀ i ∈ slotsT t1, i ∈ vs1 := by decide)
    (hy : X.N[i]? = some x := by rfl) (hyl : X.env.scope.names.lookup x = some .local := by rfl) (hc : X.calm = true := by rfl) (hs : ∀ x, foldedSetIterable iter X.env x = pure x := by intro _; rfl) (hs1 : ∀ env x, foldedSetIterable iter1 env x = pure x := by intro _ _; rfl) :
    SS X W (.Assign [.Name x py] (.ListComp elt [⟨tg, iter, ifs, 0⟩, ⟨tg1, iter1, ifs1, 0⟩] scope pos) spos) (sSet i (eLc2 (own.map (·.2)) vs1 fi t c fi1 t1 c1 e)) := fun H0 Lo => (ps_setLc2 hc hN hy hyl hsw hi ok hv hg ht hi1 hg1 ht1 he hs hs1).weak fun D σ H ⟨ρ, α, rst, p⟩ =>
  tLc2_of hsl hsl1 σ H _ ⟨_, ρ, rst.re, p.exprN rst fun d H1 a s n o p1 => (p1.evo (.of_same s)) _ _ H1 ((rst.mono s).set ((o.lives fun z q => .inl (.inl q)).rp fun z => rst.re.lv a z n)) (Evo.rms _)⟩
end
structure Dk (P : Program) (w : World) (K : PySem.W.Frag) (mg : Str → Option Value) (base : Heap) (x : Str) (k n : Nat) (ks : List Str) (f : List D → Rs) : Prop where
  ex : ∃ (fa : Addr) (fd : FuncData) (ps : List Str), mg x = some (.ref fa) ∧ FnOk P w K mg base (L2.CX P w) k fa fd ps (spP K (n + ks.length) f) ∧ PySem.W.keepIn K (.ref fa) = true ∧ KBn K fd ps n ks (fun us ws => us ++ ws) (fun vs zs => vs ++ zs)
theorem kbindsN {K : PySem.W.Frag} {x qual : Str} {params : Arguments} {body : List Stmt} {scope : Scope} {kws : List (Str × V)} {f : Addr} {fd : FuncData} {ps : List Str} (F : FunD K x qual params body scope [] kws f fd) (n : Nat) (ks : List Str)
    (h : ∀ (kV doc pm : Value) (an : Option Addr) (cdv ct : Value) (us ws : List Value), us.length = n → ws.length = ks.length → bindArgs (PySem.W.fnOf x qual params body scope .none kV doc pm an cdv ct) ⟨us, ks.zip ws⟩ = pure (ps.zip (us ++ ws)))
    (some_kw : kws ≠ [] := by simp) : KBn K fd ps n ks (fun us ws => us ++ ws) (fun vs zs => vs ++ zs) :=
  (F.kbinds0 n ks [] (fun us _ ws => us ++ ws) some_kw (by simp) (fun a _ b => a.append b) fun D doc pm an cdv ct us _ ws l _ l' => h (.ref D) doc pm an cdv ct us ws l l').elim fun _ z => z
abbrev SK (X : Cx) (W : WX) (kws : List Keyword) (fs : List EF) : Prop := PK X kws (tA X.K W fs)
section
variable {X : Cx} {W : WX} {e : Expr} {es : List Expr} {kws : List Keyword} {f : EF} {fs gs : List EF} {p pos kpos : Pos} {nm : Option Str} {x : Str} {ks : List Str}
theorem _root_.L2.PK.weak {t t' : TA} (h : PK X kws t) (hw : ∀ σ H Q, t' σ H Q → t σ H Q) : PK X kws t' := ⟨fun p pins s σ H Q I q => h.run p pins s σ H Q I (hw σ H Q q)⟩
theorem sk_nil : SK X W [] [] := pk_nil.weak fun σ H Q ⟨L, ρ, re, p⟩ => p H [] (Same.refl H) .nil
theorem sk_cons (ha : SE X W e f) (hr : SK X W kws fs) : SK X W (⟨nm, e, kpos⟩ :: kws) (f :: fs) := (pk_cons ha hr).weak fun σ H Q ⟨L, ρ, re, p⟩ => by
  refine ⟨L, ρ, re, ?_⟩
  simp only [evA_cons] at p
  cases hf : f ρ with
  | bad => rw [hf] at p; exact p
  | exc c fs => rw [hf] at p; exact p
  | ok d =>
    rw [hf] at p
    intro H1 v s1 r1
    refine ⟨L, ρ, re.mono s1, ?_⟩
    cases hg : evA fs ρ with
    | bad => rw [hg] at p; exact p
    | exc c fs => rw [hg] at p; exact fun H' x s' => p H' x (s1.trans s')
    | ok ds => rw [hg] at p; exact fun H' vs s' r' => p H' (v :: vs) (s1.trans s') (.cons (r1.mono s') r')
theorem evA_append (fs gs : List EF) (ρ : En) : evA (fs ++ gs) ρ = match evA fs ρ with
    | .ok ds => (match evA gs ρ with
      | .ok es => .ok (ds ++ es)
      | .exc c fs => .exc c fs
      | .bad => .bad)
    | .exc c fs => .exc c fs
    | .bad => .bad := by
  induction fs with
  | nil => simp only [List.nil_append, evA_nil]; cases evA gs ρ <;> rfl
  | cons f fs ih =>
    rw [List.cons_append, evA_cons, ih, evA_cons]
    cases f ρ with
    | bad => rfl
    | exc c fs => rfl
    | ok d =>
      cases evA fs ρ with
      | bad => rfl
      | exc c fs => rfl
      | ok ds => cases evA gs ρ <;> rfl
theorem evA_length : ∀ {gs : List EF} {ρ : En} {ds : List D}, evA gs ρ = .ok ds → ds.length = gs.length := by
  intro gs
  induction gs with
  | nil => intro ρ ds h; cases h; rfl
  | cons g gs ih =>
    intro ρ ds h
    rw [evA_cons] at h
    cases hg : g ρ with
    | bad => rw [hg] at h; cases h
    | exc c fs => rw [hg] at h; cases h
    | ok d =>
      rw [hg] at h
      cases hq : evA gs ρ with
      | bad => rw [hq] at h; cases h
      | exc c fs => rw [hq] at h; cases h
      | ok es => rw [hq] at h; cases h; simp [ih hq]
theorem kw_here {k n : Nat} {fa : Addr} {fd : FuncData} {ps : List Str} {sp : Sp} {gN : List Value → List Value → List Value} {gV : List V → List V → List V} {σ : St} {pn : List (Addr × Obj)} {H : Hp} {s : Shared} {Q : VK} {us ws : List Value} {vs zs : List V}
    (ok : FnOk X.prog X.w X.K X.mg X.base (L2.CX X.prog X.w) k fa fd ps sp) (room : Room k X.A) (bd : KBn X.K fd ps n ks gN gV) (tk : Takes X W) (inv : Inv X pn σ H s) (ru : Vals vs us) (rw : Vals zs ws) (nu : vs.length = n) (nw : zs.length = ks.length)
    (go : sp (gV vs zs) H Q (WE W σ)) : wpAny (model X.prog X.w) X.A (call (.ref fa) us (ks.zip ws)) (EP X pn σ Q) X.xe s := by
  have lu : us.length = n := ru.length ▸ nu
  have lw : ws.length = ks.length := rw.length ▸ nw
  have ran := ok.run X.A X.stack s H ⟨us, ks.zip ws⟩ _ _ Q (WE W σ) room inv.env0 (bd.to s us ws inv.kIn lu lw) (bd.rel ru rw) go
  refine wpAny_call (codeAny_mono ran ?_)
  rintro (err | flow) s' out
  · exact passAt tk σ pn H s err s' inv out
  · match flow, out with
    | .ret _, out => exact inv.after out
theorem kw_post {K : PySem.W.Frag} {L : Ad} {ρ : En} {σ : St} {H : Hp} {n m : Nat} {g : List D → Rs} {Q : VK} (re : RE K H L ρ σ) (nf : fs.length = n) (ng : gs.length = m) (pp : Post K W L σ H (eCall g (fs ++ gs) ρ) Q) :
    PostA K W L σ H (evA fs ρ) fun vs H1 => tA K W gs σ H1 fun zs H2 => vs.length = n ∧ zs.length = m ∧ spP K (n + m) g (vs ++ zs) H2 Q (WE W σ) := by
  unfold eCall at pp
  rw [evA_append] at pp
  cases hA : evA fs ρ with
  | bad => rw [hA] at pp; exact pp
  | exc c fs => rw [hA] at pp; exact pp
  | ok ds =>
    rw [hA] at pp
    intro H1 vs s1 r1
    refine ⟨L, ρ, re.mono s1, ?_⟩
    cases hB : evA gs ρ with
    | bad => rw [hB] at pp; exact pp
    | exc c fs => rw [hB] at pp; exact fun H' x s' => pp H' x (s1.trans s')
    | ok es =>
      rw [hB] at pp
      simp only [RL.bind_ok] at pp
      intro H2 zs s2 r2
      have l1 := evA_length hA
      have l2 := evA_length hB
      refine ⟨by rw [← r1.length, l1, nf], by rw [← r2.length, l2, ng], L, ds ++ es, re.lv.mono (s1.trans s2), by rw [List.length_append, l1, l2, nf, ng], (r1.mono s2).append r2, ?_⟩
      have p1 := pp.mono (s1.trans s2)
      cases hg : g (ds ++ es) with
      | bad => rw [hg] at p1; exact p1.elim
      | exc c fs => rw [hg] at p1; exact p1
      | ok d => rw [hg] at p1; exact p1
abbrev KwNamed (X : Cx) (pos : Pos) (kws : List Keyword) : Prop := (backToKw pos (keywordEach kws X.env)).all (·.1.isSome) = true
abbrev KwPlain (X : Cx) (pos : Pos) (e : Expr) (es : List Expr) (kws : List Keyword) : Prop := ((backTo pos (starEach (e :: es) X.env)).any (·.1) || (backToKw pos (keywordEach kws X.env)).any (·.1.isNone)) = false
abbrev FstPlain (X : Cx) (e : Expr) (es : List Expr) : Prop := starEach (e :: es) X.env = (false, eval e X.env) :: starEach es X.env
theorem se_callK {k n : Nat} {g : List D → Rs} (F : Dk X.prog X.w X.K X.mg X.base x k n ks g) (hr : Room k X.A) (tk : Takes X W) (ha : SA X W (e :: es) fs) (hkw : SK X W kws gs) (hfl : fs.length = n := by rfl) (hgl : gs.length = ks.length := by rfl) (hg : Gl X x := by rfl)
    (named : KwNamed X pos kws := by rfl) (hks : (backToKw pos (keywordEach kws X.env)).filterMap (·.1) = ks := by rfl) (hdb : (x == ("__debug__" : Str)) = false := by decide) (fst : FstPlain X e es := by rfl) (plain : KwPlain X pos e es kws := by rfl) :
    SE X W (.Call (.Name x p) (e :: es) kws pos) (eCall g (fs ++ gs)) := by
  obtain ⟨fa, fd, ps, hm, ok, kp, bd⟩ := F.ex
  constructor
  rintro pn s σ H Q inv ⟨L, ρ, re, pp⟩
  have parts := ha.run pos pn s σ H _ inv ⟨L, ρ, re, kw_post re hfl hgl pp⟩
  have whole := PySem.W.callWith_KW (h₀ := X.base) (f := .ref fa) (first := []) (Q := EP X pn σ Q) inv.ok.mod.kin kp named (thn parts ?_) plain fst
  · exact wpAny_Call_Name_kw (ld_glob inv hg hm whole hdb)
  · rintro us s1 ⟨vs, H1, inv1, ru, more⟩
    refine thn (hkw.run pos pn s1 σ H1 _ inv1 more) ?_
    rintro ws s2 ⟨zs, H2, inv2, rw, nu, nw, go⟩
    rw [hks]
    exact ⟨inv2.kIn, kw_here ok hr bd tk inv2 ru rw nu nw go⟩
end
theorem law_end {l : PySem.W.OpenLaw} {k : Nat} {q : Program} {loose : List Str} {XP : (Str → Option Value) → Heap → Prop} {YP : World → Heap → Prop} {d : DefRec} {f : List D → Rs} (most : l.most = some 63) (nodef : d.params.defaults = []) (room : Room k callerA)
    (plain : ∀ ns : List Int, ns.length ≤ 63 → f [rdL ns] = .ok (.bool true))
    (found : ∀ (w : World) (mg : Str → Option Value) (fa : Addr) (h : Heap), YP w h → h.Ns mainGlobals mg → mg d.name = some (.ref fa) → ∃ (K : PySem.W.Frag) (fd : FuncData), K.In h ∧ lamB K = false ∧ (∀ (s : Shared) (u : Value), BindsTo s fd ⟨[u], []⟩ [("script", u)]) ∧
      ∀ base : Heap, K.In base → base.Ns mainGlobals mg → FnOk l.prog w K mg base (L2.CX l.prog w) k fa fd ["script"] (spP K 1 f)) :
    PySem.W.WalkO q loose XP YP l.row.toRowW d [] (fun g us => PySem.call g us) :=
  Att.attach_call most nodef fun w _ st mg mb fa _ _ _ _ a vs ns ground said _ _ _ named obj whole short bare => by
    obtain ⟨K, fd, inn, nolam, binds, ok⟩ := found w mg fa _ said ground.T.g named
    refine law_call inn ground.T.g ground.T.b ground.T.builtins ground.T.nolimit bare obj whole (Nat.le_trans short (by decide)) room ok binds (fun H only seq => ?_) fun H e s' c => ?_
    · have lies : SqF K H a (ns.map V.int) := by
        rcases seq with (z | z) | z
        · rcases only a with y | ⟨o, xs, y⟩ <;> rw [z] at y <;> cases y
        · exact .inl z
        · exact .inr (.inr z)
      refine ⟨fun _ => False, [rdL ns], ⟨fun _ z => z.elim, fun e => by rw [nolam] at e; cases e⟩, rfl, .cons (.rd (.inl lies)) .nil, ?_⟩
      rw [plain ns short]
      exact fun H' v _ r => r.blV
    · exact let ⟨_, _, _, _, _, _, _, _, _, _, _, _, z⟩ := c; z.elim
end VV
namespace VV
open PySem PySem.Spec L2
open PyProof.Rows hiding St
theorem foldl_max (ns : List Int) : ∀ n : Int, ns.foldl max n ∈ n :: ns ∧ ∀ y ∈ n :: ns, y ≤ ns.foldl max n := by
  induction ns with
  | nil => intro n; simp
  | cons m ns ih =>
    intro n
    obtain ⟨h1, h2⟩ := ih (max n m)
    rw [List.foldl_cons]
    refine ⟨?_, fun y hy => ?_⟩
    · rcases List.mem_cons.mp h1 with h | h
      · rw [h]
        rcases Int.le_total n m with q | q
        · rw [Int.max_eq_right q]; simp
        · rw [Int.max_eq_left q]; simp
      · simp [h]
    · have h3 := h2 (max n m) (by simp)
      simp only [List.mem_cons] at hy
      rcases hy with rfl | rfl | hy
      · omega
      · omega
      · exact h2 y (by simp [hy])
theorem foldl_min (ns : List Int) : ∀ n : Int, ns.foldl min n ∈ n :: ns ∧ ∀ y ∈ n :: ns, ns.foldl min n ≤ y := by
  induction ns with
  | nil => intro n; simp
  | cons m ns ih =>
    intro n
    obtain ⟨h1, h2⟩ := ih (min n m)
    rw [List.foldl_cons]
    refine ⟨?_, fun y hy => ?_⟩
    · rcases List.mem_cons.mp h1 with h | h
      · rw [h]
        rcases Int.le_total n m with q | q
        · rw [Int.min_eq_left q]; simp
        · rw [Int.min_eq_right q]; simp
      · simp [h]
    · have h3 := h2 (min n m) (by simp)
      simp only [List.mem_cons] at hy
      rcases hy with rfl | rfl | hy
      · omega
      · omega
      · exact h2 y (by simp [hy])
def bestI (f : Int → Int → Int) : List Int → Option D
  | [] => none
  | n :: ns => some (.int (ns.foldl f n))
def best1F (f : Int → Int → Int) : List D → Option D
  | [.list ds] => (intsOf ds).bind (bestI f)
  | [.tuple ds] => (intsOf ds).bind (bestI f)
  | _ => none
theorem readsAll_ints {h : Heap} {us : List Value} {ns : List Int} (hi : IntsAre us ns) : ReadsAll h us (ns.map PyData.int) [] := by
  induction hi with
  | nil => exact .nil
  | cons n t _ ih => exact ReadsAll.cons (as := []) (bs := []) (.int n t) ih
theorem depthAll_ints (ns : List Int) : PyData.depthAll (ns.map PyData.int) = 0 := by
  induction ns with
  | nil => rfl
  | cons n ns ih => simp [PyData.depthAll, PyData.depth, ih]
section
variable {X : Cx}
theorem alike_ints (ns : List Int) : PySem.W.AlikeAll (ns.map PyData.int) := by
  refine ⟨fun x hx y hy => ?_, fun x hx => ?_⟩
  · obtain ⟨i, _, rfl⟩ := List.mem_map.mp hx
    obtain ⟨j, _, rfl⟩ := List.mem_map.mp hy
    rfl
  · obtain ⟨i, _, rfl⟩ := List.mem_map.mp hx
    intro z
    cases z
theorem cl_max1 {k : Nat} (hr : Room k X.A) (hc : X.calm = true) : ClD X (.builtin "max") (best1F max) := by
  intro pn s σ H xs us Q I rs h
  obtain ⟨L, ds, d, lv, rb, hf, k⟩ := h
  unfold best1F at hf
  split at hf
  · obtain ⟨v, rfl, r⟩ := rb.one
    obtain ⟨a, vs, rfl, ha, rl⟩ := r.lstV
    obtain ⟨ns, e, hf2⟩ := Option.bind_eq_some_iff.mp hf
    have ed := intsOf_eq e
    subst ed
    have ev := rl.ints
    subst ev
    cases ns with
    | nil => cases hf2
    | cons n ns =>
      cases hf2
      refine cr_max hc pn s σ H _ us Q I rs ⟨a, n :: ns, rfl, SqL.of ha, by simp, fun m hm hle => ?_⟩
      obtain ⟨h1, h2⟩ := foldl_max ns n
      have e : m = ns.foldl max n := by have := hle _ h1; have := h2 _ hm; omega
      subst e
      exact k H _ (Same.refl H) (.int _)
  · obtain ⟨v, rfl, r⟩ := rb.one
    obtain ⟨a, vs, rfl, ha, rl⟩ := r.tupV
    obtain ⟨ns, e, hf2⟩ := Option.bind_eq_some_iff.mp hf
    have ed := intsOf_eq e
    subst ed
    have ev := rl.ints
    subst ev
    cases ns with
    | nil => cases hf2
    | cons n ns =>
      cases hf2
      obtain ⟨its, rv, hl, _⟩ := I.tuple (SqT.of ha)
      rw [Vals.ref1 rs]
      have hu := hr.un
      refine PySem.W.max_tuple_data (x := .int n) (xs := ns.map PyData.int) (vs := its.toArray) (I.ok.hd hc) (show s.heap.IsTuple a its.toArray from hl) (readsAll_ints (ns := n :: ns) rv.ints) (alike_ints (n :: ns)) (by rw [show PyData.int n :: ns.map PyData.int = (n :: ns).map PyData.int from rfl, depthAll_ints]; omega) fun i v h' tk bs _ rd hk => ?_
      rw [PySem.W.maxD_ints] at rd
      cases rd
      exact ⟨.int _, H, I.kept hk, ⟨_, rfl⟩, k H _ (Same.refl H) (.int _)⟩
  · cases hf
theorem cl_min1 {k : Nat} (hr : Room k X.A) (hc : X.calm = true) : ClD X (.builtin "min") (best1F min) := by
  intro pn s σ H xs us Q I rs h
  obtain ⟨L, ds, d, lv, rb, hf, k⟩ := h
  unfold best1F at hf
  split at hf
  · obtain ⟨v, rfl, r⟩ := rb.one
    obtain ⟨a, vs, rfl, ha, rl⟩ := r.lstV
    obtain ⟨ns, e, hf2⟩ := Option.bind_eq_some_iff.mp hf
    have ed := intsOf_eq e
    subst ed
    have ev := rl.ints
    subst ev
    cases ns with
    | nil => cases hf2
    | cons n ns =>
      cases hf2
      refine cr_min hc pn s σ H _ us Q I rs ⟨a, n :: ns, rfl, SqL.of ha, by simp, fun m hm hle => ?_⟩
      obtain ⟨h1, h2⟩ := foldl_min ns n
      have e : m = ns.foldl min n := by have := hle _ h1; have := h2 _ hm; omega
      subst e
      exact k H _ (Same.refl H) (.int _)
  · obtain ⟨v, rfl, r⟩ := rb.one
    obtain ⟨a, vs, rfl, ha, rl⟩ := r.tupV
    obtain ⟨ns, e, hf2⟩ := Option.bind_eq_some_iff.mp hf
    have ed := intsOf_eq e
    subst ed
    have ev := rl.ints
    subst ev
    cases ns with
    | nil => cases hf2
    | cons n ns =>
      cases hf2
      obtain ⟨its, rv, hl, _⟩ := I.tuple (SqT.of ha)
      rw [Vals.ref1 rs]
      have hu := hr.un
      refine PySem.W.min_tuple_data (x := .int n) (xs := ns.map PyData.int) (vs := its.toArray) (I.ok.hd hc) (show s.heap.IsTuple a its.toArray from hl) (readsAll_ints (ns := n :: ns) rv.ints) (alike_ints (n :: ns)) (by rw [show PyData.int n :: ns.map PyData.int = (n :: ns).map PyData.int from rfl, depthAll_ints]; omega) fun i v h' tk bs _ rd hk => ?_
      rw [PySem.W.minD_ints] at rd
      cases rd
      exact ⟨.int _, H, I.kept hk, ⟨_, rfl⟩, k H _ (Same.refl H) (.int _)⟩
  · cases hf
end
end VV
namespace VV
open PySem PySem.Spec L2
open PyProof.Rows hiding St
def seqO : Out → SF → Out
  | .nx ρ, g => g ρ
  | o, _ => o
theorem ap_sSeq (f g : SF) (ρ : En) : sSeq f g ρ = seqO (f ρ) g := by unfold sSeq seqO; cases f ρ <;> rfl
theorem seqO_nx (ρ : En) (g : SF) : seqO (.nx ρ) g = g ρ := rfl
theorem seqO_rt (d : D) (g : SF) : seqO (.rt d) g = .rt d := rfl
theorem seqO_exc (c : Str) (fs : List (Str × D)) (ρ : En) (g : SF) : seqO (.exc c fs ρ) g = .exc c fs ρ := rfl
def ifO : Rs → SF → SF → SF
  | .ok (.bool true), f, _, ρ => f ρ
  | .ok (.bool false), _, g, ρ => g ρ
  | .exc c fs, _, _, ρ => .exc c fs ρ
  | _, _, _, _ => .bad
theorem ap_sIf (c : EF) (f g : SF) (ρ : En) : sIf c f g ρ = ifO (c ρ) f g ρ := by
  unfold sIf ifO
  cases c ρ with
  | ok d => cases d with
    | bool b => cases b <;> rfl
    | _ => rfl
  | exc _ _ => rfl
  | bad => rfl
theorem ifO_t (f g : SF) (ρ : En) : ifO (.ok (.bool true)) f g ρ = f ρ := rfl
theorem ifO_f (f g : SF) (ρ : En) : ifO (.ok (.bool false)) f g ρ = g ρ := rfl
theorem ifO_exc (c : Str) (fs : List (Str × D)) (f g : SF) (ρ : En) : ifO (.exc c fs) f g ρ = .exc c fs ρ := rfl
theorem ap_sNx (ρ : En) : sNx ρ = .nx ρ := rfl
theorem ap_sSet (i : Nat) (f : EF) (ρ : En) : sSet i f ρ = (f ρ).out ρ fun d => .nx (ρ.set i (some (.val d))) := rfl
theorem ap_sOwn (i : Nat) (f : EF) (ρ : En) : sOwn i f ρ = (f ρ).out ρ fun d => .nx (ρ.set i (some (.own d))) := rfl
theorem ap_sRet (f : EF) (ρ : En) : sRet f ρ = (f ρ).out ρ fun d => .rt d := rfl
theorem ap_sDrop (f : EF) (ρ : En) : sDrop f ρ = (f ρ).out ρ fun _ => .nx ρ := rfl
theorem ap_sAsg (t : Tg) (f : EF) (ρ : En) : sAsg t f ρ = (f ρ).out ρ fun d => outB (bindT t d ρ) := rfl
theorem outB_some (ρ : En) : outB (some ρ) = .nx ρ := rfl
theorem bT_nm (i : Nat) (d : D) (ρ : En) : bindT (.nm i) d ρ = some (ρ.set i (some (.val d))) := by simp [bindT]
theorem bT_tp (ts : List Tg) (ds : List D) (ρ : En) : bindT (.tp ts) (.tuple ds) ρ = bindTs ts ds ρ := by simp [bindT]
theorem bTs_nil (ρ : En) : bindTs [] [] ρ = some ρ := by simp [bindTs]
theorem bTs_cons (t : Tg) (ts : List Tg) (d : D) (ds : List D) (ρ : En) : bindTs (t :: ts) (d :: ds) ρ = (bindT t d ρ).bind fun ρ => bindTs ts ds ρ := by simp [bindTs]
theorem ap_sRaise (c : Str) (ρ : En) : sRaise c ρ = .exc c [] ρ := rfl
def parO (i j : Nat) (ρ : En) : RL → Out
  | .ok [x, y] => .nx ((ρ.set i (some (.val x))).set j (some (.val y)))
  | .exc c fs => .exc c fs ρ
  | _ => .bad
theorem ap_sPar (i j : Nat) (fs : List EF) (ρ : En) : sPar i j fs ρ = parO i j ρ (evA fs ρ) := by
  unfold sPar parO RL.out
  cases evA fs ρ with
  | ok ds =>
    match ds with
    | [] => rfl
    | [_] => rfl
    | [_, _] => rfl
    | _ :: _ :: _ :: _ => rfl
  | exc _ _ => rfl
  | bad => rfl
theorem parO_ok (i j : Nat) (ρ : En) (x y : D) : parO i j ρ (.ok [x, y]) = .nx ((ρ.set i (some (.val x))).set j (some (.val y))) := rfl
theorem ap_sFor (fi : IF) (t : Tg) (f : SF) (ρ : En) : sFor fi t f ρ = (fi ρ).out ρ fun ds => forGo t f ds ρ := rfl
def retO : Option (Option Sl) → Out
  | some (some (.own d)) => .rt d
  | some (some (.val d)) => .rt d
  | _ => .bad
theorem ap_sRetV (i : Nat) (ρ : En) : sRetV i ρ = retO ρ[i]? := rfl
theorem retO_own (d : D) : retO (some (some (.own d))) = .rt d := rfl
theorem retO_val (d : D) : retO (some (some (.val d))) = .rt d := rfl
def frzO (i : Nat) (f : SF) (ρ : En) : Option (Option Sl) → Out
  | some (some (.own d)) => f (ρ.set i (some (.val d)))
  | some (some (.val _)) => f ρ
  | _ => .bad
theorem ap_sFrz (i : Nat) (f : SF) (ρ : En) : sFrz i f ρ = frzO i f ρ ρ[i]? := rfl
theorem frzO_own (i : Nat) (f : SF) (ρ : En) (d : D) : frzO i f ρ (some (some (.own d))) = f (ρ.set i (some (.val d))) := rfl
theorem frzO_val (i : Nat) (f : SF) (ρ : En) (d : D) : frzO i f ρ (some (some (.val d))) = f ρ := rfl
def appO (i : Nat) (ρ : En) (o : Option (Option Sl)) (r : Rs) : Out := match o with
  | some (some (.own (.list ds))) => r.out ρ fun d => if ds.length < sizeLine then .nx (ρ.set i (some (.own (.list (ds ++ [d]))))) else .bad
  | _ => .bad
theorem ap_sApp (i : Nat) (f : EF) (ρ : En) : sApp i f ρ = appO i ρ ρ[i]? (f ρ) := rfl
theorem appO_ok (i : Nat) (ρ : En) (ds : List D) (d : D) (h : ds.length < 16777216) : appO i ρ (some (some (.own (.list ds)))) (.ok d) = .nx (ρ.set i (some (.own (.list (ds ++ [d]))))) := if_pos h
def extO (i : Nat) (ρ : En) (o : Option (Option Sl)) (r : Rs) : Out := match o with
  | some (some (.own (.list ds))) => r.out ρ fun d => match d with
    | .list es => if ds.length + es.length ≤ sizeLine then .nx (ρ.set i (some (.own (.list (ds ++ es))))) else .bad
    | _ => .bad
  | _ => .bad
theorem extO_ok (i : Nat) (ρ : En) (ds es : List D) (h : ds.length + es.length ≤ 16777216) : extO i ρ (some (some (.own (.list ds)))) (.ok (.list es)) = .nx (ρ.set i (some (.own (.list (ds ++ es))))) := if_pos h
theorem ap_sExt (i : Nat) (f : EF) (ρ : En) : sExt i f ρ = extO i ρ ρ[i]? (f ρ) := rfl
def valO : Option (Option Sl) → Rs
  | some (some (.val d)) => .ok d
  | _ => .bad
theorem ap_eV (i : Nat) (ρ : En) : eV i ρ = valO ρ[i]? := rfl
theorem valO_val (d : D) : valO (some (some (.val d))) = .ok d := rfl
def borO : Option (Option Sl) → Rs
  | some (some (.val d)) => .ok d
  | some (some (.own d)) => .ok d
  | some (some (.ownP d)) => .ok d
  | _ => .bad
theorem ap_eB (i : Nat) (ρ : En) : eB i ρ = borO ρ[i]? := rfl
theorem borO_val (d : D) : borO (some (some (.val d))) = .ok d := rfl
theorem borO_own (d : D) : borO (some (some (.own d))) = .ok d := rfl
theorem ap_eC (d : D) (ρ : En) : eC d ρ = .ok d := rfl
def opO (fn : D → D → Option D) (x y : Rs) : Rs := x.bind fun x => y.bind fun y => Rs.of (fn x y)
theorem ap_eOp (fn : D → D → Option D) (f g : EF) (ρ : En) : eOp fn f g ρ = opO fn (f ρ) (g ρ) := rfl
theorem opO_ok (fn : D → D → Option D) (x y : D) : opO fn (.ok x) (.ok y) = Rs.of (fn x y) := rfl
theorem ap_eUn (fn : D → Option D) (f : EF) (ρ : En) : eUn fn f ρ = (f ρ).bind fun x => Rs.of (fn x) := rfl
theorem ap_eTup (fs : List EF) (ρ : En) : eTup fs ρ = (evA fs ρ).bind tupR := rfl
theorem ap_eLst (fs : List EF) (ρ : En) : eLst fs ρ = (evA fs ρ).bind lstR := rfl
theorem tupR_ok (ds : List D) (h : ds.length ≤ 16777216) : tupR ds = .ok (.tuple ds) := if_pos h
theorem lstR_ok (ds : List D) (h : ds.length ≤ 16777216) : lstR ds = .ok (.list ds) := if_pos h
theorem ap_eCB (fn : List D → Option D) (fs : List EF) (ρ : En) : eCB fn fs ρ = (evA fs ρ).bind fun ds => Rs.of (fn ds) := rfl
def callO (f : List D → Rs) (r : RL) : Rs := r.bind f
theorem ap_eCall (f : List D → Rs) (fs : List EF) (ρ : En) : eCall f fs ρ = callO f (evA fs ρ) := rfl
theorem callO_ok (f : List D → Rs) (ds : List D) : callO f (.ok ds) = f ds := Eq.trans rfl rfl
theorem callO_exc (f : List D → Rs) (c : Str) (fs : List (Str × D)) : callO f (.exc c fs) = .exc c fs := Eq.trans rfl rfl
theorem ap_gNot (f : EF) (ρ : En) : gNot f ρ = (f ρ).bind notR := rfl
theorem notR_b (b : Bool) : notR (.bool b) = .ok (.bool (!b)) := rfl
theorem ap_gTru (f : EF) (ρ : En) : gTru f ρ = (f ρ).bind truR := rfl
theorem truR_b (b : Bool) : truR (.bool b) = .ok (.bool b) := rfl
theorem truR_list (ds : List D) : truR (.list ds) = .ok (.bool (!ds.isEmpty)) := rfl
def andO : Rs → EF → EF
  | .ok (.bool true), g, ρ => g ρ
  | .ok (.bool false), _, _ => .ok (.bool false)
  | .exc c fs, _, _ => .exc c fs
  | _, _, _ => .bad
def orO : Rs → EF → EF
  | .ok (.bool false), g, ρ => g ρ
  | .ok (.bool true), _, _ => .ok (.bool true)
  | .exc c fs, _, _ => .exc c fs
  | _, _, _ => .bad
theorem ap_gAnd (f g : EF) (ρ : En) : gAnd f g ρ = andO (f ρ) g ρ := by
  unfold gAnd andO Rs.bind andR
  cases f ρ with
  | ok d => cases d with
    | bool b => cases b <;> rfl
    | _ => rfl
  | exc _ _ => rfl
  | bad => rfl
theorem ap_gOr (f g : EF) (ρ : En) : gOr f g ρ = orO (f ρ) g ρ := by
  unfold gOr orO Rs.bind orR
  cases f ρ with
  | ok d => cases d with
    | bool b => cases b <;> rfl
    | _ => rfl
  | exc _ _ => rfl
  | bad => rfl
theorem andO_t (g : EF) (ρ : En) : andO (.ok (.bool true)) g ρ = g ρ := rfl
theorem andO_f (g : EF) (ρ : En) : andO (.ok (.bool false)) g ρ = .ok (.bool false) := rfl
theorem orO_t (g : EF) (ρ : En) : orO (.ok (.bool true)) g ρ = .ok (.bool true) := rfl
theorem orO_f (g : EF) (ρ : En) : orO (.ok (.bool false)) g ρ = g ρ := rfl
def eandO : Rs → EF → EF
  | .ok d, g, ρ => (match tru d with
    | some true => g ρ
    | some false => .ok d
    | none => .bad)
  | .exc c fs, _, _ => .exc c fs
  | .bad, _, _ => .bad
def eorO : Rs → EF → EF
  | .ok d, g, ρ => (match tru d with
    | some true => .ok d
    | some false => g ρ
    | none => .bad)
  | .exc c fs, _, _ => .exc c fs
  | .bad, _, _ => .bad
theorem ap_eAnd (f g : EF) (ρ : En) : eAnd f g ρ = eandO (f ρ) g ρ := by
  unfold eAnd eandO Rs.bind
  cases f ρ <;> rfl
theorem ap_eOr (f g : EF) (ρ : En) : eOr f g ρ = eorO (f ρ) g ρ := by
  unfold eOr eorO Rs.bind
  cases f ρ <;> rfl
theorem eandO_t (g : EF) (ρ : En) : eandO (.ok (.bool true)) g ρ = g ρ := rfl
theorem eandO_f (g : EF) (ρ : En) : eandO (.ok (.bool false)) g ρ = .ok (.bool false) := rfl
theorem eorO_t (g : EF) (ρ : En) : eorO (.ok (.bool true)) g ρ = .ok (.bool true) := rfl
theorem eorO_f (g : EF) (ρ : En) : eorO (.ok (.bool false)) g ρ = g ρ := rfl
def enotO : Rs → Rs
  | .ok d => (match tru d with
    | some b => .ok (.bool (!b))
    | none => .bad)
  | .exc c fs => .exc c fs
  | .bad => .bad
theorem ap_eNot (f : EF) (ρ : En) : eNot f ρ = enotO (f ρ) := by
  unfold eNot enotO Rs.bind
  cases f ρ <;> rfl
theorem enotO_b (b : Bool) : enotO (.ok (.bool b)) = .ok (.bool (!b)) := rfl
theorem enotO_list (ds : List D) : enotO (.ok (.list ds)) = .ok (.bool (! !ds.isEmpty)) := rfl
def eifO : Rs → EF → EF → EF
  | .ok (.bool true), f, _, ρ => f ρ
  | .ok (.bool false), _, g, ρ => g ρ
  | .exc c fs, _, _, _ => .exc c fs
  | _, _, _, _ => .bad
theorem ap_eIf (c f g : EF) (ρ : En) : eIf c f g ρ = eifO (c ρ) f g ρ := by
  unfold eIf eifO Rs.bind ifR
  cases c ρ with
  | ok d => cases d with
    | bool b => cases b <;> rfl
    | _ => rfl
  | exc _ _ => rfl
  | bad => rfl
theorem eifO_t (f g : EF) (ρ : En) : eifO (.ok (.bool true)) f g ρ = f ρ := rfl
theorem eifO_f (f g : EF) (ρ : En) : eifO (.ok (.bool false)) f g ρ = g ρ := rfl
def chO (fn fn' : D → D → Option D) (x y : Rs) (h : EF) (ρ : En) : Rs := x.bind fun x => y.bind fun y => andO (Rs.of (fn x y)) (fun ρ => opO fn' (.ok y) (h ρ)) ρ
theorem ap_eChain (fn fn' : D → D → Option D) (f g h : EF) (ρ : En) : eChain fn fn' f g h ρ = chO fn fn' (f ρ) (g ρ) h ρ := by
  unfold eChain chO
  cases f ρ with
  | ok x =>
    cases g ρ with
    | ok y =>
      simp only [Rs.bind_ok]
      cases fn x y with
      | none => rfl
      | some d => cases d with
        | bool b => cases b <;> rfl
        | _ => rfl
    | exc _ _ => rfl
    | bad => rfl
  | exc _ _ => rfl
  | bad => rfl
theorem chO_ok (fn fn' : D → D → Option D) (x y : D) (h : EF) (ρ : En) : chO fn fn' (.ok x) (.ok y) h ρ = andO (Rs.of (fn x y)) (fun ρ => opO fn' (.ok y) (h ρ)) ρ := rfl
def isiO (g : D → Bool) : Rs → Rs
  | .ok (.dict ps) => if (asFz (.dict ps)).isSome then .ok (.bool (g (.dict ps))) else .bad
  | .ok d => .ok (.bool (g d))
  | .exc c fs => .exc c fs
  | .bad => .bad
theorem ap_eIsi (g : D → Bool) (f : EF) (ρ : En) : eIsi g f ρ = isiO g (f ρ) := by
  unfold eIsi isiO Rs.bind
  cases f ρ with
  | ok d => cases d <;> rfl
  | exc _ _ => rfl
  | bad => rfl
theorem isiO_int (g : D → Bool) (i : Int) : isiO g (.ok (.int i)) = .ok (.bool (g (.int i))) := rfl
theorem isiO_tup (g : D → Bool) (i : List D) : isiO g (.ok (.tuple i)) = .ok (.bool (g (.tuple i))) := rfl
theorem isiO_lst (g : D → Bool) (i : List D) : isiO g (.ok (.list i)) = .ok (.bool (g (.list i))) := rfl
theorem isiO_bl (g : D → Bool) (i : Bool) : isiO g (.ok (.bool i)) = .ok (.bool (g (.bool i))) := rfl
theorem isiO_str (g : D → Bool) (i : Str) : isiO g (.ok (.str i)) = .ok (.bool (g (.str i))) := rfl
theorem isiO_non (g : D → Bool) : isiO g (.ok .none) = .ok (.bool (g .none)) := rfl
theorem isInt_int (i : Int) : isInt (.int i) = true := rfl
theorem isInt_bl (b : Bool) : isInt (.bool b) = true := rfl
theorem isInt_tup (b : List D) : isInt (.tuple b) = false := rfl
theorem isInt_lst (b : List D) : isInt (.list b) = false := rfl
theorem isInt_str (b : Str) : isInt (.str b) = false := rfl
theorem isInt_non : isInt .none = false := rfl
theorem isBool_int (i : Int) : isBool (.int i) = false := rfl
theorem isBool_bl (b : Bool) : isBool (.bool b) = true := rfl
theorem isTup_tup (b : List D) : isTup (.tuple b) = true := rfl
theorem isTup_lst (b : List D) : isTup (.list b) = false := rfl
theorem isTup_int (b : Int) : isTup (.int b) = false := rfl
theorem isTup_non : isTup .none = false := rfl
theorem isTup_str (b : Str) : isTup (.str b) = false := rfl
theorem isTup_bl (b : Bool) : isTup (.bool b) = false := rfl
theorem isLst_lst (b : List D) : isLst (.list b) = true := rfl
theorem isLst_tup (b : List D) : isLst (.tuple b) = false := rfl
theorem f_add (i j : Int) : addF (.int i) (.int j) = some (.int (i + j)) := rfl
theorem f_sub (i j : Int) : subF (.int i) (.int j) = some (.int (i - j)) := rfl
theorem f_neg (i : Int) : negF (.int i) = some (.int (-i)) := rfl
theorem f_mod (i j : Int) (h : j ≠ 0) : modF (.int i) (.int j) = some (.int (i.fmod j)) := if_neg h
theorem f_modP (i j : Int) (h : 0 < j) : modF (.int i) (.int j) = some (.int (i % j)) := by
  rw [f_mod i j (by omega), Int.fmod_eq_emod_of_nonneg i (by omega)]
theorem divOk_of {j : Int} (h : 0 < j) (h2 : j < 2 ^ 64) : divOk j = true := by
  unfold divOk
  simp only [Bool.and_eq_true, decide_eq_true_eq]
  refine ⟨by omega, ?_⟩
  have : j.natAbs < 2 ^ 64 := by omega
  have := (Nat.log2_lt (n := j.natAbs) (k := 64) (by omega)).2 this
  omega
theorem f_divP (i j : Int) (h : 0 < j) (h2 : j < 18446744073709551616) : divF (.int i) (.int j) = some (.int (i / j)) := by
  show (if divOk j = true then some (PyData.int (i.fdiv j)) else none) = _
  rw [if_pos (divOk_of h h2), Int.fdiv_eq_ediv_of_nonneg i (by omega)]
theorem f_mul (i j : Int) (h : (-18446744073709551616 < i ∧ i < 18446744073709551616) ∨ (-18446744073709551616 < j ∧ j < 18446744073709551616)) : mulF (.int i) (.int j) = some (.int (i * j)) := by
  show (if mulOk i j = true then some (PyData.int (i * j)) else none) = _
  rw [if_pos]
  unfold mulOk
  rw [Bool.or_eq_true]
  exact .inl (decide_eq_true h)
theorem f_lt (i j : Int) : ltF (.int i) (.int j) = some (.bool (decide (i < j))) := rfl
theorem f_le (i j : Int) : leF (.int i) (.int j) = some (.bool (decide (i ≤ j))) := rfl
theorem f_gt (i j : Int) : gtF (.int i) (.int j) = some (.bool (decide (j < i))) := rfl
theorem f_ge (i j : Int) : geF (.int i) (.int j) = some (.bool (decide (j ≤ i))) := rfl
theorem f_is (x : D) : isF x .none = some (.bool (isNone x)) := rfl
theorem f_isNot (x : D) : isNotF x .none = some (.bool (!isNone x)) := rfl
theorem isNone_int (i : Int) : isNone (.int i) = false := rfl
theorem isNone_tup (i : List D) : isNone (.tuple i) = false := rfl
theorem isNone_lst (i : List D) : isNone (.list i) = false := rfl
theorem isNone_non : isNone .none = true := rfl
theorem f_len_l (ds : List D) : lenF [.list ds] = some (.int ds.length) := rfl
theorem f_len_t (ds : List D) : lenF [.tuple ds] = some (.int ds.length) := rfl
theorem f_len_rd (ns : List Int) : lenF [rdL ns] = some (.int ns.length) := by simp [lenF, rdL, asRd, isFd]
theorem f_tup_l (ds : List D) : tupF [.list ds] = some (.tuple ds) := rfl
theorem f_tup_t (ds : List D) : tupF [.tuple ds] = some (.tuple ds) := rfl
theorem f_max2 (i j : Int) : max2F [.int i, .int j] = some (.int (max i j)) := by
  simp only [max2F]
  congr 2
  split <;> omega
theorem f_min2 (i j : Int) : min2F [.int i, .int j] = some (.int (min i j)) := by
  simp only [min2F]
  congr 2
  split <;> omega
theorem f_abs (i : Int) : absF [.int i] = some (.int (if i < 0 then -i else i)) := rfl
theorem f_sum_l (ns : List Int) : sumF [.list (ns.map PyData.int)] = some (.int ns.sum) := by simp [sumF, intsOf_map]
theorem f_sum_t (ns : List Int) : sumF [.tuple (ns.map PyData.int)] = some (.int ns.sum) := by simp [sumF, intsOf_map]
theorem atI_nat {α : Type} (xs : List α) (n : Nat) (h : n < xs.length) : L2.atI xs (n : Int) = some xs[n] := by
  unfold L2.atI L2.ixN
  rw [if_pos (by omega)]; rw [if_pos (by omega)]
  simp [h]
theorem f_ix_t (ds : List D) (i : Int) (h0 : 0 ≤ i) (h : i.toNat < ds.length) : ixF (.tuple ds) (.int i) = some ds[i.toNat] := by
  have := atI_nat ds i.toNat h
  rw [Int.toNat_of_nonneg h0] at this
  exact this
theorem f_ix_l (ds : List D) (i : Int) (h0 : 0 ≤ i) (h : i.toNat < ds.length) : ixF (.list ds) (.int i) = some ds[i.toNat] := by
  have := atI_nat ds i.toNat h
  rw [Int.toNat_of_nonneg h0] at this
  exact this
theorem f_ix0 (a : D) (r : List D) : ixF (.tuple (a :: r)) (.int 0) = some a := f_ix_t (a :: r) 0 (by decide) (by simp)
theorem f_ix1 (a b : D) (r : List D) : ixF (.tuple (a :: b :: r)) (.int 1) = some b := f_ix_t (a :: b :: r) 1 (by decide) (by simp)
theorem f_ix2 (a b c : D) (r : List D) : ixF (.tuple (a :: b :: c :: r)) (.int 2) = some c := f_ix_t (a :: b :: c :: r) 2 (by decide) (by simp)
theorem f_ix3 (a b c e : D) (r : List D) : ixF (.tuple (a :: b :: c :: e :: r)) (.int 3) = some e := f_ix_t (a :: b :: c :: e :: r) 3 (by decide) (by simp)
theorem f_ix_row (ns : List Int) (i : Int) (h0 : 0 ≤ i) (h : i < ns.length) : ixF (.list (ns.map PyData.int)) (.int i) = some (.int (ns.getD i.toNat 0)) := by
  have h' : i.toNat < ns.length := by omega
  rw [f_ix_l _ i h0 (by simpa using h')]
  simp [h']
theorem f_ix_rd (ns : List Int) (i : Int) (h0 : 0 ≤ i) (h : i < ns.length) : ixF (rdL ns) (.int i) = some (.int (ns.getD i.toNat 0)) := f_ix_row ns i h0 h
theorem f_rev_t (ds : List D) : revF (.tuple ds) = some (.tuple ds.reverse) := rfl
def outR : Out → Rs
  | .nx _ => .ok .none
  | .rt d => .ok d
  | .exc c fs _ => .exc c fs
  | _ => .bad
theorem outR_nx (ρ : En) : outR (.nx ρ) = .ok .none := rfl
theorem outR_rt (d : D) : outR (.rt d) = .ok d := rfl
theorem outR_exc (c : Str) (fs : List (Str × D)) (ρ : En) : outR (.exc c fs ρ) = .exc c fs := rfl
def nones : Nat → En
  | 0 => []
  | n + 1 => none :: nones n
theorem nones_eq (n : Nat) : List.replicate n (none : Option Sl) = nones n := by
  induction n with
  | zero => rfl
  | succ n ih => rw [List.replicate_succ, ih]; rfl
theorem nones0 : nones 0 = [] := rfl
theorem nonesS (n : Nat) : nones (n + 1) = none :: nones n := rfl
theorem runB_eq (n N : Nat) (f : SF) (ds : List D) (h : ds.length = n) : runB n N f ds = outR (f (ds.map (fun d => some (.val d)) ++ nones (N - n))) := by
  unfold runB outR
  rw [if_pos h, nones_eq]
  cases f (List.map (fun d => some (Sl.val d)) ds ++ nones (N - n)) <;> rfl
theorem lcGo_none {i : Nat} {c e : EF} {ρ : En} : ∀ (ds : List D), (∀ d ∈ ds, c (ρ.set i (some (.val d))) = .ok (.bool false)) → lcGo (.nm i) c e ρ ds = .ok []
  | [], _ => rfl
  | d :: ds, h => by
    have h1 := h d (by simp)
    have ih := lcGo_none (e := e) ds fun d' hd => h d' (by simp [hd])
    simp only [lcGo, lcOne, bT_nm, h1, ih]
theorem eLc_none {vs : List Nat} {fi : IF} {i : Nat} {c e : EF} {ρ : En} (ds : List D) (hi : fi ρ = .ok ds) (h : ∀ d ∈ ds, c ((wipeE ρ vs).set i (some (.val d))) = .ok (.bool false)) :
    eLc vs fi (.nm i) c e ρ = .ok (.list []) := by
  unfold eLc
  rw [hi, RL.bind_ok, lcGo_none ds h, RL.bind_ok]
  exact lstR_ok _ (by decide)
theorem wipeE_nil (ρ : En) : wipeE ρ [] = ρ := rfl
theorem wipeE_cons (ρ : En) (v : Nat) (vs : List Nat) : wipeE ρ (v :: vs) = (wipeE ρ vs).set v none := rfl
theorem ap_iSeq (f : EF) (ρ : En) : iSeq f ρ = (f ρ).items itF := rfl
theorem items_l (ds : List D) : (Rs.ok (.list ds)).items itF = .ok ds := rfl
theorem items_t (ds : List D) : (Rs.ok (.tuple ds)).items itF = .ok ds := rfl
theorem ap_iRange1 (fs : List EF) (ρ : En) : iRange1 fs ρ = (evA fs ρ).items rng1 := rfl
theorem ap_iRange2 (fs : List EF) (ρ : En) : iRange2 fs ρ = (evA fs ρ).items rng2 := rfl
theorem rng1_ok (j : Int) (h : -4611686018427387904 ≤ j) (h2 : j < 4611686018427387904) : (RL.ok [.int j]).items rng1 = .ok (rangeD 0 j.toNat) := by
  have e : smallI j = true := by simp only [smallI, Bool.and_eq_true, decide_eq_true_eq]; omega
  simp only [RL.items, rng1, e, if_true]
theorem rng2_ok (i j : Int) (h : -4611686018427387904 ≤ i ∧ i < 4611686018427387904 ∧ -4611686018427387904 ≤ j ∧ j < 4611686018427387904) : (RL.ok [.int i, .int j]).items rng2 = .ok (rangeD i (j - i).toNat) := by
  have e : (smallI i && smallI j) = true := by simp only [smallI, Bool.and_eq_true, decide_eq_true_eq]; omega
  simp only [RL.items, rng2, e, if_true]
theorem forGo_nx {i : Nat} {f : SF} {d : D} {ds : List D} {ρ ρ2 : En} (h : f (ρ.set i (some (.val d))) = .nx ρ2) : forGo (.nm i) f (d :: ds) ρ = forGo (.nm i) f ds ρ2 := by
  simp only [forGo, forOne, bT_nm, h]
theorem forGo_inv {i : Nat} {f : SF} (P : Nat → En → Prop) : ∀ (ds : List D) (k : Nat) (ρ : En), P k ρ → (∀ j ρ, P (k + j) ρ → ∀ d, ds[j]? = some d → ∃ ρ2, f (ρ.set i (some (.val d))) = .nx ρ2 ∧ P (k + j + 1) ρ2) → ∃ ρ', forGo (.nm i) f ds ρ = .nx ρ' ∧ P (k + ds.length) ρ'
  | [], k, ρ, h, _ => ⟨ρ, rfl, h⟩
  | d :: ds, k, ρ, h, hs => by
    obtain ⟨ρ2, e, h2⟩ := hs 0 ρ h d rfl
    obtain ⟨ρ', e', h'⟩ := forGo_inv P ds (k + 1) ρ2 h2 fun j ρ hj d hd => by
      have := hs (j + 1) ρ (by rw [show k + (j + 1) = k + 1 + j by omega]; exact hj) d (by simpa using hd)
      rw [show k + (j + 1) + 1 = k + 1 + j + 1 by omega] at this
      exact this
    exact ⟨ρ', by rw [forGo_nx e]; exact e', by rw [List.length_cons, show k + (ds.length + 1) = k + 1 + ds.length by omega]; exact h'⟩
theorem rangeD_get {lo : Int} {n j : Nat} {d : D} (h : (rangeD lo n)[j]? = some d) : j < n ∧ d = .int (lo + j) := by
  unfold rangeD at h
  rw [List.getElem?_map] at h
  by_cases hi : j < n
  · rw [List.getElem?_range hi] at h
    cases h
    exact ⟨hi, rfl⟩
  · rw [List.getElem?_eq_none (by simpa using hi)] at h
    cases h
theorem rangeD_length (lo : Int) (n : Nat) : (rangeD lo n).length = n := by simp [rangeD]
def Ly (k : Nat) (d : D) : Prop := d.canLay0 = true ∧ d.depth ≤ k
theorem Ly.int (k : Nat) (i : Int) : Ly k (.int i) := ⟨rfl, by simp [PyData.depth]⟩
theorem Ly.bool (k : Nat) (b : Bool) : Ly k (.bool b) := ⟨rfl, by simp [PyData.depth]⟩
theorem Ly.none (k : Nat) : Ly k .none := ⟨rfl, by simp [PyData.depth]⟩
theorem Ly.all {k : Nat} : ∀ {ds : List D}, (∀ d ∈ ds, Ly k d) → PyData.canLayAll0 ds = true ∧ PyData.depthAll ds ≤ k
  | [], _ => ⟨rfl, by simp [PyData.depthAll]⟩
  | d :: ds, h => by
    obtain ⟨a, b⟩ := h d (by simp)
    obtain ⟨c, e⟩ := Ly.all (ds := ds) fun d' hd => h d' (by simp [hd])
    refine ⟨by simp [PyData.canLayAll0, a, c], ?_⟩
    simp only [PyData.depthAll]
    omega
theorem Ly.tuple {k : Nat} {ds : List D} (h : ∀ d ∈ ds, Ly k d) : Ly (k + 1) (.tuple ds) := by
  obtain ⟨a, b⟩ := Ly.all h
  exact ⟨by simp [PyData.canLay0, a], by simp only [PyData.depth]; omega⟩
theorem Ly.list {k : Nat} {ds : List D} (h : ∀ d ∈ ds, Ly k d) : Ly (k + 1) (.list ds) := by
  obtain ⟨a, b⟩ := Ly.all h
  exact ⟨by simp [PyData.canLay0, a], by simp only [PyData.depth]; omega⟩
theorem Ly.mono {k m : Nat} {d : D} (h : Ly k d) (hm : k ≤ m) : Ly m d := ⟨h.1, Nat.le_trans h.2 hm⟩
theorem Ly.shaped {k : Nat} {d : D} (h : Ly k d) (hk : k ≤ 64) : SeqAt.shaped d = true := by
  unfold SeqAt.shaped
  rw [Bool.and_eq_true]
  exact ⟨h.1, decide_eq_true (Nat.le_trans h.2 hk)⟩
theorem eq_refl_of {k : Nat} {d : D} (h : Ly k d) : PyData.eqv d d = true := by
  exact PySem.SeqAt.eqv_refl d h.1
theorem f_eq {k : Nat} {x y : D} (hx : Ly k x) (hy : Ly k y) (hk : k ≤ 64) : eqF x y = some (.bool (PyData.eqv x y)) := if_pos (by rw [hx.shaped hk, hy.shaped hk]; rfl)
theorem f_ne {k : Nat} {x y : D} (hx : Ly k x) (hy : Ly k y) (hk : k ≤ 64) : neF x y = some (.bool (!PyData.eqv x y)) := if_pos (by rw [hx.shaped hk, hy.shaped hk]; rfl)
theorem f_eq_self {k : Nat} {x : D} (hx : Ly k x) (hk : k ≤ 64) : eqF x x = some (.bool true) := by rw [f_eq hx hx hk, eq_refl_of hx]
theorem f_ne_self {k : Nat} {x : D} (hx : Ly k x) (hk : k ≤ 64) : neF x x = some (.bool false) := by rw [f_ne hx hx hk, eq_refl_of hx]; rfl
theorem f_eqI (i j : Int) : eqF (.int i) (.int j) = some (.bool (decide (i = j))) := by
  rw [f_eq (Ly.int 0 i) (Ly.int 0 j) (by decide)]
  simp only [PyData.eqv]
  exact congrArg (fun b => some (PyData.bool b)) (by by_cases h : i = j <;> simp [h])
theorem f_neI (i j : Int) : neF (.int i) (.int j) = some (.bool (!decide (i = j))) := by
  rw [f_ne (Ly.int 0 i) (Ly.int 0 j) (by decide)]
  simp only [PyData.eqv]
  exact congrArg (fun b => some (PyData.bool b)) (by by_cases h : i = j <;> simp [h])
theorem f_eqB (i j : Bool) : eqF (.bool i) (.bool j) = some (.bool (i == j)) := by
  rw [f_eq (Ly.bool 0 i) (Ly.bool 0 j) (by decide)]
  simp only [PyData.eqv]
theorem f_neB (i j : Bool) : neF (.bool i) (.bool j) = some (.bool (!(i == j))) := by
  rw [f_ne (Ly.bool 0 i) (Ly.bool 0 j) (by decide)]
  simp only [PyData.eqv]
theorem eLc_mapA {α : Type} {vs : List Nat} {fi : IF} {i : Nat} {c e : EF} {ρ : En} (xs : List α) (emb f : α → D) (hi : fi ρ = .ok (xs.map emb)) (hl : xs.length ≤ 16777216) (h : ∀ x ∈ xs, c ((wipeE ρ vs).set i (some (.val (emb x)))) = .ok (.bool true) ∧ e ((wipeE ρ vs).set i (some (.val (emb x)))) = .ok (f x)) :
    eLc vs fi (.nm i) c e ρ = .ok (.list (xs.map f)) := by
  have key : ∀ (xs : List α), (∀ x ∈ xs, c ((wipeE ρ vs).set i (some (.val (emb x)))) = .ok (.bool true) ∧ e ((wipeE ρ vs).set i (some (.val (emb x)))) = .ok (f x)) → lcGo (.nm i) c e (wipeE ρ vs) (xs.map emb) = .ok (xs.map f) := by
    intro xs
    induction xs with
    | nil => intro _; rfl
    | cons x xs ih =>
      intro h
      obtain ⟨h1, h2⟩ := h x (by simp)
      have := ih fun y hy => h y (by simp [hy])
      simp only [List.map_cons, lcGo, lcOne, bT_nm, h1, h2, this, RL.cons_ok]
  unfold eLc
  rw [hi, RL.bind_ok, key xs h, RL.bind_ok]
  exact lstR_ok _ (by simpa using hl)
theorem eLc_noneA {α : Type} {vs : List Nat} {fi : IF} {i : Nat} {c e : EF} {ρ : En} (xs : List α) (emb : α → D) (hi : fi ρ = .ok (xs.map emb)) (h : ∀ x ∈ xs, c ((wipeE ρ vs).set i (some (.val (emb x)))) = .ok (.bool false)) :
    eLc vs fi (.nm i) c e ρ = .ok (.list []) := eLc_none _ hi fun d hd => by
  obtain ⟨x, hx, rfl⟩ := List.mem_map.mp hd
  exact h x hx
theorem forGo_rng {i : Nat} {f : SF} {lo : Int} {n : Nat} (P : Nat → En → Prop) {ρ : En} (h0 : P 0 ρ) (hs : ∀ k ρ, k < n → P k ρ → ∃ ρ2, f (ρ.set i (some (.val (.int (lo + k))))) = .nx ρ2 ∧ P (k + 1) ρ2) : ∃ ρ', forGo (.nm i) f (rangeD lo n) ρ = .nx ρ' ∧ P n ρ' := by
  obtain ⟨ρ', e, h⟩ := forGo_inv (i := i) (f := f) P (rangeD lo n) 0 ρ h0 fun j ρ hj d hd => by
    obtain ⟨h1, rfl⟩ := rangeD_get hd
    rw [Nat.zero_add] at hj ⊢
    exact hs j ρ h1 hj
  rw [Nat.zero_add, rangeD_length] at h
  exact ⟨ρ', e, h⟩
def optO (r : Rs) (k : Option Int → Rs) : Rs := r.bind fun d => match d with
  | .int i => k (some i)
  | _ => .bad
theorem optI_none (ρ : En) (k : Option Int → Rs) : optI none ρ k = k none := rfl
theorem optI_some (g : EF) (ρ : En) (k : Option Int → Rs) : optI (some g) ρ k = optO (g ρ) k := rfl
theorem optO_int (i : Int) (k : Option Int → Rs) : optO (.ok (.int i)) k = k (some i) := rfl
theorem ap_eSl (f : EF) (lo hi : Option EF) (ρ : En) : eSl f lo hi ρ = (f ρ).bind fun x => optI lo ρ fun l => optI hi ρ fun h => Rs.of (slF x l h) := rfl
theorem ap_sWh (n : Nat) (c : EF) (f : SF) (ρ : En) : sWh n c f ρ = whGo c f n ρ := rfl
theorem whGo_f {c : EF} {f : SF} {n : Nat} {ρ : En} (h : c ρ = .ok (.bool false)) : whGo c f (n + 1) ρ = .nx ρ := by
  simp only [whGo, h, Rs.out_ok]
theorem whGo_t {c : EF} {f : SF} {n : Nat} {ρ ρ2 : En} (h : c ρ = .ok (.bool true)) (h2 : f ρ = .nx ρ2) : whGo c f (n + 1) ρ = whGo c f n ρ2 := by
  simp only [whGo, h, Rs.out_ok, h2]
theorem f_best_l (f : Int → Int → Int) (n : Int) (ns : List Int) : best1F f [.list ((n :: ns).map PyData.int)] = some (.int (ns.foldl f n)) := by
  show (intsOf _).bind (bestI f) = _
  rw [intsOf_map]
  rfl
def evs_ := (And.intro (And.intro (And.intro (And.intro (And.intro (And.intro (And.intro @ap_sSeq @seqO_nx) (And.intro @seqO_rt @seqO_exc)) (And.intro (And.intro @ap_sIf @ifO_t) (And.intro @ifO_f (And.intro @ifO_exc @ap_sNx)))) (And.intro (And.intro (And.intro @ap_sSet @ap_sOwn) (And.intro @ap_sRet (And.intro @ap_sDrop @ap_sAsg))) (And.intro (And.intro @outB_some @bT_nm) (And.intro @bT_tp (And.intro @bTs_nil @bTs_cons))))) (And.intro (And.intro (And.intro (And.intro @ap_sRaise @ap_sPar) (And.intro @parO_ok (And.intro @ap_sFor @ap_sRetV))) (And.intro (And.intro @retO_own @retO_val) (And.intro @ap_sFrz (And.intro @frzO_own @frzO_val)))) (And.intro (And.intro (And.intro @ap_sApp @ap_sExt) (And.intro @ap_eV (And.intro @valO_val @ap_eB))) (And.intro (And.intro @borO_val @borO_own) (And.intro @ap_eC (And.intro @ap_eOp @opO_ok)))))) (And.intro (And.intro (And.intro (And.intro (And.intro @ap_eUn @ap_eTup) (And.intro @ap_eLst (And.intro @tupR_ok @lstR_ok))) (And.intro (And.intro @ap_eCB @ap_eCall) (And.intro @callO_ok (And.intro @callO_exc @ap_gNot)))) (And.intro (And.intro (And.intro @notR_b @ap_gTru) (And.intro @truR_b (And.intro @truR_list @ap_gAnd))) (And.intro (And.intro @ap_gOr @andO_t) (And.intro @andO_f (And.intro @orO_t @orO_f))))) (And.intro (And.intro (And.intro (And.intro @ap_eAnd @ap_eOr) (And.intro @eandO_t (And.intro @eandO_f @eorO_t))) (And.intro (And.intro @eorO_f @ap_eNot) (And.intro @enotO_b (And.intro @enotO_list @ap_eIf)))) (And.intro (And.intro (And.intro @eifO_t @eifO_f) (And.intro @ap_eChain (And.intro @chO_ok @ap_eIsi))) (And.intro (And.intro @isiO_int @isiO_tup) (And.intro @isiO_lst (And.intro @isiO_bl @isiO_str))))))) (And.intro (And.intro (And.intro (And.intro (And.intro (And.intro @isiO_non @isInt_int) (And.intro @isInt_bl (And.intro @isInt_tup @isInt_lst))) (And.intro (And.intro @isInt_str @isInt_non) (And.intro @isBool_int (And.intro @isBool_bl @isTup_tup)))) (And.intro (And.intro (And.intro @isTup_lst @isTup_int) (And.intro @isTup_non (And.intro @isTup_str @isTup_bl))) (And.intro (And.intro @isLst_lst @isLst_tup) (And.intro @f_add (And.intro @f_sub @f_neg))))) (And.intro (And.intro (And.intro (And.intro @f_eqI @f_neI) (And.intro @f_eqB (And.intro @f_neB @f_lt))) (And.intro (And.intro @f_le @f_gt) (And.intro @f_ge (And.intro @f_is @f_isNot)))) (And.intro (And.intro (And.intro @isNone_int @isNone_tup) (And.intro @isNone_lst (And.intro @isNone_non @f_len_l))) (And.intro (And.intro @f_len_t @f_len_rd) (And.intro @f_tup_l (And.intro @f_tup_t @f_max2)))))) (And.intro (And.intro (And.intro (And.intro (And.intro @f_min2 @f_abs) (And.intro @f_sum_l (And.intro @f_sum_t @f_ix0))) (And.intro (And.intro @f_ix1 @f_ix2) (And.intro @f_ix3 (And.intro @f_rev_t @outR_nx)))) (And.intro (And.intro (And.intro @outR_rt @outR_exc) (And.intro @nones0 (And.intro @nonesS @runB_eq))) (And.intro (And.intro @ap_eSl @optI_none) (And.intro @optI_some (And.intro @optO_int @ap_sWh))))) (And.intro (And.intro (And.intro (And.intro @ap_iSeq @items_l) (And.intro @items_t (And.intro @ap_iRange1 @ap_iRange2))) (And.intro (And.intro @wipeE_nil @wipeE_cons) (And.intro @evA_nil (And.intro @evA_cons @RL.cons_ok)))) (And.intro (And.intro (And.intro @RL.cons_exc @RL.bind_ok) (And.intro @RL.bind_exc (And.intro @RL.out_ok @RL.out_exc))) (And.intro (And.intro @Rs.bind_ok @Rs.bind_exc) (And.intro @Rs.out_ok (And.intro @Rs.out_exc @Rs.of_some))))))))
end VV
namespace VVlaw
open PySem PySem.Spec L2 VV
open PyProof.Rows hiding St
def b_is_within : SF := (sRet (eAnd (eIsi isInt (eV 0)) (eAnd (eNot (eIsi isBool (eV 0))) (eChain leF leF (eV 1) (eV 0) (eV 2)))))
def sem_is_within : List D → Rs := runB 3 3 b_is_within
def lp_common_1 : SF := (sPar 0 1 [(eV 1), (eOp modF (eV 0) (eV 1))])
def b_common : SF := (sSeq (sWh 1000000 (eOp neF (eV 1) (eC (.int 0))) lp_common_1) (sRet (eCB absF [(eV 0)])))
def sem_common : List D → Rs := runB 2 2 b_common
def b_least : SF := (sSeq (sSet 2 (eCall sem_common [(eV 0), (eV 1)])) (sSeq (sIf (eOp ltF (eV 1) (eC (.int 0))) (sSet 2 (eUn negF (eV 2))) sNx) (sRet (eTup [(eOp divF (eV 0) (eV 2)), (eOp divF (eV 1) (eV 2))]))))
def sem_least : List D → Rs := runB 2 3 b_least
def b__law_cell : SF := (sSeq (sIf (eOp ltF (eV 1) (eCB lenF [(eV 0)])) (sRet (eOp ixF (eV 0) (eV 1))) sNx) (sRet (eC (.int 0))))
def sem__law_cell : List D → Rs := runB 2 2 b__law_cell
def lp__law_row_1 : SF := (sIf (eOp ltF (eCall sem__law_cell [(eV 0), (eV 1)]) (eOp powF (eC (.int 10)) (eC (.int 18)))) (sSeq (sSet 2 (eOp modF (eOp addF (eOp addF (eOp addF (eOp mulF (eV 2) (eC (.int 48271))) (eOp mulF (eC (.int 131)) (eV 4))) (eC (.int 7))) (eCall sem__law_cell [(eV 0), (eOp modF (eOp addF (eOp addF (eV 1) (eC (.int 1))) (eV 4)) (eC (.int 20)))])) (eC (.int 2147483647)))) (sApp 3 (eOp modF (eOp divF (eV 2) (eC (.int 11))) (eC (.int 1000))))) (sSeq (sApp 3 (eOp modF (eV 2) (eC (.int 1000)))) (sSet 2 (eOp divF (eV 2) (eC (.int 1000))))))
def b__law_row : SF := (sSeq (sSet 2 (eCall sem__law_cell [(eV 0), (eV 1)])) (sSeq (sOwn 3 (eLst [])) (sSeq (sFor (iRange1 [(eC (.int 60))]) (.nm 4) lp__law_row_1) (sRetV 3))))
def sem__law_row : List D → Rs := runB 2 5 b__law_row
end VVlaw
namespace VVlaw
open PySem PySem.Spec L2 VV
open PyProof.Rows hiding St
structure Sh (s : List (List Int)) (h w : Nat) : Prop where
  len : s.length = h
  h1 : 1 ≤ h
  h2 : h ≤ 12
  w1 : 1 ≤ w
  w2 : w ≤ 12
  row : ∀ r ∈ s, r.length = w
  lev : ∀ r ∈ s, ∀ v ∈ r, 0 ≤ v ∧ v ≤ 255
def rw' (s : List (List Int)) (y : Int) : List Int := s.getD y.toNat []
def cell (s : List (List Int)) (y x : Int) : Int := (rw' s y).getD x.toNat 0
theorem Sh.mem {s : List (List Int)} {h w : Nat} (S : Sh s h w) {y : Int} (h0 : 0 ≤ y) (h1 : y < h) : rw' s y ∈ s := by
  unfold rw'
  have : y.toNat < s.length := by rw [S.len]; omega
  rw [List.getD_eq_getElem?_getD, List.getElem?_eq_getElem this]
  exact List.getElem_mem this
theorem is_within_eq (v a b : Int) : sem_is_within [.int v, .int a, .int b] = .ok (.bool (decide (a ≤ v ∧ v ≤ b))) := by
  simp -implicitDefEqProofs only [sem_is_within, b_is_within, evs_, Option.bind_some, List.getElem?_cons_zero, List.getElem?_cons_succ, List.set_cons_zero, List.set_cons_succ, List.map_cons, List.map_nil, List.cons_append, List.nil_append, List.length_cons, List.length_nil, Nat.reduceAdd, Nat.reduceSub, Nat.reduceLeDiff, Nat.reduceLT, Bool.not_true, Bool.not_false, decide_true, decide_false]
  by_cases h : a ≤ v <;> simp -implicitDefEqProofs only [evs_, Option.bind_some, List.getElem?_cons_zero, List.getElem?_cons_succ, List.set_cons_zero, List.set_cons_succ, List.map_cons, List.map_nil, List.cons_append, List.nil_append, List.length_cons, List.length_nil, Nat.reduceAdd, Nat.reduceSub, Nat.reduceLeDiff, Nat.reduceLT, Bool.not_true, Bool.not_false, decide_true, decide_false, h, true_and, false_and]
end VVlaw
namespace VVlaw
open PySem PySem.Spec L2 VV
open PyProof.Rows hiding St
end VVlaw
namespace VVlaw
open PySem PySem.Spec L2 VV
open PyProof.Rows hiding St
theorem gcd_step (a b : Int) : Int.gcd a b = Int.gcd b (a % b) := by
  have key : ∀ u v k : Int, ((Int.gcd u v : Nat) : Int) ∣ u - v * k := fun u v k => Int.dvd_sub (Int.gcd_dvd_left ..) (Int.dvd_trans (Int.gcd_dvd_right ..) (Int.dvd_mul_right ..))
  apply Nat.dvd_antisymm
  · refine Int.natCast_dvd_natCast.mp (Int.dvd_coe_gcd (Int.gcd_dvd_right ..) ?_)
    rw [Int.emod_def]
    exact key a b _
  · refine Int.natCast_dvd_natCast.mp (Int.dvd_coe_gcd ?_ (Int.gcd_dvd_left ..))
    have e : a = a % b + b * (a / b) := (Int.emod_add_mul_ediv a b).symm
    have h : ((Int.gcd b (a % b) : Nat) : Int) ∣ a % b + b * (a / b) := Int.dvd_add (Int.gcd_dvd_right ..) (Int.dvd_trans (Int.gcd_dvd_left ..) (Int.dvd_mul_right ..))
    rw [← e] at h
    exact h
theorem common_go : ∀ (n : Nat) (a b : Int), 0 ≤ b → b < n → ∃ g : Int, whGo (eOp neF (eV 1) (eC (.int 0))) lp_common_1 n [some (.val (.int a)), some (.val (.int b))] = .nx [some (.val (.int g)), some (.val (.int 0))] ∧ g.natAbs = Int.gcd a b
  | 0, a, b, h0, h => by omega
  | n + 1, a, b, h0, h => by
    by_cases hb : b = 0
    · subst hb
      refine ⟨a, whGo_f (by simp -implicitDefEqProofs only [evs_, Option.bind_some, List.getElem?_cons_zero, List.getElem?_cons_succ, List.set_cons_zero, List.set_cons_succ, List.map_cons, List.map_nil, List.cons_append, List.nil_append, List.length_cons, List.length_nil, Nat.reduceAdd, Nat.reduceSub, Nat.reduceLeDiff, Nat.reduceLT, Bool.not_true, Bool.not_false, decide_true, decide_false]), by simp⟩
    · obtain ⟨g, e, eg⟩ := common_go n b (a % b) (Int.emod_nonneg _ hb) (by have := Int.emod_lt_of_pos a (show 0 < b by omega); omega)
      refine ⟨g, ?_, ?_⟩
      · rw [whGo_t (ρ2 := [some (.val (.int b)), some (.val (.int (a % b)))]) (by simp -implicitDefEqProofs only [hb, evs_, Option.bind_some, List.getElem?_cons_zero, List.getElem?_cons_succ, List.set_cons_zero, List.set_cons_succ, List.map_cons, List.map_nil, List.cons_append, List.nil_append, List.length_cons, List.length_nil, Nat.reduceAdd, Nat.reduceSub, Nat.reduceLeDiff, Nat.reduceLT, Bool.not_true, Bool.not_false, decide_true, decide_false]) (by simp -implicitDefEqProofs only [lp_common_1, f_modP a b (by omega), evs_, Option.bind_some, List.getElem?_cons_zero, List.getElem?_cons_succ, List.set_cons_zero, List.set_cons_succ, List.map_cons, List.map_nil, List.cons_append, List.nil_append, List.length_cons, List.length_nil, Nat.reduceAdd, Nat.reduceSub, Nat.reduceLeDiff, Nat.reduceLT, Bool.not_true, Bool.not_false, decide_true, decide_false]), e]
      · rw [eg, ← gcd_step]
theorem common_eq (a b : Int) (h0 : 0 ≤ b) (h : b < 1000000) : sem_common [.int a, .int b] = .ok (.int (Int.gcd a b)) := by
  obtain ⟨g, e, eg⟩ := common_go 1000000 a b h0 h
  simp -implicitDefEqProofs only [sem_common, b_common, e, evs_, Option.bind_some, List.getElem?_cons_zero, List.getElem?_cons_succ, List.set_cons_zero, List.set_cons_succ, List.map_cons, List.map_nil, List.cons_append, List.nil_append, List.length_cons, List.length_nil, Nat.reduceAdd, Nat.reduceSub, Nat.reduceLeDiff, Nat.reduceLT, Bool.not_true, Bool.not_false, decide_true, decide_false]
  congr 2
  rw [← eg]
  split <;> omega
theorem least_eq (a b : Int) (h0 : 0 < b) (h : b < 1000000) : sem_least [.int a, .int b] = .ok (.tuple [.int (a / (Int.gcd a b : Int)), .int (b / (Int.gcd a b : Int))]) := by
  have hg : 0 < Int.gcd a b := Int.gcd_pos_of_ne_zero_right a (by omega)
  have hle : ((Int.gcd a b : Nat) : Int) ≤ b := Int.le_of_dvd h0 (Int.gcd_dvd_right ..)
  have hn : ¬ b < 0 := by omega
  simp -implicitDefEqProofs only [sem_least, b_least, common_eq a b (by omega) h, hn, evs_, Option.bind_some, List.getElem?_cons_zero, List.getElem?_cons_succ, List.set_cons_zero, List.set_cons_succ, List.map_cons, List.map_nil, List.cons_append, List.nil_append, List.length_cons, List.length_nil, Nat.reduceAdd, Nat.reduceSub, Nat.reduceLeDiff, Nat.reduceLT, Bool.not_true, Bool.not_false, decide_true, decide_false]
  rw [f_divP a _ (by omega) (by omega), f_divP b _ (by omega) (by omega)]
  simp -implicitDefEqProofs only [evs_, Option.bind_some, List.getElem?_cons_zero, List.getElem?_cons_succ, List.set_cons_zero, List.set_cons_succ, List.map_cons, List.map_nil, List.cons_append, List.nil_append, List.length_cons, List.length_nil, Nat.reduceAdd, Nat.reduceSub, Nat.reduceLeDiff, Nat.reduceLT, Bool.not_true, Bool.not_false, decide_true, decide_false]
end VVlaw
namespace VVlaw
open PySem PySem.Spec L2 VV
open PyProof.Rows hiding St
theorem law_cell_eq (ns : List Int) (k : Int) (h0 : 0 ≤ k) : sem__law_cell [rdL ns, .int k] = .ok (.int (ns.getD k.toNat 0)) := by
  by_cases h : k < (ns.length : Int)
  · simp -implicitDefEqProofs only [sem__law_cell, b__law_cell, h, f_ix_rd ns k h0 h, evs_, Option.bind_some, List.getElem?_cons_zero, List.getElem?_cons_succ, List.set_cons_zero, List.set_cons_succ, List.map_cons, List.map_nil, List.cons_append, List.nil_append, List.length_cons, List.length_nil, Nat.reduceAdd, Nat.reduceSub, Nat.reduceLeDiff, Nat.reduceLT, Bool.not_true, Bool.not_false, decide_true, decide_false]
  · have e : ns.getD k.toNat 0 = 0 := by
      rw [List.getD_eq_getElem?_getD, List.getElem?_eq_none (by omega)]
      rfl
    simp -implicitDefEqProofs only [sem__law_cell, b__law_cell, h, e, evs_, Option.bind_some, List.getElem?_cons_zero, List.getElem?_cons_succ, List.set_cons_zero, List.set_cons_succ, List.map_cons, List.map_nil, List.cons_append, List.nil_append, List.length_cons, List.length_nil, Nat.reduceAdd, Nat.reduceSub, Nat.reduceLeDiff, Nat.reduceLT, Bool.not_true, Bool.not_false, decide_true, decide_false]
theorem pow18 : powF (.int 10) (.int 18) = some (.int 1000000000000000000) := by
  simp [powF]
structure Rw (r : List Int) : Prop where
  len : r.length = 60
  bd : ∀ v ∈ r, 0 ≤ v ∧ v < 1000
theorem law_row_eq (ns : List Int) (t : Int) (h0 : 0 ≤ t) : ∃ r, sem__law_row [rdL ns, .int t] = .ok (.list (r.map PyData.int)) ∧ Rw r := by
  simp -implicitDefEqProofs only [sem__law_row, b__law_row, law_cell_eq ns t h0, rng1_ok 60 (by decide) (by decide), evs_, Option.bind_some, List.getElem?_cons_zero, List.getElem?_cons_succ, List.set_cons_zero, List.set_cons_succ, List.map_cons, List.map_nil, List.cons_append, List.nil_append, List.length_cons, List.length_nil, Nat.reduceAdd, Nat.reduceSub, Nat.reduceLeDiff, Nat.reduceLT, Bool.not_true, Bool.not_false, decide_true, decide_false]
  obtain ⟨ρ', e, P⟩ := forGo_rng (i := 4) (lo := 0) (n := (60 : Int).toNat) (f := lp__law_row_1)
    (fun k ρ => ∃ (c : Int) (L : List Int) (o : Option Sl), ρ = [some (.val (rdL ns)), some (.val (.int t)), some (.val (.int c)), some (.own (.list (L.map PyData.int))), o] ∧ L.length = k ∧ ∀ v ∈ L, 0 ≤ v ∧ v < 1000)
    (ρ := [some (.val (rdL ns)), some (.val (.int t)), some (.val (.int (ns.getD t.toNat 0))), some (.own (.list [])), none]) ⟨_, [], none, rfl, rfl, by simp⟩ (by
      rintro k ρ hk ⟨c, L, o, rfl, hL, hv⟩
      have hk' : k < 60 := hk
      have hlen : (L.map PyData.int).length < 16777216 := by rw [List.length_map]; omega
      have m1 : mulF (.int c) (.int 48271) = some (.int (c * 48271)) := f_mul _ _ (.inr (by decide))
      have m2 : mulF (.int 131) (.int (0 + (k : Int))) = some (.int (131 * (0 + (k : Int)))) := f_mul _ _ (.inl (by decide))
      have hc : sem__law_cell [rdL ns, .int ((t + 1 + (0 + (k : Int))) % 20)] = .ok (.int (ns.getD ((t + 1 + (0 + (k : Int))) % 20).toNat 0)) := law_cell_eq ns _ (by omega)
      by_cases h : ns.getD t.toNat 0 < 1000000000000000000
      · simp -implicitDefEqProofs only [lp__law_row_1, law_cell_eq ns t h0, pow18, h, m1, m2, f_modP _ 20 (by decide), hc, f_modP _ 2147483647 (by decide), f_divP _ 11 (by decide) (by decide), f_modP _ 1000 (by decide), appO_ok _ _ _ _ hlen, evs_, Option.bind_some, List.getElem?_cons_zero, List.getElem?_cons_succ, List.set_cons_zero, List.set_cons_succ, List.map_cons, List.map_nil, List.cons_append, List.nil_append, List.length_cons, List.length_nil, Nat.reduceAdd, Nat.reduceSub, Nat.reduceLeDiff, Nat.reduceLT, Bool.not_true, Bool.not_false, decide_true, decide_false]
        refine ⟨_, rfl, (c * 48271 + 131 * (0 + (k : Int)) + 7 + ns.getD ((t + 1 + (0 + (k : Int))) % 20).toNat 0) % 2147483647, L ++ [(c * 48271 + 131 * (0 + (k : Int)) + 7 + ns.getD ((t + 1 + (0 + (k : Int))) % 20).toNat 0) % 2147483647 / 11 % 1000], some (.val (.int (0 + (k : Int)))), ?_, by simp [hL], ?_⟩
        · rw [List.map_append]; rfl
        · intro v hv'
          rw [List.mem_append] at hv'
          rcases hv' with hv' | hv'
          · exact hv v hv'
          · simp -implicitDefEqProofs only [List.mem_singleton] at hv'
            subst hv'
            omega
      · simp -implicitDefEqProofs only [lp__law_row_1, law_cell_eq ns t h0, pow18, h, f_divP _ 1000 (by decide) (by decide), f_modP _ 1000 (by decide), appO_ok _ _ _ _ hlen, evs_, Option.bind_some, List.getElem?_cons_zero, List.getElem?_cons_succ, List.set_cons_zero, List.set_cons_succ, List.map_cons, List.map_nil, List.cons_append, List.nil_append, List.length_cons, List.length_nil, Nat.reduceAdd, Nat.reduceSub, Nat.reduceLeDiff, Nat.reduceLT, Bool.not_true, Bool.not_false, decide_true, decide_false]
        refine ⟨_, rfl, c / 1000, L ++ [c % 1000], some (.val (.int (0 + (k : Int)))), ?_, by simp [hL], ?_⟩
        · rw [List.map_append]; rfl
        · intro v hv'
          rw [List.mem_append] at hv'
          rcases hv' with hv' | hv'
          · exact hv v hv'
          · simp -implicitDefEqProofs only [List.mem_singleton] at hv'
            subst hv'
            omega)
  obtain ⟨c, L, o, rfl, hL, hv⟩ := P
  rw [e]
  simp -implicitDefEqProofs only [evs_, Option.bind_some, List.getElem?_cons_zero, List.getElem?_cons_succ, List.set_cons_zero, List.set_cons_succ, List.map_cons, List.map_nil, List.cons_append, List.nil_append, List.length_cons, List.length_nil, Nat.reduceAdd, Nat.reduceSub, Nat.reduceLeDiff, Nat.reduceLT, Bool.not_true, Bool.not_false, decide_true, decide_false]
  exact ⟨L, rfl, hL, hv⟩
theorem Rw.at {r : List Int} (R : Rw r) (k : Int) (h0 : 0 ≤ k) (h : k < 60) : ixF (.list (r.map PyData.int)) (.int k) = some (.int (r.getD k.toNat 0)) := f_ix_row r k h0 (by rw [R.len]; exact h)
theorem Rw.bdAt {r : List Int} (R : Rw r) (k : Nat) : 0 ≤ r.getD k 0 ∧ r.getD k 0 < 1000 := by
  rw [List.getD_eq_getElem?_getD]
  by_cases h : k < r.length
  · rw [List.getElem?_eq_getElem h]
    exact R.bd _ (List.getElem_mem h)
  · rw [List.getElem?_eq_none (by omega)]
    exact ⟨by decide, by decide⟩
end VVlaw
namespace VV
open PySem PySem.Spec L2
open PyProof.Rows hiding St
section
variable {X : Cx} {a : Addr} {i : Nat} {e b c : Expr} {rest : List Expr} {f g h : EF} {pos : Pos}
end
section
variable {X : Cx} {a : Addr} {i j : Nat} {e : Expr} {f : SF} {ef : EF} {pos : Pos} {sts : List Stmt}
end
def Out.clr (i : Nat) : Out → Out
  | .nx ρ => .nx (ρ.set i none)
  | .rt d => .rt d
  | .rm d ρ => .rm d (ρ.set i none)
  | .bk ρ => .bk (ρ.set i none)
  | .ct ρ => .ct (ρ.set i none)
  | _ => .bad
theorem RE.clr {K : PySem.W.Frag} {H : Hp} {L : Ad} {ρ : En} {σ : St} (i : Nat) (o : Option V) (re : RE K H L ρ σ) : RE K H L (ρ.set i none) (σ.set i o) := by
  have hl := re.len
  refine ⟨re.lv, by simp [hl], fun j x e => ?_⟩
  by_cases hj : i = j
  · subst hj
    by_cases hi : i < ρ.length
    · rw [List.getElem?_set_self hi] at e; cases e
    · rw [List.getElem?_eq_none (by simpa using hi)] at e; cases e
  · rw [List.getElem?_set_ne hj] at e
    obtain ⟨w, e1, r⟩ := re.sl j x e
    exact ⟨w, by rw [List.getElem?_set_ne hj]; exact e1, r⟩
theorem RSt.clr {K : PySem.W.Frag} {H0 H : Hp} {Lo : Ad} {ρ : En} {α : Nat → Option Addr} {σ : St} (i : Nat) (o : Option V) (h : RSt K H0 Lo ρ α σ H) : RSt K H0 Lo (ρ.set i none) (VV.rms α [i]) (σ.set i o) H := by
  refine h.ch (h.re.clr i o) ⟨by simp, by simp, fun j hj => ?_, fun j hj => ?_, fun j hj d' z => ?_, fun j hj d' z => ?_, fun j hj d' z => ?_⟩
  · exact List.getElem?_set_ne (fun e => hj (by simp [e]))
  · exact List.getElem?_set_ne (fun e => hj (by simp [e]))
  all_goals
    have e : j = i := by simpa using hj
    subst e
    by_cases hi : j < ρ.length
    · rw [List.getElem?_set_self hi] at z
      cases z
    · rw [List.getElem?_eq_none (by simpa using hi)] at z
      cases z
section
variable {X : Cx} {W : WX} {x n : Str} {i : Nat} {body suite : List Stmt} {b₀ : Stmt} {np pos pos' : Pos} {fb : SF} {fh : Str → SF} {sub : Str → Option Bool}
end
end VV
namespace VV
open PySem PySem.Spec L2
open PyProof.Rows hiding St
abbrev AlV : Type := He.AlD × Bool
def Out.suf : Out → Out
  | .exc _ _ _ => .bad
  | o => o
section
variable {X : Cx} {W : WX} {x : Str} {body suite : List Stmt} {b₀ : Stmt} {np pos pos' : Pos} {fb fh : SF} {sub : Str → Option Bool}
end
end VV
namespace VVlaw
open PySem PySem.Spec L2 VV
open PyProof.Rows hiding St
end VVlaw
namespace VV
open PySem PySem.Spec L2
open PyProof.Rows hiding St
section
variable {X : Cx} {W : WX}
end
end VV
namespace VV
open PySem PySem.Spec L2
open PyProof.Rows hiding St
def dgetP (ps : List (D × D)) (k : D) : Option D := (ps.find? fun q => PyData.eqv q.1 k).map (·.2)
def dputP (ps : List (D × D)) (k v : D) : List (D × D) := if (ps.any fun q => PyData.eqv q.1 k) = true then ps.map (fun q => if PyData.eqv q.1 k = true then (q.1, v) else q) else ps ++ [(k, v)]
def isKeyD : D → Bool
  | .int _ => true
  | .str _ => true
  | _ => false
def isKeyT : D → Bool
  | .tuple ds => ds.all isKeyD
  | _ => false
theorem keyD_eqv (a b : Key) : PyData.eqv (keyD a) (keyD b) = decide (a = b) := by
  rcases a with i | x <;> rcases b with j | y
  · simp only [keyD, PyData.eqv]
    by_cases h : i = j <;> simp [h]
  · rfl
  · rfl
  · simp only [keyD, PyData.eqv]
    by_cases h : x = y
    · simp [h]
    · simp [h]
theorem keyT_eqv : ∀ (a b : List Key), PyData.eqvAll (a.map keyD) (b.map keyD) = decide (a = b)
  | [], [] => rfl
  | [], b :: bs => by simp [PyData.eqvAll]
  | a :: as, [] => by simp [PyData.eqvAll]
  | a :: as, b :: bs => by
    simp only [List.map_cons, PyData.eqvAll, keyD_eqv, keyT_eqv as bs]
    by_cases h : a = b <;> by_cases g : as = bs <;> simp [h, g]
section
variable {κ : Type} [DecidableEq κ] {emb : κ → D} {K : PySem.W.Frag} {H : Hp} {L : Ad}
theorem dget_rel (hemb : ∀ a b, PyData.eqv (emb a) (emb b) = decide (a = b)) (k : κ) : ∀ {kvs : List (κ × V)} {ps : List (D × D)}, ps.map (·.1) = kvs.map (fun q => emb q.1) → RpL K H L (ps.map (·.2)) (kvs.map (·.2)) →
    (∀ d, dgetP ps (emb k) = some d → ∃ v, valV kvs k = some v ∧ Rp K H L d v) ∧ (dgetP ps (emb k) = none → valV kvs k = none)
  | [], [], _, _ => ⟨fun d h => (by cases h), fun _ => rfl⟩
  | [], _ :: _, h, _ => nomatch h
  | _ :: _, [], h, _ => nomatch h
  | q :: kvs, p :: ps, h, r => by
    simp only [List.cons.injEq, List.map_cons] at h
    rw [List.map_cons, List.map_cons] at r
    cases r with
    | cons r rl =>
      have ih := dget_rel hemb k h.2 rl
      by_cases e : q.1 = k
      · have e1 : PyData.eqv p.1 (emb k) = true := by rw [h.1, hemb, e]; simp
        have e2 : dgetP (p :: ps) (emb k) = some p.2 := by simp [dgetP, List.find?_cons, e1]
        rw [e2]
        refine ⟨fun d hd => ?_, fun hn => by cases hn⟩
        cases hd
        exact ⟨q.2, valV_pos e, r⟩
      · have e1 : PyData.eqv p.1 (emb k) = false := by rw [h.1, hemb]; simp [e]
        have e2 : dgetP (p :: ps) (emb k) = dgetP ps (emb k) := by simp [dgetP, List.find?_cons, e1]
        rw [e2, valV_neg e]
        exact ih
theorem dany_rel (hemb : ∀ a b, PyData.eqv (emb a) (emb b) = decide (a = b)) (k : κ) : ∀ {kvs : List (κ × V)} {ps : List (D × D)}, ps.map (·.1) = kvs.map (fun q => emb q.1) → (ps.any fun q => PyData.eqv q.1 (emb k)) = kvs.any fun q => decide (q.1 = k)
  | [], [], _ => rfl
  | [], _ :: _, h => nomatch h
  | _ :: _, [], h => nomatch h
  | q :: kvs, p :: ps, h => by
    simp only [List.cons.injEq, List.map_cons] at h
    rw [List.any_cons, List.any_cons, h.1, hemb, dany_rel hemb k h.2]
theorem dput_rel (hemb : ∀ a b, PyData.eqv (emb a) (emb b) = decide (a = b)) (k : κ) {d : D} {v : V} (rv : Rp K H L d v) {kvs : List (κ × V)} {ps : List (D × D)} (h : ps.map (·.1) = kvs.map (fun q => emb q.1)) (r : RpL K H L (ps.map (·.2)) (kvs.map (·.2))) :
    (dputP ps (emb k) d).map (·.1) = (putK kvs k v).map (fun q => emb q.1) ∧ RpL K H L ((dputP ps (emb k) d).map (·.2)) ((putK kvs k v).map (·.2)) := by
  unfold dputP putK
  rw [dany_rel hemb k h]
  by_cases c : (kvs.any fun kv => decide (kv.1 = k)) = true
  · rw [if_pos c, if_pos c]
    clear c
    induction kvs generalizing ps with
    | nil =>
      cases ps with
      | nil => exact ⟨rfl, .nil⟩
      | cons p ps => simp at h
    | cons q kvs ih =>
      cases ps with
      | nil => simp at h
      | cons p ps =>
        simp only [List.cons.injEq, List.map_cons] at h
        rw [List.map_cons, List.map_cons] at r
        cases r with
        | cons r rl =>
          obtain ⟨i1, i2⟩ := ih h.2 rl
          simp only [List.map_cons]
          by_cases e : q.1 = k
          · have e1 : PyData.eqv p.1 (emb k) = true := by rw [h.1, hemb, e]; simp
            rw [if_pos e1, if_pos e]
            exact ⟨by rw [i1]; simp [h.1], .cons rv i2⟩
          · have e1 : ¬ PyData.eqv p.1 (emb k) = true := by rw [h.1, hemb]; simp [e]
            rw [if_neg e1, if_neg e]
            exact ⟨by rw [i1]; simp [h.1], .cons r i2⟩
  · rw [if_neg c, if_neg c]
    refine ⟨by simp [h], ?_⟩
    simp only [List.map_append, List.map_cons, List.map_nil]
    exact RpL.append r (.cons rv .nil)
end
section
variable {K : PySem.W.Frag} {H : Hp} {L : Ad}
theorem Rb.keyV {k : D} {v : V} (h : Rb K H L k v) (hk : isKeyD k = true) : ∃ key, k = keyD key ∧ v = kV key := by
  cases k with
  | int i => exact ⟨.inl i, rfl, h.intV⟩
  | str x => exact ⟨.inr x, rfl, h.strV⟩
  | _ => cases hk
theorem RpL.keysV : ∀ {ds : List D} {vs : List V}, RpL K H L ds vs → ds.all isKeyD = true → ∃ ks : List Key, ds = ks.map keyD ∧ vs = ks.map kV
  | [], _, .nil, _ => ⟨[], rfl, rfl⟩
  | d :: ds, v :: vs, .cons r rl, h => by
    simp only [List.all_cons, Bool.and_eq_true] at h
    obtain ⟨k, e1, e2⟩ := r.rb.keyV h.1
    obtain ⟨ks, e3, e4⟩ := rl.keysV h.2
    exact ⟨k :: ks, by rw [e1, e3]; rfl, by rw [e2, e4]; rfl⟩
theorem Rb.keyTV {k : D} {v : V} (h : Rb K H L k v) (hk : isKeyT k = true) : ∃ (ks : List Key) (b : Addr), k = .tuple (ks.map keyD) ∧ v = .ref b ∧ H b = some (.tup (ks.map kV)) := by
  cases k with
  | tuple ds =>
    obtain ⟨b, vs, rfl, hb, rl⟩ := h.tupV
    obtain ⟨ks, e1, e2⟩ := rl.keysV hk
    subst e1 e2
    exact ⟨ks, b, rfl, rfl, hb⟩
  | _ => cases hk
def splitD : List (D × D) → Bool × List (D × D)
  | (.none, .none) :: ps => (true, ps)
  | ps => (false, ps)
theorem splitD_dk {ps : List (D × D)} {kvs : List (Key × V)} (z : ps.map (·.1) = kvs.map (fun q => keyD q.1)) : splitD ps = (false, ps) := by
  unfold splitD
  split
  · cases kvs with
    | nil => simp at z
    | cons q r =>
      simp only [List.map_cons, List.cons.injEq] at z
      obtain ⟨z, _⟩ := z
      obtain ⟨qk, qv⟩ := q
      cases qk <;> cases z
  · rfl
def dAt : D → D → Option (Option D)
  | .dict ps, k => if (asRd (.dict ps)).isSome then none else
    match splitD ps with
    | (true, qs) => if isKeyT k = true then some (dgetP qs k) else none
    | (false, qs) => if isKeyD k = true then some (dgetP qs k) else none
  | _, _ => none
theorem dAt_ok {d k : D} {v y : V} {r : Option D} (hd : Rb K H L d v) (hk : Rb K H L k y) (h : dAt d k = some r) : ∃ a o, v = .ref a ∧ IsD H a ∧ DGet H a y o ∧ (∀ x, r = some x → ∃ u, o = some u ∧ Rp K H L x u) ∧ (r = none → o = none) := by
  cases d with
  | dict ps =>
    unfold dAt at h
    dsimp only at h
    cases hr : asRd (.dict ps) with
    | some z => rw [hr] at h; cases h
    | none =>
      rw [hr] at h
      obtain ⟨a, rfl, ow⟩ := hd.dictV hr
      simp only [Option.isSome_none] at h
      cases ow with
      | dk ha z rl =>
        rw [splitD_dk z] at h
        simp only [if_false, Bool.false_eq_true] at h
        split at h
        · rename_i hkk
          obtain ⟨key, rfl, rfl⟩ := hk.keyV hkk
          cases h
          obtain ⟨g1, g2⟩ := dget_rel keyD_eqv key z rl
          exact ⟨a, _, rfl, .inl ⟨_, .inl ha⟩, DGet.k ha, fun x hx => g1 x hx, fun hx => g2 hx⟩
        · cases h
      | dt ha z rl =>
        simp only [splitD, Bool.false_eq_true, if_false] at h
        split at h
        · rename_i hkk
          obtain ⟨ks, b, rfl, rfl, hb⟩ := hk.keyTV hkk
          cases h
          obtain ⟨g1, g2⟩ := dget_rel (emb := fun k : List Key => PyData.tuple (k.map keyD)) (fun a b => by simp only [PyData.eqv]; exact keyT_eqv a b) ks z rl
          exact ⟨a, _, rfl, .inr ⟨_, .inl ha⟩, DGet.t ha hb, fun x hx => g1 x hx, fun hx => g2 hx⟩
        · cases h
      | ob _ _ _ => simp [asRd] at hr
  | _ => cases h
end
def dinF : D → D → Option D := fun k d => (dAt d k).map fun r => .bool r.isSome
section
variable {X : Cx} {W : WX} {o i e f' : Expr} {f g h : EF} {pos apos cpos : Pos} {k : Nat}
end
section
variable {X : Cx} {W : WX} {a e : Expr} {ef eg : EF} {pos : Pos} {k : Nat}
end
end VV
namespace VV
open PySem PySem.Spec L2
open PyProof.Rows hiding St
section
variable {X : Cx}
theorem sort_new {β : Type} {enc : β → D} {R : Value → β → Prop} {us : List Value} {bs : List β} {pn : List (Addr × Obj)} {σ : St} {H : Hp} {s : Shared} {g : Heap} {tk : Nat} {l : Addr} {Q : Value → Shared → Prop} (inv : Inv X pn σ H s)
    (keep : ∀ b u, s.heap.get? b = some u → g.get? b = some u) (high : s.heap.objs.size ≤ l) (ob : g.get? l = some (seqObj "list" us.toArray 0)) (items : PySem.W.EachIs R us bs)
    (reads : PySem.W.EachIs (fun v b => ∃ as, Reads g v (enc b) as ∧ l ∉ as) us bs) (al : PySem.W.AllAlike (bs.map enc)) (so : PySem.W.Sortable (bs.map enc)) (len : bs.length ≤ sizeLine) (deep : ∀ b, b ∈ bs → X.A.in1.units + 1 + (enc b).depth < cLine)
    (go : ∀ (out : List Value) (g' : Heap), PySem.W.EachIs R out (bs.mergeSort (PySem.W.dataLe false enc)) → (∀ b u, b ≠ l → g.get? b = some u → g'.get? b = some u) →
      (∀ vs, Vals vs out → Inv X pn σ (upd H l (.lst vs)) { s with heap := g', toks := tk }) → Q .none { s with heap := g', toks := tk }) :
    wpAny (model X.prog X.w) X.A.in1 (call (.builtin "list.sort") [.ref l]) Q X.xe { s with heap := g, toks := tk } := by
  apply PySem.W.list_sort_data (s := { s with heap := g, toks := tk }) (R := R) (enc := enc) ob items reads al so len deep
  intro out many sorted
  have free : H l = none := inv.hok.fresh high
  have rest : ∀ b u, b ≠ l → g.get? b = some u → (sortedHeap g l us out.toArray).get? b = some u := fun b u ne e => (PyProof.Rows.sortedHeap_old ne (Heap.lt_size e)).trans e
  obtain ⟨n, at_⟩ := PyProof.Rows.sortedHeap_at (vs := us) (out := out.toArray) ob
  apply go out _ sorted rest
  intro vs rel
  generalize sortedHeap g l us out.toArray = g' at rest at_ ⊢
  have old : ∀ b u, s.heap.get? b = some u → g'.get? b = some u := fun b u e => rest b u (fun z => absurd (Heap.lt_size (z ▸ e)) (Nat.not_lt.mpr high)) (keep b u e)
  have fits : vs.length ≤ sizeLine := by rw [rel.length, many]; exact len
  exact (inv.kept (t' := tk) old).take (o := .lst vs) (fun _ _ _ e => e) (inv.fpOk high free) ⟨fits, out, n, rel, at_⟩
theorem pairs_len {P : Program} {w : World} : ∀ {es : List DictEntry} {vs : List (Key × Value)}, Pairs (mixKind P w) es vs → es.length = vs.length
  | _, _, .nil => rfl
  | _, _, .cons _ _ r => congrArg (· + 1) (pairs_len r)
end
end VV
namespace VV
open PySem PySem.Spec L2
open PyProof.Rows hiding St
section
variable {X : Cx} {W : WX} {o : Expr} {f : EF} {p apos cpos pos : Pos} {k : Nat}
end
end VV
namespace VV
open PySem PySem.Spec L2
open PyProof.Rows hiding St
def isTupC : D → Bool
  | .tuple (_ :: _) => true
  | _ => false
def notNT : D → Bool
  | .none => false
  | .tuple _ => false
  | _ => true
def okSort (ds : List D) : Bool := ds.all (fun d => ds.all fun e => PySem.W.alike d e) && (ds.all isTupC || ds.all notNT) && ds.all (fun d => d.canLay0 && decide (d.depth ≤ 50))
def sortD (ds : List D) : List D := ds.mergeSort (PySem.W.dataLe false fun d : D => d)
structure OkSort (ds : List D) : Prop where
  al : PySem.W.AllAlike ds
  so : PySem.W.Sortable ds
  lay : ∀ d ∈ ds, d.canLay0 = true
  deep : ∀ d ∈ ds, d.depth ≤ 50
theorem okSort_ok {ds : List D} (h : okSort ds = true) : OkSort ds := by
  unfold okSort at h
  rw [Bool.and_eq_true, Bool.and_eq_true] at h
  obtain ⟨⟨h1, h2⟩, h3⟩ := h
  refine ⟨fun d m e m' => ?_, ?_, fun d m => ?_, fun d m => ?_⟩
  · exact List.all_eq_true.mp (List.all_eq_true.mp h1 d m) e m'
  · rcases Bool.or_eq_true _ _ |>.mp h2 with z | z
    · refine .inl fun d m => ?_
      have := List.all_eq_true.mp z d m
      unfold isTupC at this
      split at this
      · exact ⟨_, _, rfl⟩
      · cases this
    · refine .inr fun d m => ?_
      have := List.all_eq_true.mp z d m
      cases d <;> simp_all [notNT]
  · have := List.all_eq_true.mp h3 d m
    rw [Bool.and_eq_true] at this
    exact this.1
  · have := List.all_eq_true.mp h3 d m
    rw [Bool.and_eq_true] at this
    exact of_decide_eq_true this.2
section
variable {X : Cx} {K : PySem.W.Frag} {H : Hp} {L : Ad}
abbrev VD := V × D
def RVD (K : PySem.W.Frag) (H : Hp) (L : Ad) (u : Value) (b : VD) : Prop := RelV b.1 u ∧ Rp K H L b.2 b.1
theorem each_vd : ∀ {ds : List D} {vs : List V} {us : List Value}, RpL K H L ds vs → Vals vs us → PySem.W.EachIs (RVD K H L) us (vs.zip ds)
  | _, _, _, .nil, .nil => .nil
  | _, _, _, .cons r rl, .cons v vl => .cons ⟨v, r⟩ (each_vd rl vl)
theorem zip_snd : ∀ {ds : List D} {vs : List V}, RpL K H L ds vs → (vs.zip ds).map (·.2) = ds
  | _, _, .nil => rfl
  | _, _, .cons _ rl => by rw [List.zip_cons_cons, List.map_cons, zip_snd rl]
theorem each_back : ∀ {us : List Value} {bs : List VD}, PySem.W.EachIs (RVD K H L) us bs → Vals (bs.map (·.1)) us ∧ RpL K H L (bs.map (·.2)) (bs.map (·.1))
  | _, _, .nil => ⟨.nil, .nil⟩
  | _, _, .cons r rl => ⟨.cons r.1 (each_back rl).1, .cons r.2 (each_back rl).2⟩
theorem sort_snd (bs : List VD) : (bs.mergeSort (PySem.W.dataLe false (·.2))).map (·.2) = sortD (bs.map (·.2)) := List.map_mergeSort fun _ _ _ _ => rfl
theorem each_mem {β : Type} {R : Value → β → Prop} : ∀ {us : List Value} {bs : List β}, PySem.W.EachIs R us bs → PySem.W.EachIs (fun u b => R u b ∧ b ∈ bs) us bs
  | _, _, .nil => .nil
  | _, _, .cons r rl => .cons ⟨r, List.mem_cons_self⟩ ((each_mem rl).mono fun _ _ h => ⟨h.1, List.mem_cons_of_mem _ h.2⟩)
def sortLF : List D → Option D
  | [.list ds] => if okSort ds = true then some (.list (sortD ds)) else none
  | _ => none
theorem cl_sortedL {k : Nat} (hr : Room k X.A) (hc : X.calm = true) : ClN X (.builtin "sorted") sortLF := by
  rintro pn s σ H xs us Q inv vals ⟨L, ds, d, lv, rb, hf, go⟩
  unfold sortLF at hf
  split at hf
  case h_2 => cases hf
  rename_i es
  split at hf
  case isFalse => cases hf
  rename_i hok
  cases hf
  have O := okSort_ok hok
  obtain ⟨v, rfl, rv⟩ := rb.one
  obtain ⟨a, vs, rfl, ha, rl⟩ := rv.lstV
  obtain rfl := Vals.ref1 vals
  obtain ⟨its, rel, isl, most⟩ := inv.list (SqL.of ha)
  have each := each_vd rl rel
  have snd := zip_snd rl
  have many : (vs.zip es).length = es.length := by rw [← congrArg List.length snd, List.length_map]
  have un := hr.un
  refine PySem.W.sorted_data (R := RVD X.K H L) (enc := fun b : VD => b.2) isl.isList each ((each_mem each).mono ?_) (by rw [snd]; exact O.al) (by rw [snd]; exact O.so) (by rw [many, rl.length]; exact most) ?_ ?_
  · rintro u b ⟨⟨r1, r2⟩, m⟩
    exact Dp.reads inv b.2 b.1 u (r2.dp (O.lay _ (by rw [← snd]; exact List.mem_map_of_mem m))) r1
  · intro b m
    have := O.deep b.2 (by rw [← snd]; exact List.mem_map_of_mem m)
    omega
  intro out lout sorted
  obtain ⟨n, at_⟩ := sortedAll_at s.heap its out.toArray
  obtain ⟨v2, r2⟩ := each_back sorted
  have e2 := sort_snd (vs.zip es)
  rw [snd] at e2
  generalize hbs : (vs.zip es).mergeSort (PySem.W.dataLe false fun b : VD => b.2) = bs at v2 r2 e2 sorted
  rw [e2] at r2
  have keep : ∀ b u, s.heap.get? b = some u → (sortedAll s.heap its out.toArray).get? b = some u := fun _ _ => sortedAll_old
  generalize sortedAll s.heap its out.toArray = g at at_ keep
  have free : H (s.heap.objs.size + 1) = none := inv.hok.fresh (Nat.le_succ _)
  have fits : (bs.map (·.1)).length ≤ sizeLine := by rw [v2.length, lout, many, rl.length]; exact most
  refine ⟨.ref (s.heap.objs.size + 1), upd H (s.heap.objs.size + 1) (.lst (bs.map (·.1))), inv.laid (o := .lst (bs.map (·.1))) (t' := s.toks) keep (Nat.le_succ _) ⟨fits, out, n, v2, at_⟩, rfl, go _ _ (same_upd free) free (.lst upd_same ?_)⟩
  exact (r2.lives (Lp_new free)).mono (same_upd free)
mutual
theorem reads_lt {h : Heap} : ∀ {v : Value} {d : D} {as : List Addr}, Reads h v d as → ∀ x ∈ as, x < h.objs.size
  | _, _, _, .none, _, m => by cases m
  | _, _, _, .bool _, _, m => by cases m
  | _, _, _, .int _ _, _, m => by cases m
  | _, _, _, .str _ _, _, m => by cases m
  | _, _, _, .list e _ _ r, x, m => by
    cases m with
    | head => exact Heap.lt_size e
    | tail _ m => exact readsAll_lt r x m
  | _, _, _, .tuple _ _ _ r, x, m => readsAll_lt r x m
  | _, _, _, .dict e _ _ r q, x, m => by
    rcases List.mem_append.mp m with m | m
    · cases m with
      | head => exact Heap.lt_size e
      | tail _ m => exact readsAll_lt r x m
    · exact readsAll_lt q x m
theorem readsAll_lt {h : Heap} : ∀ {vs : List Value} {ds : List D} {as : List Addr}, ReadsAll h vs ds as → ∀ x ∈ as, x < h.objs.size
  | _, _, _, .nil, _, m => by cases m
  | _, _, _, .cons r q, x, m => by
    rcases List.mem_append.mp m with m | m
    · exact reads_lt r x m
    · exact readsAll_lt q x m
end
theorem keys_each {es : Array DictEntry} {acc : Array Value} {n : Nat} (hn : es.size = n) (it : ItemsOf (fun i v => ∃ en : DictEntry, es[i]? = some en ∧ v = en.key) acc n) {bs : List VD} (len : bs.length = n) (key : ∀ (j : Nat) (en : DictEntry), es[j]? = some en → ∃ b, bs[j]? = some b ∧ RVD K H L en.key b) :
    PySem.W.EachIs (RVD K H L) acc.toList bs := by
  have aux : ∀ (us : List Value) (cs : List VD), us.length = cs.length → (∀ (j : Nat) (u : Value), us[j]? = some u → ∃ b, cs[j]? = some b ∧ RVD K H L u b) → PySem.W.EachIs (RVD K H L) us cs := by
    intro us
    induction us with
    | nil =>
      intro cs hl _
      cases cs with
      | nil => exact .nil
      | cons _ _ => cases hl
    | cons u us ih =>
      intro cs hl h
      cases cs with
      | nil => cases hl
      | cons c cs =>
        obtain ⟨b, e1, r⟩ := h 0 u rfl
        cases e1
        exact .cons r (ih cs (Nat.succ.inj hl) fun j u' hj => h (j + 1) u' hj)
  refine aux _ _ (by rw [Array.length_toList, it.1, len]) fun j u hj => ?_
  obtain ⟨en, h1, rfl⟩ := it.2 j u (by rw [← Array.getElem?_toList]; exact hj)
  exact key j en h1
theorem sorted_dict {pn : List (Addr × Obj)} {σ : St} {H : Hp} {L : Ad} {s : Shared} {a : Addr} {ob : Obj} {es : Array DictEntry} {ep k : Nat} {bs : List VD} {Q : VK} (inv : Inv X pn σ H s) (hr : Room k X.A) (hc : X.calm = true) (lv : LvOk K H L) (plain : (a == sysModules) = false) (got : s.heap.get? a = some ob) (isd : ob.ExactDict)
    (dat : ob.data = .dict es ep) (many : bs.length = es.size) (most : es.size ≤ sizeLine) (key : ∀ (j : Nat) (en : DictEntry), es[j]? = some en → ∃ b, bs[j]? = some b ∧ RVD X.K H L en.key b) (O : OkSort (bs.map (·.2)))
    (go : ∀ (H' : Hp) (l : Addr), Same H H' → H l = none → Ow X.K H' (Lp L l) (.list (sortD (bs.map (·.2)))) l → Q (.ref l) H') : wpAny (model X.prog X.w) X.A (call (.builtin "sorted") [.ref a]) (EP X pn σ Q) X.xe s := by
  apply Calls.call_function_entry PyProof.Rows.kind_sorted PyProof.Rows.plain_sorted PyProof.Rows.entry_sorted (PyProof.Rows.args_sorted1 _)
  unfold Builtin.«sorted»
  apply wpAny_bind (m := checkCount "sorted" 1 1 _)
  apply wpAny_pure
  refine wpAny_bind (PySem.W.kdu_collect (A := X.A.in1) (kdl_raw plain isd dat) (inv.ok.hd hc) got most ?_)
  intro g tk acc keep it
  have each := keys_each (K := X.K) (H := H) (L := L) rfl it many key
  have la : acc.toList.length = bs.length := by rw [Array.length_toList, it.1, many]
  refine wpAny_bind (wpAny_newList ?_ (by rw [la, many]; exact most))
  have lies : (g.push { cls := .type "list", data := .seq acc.toList.toArray }).get? g.objs.size = some (seqObj "list" acc.toList.toArray 0) := Heap.get?_push_size _ rfl
  have up : ∀ b u, g.get? b = some u → (g.push { cls := .type "list", data := .seq acc.toList.toArray }).get? b = some u := fun b u e => Heap.get?_push_of_some _ e
  have inv1 : Inv X pn σ H { s with heap := g, toks := tk } := inv.kept keep
  generalize g.push { cls := .type "list", data := .seq acc.toList.toArray } = g2 at lies up
  have free : H g.objs.size = none := inv1.hok.fresh (Nat.le_refl _)
  have un := hr.un
  refine wpAny_bind (wpAny_holding (sort_new (enc := fun b : VD => b.2) (Q := fun _ s' => _) inv1 up (Nat.le_refl _) lies each ((each_mem each).mono ?_) O.al O.so (by rw [many]; exact most) ?_ ?_))
  · rintro u b ⟨⟨r1, r2⟩, m⟩
    obtain ⟨as, rd⟩ := Dp.reads inv1 b.2 b.1 u (r2.dp (O.lay _ (List.mem_map_of_mem m))) r1
    exact ⟨as, PyProof.Rows.Reads.keeps up rd, fun z => absurd (reads_lt rd _ z) (Nat.lt_irrefl _)⟩
  · intro b m
    have := O.deep b.2 (List.mem_map_of_mem m)
    show X.A.units + 1 + 1 + b.2.depth < cLine
    omega
  intro out g' srt rest lay
  obtain ⟨v2, r2⟩ := each_back srt
  rw [sort_snd bs] at r2
  have inv2 := lay _ v2
  refine wpAny_pure ⟨.ref g.objs.size, rfl, .ref g.objs.size, _, inv2, rfl, go _ _ (same_upd free) free (.lst upd_same ?_)⟩
  exact (r2.lives (Lp_new free)).mono (same_upd free)
def keysD : D → Option (List D)
  | .dict ps => if (asRd (.dict ps)).isSome then none else some ((splitD ps).2.map (·.1))
  | _ => none
def sortF : List D → Option D
  | [.list ds] => if okSort ds = true then some (.list (sortD ds)) else none
  | [d] => (keysD d).bind fun ks => if okSort ks = true then some (.list (sortD ks)) else none
  | _ => none
theorem kv_at : ∀ {kvs : List (Key × V)} {vs : List (Key × Value)}, KV kvs vs → ∀ (j : Nat) (k : Key) (u : Value), vs[j]? = some (k, u) → ∃ v, kvs[j]? = some (k, v) ∧ RelV v u
  | _, _, .nil, j, k, u, h => by simp at h
  | _, _, .cons r rr, 0, k, u, h => by
    have e := Option.some.inj h
    refine ⟨_, congrArg some (Prod.ext ?_ rfl), ?_⟩
    · rw [r.1, e]
    · have := r.2
      rw [e] at this
      exact this
  | _, _, .cons r rr, j + 1, k, u, h => kv_at rr j k u h
theorem entry_key {P : Program} {w : World} : ∀ {es : List DictEntry} {vs : List (Key × Value)}, Pairs (mixKind P w) es vs → ∀ (j : Nat) (en : DictEntry), es[j]? = some en → ∃ k u, vs[j]? = some (k, u) ∧ keyIs k en.key = true
  | _, _, .nil, j, en, h => by simp at h
  | _, _, .cons h1 h2 hr, 0, en, h => by
    cases h
    exact ⟨_, _, rfl, h1⟩
  | _, _, .cons _ _ hr, j + 1, en, h => entry_key hr j en h
theorem kt_at {H : Hp} : ∀ {kvs : List (List Key × V)} {xs : List (List Key × Addr × Value)}, KT H kvs xs → ∀ (j : Nat) (y : List Key × Addr × Value), xs[j]? = some y → ∃ v, kvs[j]? = some (y.1, v) ∧ H y.2.1 = some (.tup (y.1.map kV))
  | _, _, .nil, j, y, h => by simp at h
  | _, _, .cons r rr, 0, y, h => by
    have e := Option.some.inj h
    obtain ⟨r1, r2, _⟩ := r
    rw [e] at r1 r2
    refine ⟨_, congrArg some (Prod.ext r1 rfl), ?_⟩
    rw [← r1]
    exact r2
  | _, _, .cons r rr, j + 1, y, h => kt_at rr j y h
theorem keys_map {α : Type} {f : α → D} {kvs : List (α × V)} {ps : List (D × D)} (e : ps.map (·.1) = kvs.map fun q => f q.1) (g : α → V) : (kvs.map fun q => (g q.1, f q.1)).map (·.2) = ps.map (·.1) := by
  rw [e, List.map_map]
  rfl
theorem kV_rp (k : Key) : Rp K H L (keyD k) (kV k) := by
  cases k with
  | inl i => exact .int i
  | inr x => exact .str x
theorem kVs_rp : ∀ ks : List Key, RpL K H L (ks.map keyD) (ks.map kV)
  | [] => .nil
  | k :: ks => .cons (kV_rp k) (kVs_rp ks)
theorem kt_keys {H : Hp} : ∀ {kvs : List (List Key × V)} {xs : List (List Key × Addr × Value)}, KT H kvs xs → xs.map ((fun x : VD => x.2) ∘ fun q => (V.ref q.2.1, PyData.tuple (q.1.map keyD))) = kvs.map fun q => PyData.tuple (q.1.map keyD)
  | _, _, .nil => rfl
  | _, _, .cons r rr => by
    rw [List.map_cons, List.map_cons, kt_keys rr, r.1]
    rfl
theorem cl_sortedD {k : Nat} (hr : Room k X.A) (hc : X.calm = true) : ClN X (.builtin "sorted") (fun ds => match ds with
    | [d] => (keysD d).bind fun ks => if okSort ks = true then some (.list (sortD ks)) else none
    | _ => none) := by
  rintro pn s σ H xs us Q inv vals ⟨L, ds, d, lv, rb, hf, go⟩
  dsimp only at hf
  split at hf
  case h_2 => cases hf
  rename_i d'
  cases hk : keysD d' with
  | none => rw [hk] at hf; cases hf
  | some ks =>
    rw [hk, Option.bind_some] at hf
    split at hf
    case isFalse => cases hf
    rename_i hok
    cases hf
    have O := okSort_ok hok
    unfold keysD at hk
    split at hk
    case h_2 => cases hk
    rename_i ps
    split at hk
    case isTrue => cases hk
    rename_i nrd
    cases hk
    obtain ⟨v, rfl, rv⟩ := rb.one
    obtain ⟨a, rfl, ow⟩ := rv.dictV (by simpa using nrd)
    obtain rfl := Vals.ref1 vals
    generalize hdd : (PyData.dict ps) = dd at ow
    cases ow with
    | lst _ _ => cases hdd
    | ob _ _ _ => cases hdd; simp [asRd] at nrd
    | @dk _ kvs ps' ha z rl =>
      cases hdd
      rw [splitD_dk z] at O go
      obtain ⟨most, plain, vs', rel, ob, es, ep, got, isd, dat, _, ents, _⟩ := dk_of inv.hok ha
      have l1 : es.size = vs'.length := by rw [← Array.length_toList, pairs_len ents]
      have l2 : kvs.length = vs'.length := Paired.length rel
      have ek : (kvs.map fun q => (kV q.1, keyD q.1)).map (·.2) = ps.map (·.1) := keys_map z kV
      refine sorted_dict inv hr hc lv plain got isd dat (bs := kvs.map fun q => (kV q.1, keyD q.1)) (by rw [List.length_map, l1, l2]) (by omega) (fun j en hj => ?_) (by rw [ek]; exact O) (by rw [ek]; exact go)
      obtain ⟨key, u, h1, h2⟩ := entry_key ents j en (by rw [Array.getElem?_toList]; exact hj)
      obtain ⟨v, h3, _⟩ := kv_at rel j key u h1
      exact ⟨_, by rw [List.getElem?_map, h3]; rfl, keyIs_rel h2, kV_rp key⟩
    | @dt _ kvs qs ha z rl =>
      cases hdd
      simp only [splitD] at O go
      obtain ⟨most, plain, xs, rel, ob, es, ep, got, isd, dat, ents, _, _⟩ := dt_rd inv.hok (.inl ha)
      have l1 : es.size = xs.length := size_of_entries ents
      have l2 : kvs.length = xs.length := Paired.length rel
      have ek : (xs.map fun q => (V.ref q.2.1, PyData.tuple (q.1.map keyD))).map (·.2) = qs.map (·.1) := by
        rw [z, List.map_map]
        exact kt_keys rel
      refine sorted_dict inv hr hc lv plain got isd dat (bs := xs.map fun q => (V.ref q.2.1, PyData.tuple (q.1.map keyD))) (by rw [List.length_map, l1]) (by omega) (fun j en hj => ?_) (by rw [ek]; exact O) (by rw [ek]; exact go)
      have q := entry_at ents j
      rw [hj] at q
      cases hx : xs[j]? with
      | none => rw [hx] at q; cases q
      | some y =>
        rw [hx] at q
        have e2 : en = entryOfKey (tupleKind (mixKind X.prog X.w)) y := Option.some.inj q
        obtain ⟨v, _, h3⟩ := kt_at rel j y hx
        refine ⟨_, by rw [List.getElem?_map, hx]; rfl, ?_, .tup h3 (kVs_rp _)⟩
        rw [e2]
        rfl
theorem cl_sorted {k : Nat} (hr : Room k X.A) (hc : X.calm = true) : ClN X (.builtin "sorted") sortF := by
  rintro pn s σ H xs us Q inv vals ⟨L, ds, d, lv, rb, hf, go⟩
  unfold sortF at hf
  split at hf
  · exact cl_sortedL hr hc pn s σ H xs us Q inv vals ⟨L, _, d, lv, rb, hf, go⟩
  · exact cl_sortedD hr hc pn s σ H xs us Q inv vals ⟨L, _, d, lv, rb, hf, go⟩
  · cases hf
end
end VV
namespace VV
open PySem PySem.Spec L2
open PyProof.Rows hiding St
section
variable {prog : Program} {w : World} {A : Around} {E : Value → Shared → Prop} {s : Shared}
structure DObj (h : Heap) (a : Addr) (n : Nat) : Prop where
  plain : (a == sysModules) = false
  ob : ∃ o es ep, h.get? a = some o ∧ o.ExactDict ∧ o.data = .dict es ep ∧ es.size = n
end
section
variable {X : Cx} {W : WX} {o : Expr} {f : EF} {p pos : Pos} {k : Nat}
end
end VV
namespace VV
open PySem PySem.Spec L2
open PyProof.Rows hiding St
section
variable {K : PySem.W.Frag}
theorem rp_lst {ds : List D} {a : Addr} (H : Hp) (L : Ad) (r : Rp K H L (.list ds) (.ref a)) : ∃ vs, H a = some (.lst vs) ∧ RpL K H L ds vs := by
  cases r with
  | lst h n rl => exact ⟨_, h, rl⟩
theorem rp_tup {ds : List D} {a : Addr} (H : Hp) (L : Ad) (r : Rp K H L (.tuple ds) (.ref a)) : ∃ vs, H a = some (.tup vs) ∧ RpL K H L ds vs := by
  cases r with
  | tup h rl => exact ⟨_, h, rl⟩
end
section
variable {X : Cx} {W : WX} {a b : Expr} {fs : List EF} {p pos tpos : Pos} {elts : List Expr} {kk : Nat}
end
end VV
namespace VV
open PySem PySem.Spec L2
open PyProof.Rows hiding St
set_option maxHeartbeats 1000000 in
theorem enum_meets {v : Value} {o : Obj} {Φ : Heap → Prop} (B : Begins v o Φ) : Meets (Builtin.«enumerate.__new__» ⟨[.type "enumerate", v], []⟩) (fun _ R s => Φ s.heap ∧
    R (.ok (.ret (.ref (s.heap.push o).objs.size))) { s with heap := (s.heap.push o).push { cls := .type "enumerate", data := .fields #[.none, .bool false, .ref s.heap.objs.size, rawInt 0, .none, .none] } }) := by
  refine .of_wp fun prog w A R s h => ?_
  obtain ⟨hp, g, d, tk, os⟩ := s
  obtain ⟨ok, go⟩ := h
  have hsub := sub_enumerate
  have begins : ∀ {A' : Around} {E : Value → Shared → Prop} {Q : Value → Shared → Prop}, Q (.ref hp.objs.size) ⟨hp.push o, g, d, tk, os⟩ → wpAny (model prog w) A' (pyIter v) Q E ⟨hp, g, d, tk, os⟩ := fun q => B.iter prog w _ _ ⟨hp, g, d, tk, os⟩ _ ok q
  wp_walk using begins
  apply wpAny_stack_any
  intro st
  apply wpAny_pure
  split
  · rename_i c _ _ _ _ _
    cases (c == Value.type "enumerate") <;> (wp_walk using begins; exact ⟨_, rfl, go⟩)
  · wp_walk using begins; exact ⟨_, rfl, go⟩
section
variable {prog : Program} {w : World} {A : Around} {E : Value → Shared → Prop} {s : Shared}
theorem enum_call {v : Value} {o : Obj} {Φ : Heap → Prop} {Q : Value → Shared → Prop} (B : Begins v o Φ) (ok : Φ s.heap)
    (go : ∀ g : Heap, IsEnum g (s.heap.objs.size + 1) s.heap.objs.size 0 .none → g.get? s.heap.objs.size = some o → (∀ b u, s.heap.get? b = some u → g.get? b = some u) → Q (.ref (s.heap.objs.size + 1)) { s with heap := g }) :
    wpAny (model prog w) A (call (.type "enumerate") [v]) Q E s := by
  have size : (s.heap.push o).objs.size = s.heap.objs.size + 1 := Heap.size_push ..
  have inner : (s.heap.push o).get? s.heap.objs.size = some o := Heap.get?_push_size _ B.free
  apply callType_new F.called_enumerate (by decide) (F.typeCall_enumerate_1 _) (F.newCall_enumerate_1 _) (fun obj => F.args_object_init_2 obj _) F.entry_enumerate_new (enum_meets B)
  refine ⟨ok, ?_⟩
  have made : IsEnum ((s.heap.push o).push { cls := .type "enumerate", data := .fields #[.none, .bool false, .ref s.heap.objs.size, rawInt 0, .none, .none] }) (s.heap.objs.size + 1) s.heap.objs.size 0 .none := by
    rw [← size]
    exact Heap.get?_push_size _ rfl
  show _ ∧ _
  rw [size]
  exact ⟨⟨_, made, rfl⟩, go _ made (Heap.get?_push_of_some _ inner) fun b u e => Heap.get?_push_of_some _ (Heap.get?_push_of_some _ e)⟩
end
def ItE (K : PySem.W.Frag) (a : Addr) : It where
  go := fun i H => ∃ (xs : List V) (x : V), SqT K H a xs ∧ xs[i]? = some x
  yld := fun i H v H' => ∃ T x, v = .ref T ∧ H T = none ∧ H' = upd H T (.tup [.int (i : Nat), x]) ∧ ∀ xs, SqT K H a xs → xs[i]? = some x
  stop := fun i H => ∃ xs : List V, SqT K H a xs ∧ xs.length ≤ i
theorem turn_enumT {P : Program} {w : World} {K : PySem.W.Frag} {elts : List Expr} {kk : Nat} {tpos : Pos} (a e it : Addr) : Turn P w K (.Tuple elts kk tpos) (ItE K a) [e, it] e (fun i h => (∃ old, IsEnum h e it ((i : Nat) : Int) old) ∧ h.IsTupleIter it a i ∧ e ≠ it ∧ a ≠ it ∧ a ≠ e) where
  mem := List.mem_cons_self
  obj := by
    rintro i h ⟨⟨old, en⟩, ⟨o, ho, _, hd⟩, _⟩ b hb
    simp only [List.mem_cons, List.not_mem_nil, or_false] at hb
    rcases hb with rfl | rfl
    · exact ⟨_, en, nofun⟩
    · exact ⟨o, ho, fun v z => nomatch hd.symm.trans z⟩
  keep := by
    rintro i h h' ⟨⟨old, en⟩, ti, ne⟩ k
    exact ⟨⟨old, k e (by simp) _ en⟩, ti.at fun o q => k it (by simp) o q, ne⟩
  item := by
    rintro X rfl rfl rfl calm i pn s σ H E inv fp ⟨⟨old, en⟩, ti, ne1, ne2, ne3⟩ ⟨xs, x, sq, at_⟩
    obtain ⟨its, rel, tup, _⟩ := inv.tuple sq
    have le : e < s.heap.objs.size := Heap.lt_size en
    have li : it < s.heap.objs.size := by obtain ⟨_, q, _⟩ := ti; exact Heap.lt_size q
    have many := rel.length
    have here : i < xs.length := (List.getElem?_eq_some_iff.mp at_).1
    have D := Draws.tuple (prog := X.prog) (w := X.w) (A := X.A.in1) (inv.ok.hd calm) it a ne2 its.toArray
    refine wpAny_pyNext_enum_itemD D en ⟨ti, tup⟩ (by rw [List.size_toArray]; omega) ne1 (by simp only [List.mem_cons, List.not_mem_nil, or_false]; exact fun z => z.elim ne1 fun z => ne3 z.symm) ?_
    intro u g tk hu out st' tupl _ keep
    refine ⟨_, rfl, wpAny_letOwnedTupleGo_enum (s := { s with heap := g, toks := tk + 1 }) out ?_⟩
    intro g' en' same
    obtain ⟨v, hv, rv⟩ : ∃ v, its[i]? = some v ∧ RelV x v := rel.get at_
    have eu : v = u := by
      have h1 : its.toArray[i]? = some v := by simpa using hv
      exact Option.some.inj (h1.symm.trans hu)
    subst eu
    have lies : g'.get? s.heap.objs.size = some { cls := .type "tuple", data := .seq #[.int i tk, v] } := (same.2 _ (Nat.ne_of_gt le)).trans tupl
    have new : ObjOk X.prog X.w (upd H s.heap.objs.size (.tup [.int (i : Nat), x])) g' s.heap.objs.size (.tup [.int (i : Nat), x]) :=
      ⟨by rw [sizeLine_eq]; simp, [.int i tk, v], .cons ⟨_, rfl⟩ (.cons rv .nil), ⟨_, lies, rfl, _, rfl⟩⟩
    have old' : ∀ b o, b ∉ [e, it] → s.heap.get? b = some o → g'.get? b = some o := fun b o nb q => by
      simp only [List.mem_cons, List.not_mem_nil, or_false, not_or] at nb
      exact (same.2 b nb.1).trans (keep b o nb.1 nb.2 q)
    have inv1 := inv.turnedNew (t' := tk + 1) (ch := [e, it]) old' fp (Nat.le_refl _) new
    refine ⟨.ref s.heap.objs.size, _, inv1, rfl, ⟨_, x, rfl, inv.hok.fresh (Nat.le_refl _), rfl, fun ys hy => by rw [inv.tuple_inj hy sq]; exact at_⟩, ⟨⟨v, ?_⟩, st'.1.at fun o q => (same.2 it (Ne.symm ne1)).trans q, ne1, ne2, ne3⟩, ?_⟩
    · rw [show ((i + 1 : Nat) : Int) = (i : Int) + 1 by omega]
      exact en'
    · intro b hb
      have lb : b < s.heap.objs.size := by
        simp only [List.mem_cons, List.not_mem_nil, or_false] at hb
        rcases hb with rfl | rfl
        · exact le
        · exact li
      exact (upd_ne (Nat.ne_of_lt lb)).trans (fp b hb).1
  done := by
    rintro X rfl rfl rfl calm i pn s σ H E inv fp ⟨⟨old, en⟩, ti, ne1, ne2, ne3⟩ ⟨xs, sq, past⟩
    obtain ⟨its, rel, tup, _⟩ := inv.tuple sq
    obtain ⟨f0, f1, _, f3, f4, f5⟩ := fp it (by simp)
    have many := rel.length
    have D : Draws X.prog X.w X.A.in1 it [it, a] i (fun _ _ => True) (fun j h => j = i ∧ h.IsTupleIter it a i ∧ h.IsTuple a its.toArray) := by
      refine ⟨fun j h st => ?_, fun j h h' st k => ⟨st.1, st.2.1.at fun o q => k it (by simp) o q, st.2.2.at fun o q => k a (by simp) o q⟩, fun j s' Q E' lt st _ => absurd st.1 (Nat.ne_of_lt lt), fun s' Q E' st hE => ?_⟩
      · obtain ⟨o, ho, _⟩ := st.2.1
        exact ⟨o, ho⟩
      · exact wpAny_nextOf_tuple_end (inv.ok.hd calm) st.2.1 st.2.2 (by rw [Array.getElem?_eq_none_iff, List.size_toArray]; omega) hE
    exact wpAny_pyNext_enum_endD D en ⟨rfl, ti, tup⟩ fun g ext => ⟨rfl, inv.turned (t' := s.toks) (fun b o nb q => ext b o nb q) f0 f1 f3 f4 f5⟩
  self := by
    rintro A i s Q E ⟨⟨_, en⟩, _⟩ h
    exact wpAny_pyIter_enum en h
def iEnT (K : PySem.W.Frag) (ta : TA) : TI := fun σ H R => ta σ H fun vs H1 => ∃ a xs, vs = [.ref a] ∧ SqT K H1 a xs ∧ R (ItE K a) H1
theorem pi_enT {X : Cx} {e : Expr} {ta : TA} {p pos tpos : Pos} {elts : List Expr} {kk : Nat} (hg : Gl X "enumerate") (hm : X.mg "enumerate" = none) (ha : PA X [e] ta) (fst : starEach [e] X.env = [(false, eval e X.env)]) : PI X (.Tuple elts kk tpos) (.Call (.Name "enumerate" p) [e] [] pos) (iEnT X.K ta) := by
  constructor
  intro pn s σ H R inv h
  refine Call_ (ld_blt inv hg hm boot_enumerate (PyProof.Rows.callWith_type1 (thn (ha.run pos pn s σ H _ inv h) ?_) fst rfl))
  rintro us s1 ⟨_, H1, inv1, vals, a, xs, rfl, sq, go⟩
  obtain rfl := Vals.ref1 vals
  obtain ⟨its, rel, tup, _⟩ := inv1.tuple sq
  have la : a < s1.heap.objs.size := tup.lt
  apply enum_call (begins_tuple a its.toArray) tup
  intro g en ti keep
  have inv2 := inv1.kept (t' := s1.toks) keep
  refine wpAny_pyIter_enum en ⟨s1.heap.objs.size + 1, [s1.heap.objs.size + 1, s1.heap.objs.size], _, _, H1, rfl, inv2, turn_enumT a _ _, ⟨⟨.none, en⟩, ⟨_, ti, rfl, rfl⟩, Nat.succ_ne_self _, Nat.ne_of_lt la, Nat.ne_of_lt (Nat.lt_succ_of_lt la)⟩, fun b hb => ?_, go⟩
  have high : s1.heap.objs.size ≤ b := by
    simp only [List.mem_cons, List.not_mem_nil, or_false] at hb
    rcases hb with rfl | rfl
    · exact Nat.le_succ _
    · exact Nat.le_refl _
  exact inv1.fpOk high (inv1.hok.fresh high)
def enumD : Nat → List D → List D
  | _, [] => []
  | i, d :: ds => .tuple [.int (i : Nat), d] :: enumD (i + 1) ds
def enumF : List D → Option (List D)
  | [.list ds] => some (enumD 0 ds)
  | [.tuple ds] => some (enumD 0 ds)
  | _ => none
def iEnum' (fs : List EF) : IF := fun ρ => (evA fs ρ).items enumF
theorem enumD_length : ∀ (i : Nat) (ds : List D), (enumD i ds).length = ds.length
  | _, [] => rfl
  | i, _ :: ds => congrArg (· + 1) (enumD_length (i + 1) ds)
theorem enumD_get : ∀ (i : Nat) (ds : List D) (j : Nat) (d : D), (enumD i ds)[j]? = some d → ∃ x, ds[j]? = some x ∧ d = .tuple [.int ((i + j : Nat) : Int), x]
  | i, [], j, d, h => by simp [enumD] at h
  | i, x :: ds, 0, d, h => ⟨x, rfl, by simpa [enumD] using h.symm⟩
  | i, x :: ds, j + 1, d, h => by
    obtain ⟨y, h1, h2⟩ := enumD_get (i + 1) ds j d (by simpa [enumD] using h)
    exact ⟨y, by simpa using h1, by rw [h2, show i + 1 + j = i + (j + 1) by omega]⟩
section
variable {K : PySem.W.Frag}
theorem itb_enL {xs : List D} {a : Addr} {S : Hp → Ad → Prop} (h : ItB K xs (Itl K a) S) (g : ∀ H L, S H L → ∃ vs, H a = some (.lst vs) ∧ RpL K H L xs vs) : ItB K (enumD 0 xs) (Ite K a) S where
  go := fun i H L st hi => by
    rw [enumD_length] at hi
    obtain ⟨vs, ha, ra⟩ := g H L st
    have l1 := ra.length
    exact ⟨vs, vs[i]'(by omega), SqL.of ha, by simp⟩
  stop := fun i H L st hi => by
    rw [enumD_length] at hi
    obtain ⟨vs, ha, ra⟩ := g H L st
    exact ⟨vs, SqL.of ha, by rw [← ra.length]; exact hi⟩
  yld := fun i H L x H' st ⟨T, u, ex, hT, eH, hu⟩ => by
    subst ex eH
    refine ⟨same_upd hT, fun d hd => ?_⟩
    obtain ⟨y, q1, rfl⟩ := enumD_get 0 xs i d hd
    obtain ⟨vs, ha, ra⟩ := g H L st
    obtain ⟨w1, z1, r1⟩ := ra.get q1
    rw [hu vs (SqL.of ha)] at z1
    cases z1
    rw [Nat.zero_add]
    exact .tup upd_same (.cons (.int _) (.cons (r1.mono (same_upd hT)) .nil))
  keep := h.keep
theorem itb_enT {xs : List D} {a : Addr} {S : Hp → Ad → Prop} (h : ItB K xs (Itt K a) S) (g : ∀ H L, S H L → ∃ vs, H a = some (.tup vs) ∧ RpL K H L xs vs) : ItB K (enumD 0 xs) (ItE K a) S where
  go := fun i H L st hi => by
    rw [enumD_length] at hi
    obtain ⟨vs, ha, ra⟩ := g H L st
    have l1 := ra.length
    exact ⟨vs, vs[i]'(by omega), SqT.of ha, by simp⟩
  stop := fun i H L st hi => by
    rw [enumD_length] at hi
    obtain ⟨vs, ha, ra⟩ := g H L st
    exact ⟨vs, SqT.of ha, by rw [← ra.length]; exact hi⟩
  yld := fun i H L x H' st ⟨T, u, ex, hT, eH, hu⟩ => by
    subst ex eH
    refine ⟨same_upd hT, fun d hd => ?_⟩
    obtain ⟨y, q1, rfl⟩ := enumD_get 0 xs i d hd
    obtain ⟨vs, ha, ra⟩ := g H L st
    obtain ⟨w1, z1, r1⟩ := ra.get q1
    rw [hu vs (SqT.of ha)] at z1
    cases z1
    rw [Nat.zero_add]
    exact .tup upd_same (.cons (.int _) (.cons (r1.mono (same_upd hT)) .nil))
  keep := h.keep
end
section
variable {X : Cx} {W : WX} {a : Expr} {fs : List EF} {p pos tpos : Pos} {elts : List Expr} {kk : Nat}
theorem RpL.one {K : PySem.W.Frag} {H : Hp} {L : Ad} {d : D} {vs : List V} (h : RpL K H L [d] vs) : ∃ v, vs = [v] ∧ Rp K H L d v := by
  cases h with
  | cons r t =>
    cases t
    exact ⟨_, rfl, r⟩
theorem sis_enum (hm : X.mg "enumerate" = none) (ha : SA X W [a] fs) (hg : Gl X "enumerate" := by rfl) (fst : starEach [a] X.env = [(false, eval a X.env)] := by rfl) : SIS X W (.Tuple elts kk tpos) (.Call (.Name "enumerate" p) [a] [] pos) (iEnum' fs) := ⟨fun pn s σ H R inv ⟨L, ρ, re, q⟩ => by
  unfold iEnum' RL.items at q
  cases hf : evA fs ρ with
  | bad => rw [hf] at q; exact q.elim
  | exc c gs =>
    rw [hf] at q
    refine (pi_enum hg hm ha fst).run pn s σ H R inv ⟨L, ρ, re, ?_⟩
    rw [hf]
    exact q
  | ok ds =>
    rw [hf] at q
    dsimp only at q
    unfold enumF at q
    split at q
    · rename_i out hz
      split at hz
      · cases hz
        refine (pi_enum hg hm ha fst).run pn s σ H R inv ⟨L, ρ, re, ?_⟩
        rw [hf]
        intro H1 vs s1 r
        obtain ⟨v, rfl, rv⟩ := r.one
        obtain ⟨a1, us1, rfl, h1, r1⟩ := rv.rb.lstV
        exact ⟨a1, us1, rfl, SqL.of h1, q _ _ H1 s1 ⟨itb_enL its_lst.toItB rp_lst, fun H L H' L' z ev => ev _ _ z⟩ rv⟩
      · cases hz
        refine (pi_enT hg hm ha fst).run pn s σ H R inv ⟨L, ρ, re, ?_⟩
        rw [hf]
        intro H1 vs s1 r
        obtain ⟨v, rfl, rv⟩ := r.one
        obtain ⟨a1, us1, rfl, h1, r1⟩ := rv.tupV
        exact ⟨a1, us1, rfl, SqT.of h1, q _ _ H1 s1 ⟨itb_enT its_tup.toItB rp_tup, fun H L H' L' z ev => ev _ _ z⟩ rv⟩
      · cases hz
    · exact q.elim⟩
end
end VV
namespace VVlaw
open PySem PySem.Spec L2 VV
open PyProof.Rows hiding St
theorem lcGo_filtT {α : Type} {t : Tg} {c e : EF} {ρ : En} (emb f : α → D) (p : α → Bool) : ∀ (xs : List α), (∀ x ∈ xs, ∃ ρ1, bindT t (emb x) ρ = some ρ1 ∧ c ρ1 = .ok (.bool (p x)) ∧ (p x = true → e ρ1 = .ok (f x))) → lcGo t c e ρ (xs.map emb) = .ok ((xs.filter p).map f)
  | [], _ => rfl
  | x :: xs, h => by
    obtain ⟨ρ1, h1, h2, h3⟩ := h x (by simp)
    have ih := lcGo_filtT (t := t) (c := c) (e := e) emb f p xs fun y hy => h y (by simp [hy])
    cases hp : p x with
    | true =>
      rw [hp] at h2
      simp -implicitDefEqProofs only [List.map_cons, lcGo, lcOne, h1, h2, h3 hp, ih, RL.cons_ok, List.filter_cons, hp, if_true]
    | false =>
      rw [hp] at h2
      simp -implicitDefEqProofs only [List.map_cons, lcGo, lcOne, h1, h2, ih, List.filter_cons, hp]
      rfl
theorem eLc_filtT {α : Type} {vs : List Nat} {fi : IF} {t : Tg} {c e : EF} {ρ : En} (xs : List α) (emb f : α → D) (p : α → Bool) (hi : fi ρ = .ok (xs.map emb)) (hl : xs.length ≤ 16777216) (h : ∀ x ∈ xs, ∃ ρ1, bindT t (emb x) (wipeE ρ vs) = some ρ1 ∧ c ρ1 = .ok (.bool (p x)) ∧ (p x = true → e ρ1 = .ok (f x))) :
    eLc vs fi t c e ρ = .ok (.list ((xs.filter p).map f)) := by
  unfold eLc
  rw [hi, RL.bind_ok, lcGo_filtT emb f p xs h, RL.bind_ok]
  exact lstR_ok _ (by rw [List.length_map]; exact Nat.le_trans (List.length_filter_le _ _) hl)
theorem eLc_mapT {α : Type} {vs : List Nat} {fi : IF} {t : Tg} {c e : EF} {ρ : En} (xs : List α) (emb f : α → D) (hi : fi ρ = .ok (xs.map emb)) (hl : xs.length ≤ 16777216) (h : ∀ x ∈ xs, ∃ ρ1, bindT t (emb x) (wipeE ρ vs) = some ρ1 ∧ c ρ1 = .ok (.bool true) ∧ e ρ1 = .ok (f x)) :
    eLc vs fi t c e ρ = .ok (.list (xs.map f)) := by
  rw [eLc_filtT xs emb f (fun _ => true) hi hl fun x hx => by
    obtain ⟨ρ1, h1, h2, h3⟩ := h x hx
    exact ⟨ρ1, h1, h2, fun _ => h3⟩]
  rw [List.filter_eq_self.mpr fun _ _ => rfl]
theorem forGo_nxT {t : Tg} {f : SF} {d : D} {ds : List D} {ρ ρ1 ρ2 : En} (hb : bindT t d ρ = some ρ1) (h : f ρ1 = .nx ρ2) : forGo t f (d :: ds) ρ = forGo t f ds ρ2 := by
  simp -implicitDefEqProofs only [forGo, forOne, hb, h]
theorem ap_iEnum (fs : List EF) (ρ : En) : iEnum' fs ρ = (evA fs ρ).items enumF := rfl
theorem items_enL (xs : List D) : (RL.ok [.list xs]).items enumF = .ok (enumD 0 xs) := rfl
theorem items_enT (xs : List D) : (RL.ok [.tuple xs]).items enumF = .ok (enumD 0 xs) := rfl
theorem enumD_map {α : Type} (f : α → D) : ∀ (xs : List α) (i : Nat), enumD i (xs.map f) = (xs.zipIdx i).map fun p => .tuple [.int (p.2 : Nat), f p.1]
  | [], _ => rfl
  | x :: xs, i => by
    rw [List.map_cons, enumD, List.zipIdx_cons, List.map_cons, enumD_map f xs (i + 1)]
theorem ix_map_l {α : Type} (f : α → D) (xs : List α) (i : Int) (h0 : 0 ≤ i) (h : i.toNat < xs.length) : ixF (.list (xs.map f)) (.int i) = some (f xs[i.toNat]) := by
  rw [f_ix_l _ i h0 (by simpa using h)]
  simp
theorem ix_map_t {α : Type} (f : α → D) (xs : List α) (i : Int) (h0 : 0 ≤ i) (h : i.toNat < xs.length) : ixF (.tuple (xs.map f)) (.int i) = some (f xs[i.toNat]) := by
  rw [f_ix_t _ i h0 (by simpa using h)]
  simp
end VVlaw
namespace VV
open PySem PySem.Spec L2
open PyProof.Rows hiding St
section
variable {K : PySem.W.Frag} {H0 H : Hp} {Lo : Ad} {ρ : En} {α : Nat → Option Addr} {σ : St}
theorem slot_lt {i : Nat} {x : Sl} (h : RSt K H0 Lo ρ α σ H) (e : ρ[i]? = some (some x)) : i < ρ.length ∧ i < 1000 := by
  have := h.sm
  have := (List.getElem?_eq_some_iff.mp e).1
  omega
theorem RSt.writeG {i n : Nat} {rows : List (List D)} {a b : Addr} {bs : List Addr} {r' : List D} {us us' : List V} (h : RSt K H0 Lo ρ α σ H) (hi : ρ[i]? = some (some (.grid (.rows rows)))) (e1 : α i = some a) (e2 : σ[i]? = some (some (.ref a)))
    (e3 : ∀ k b, bs[k]? = some b → α (vix i k) = some b) (og : Ogr K H (Lv Lo α) rows a bs) (hb : bs[n]? = some b) (hus : H b = some (.lst us)) (rl : RpL K H (Lv Lo α) r' us') :
    RSt K H0 Lo (ρ.set i (some (.grid (.rows (rows.set n r'))))) α σ (upd H b (.lst us')) ∧ Evo K Lo H α (upd H b (.lst us')) α := by
  have hL : Lv Lo α b := .inr ⟨_, e3 n b hb⟩
  obtain ⟨hlt, h1000⟩ := slot_lt h hi
  have far : ∀ {j : Nat} {x : Sl} {c : Addr}, ρ[j]? = some (some x) → α j = some c → c ≠ b := fun {j x c} ej ec z => by
    subst z
    have q := h.inj _ _ _ ec (e3 n c hb)
    have := (slot_lt h ej).2
    have := vix_ge i n
    omega
  have farG : ∀ {j : Nat} {x : Sl} {cs : List Addr}, ρ[j]? = some (some x) → (∀ k c, cs[k]? = some c → α (vix j k) = some c) → ∀ k c, cs[k]? = some c → ¬ (j = i ∧ k = n) → c ≠ b := fun {j x cs} ej ec k c hk hne z => by
    subst z
    have q := vix_inj (slot_lt h ej).2 h1000 (h.inj _ _ _ (ec k c hk) (e3 n c hb))
    exact hne q
  have new : Ogr K (upd H b (.lst us')) (Lv Lo α) (rows.set n r') a bs := by
    refine ⟨(upd_ne (far hi e1)).trans og.top, by rw [List.length_set]; exact og.len, fun k r c hr hc => ?_⟩
    by_cases hk : k = n
    · subst hk
      have ec : c = b := Option.some.inj (hc.symm.trans hb)
      subst ec
      have lt : k < rows.length := by rw [og.len]; exact (List.getElem?_eq_some_iff.mp hc).1
      rw [List.getElem?_set_self lt] at hr
      cases hr
      exact ⟨us', upd_same, RpL.upd hus trivial hL rl⟩
    · rw [List.getElem?_set_ne (Ne.symm hk)] at hr
      obtain ⟨ws, q1, q2⟩ := og.row k r c hr hc
      exact ⟨ws, (upd_ne (farG hi e3 k c hc fun z => hk z.2)).trans q1, q2.upd hus trivial hL⟩
  refine ⟨⟨⟨⟨fun z q => ?_, h.re.lv.tb.upd hus trivial⟩, by simp [h.re.len], fun j x e => ?_⟩, h.same.updN (h.new _ b (e3 n b hb)) hus trivial, h.lo, h.new, h.inj, fun j d e => ?_, by simpa using h.sm, fun j rs e => ?_, h.nl, h.pr.set (by intro _ z; cases z) fun _ c lc o => o.upd hus trivial hL (fun z => h.nl _ b (e3 n b hb) (z ▸ lc))⟩, fun d v r => r.upd hus trivial hL⟩
  · by_cases hz : z = b
    · subst hz; rw [upd_same]; simp
    · rw [upd_ne hz]; exact h.re.lv z q
  · by_cases hj : i = j
    · subst hj
      rw [List.getElem?_set_self hlt] at e
      cases e
      exact ⟨_, e2, a, bs, rfl, new⟩
    · rw [List.getElem?_set_ne hj] at e
      obtain ⟨w, f1, r⟩ := h.re.sl j x e
      refine ⟨w, f1, ?_⟩
      cases x with
      | val d => obtain ⟨v, g1, g2⟩ := r; exact ⟨v, g1, g2.upd hus trivial hL⟩
      | own d =>
        obtain ⟨c, g1, g2, g3⟩ := h.own j d e
        rw [f1] at g2
        cases g2
        exact ⟨c, rfl, g3.upd hus trivial hL (far e g1)⟩
      | grid rs =>
        obtain ⟨c, cs, g1, g2, g3, g4⟩ := h.grd j rs e
        rw [f1] at g2
        cases g2
        refine ⟨c, cs, rfl, g4.upd hus trivial hL (far e g1) fun z hz => ?_⟩
        obtain ⟨k, hk⟩ := List.mem_iff_getElem?.mp hz
        exact farG e g3 k z hk fun q => hj q.1.symm
      | pin a => exact r
      | ownP d3 =>
        obtain ⟨c, lc, _, g2, g3⟩ := h.pr.par j d3 e
        rw [f1] at g2
        cases g2
        exact ⟨c, rfl, g3.upd hus trivial hL (fun z => h.nl _ b (e3 n b hb) (z ▸ lc))⟩
  · by_cases hj : i = j
    · subst hj
      rw [List.getElem?_set_self hlt] at e
      cases e
    · rw [List.getElem?_set_ne hj] at e
      obtain ⟨c, g1, g2, g3⟩ := h.own j d e
      exact ⟨c, g1, g2, g3.upd hus trivial hL (far e g1)⟩
  · by_cases hj : i = j
    · subst hj
      rw [List.getElem?_set_self hlt] at e
      cases e
      exact ⟨a, bs, e1, e2, e3, new⟩
    · rw [List.getElem?_set_ne hj] at e
      obtain ⟨c, cs, g1, g2, g3, g4⟩ := h.grd j rs e
      refine ⟨c, cs, g1, g2, g3, g4.upd hus trivial hL (far e g1) fun z hz => ?_⟩
      obtain ⟨k, hk⟩ := List.mem_iff_getElem?.mp hz
      exact farG e g3 k z hk fun q => hj q.1.symm
def offG (α : Nat → Option Addr) (i : Nat) : Nat → Option Addr := fun j => if j = i ∨ (1000 ≤ j ∧ j % 1000 = i) then none else α j
theorem offG_some {i j : Nat} {a : Addr} (h : offG α i j = some a) : α j = some a ∧ ¬ (j = i ∨ (1000 ≤ j ∧ j % 1000 = i)) := by
  unfold offG at h
  split at h
  · cases h
  · exact ⟨h, by assumption⟩
theorem vix_mod {i k : Nat} (h : i < 1000) : vix i k % 1000 = i := by
  unfold vix
  omega
theorem vix_div {i k : Nat} (h : i < 1000) : vix i k / 1000 - 1 = k := by
  unfold vix
  omega
def rowsD (rows : List (List D)) : D := .list (rows.map PyData.list)
theorem rows_rp {L : Ad} {a : Addr} {bs : List Addr} {rows : List (List D)} (og : Ogr K H L rows a bs) (na : ¬ L a) (nb : ∀ b ∈ bs, ¬ L b) : Rp K H L (rowsD rows) (.ref a) := by
  refine .lst og.top na ?_
  have aux : ∀ (rs : List (List D)) (cs : List Addr), rs.length = cs.length → (∀ (k : Nat) (r : List D) (c : Addr), rs[k]? = some r → cs[k]? = some c → ¬ L c ∧ ∃ us, H c = some (.lst us) ∧ RpL K H L r us) → RpL K H L (rs.map PyData.list) (cs.map V.ref) := by
    intro rs
    induction rs with
    | nil =>
      intro cs hl _
      cases cs with
      | nil => exact .nil
      | cons _ _ => cases hl
    | cons r rs ih =>
      intro cs hl h
      cases cs with
      | nil => cases hl
      | cons c cs =>
        obtain ⟨nc, us, q1, q2⟩ := h 0 r c rfl rfl
        exact .cons (.lst q1 nc q2) (ih cs (Nat.succ.inj hl) fun k r' c' h1 h2 => h (k + 1) r' c' h1 h2)
  exact aux rows bs og.len fun k r c h1 h2 => ⟨nb c (List.mem_of_getElem? h2), og.row k r c h1 h2⟩
theorem RSt.frzG {i : Nat} {rows : List (List D)} (h : RSt K H0 Lo ρ α σ H) (hi : ρ[i]? = some (some (.grid (.rows rows)))) : RSt K H0 Lo (ρ.set i (some (.val (rowsD rows)))) (offG α i) σ H ∧ Evo K Lo H α H (offG α i) := by
  obtain ⟨a, bs, e1, e2, e3, og⟩ := h.grd i _ hi
  have og : Ogr K H (Lv Lo α) rows a bs := og
  obtain ⟨hlt, h1000⟩ := slot_lt h hi
  have less : ∀ z, Lv Lo (offG α i) z → Lv Lo α z := fun z q => q.elim .inl fun ⟨j, e⟩ => .inr ⟨j, (offG_some e).1⟩
  have hL : ∀ z, Lv Lo (offG α i) z → Lv Lo α z ∨ H z = none := fun z q => .inl (less z q)
  have na : ¬ Lv Lo (offG α i) a := fun z => by
    rcases z with z | ⟨j, z⟩
    · exact h.nl i a e1 z
    · obtain ⟨z1, z2⟩ := offG_some z
      exact z2 (.inl (h.inj j i a z1 e1))
  have nb : ∀ b ∈ bs, ¬ Lv Lo (offG α i) b := fun b hb z => by
    obtain ⟨k, hk⟩ := List.mem_iff_getElem?.mp hb
    rcases z with z | ⟨j, z⟩
    · exact h.nl _ b (e3 k b hk) z
    · obtain ⟨z1, z2⟩ := offG_some z
      have ej := h.inj j _ b z1 (e3 k b hk)
      exact z2 (.inr ⟨by rw [ej]; exact vix_ge i k, by rw [ej]; exact vix_mod h1000⟩)
  have stay : ∀ {j : Nat} {x : Sl}, ρ[j]? = some (some x) → i ≠ j → offG α i j = α j := fun {j x} ej hj => by
    have := (slot_lt h ej).2
    unfold offG
    rw [if_neg (by omega)]
  have stayG : ∀ {j k : Nat} {x : Sl}, ρ[j]? = some (some x) → i ≠ j → offG α i (vix j k) = α (vix j k) := fun {j k x} ej hj => by
    have q := (slot_lt h ej).2
    have q2 := vix_ge j k
    have q3 := vix_mod (k := k) q
    unfold offG
    rw [if_neg (by omega)]
  refine ⟨⟨⟨⟨fun z q => h.re.lv z (less z q), h.re.lv.tb⟩, by simp [h.re.len], fun j x e => ?_⟩, h.same, h.lo, fun j z e => h.new j z (offG_some e).1, fun j l z f1 f2 => h.inj j l z (offG_some f1).1 (offG_some f2).1, fun j d e => ?_, by simpa using h.sm, fun j rs e => ?_, fun j z e => h.nl j z (offG_some e).1, h.pr.set (by intro _ z; cases z) fun _ _ _ o => o.lives hL⟩, fun d v r => r.lives hL⟩
  · by_cases hj : i = j
    · subst hj
      rw [List.getElem?_set_self hlt] at e
      cases e
      exact ⟨_, e2, _, rfl, rows_rp (og.lives hL) na nb⟩
    · rw [List.getElem?_set_ne hj] at e
      obtain ⟨w, f1, r⟩ := h.re.sl j x e
      exact ⟨w, f1, r.lives hL⟩
  · by_cases hj : i = j
    · subst hj
      rw [List.getElem?_set_self hlt] at e
      cases e
    · rw [List.getElem?_set_ne hj] at e
      obtain ⟨c, g1, g2, g3⟩ := h.own j d e
      exact ⟨c, (stay e hj).trans g1, g2, g3.lives hL⟩
  · by_cases hj : i = j
    · subst hj
      rw [List.getElem?_set_self hlt] at e
      cases e
    · rw [List.getElem?_set_ne hj] at e
      obtain ⟨c, cs, g1, g2, g3, g4⟩ := h.grd j rs e
      exact ⟨c, cs, (stay e hj).trans g1, g2, fun k b q => (stayG e hj).trans (g3 k b q), g4.lives hL⟩
def onG (α : Nat → Option Addr) (i : Nat) (a : Addr) (bs : List Addr) : Nat → Option Addr := fun j => if j = i then some a else if 1000 ≤ j ∧ j % 1000 = i then bs[j / 1000 - 1]? else α j
def Lps (L : Ad) (xs : List Addr) : Ad := fun z => L z ∨ z ∈ xs
theorem onG_some {i j : Nat} {a z : Addr} {bs : List Addr} (h : onG α i a bs j = some z) : (j = i ∧ z = a) ∨ (1000 ≤ j ∧ j % 1000 = i ∧ bs[j / 1000 - 1]? = some z) ∨ α j = some z := by
  unfold onG at h
  split at h
  · cases h; exact .inl ⟨by assumption, rfl⟩
  · split at h
    · rename_i q
      exact .inr (.inl ⟨q.1, q.2, h⟩)
    · exact .inr (.inr h)
theorem RSt.setGrid {i : Nat} {rows : Gr} {a : Addr} {bs : List Addr} {H1 : Hp} (i1 : i < 1000) (h : RSt K H0 Lo ρ α σ H) (s : Same H H1) (nd : (a :: bs).Nodup) (n : ∀ z ∈ a :: bs, H z = none) (og : Og K H1 (Lps (Lv Lo α) (a :: bs)) rows a bs) :
    RSt K H0 Lo (ρ.set i (some (.grid rows))) (onG α i a bs) (σ.set i (some (.ref a))) H1 ∧ Evo K Lo H α H1 (onG α i a bs) := by
  have out : ∀ z ∈ a :: bs, ¬ Lv Lo α z := fun z m q => h.re.lv z q (n z m)
  have hL : ∀ z, Lv Lo (onG α i a bs) z → Lps (Lv Lo α) (a :: bs) z := fun z q => by
    rcases q with q | ⟨j, q⟩
    · exact .inl (.inl q)
    · rcases onG_some q with ⟨_, rfl⟩ | ⟨_, _, q⟩ | q
      · exact .inr List.mem_cons_self
      · exact .inr (List.mem_cons_of_mem _ (List.mem_of_getElem? q))
      · exact .inl (.inr ⟨j, q⟩)
  have hL2 : ∀ z, Lv Lo (onG α i a bs) z → Lv Lo α z ∨ H z = none := fun z q => (hL z q).elim .inl fun e => .inr (n z e)
  have og' : Og K H1 (Lv Lo (onG α i a bs)) rows a bs := og.lives fun z q => .inl (hL z q)
  have at_ : onG α i a bs i = some a := by unfold onG; rw [if_pos rfl]
  have atv : ∀ k b, bs[k]? = some b → onG α i a bs (vix i k) = some b := fun k b q => by
    unfold onG
    rw [if_neg (by have := vix_ge i k; omega), if_pos ⟨vix_ge i k, vix_mod i1⟩, vix_div i1]
    exact q
  have stay : ∀ {j : Nat} {x : Sl}, ρ[j]? = some (some x) → i ≠ j → onG α i a bs j = α j := fun {j x} ej hj => by
    have := (slot_lt h ej).2
    unfold onG
    rw [if_neg (Ne.symm hj), if_neg (by omega)]
  have stayG : ∀ {j k : Nat} {x : Sl}, ρ[j]? = some (some x) → i ≠ j → onG α i a bs (vix j k) = α (vix j k) := fun {j k x} ej hj => by
    have q := (slot_lt h ej).2
    have q2 := vix_ge j k
    have q3 := vix_mod (k := k) q
    unfold onG
    rw [if_neg (by omega), if_neg (by omega)]
  have slot : ∀ {j : Nat} {x : Sl}, (ρ.set i (some (.grid rows)))[j]? = some (some x) → (i = j ∧ x = .grid rows ∧ i < ρ.length) ∨ (i ≠ j ∧ ρ[j]? = some (some x)) := fun {j x} e => by
    by_cases hj : i = j
    · subst hj
      by_cases hi : i < ρ.length
      · rw [List.getElem?_set_self hi] at e
        cases e
        exact .inl ⟨rfl, rfl, hi⟩
      · rw [List.getElem?_eq_none (by simpa using hi)] at e
        cases e
    · rw [List.getElem?_set_ne hj] at e
      exact .inr ⟨hj, e⟩
  refine ⟨⟨⟨⟨fun z q => ?_, h.re.lv.tb.mono s⟩, by simp [h.re.len], fun j x e => ?_⟩, h.same.trans s, h.lo, fun j z e => ?_, fun j l z f1 f2 => ?_, fun j d e => ?_, by simpa using h.sm, fun j rs e => ?_, fun j z e => ?_, h.pr.set2 (by intro _ z; cases z) fun _ _ _ o => (o.lives hL2).mono s⟩, fun d v r => (r.lives hL2).mono s⟩
  · rcases hL z q with q | q
    · exact h.re.lv.mono s z q
    · rcases List.mem_cons.mp q with rfl | q
      · exact og.there.1
      · exact og.there.2 z q
  · rcases slot e with ⟨rfl, rfl, hi⟩ | ⟨hj, e⟩
    · exact ⟨_, List.getElem?_set_self (by rw [← h.re.len]; exact hi), a, bs, rfl, og'⟩
    · obtain ⟨w, f1, r⟩ := h.re.sl j x e
      exact ⟨w, by rw [List.getElem?_set_ne hj]; exact f1, (r.lives hL2).mono s⟩
  · rcases onG_some e with ⟨_, rfl⟩ | ⟨_, _, q⟩ | q
    · exact h.same.free (n z List.mem_cons_self)
    · exact h.same.free (n z (List.mem_cons_of_mem _ (List.mem_of_getElem? q)))
    · exact h.new j z q
  · rw [List.nodup_cons] at nd
    rcases onG_some f1 with ⟨e1, e2⟩ | ⟨a1, a2, a3⟩ | a1 <;> rcases onG_some f2 with ⟨e3, e4⟩ | ⟨b1, b2, b3⟩ | b1
    · omega
    · exact absurd (e2 ▸ List.mem_of_getElem? b3) nd.1
    · exact (out z (by rw [e2]; exact List.mem_cons_self) (.inr ⟨l, b1⟩)).elim
    · exact absurd (e4 ▸ List.mem_of_getElem? a3) nd.1
    · have q := (List.getElem?_inj (List.getElem?_eq_some_iff.mp a3).1 nd.2).mp (a3.trans b3.symm)
      omega
    · exact (out z (List.mem_cons_of_mem _ (List.mem_of_getElem? a3)) (.inr ⟨l, b1⟩)).elim
    · exact (out z (by rw [e4]; exact List.mem_cons_self) (.inr ⟨j, a1⟩)).elim
    · exact (out z (List.mem_cons_of_mem _ (List.mem_of_getElem? b3)) (.inr ⟨j, a1⟩)).elim
    · exact h.inj j l z a1 b1
  · rcases slot e with ⟨_, z, _⟩ | ⟨hj, e⟩
    · cases z
    · obtain ⟨c, g1, g2, g3⟩ := h.own j d e
      exact ⟨c, (stay e hj).trans g1, by rw [List.getElem?_set_ne hj]; exact g2, (g3.lives hL2).mono s⟩
  · rcases slot e with ⟨rfl, z, hi⟩ | ⟨hj, e⟩
    · cases z
      exact ⟨a, bs, at_, List.getElem?_set_self (by rw [← h.re.len]; exact hi), atv, og'⟩
    · obtain ⟨c, cs, g1, g2, g3, g4⟩ := h.grd j rs e
      exact ⟨c, cs, (stay e hj).trans g1, by rw [List.getElem?_set_ne hj]; exact g2, fun k b q => (stayG e hj).trans (g3 k b q), (g4.lives hL2).mono s⟩
  · rcases onG_some e with ⟨_, rfl⟩ | ⟨_, _, q⟩ | q
    · exact fun lz => out z List.mem_cons_self (.inl lz)
    · exact fun lz => out z (List.mem_cons_of_mem _ (List.mem_of_getElem? q)) (.inl lz)
    · exact h.nl j z q
end
end VV
namespace VV
open PySem PySem.Spec L2
open PyProof.Rows hiding St
def asRows : List D → Option (List (List D))
  | [] => some []
  | .list r :: ds => (asRows ds).map fun q => r :: q
  | _ => none
theorem asRows_eq : ∀ {ds : List D} {rows : List (List D)}, asRows ds = some rows → ds = rows.map PyData.list
  | [], rows, h => by cases h; rfl
  | d :: ds, rows, h => by
    unfold asRows at h
    split at h
    · rename_i e; cases e
    · rename_i e
      obtain ⟨q, hq, rfl⟩ := Option.map_eq_some_iff.mp h
      cases e
      rw [asRows_eq hq]
      rfl
    · cases h
def repF : D → D → Option D
  | .list xs, .int k => if (decide (-(2 ^ 63) ≤ k) && decide (k < 2 ^ 63) && decide (xs.length * k.toNat ≤ sizeLine)) = true then some (.list (List.replicate k.toNat xs).flatten) else none
  | _, _ => none
def rDN2 (K : PySem.W.Frag) (fn : D → D → Option D) : R2 := fun x y H Q => ∃ L dx dy d, LvOk K H L ∧ Rb K H L dx x ∧ Rb K H L dy y ∧ fn dx dy = some d ∧ ∀ H' a, Same H H' → H a = none → Ow K H' (Lp L a) d a → Q (.ref a) H'
section
variable {X : Cx} {W : WX} {a b : Expr} {f g : EF} {pos : Pos}
theorem op_repN : OpR X (binaryOp .Mult) (rDN2 X.K repF) := by
  rintro pn s σ H x y v u Q I rx ry ⟨L, dx, dy, d, lv, bx, by', hf, k⟩
  unfold repF at hf
  split at hf
  · obtain ⟨p, vs, rfl, hp, rl⟩ := bx.lstV
    obtain rfl := by'.intV
    split at hf
    · cases hf
      rename_i hz
      simp only [Bool.and_eq_true, decide_eq_true_eq] at hz
      obtain ⟨⟨h1, h2⟩, h3⟩ := hz
      rw [rl.length] at h3
      exact op_rep pn s σ H _ _ v u Q I rx ry ⟨p, _, vs, rfl, rfl, hp, h1, h2, h3, fun q hq => k _ _ (same_upd hq) hq (.lst upd_same (((rl.rep _).lives (Lp_new hq)).mono (same_upd hq)))⟩
    · cases hf
  · cases hf
theorem sn_rep (ha : SB X W a f) (hb : SB X W b g) : SN X W (.BinOp a .Mult b pos) (eOp repF f g) := (pe_op op_repN ha hb).weak fun σ H Q ⟨L, ρ, re, p⟩ =>
  ⟨L, ρ, re, p.stepB fun dx H1 x s1 rx p1 => ⟨L, ρ, re.mono s1, p1.stepB fun dy H2 y s2 ry p2 => by
    cases hd : repF dx dy with
    | none => rw [hd] at p2; exact p2.elim
    | some d => rw [hd] at p2; exact ⟨L, dx, dy, d, re.lv.mono (s1.trans s2), rx.mono s2, ry, hd, p2⟩⟩⟩
end
section
variable {X : Cx} {W : WX}
theorem lc_loopG {K : PySem.W.Frag} {L : Ad} {σ : St} {ρ : En} {H1 : Hp} {J : It} {S : Hp → Ad → Prop} {ds : List VV.D} {rows : List (List VV.D)} {t : Tg} {c e : EF} {vs : List Nat} {Q : VK} (re : RE K H1 L ρ σ) (it : ItB K ds J S) (hS : S H1 L)
    (hsl : ∀ i ∈ slotsT t, i ∈ vs) (hgo : lcGo t c e (wipeE ρ vs) ds = .ok (rows.map PyData.list)) (hz : rows.length ≤ sizeLine)
    (hQ : ∀ D bs H, (D :: bs).Nodup → (∀ z ∈ D :: bs, H1 z = none) → Same H1 H → Ogr K H (Lps L (D :: bs)) rows D bs → Q (.ref D) H) :
    tLc (fun _ _ R => R J H1) (gT K t) (tT K WF c) (tN K WF e) vs σ H1 Q := by
  intro D hD
  let Iv : Nat → Hp → Prop := fun i H => i ≤ ds.length ∧ Same H1 H ∧ ∃ (bs : List Addr) (got : List (List VV.D)) (rest : List VV.D), (D :: bs).Nodup ∧ (∀ z ∈ bs, H1 z = none) ∧ Ogr K H (Lps L (D :: bs)) got D bs ∧ lcGo t c e (wipeE ρ vs) (ds.drop i) = .ok rest ∧ got.map PyData.list ++ rest = rows.map PyData.list
  have og0 : Ogr K (upd H1 D (.lst [])) (Lps L [D]) [] D [] := ⟨upd_same, rfl, fun k r b h => by simp at h⟩
  refine ⟨fun i m H => m = ds.length - i ∧ Iv i H, ⟨ds.length, by simp, Nat.zero_le _, same_upd hD, [], [], _, by simp, by simp, og0, hgo, rfl⟩, ?_⟩
  rintro i m H ⟨rfl, hi, s1, bs, got, rest, nd, fresh, og, hrest, htot⟩
  have allnew : ∀ z ∈ D :: bs, H1 z = none := fun z hz => by
    cases hz with
    | head => exact hD
    | tail _ hz => exact fresh z hz
  have hL' : ∀ z, Lps L (D :: bs) z → L z ∨ H1 z = none := fun z q => q.elim .inl fun q => .inr (allnew z q)
  have hSn : S H (Lps L (D :: bs)) := it.keep H1 L H _ hS s1 hL'
  have lv' : LvOk K H (Lps L (D :: bs)) := ⟨fun z q => q.elim (fun q => re.lv.mono s1 z q) fun q => by
    cases q with
    | head => exact og.there.1
    | tail _ q => exact og.there.2 z q, re.lv.tb.mono s1⟩
  have reH : RE K H (Lps L (D :: bs)) ρ σ := ⟨lv', re.len, fun j x q => by
    obtain ⟨o, e1, r⟩ := re.sl j x q
    exact ⟨o, e1, (r.lives hL').mono s1⟩⟩
  by_cases hlt : i < ds.length
  · refine .inr ⟨it.go i H _ hSn hlt, Iv (i + 1), fun H' p' => ⟨ds.length - (i + 1), by omega, rfl, p'⟩, fun x H' y => ?_⟩
    obtain ⟨s2, hx⟩ := it.yld i H _ x H' hSn y
    have hdrop : ds.drop i = ds[i] :: ds.drop (i + 1) := List.drop_eq_getElem_cons hlt
    have rx := hx ds[i] (by simp [hlt])
    rw [hdrop] at hrest
    obtain ⟨ρ1, hb, hcase⟩ := lcOne_ok hrest
    refine gT_of ((reH.mono s2).wipe vs) rx hb fun σ1 re1 ch => ?_
    refine ⟨?_, _, ρ1, re1, ?_⟩
    · rw [← wipe_twice (σ := σ)]
      exact wipe_eq ch.ls fun j hj => ch.s j fun q => hj (hsl j q)
    · rcases hcase with ⟨hc, y, r, he, hk, hr⟩ | ⟨hc, hk⟩
      · rw [hc]
        intro H3 s3
        rw [if_pos rfl]
        refine ⟨_, ρ1, re1.mono s3, ?_⟩
        rw [he]
        intro H4 b s4 hb3 ow
        subst hr
        -- the element is a list
        have hy : ∃ row, y = .list row := by
          have e1 : (got.map PyData.list ++ y :: r)[got.length]? = some y := by
            rw [List.getElem?_append_right (by simp)]
            simp
          rw [htot, List.getElem?_map] at e1
          obtain ⟨row, _, e2⟩ := Option.map_eq_some_iff.mp e1
          exact ⟨row, e2.symm⟩
        obtain ⟨row, rfl⟩ := hy
        have s24 : Same H H4 := s2.trans (s3.trans s4)
        have hbH : H b = none := (s2.trans s3).free hb3
        have hb1 : H1 b = none := s1.free hbH
        have og4 := og.mono s24
        have nD : b ≠ D := fun z => og.there.1 (z ▸ hbH)
        have nb : b ∉ bs := fun z => og.there.2 b z hbH
        cases ow with
        | lst hus rl =>
          rename_i us
          have hD4 : H4 D = some (.lst (bs.map V.ref)) := og4.top
          have e5 : ∀ z, Lps L (D :: (bs ++ [b])) z → Lp (Lps L (D :: bs)) b z := fun z q => by
            rcases q with q | q
            · exact .inl (.inl q)
            · rcases List.mem_cons.mp q with rfl | q
              · exact .inl (.inr List.mem_cons_self)
              · rcases List.mem_append.mp q with q | q
                · exact .inl (.inr (List.mem_cons_of_mem _ q))
                · exact .inr (by simpa using q)
          have e6 : ∀ z, Lps L (D :: (bs ++ [b])) z → Lps L (D :: bs) z ∨ H4 z = none ∨ z = b := fun z q => (e5 z q).elim .inl fun q => .inr (.inr q)
          have hL5 : Lps L (D :: (bs ++ [b])) D := .inr List.mem_cons_self
          have og5 : Ogr K H (Lps L (D :: (bs ++ [b]))) got D bs := og.lives fun z q => (e5 z q).imp id fun q => by rw [q]; exact hbH
          have og6 := og5.mono s24
          have lb : bs.length = got.length := og.len.symm
          refine ⟨bs.map V.ref, hD4, ?_, hlt, (s1.trans s24).updN hD hD4 trivial, bs ++ [b], got ++ [row], r, ?_, ?_, ?_, hk, by rw [← htot]; simp⟩
          · have := congrArg List.length htot
            simp only [List.length_append, List.length_map, List.length_cons] at this
            rw [List.length_map]
            omega
          · rw [List.nodup_cons] at nd ⊢
            refine ⟨fun z => ?_, List.nodup_append.mpr ⟨nd.2, by simp, fun u hu v hv z => ?_⟩⟩
            · rcases List.mem_append.mp z with z | z
              · exact nd.1 z
              · exact nD (List.mem_singleton.mp z).symm
            · simp only [List.mem_singleton] at hv
              exact nb (by rw [← hv, ← z]; exact hu)
          · intro z hz'
            rcases List.mem_append.mp hz' with hz' | hz'
            · exact fresh z hz'
            · simp only [List.mem_singleton] at hz'
              rw [hz']
              exact hb1
          · refine ⟨by rw [upd_same, List.map_append]; rfl, by simp [lb], fun k q w hq hw => ?_⟩
            by_cases hkl : k < bs.length
            · rw [List.getElem?_append_left hkl] at hw
              rw [List.getElem?_append_left (by omega)] at hq
              obtain ⟨ws, z1, z2⟩ := og6.row k q w hq hw
              have nw : w ≠ D := fun z => by
                rw [List.nodup_cons] at nd
                exact nd.1 (z ▸ List.mem_of_getElem? hw)
              exact ⟨ws, (upd_ne nw).trans z1, z2.upd hD4 trivial hL5⟩
            · rw [List.getElem?_append_right (by omega)] at hw hq
              have k0 : k - bs.length = 0 := by
                have := (List.getElem?_eq_some_iff.mp hw).1
                simp at this
                omega
              rw [← lb, k0] at hq
              rw [k0] at hw
              cases hw
              cases hq
              exact ⟨us, (upd_ne nD).trans hus, (rl.lives fun z q => .inl (e5 z q)).upd hD4 trivial hL5⟩
      · rw [hc]
        intro H3 s3
        rw [if_neg (by decide)]
        have s23 : Same H H3 := s2.trans s3
        exact ⟨hlt, s1.trans s23, bs, got, rest, nd, fresh, og.mono s23, hk, htot⟩
  · have e : i = ds.length := by omega
    subst e
    rw [List.drop_length] at hrest
    cases hrest
    rw [List.append_nil] at htot
    have eg : got = rows := by
      have inj : ∀ (xs ys : List (List VV.D)), xs.map PyData.list = ys.map PyData.list → xs = ys := by
        intro xs
        induction xs with
        | nil => intro ys h; cases ys with
          | nil => rfl
          | cons _ _ => cases h
        | cons x xs ih => intro ys h; cases ys with
          | nil => cases h
          | cons y ys =>
            have q : PyData.list x = PyData.list y ∧ xs.map PyData.list = ys.map PyData.list := by simpa using h
            rw [ih ys q.2]
            injection q.1 with q1
            rw [q1]
      exact inj _ _ htot
    subst eg
    exact .inl ⟨it.stop _ H _ hSn (Nat.le_refl _), hQ D bs H nd allnew s1 og⟩
def sGrid (i : Nat) (f : EF) : SF := fun ρ => (f ρ).out ρ fun d => match d with
  | .list ds => (match asRows ds with
    | some rows => .nx (ρ.set i (some (.grid (.rows rows))))
    | none => .bad)
  | _ => .bad
theorem lcGo_exc {t : Tg} {c e : EF} {ρ : En} : ∀ (ds : List VV.D) (cl : Str) (fs : List (Str × VV.D)), lcGo t c e ρ ds ≠ .exc cl fs
  | [], cl, fs, h => by cases h
  | d :: ds, cl, fs, h => by
    simp only [lcGo] at h
    unfold lcOne at h
    split at h
    · cases h
    · split at h
      · split at h
        · rename_i k _
          cases hk : lcGo t c e ρ ds with
          | bad => rw [hk] at h; cases h
          | exc c' fs' => exact lcGo_exc ds c' fs' hk
          | ok r => rw [hk] at h; cases h
        · cases h
      · exact lcGo_exc ds cl fs h
      · cases h
theorem ss_gridLc {i : Nat} {x : Str} {pos : Pos} {elt tg iter : Expr} {ifs : List Expr} {scope : Scope} {own : List (Str × Nat)} {py spos : Pos} {fi : IF} {t : Tg} {cf f : EF} (hN : X.N.Nodup) (hi : SI X W tg iter fi) (ok : BlkOk X.N X.env.scope scope own)
    (hg : ∀ (s : Shared) (H : Hp) (C : Addr) (cl : List (Str × Addr)) (fp : List Addr), PG (X.blk s H scope (compEnvC scope cl C X.env) fp) tg (gT X.K t)) (ht : ∀ (s : Shared) (H : Hp) (C : Addr) (cl : List (Str × Addr)) (fp : List Addr), STs (X.blk s H scope (compEnvC scope cl C X.env) fp) ifs cf)
    (he : ∀ (s : Shared) (H : Hp) (C : Addr) (cl : List (Str × Addr)) (fp : List Addr), SN (X.blk s H scope (compEnvC scope cl C X.env) fp) WF elt f) (hsw : swapsWith (.ListComp elt [⟨tg, iter, ifs, 0⟩] scope pos) (some (.Name x py)) spos.line X.env = pure true)
    (hsl : ∀ i ∈ slotsT t, i ∈ own.map (·.2) := by decide) (hy : X.N[i]? = some x := by rfl) (hyl : X.env.scope.names.lookup x = some .local := by rfl) (hc : X.calm = true := by rfl) (hs : ∀ x, foldedSetIterable iter X.env x = pure x := by intro _; rfl) (i1 : i < 1000 := by decide) :
    SS X W (.Assign [.Name x py] (.ListComp elt [⟨tg, iter, ifs, 0⟩] scope pos) spos) (sGrid i (eLc (own.map (·.2)) fi t cf f)) := fun H0 Lo => (ps_setLc (tt := tT X.K WF cf) (te := tN X.K WF f) hc hN hy hyl hsw hi ok hg ht he hs).weak fun D σ H ⟨ρ, α, rst, p⟩ => by
  refine ⟨_, ρ, rst.re, ?_⟩
  unfold sGrid eLc at p
  cases hf : fi ρ with
  | bad => rw [hf] at p; exact p
  | exc c fs => rw [hf] at p; exact fun H' x s' xr => p α σ H' x (rst.mono s') (.of_same s') xr
  | ok ds =>
    rw [hf] at p
    simp only [RL.bind_ok] at p
    cases hg : lcGo t cf f (wipeE ρ (own.map (·.2))) ds with
    | bad => rw [hg] at p; exact p.elim
    | exc c fs => exact (lcGo_exc ds c fs hg).elim
    | ok rs =>
      rw [hg] at p
      simp only [RL.bind_ok] at p
      unfold lstR at p
      split at p
      · rename_i hz
        simp only [Rs.out] at p
        cases ha : asRows rs with
        | none => simp only [ha] at p; exact p.elim
        | some rows =>
          simp only [ha] at p
          have er := asRows_eq ha
          subst er
          rw [List.length_map] at hz
          intro J S H1 s1 it hS
          refine lc_loopG (Q := fun x H => gName i x σ H D.nx) (rst.re.mono s1) it hS hsl hg hz fun A bs H2 nd fresh s2 og => ?_
          obtain ⟨q1, q2⟩ := rst.setGrid (rows := .rows _) i1 (s1.trans s2) nd (fun z m => s1.free (fresh z m)) og
          exact p _ _ H2 q1 q2
      · exact p.elim
end
end VV
namespace VV
open PySem PySem.Spec L2
open PyProof.Rows hiding St
def sFrzG (i : Nat) (f : SF) : SF := fun ρ => match ρ[i]? with
  | some (some (.grid (.rows rows))) => f (ρ.set i (some (.val (rowsD rows))))
  | some (some (.val _)) => f ρ
  | _ => .bad
def gridR (ρ : En) (i : Nat) (k : List (List D) → Rs) : Rs := match ρ[i]? with
  | some (some (.grid (.rows rows))) => k rows
  | _ => .bad
def eGlenIx (i : Nat) (g : EF) : EF := fun ρ => gridR ρ i fun rows => (g ρ).bind fun k => match k with
  | .int j => (match ixN rows.length j with
    | some n => .ok (.int (rows.getD n []).length)
    | none => .bad)
  | _ => .bad
def gridO (ρ : En) (i : Nat) (k : List (List D) → Out) : Out := match ρ[i]? with
  | some (some (.grid (.rows rows))) => k rows
  | _ => .bad
def rowO (rows : List (List D)) (k : Nat → Out) : D → Out
  | .int j => (match ixN rows.length j with
    | some n => k n
    | none => .bad)
  | _ => .bad
def putG (ρ : En) (i : Nat) (rows : List (List D)) (v : D) (n : Nat) : D → Out
  | .int l => (match ixN (rows.getD n []).length l with
    | some m => .nx (ρ.set i (some (.grid (.rows (rows.set n ((rows.getD n []).set m v))))))
    | none => .bad)
  | _ => .bad
def sPutG (i : Nat) (f g e : EF) : SF := fun ρ => (e ρ).out ρ fun v => gridO ρ i fun rows => (f ρ).out ρ (rowO rows fun n => (g ρ).out ρ (putG ρ i rows v n))
section
variable {X : Cx} {W : WX} {sts : List Stmt} {f g ef : EF} {sf : SF} {a b e : Expr} {x : Str} {p px pos tp q : Pos}
theorem ss_frzG (i : Nat) (h : SSs X W sts sf) : SSs X W sts (sFrzG i sf) := fun H0 Lo => (h H0 Lo).weak fun D σ H ⟨ρ, α, rst, p⟩ => by
  unfold sFrzG at p
  cases hi : ρ[i]? with
  | none => simp only [hi] at p; exact p.elim
  | some z =>
    cases z with
    | none => simp only [hi] at p; exact p.elim
    | some z =>
      cases z with
      | own d => simp only [hi] at p; exact p.elim
      | grid g =>
        cases g with
        | stu o d => simp only [hi] at p; exact p.elim
        | gx _ => simp only [hi] at p; exact p.elim
        | rows rows =>
          simp only [hi] at p
          obtain ⟨q1, q2⟩ := rst.frzG hi
          exact ⟨_, _, q1, p.evo q2⟩
      | val d => simp only [hi] at p; exact ⟨_, _, rst, p⟩
      | pin _ => simp only [hi] at p; exact p.elim
      | ownP _ => simp only [hi] at p; exact p.elim
theorem row_at {K : PySem.W.Frag} {L : Ad} {H : Hp} {rows : List (List D)} {a : Addr} {bs : List Addr} {j : Int} {n : Nat} (og : Ogr K H L rows a bs) (hn : ixN rows.length j = some n) : ∃ c us, bs[n]? = some c ∧ L2.atI (bs.map V.ref) j = some (.ref c) ∧ H c = some (.lst us) ∧ RpL K H L (rows.getD n []) us ∧ rows[n]? = some (rows.getD n []) := by
  have lt : n < rows.length := by
    unfold ixN at hn
    split at hn
    · split at hn
      · cases hn; omega
      · cases hn
    · split at hn
      · cases hn; omega
      · cases hn
  have lt2 : n < bs.length := by rw [← og.len]; exact lt
  have er : rows[n]? = some (rows.getD n []) := by
    rw [List.getD_eq_getElem?_getD, List.getElem?_eq_getElem lt]
    rfl
  obtain ⟨us, q1, q2⟩ := og.row n _ _ er (List.getElem?_eq_getElem lt2)
  refine ⟨bs[n], us, List.getElem?_eq_getElem lt2, ?_, q1, q2, er⟩
  unfold L2.atI
  rw [List.length_map, ← og.len, hn]
  simp [lt2]
theorem ss_putG (i : Nat) (hf : SB X W a f) (hg : SB X W b g) (he : SE X W e ef) (hN : X.N[i]? = some x := by rfl) (hv : Vis X.env.scope x := by first | exact Or.inl rfl | exact Or.inr (Or.inl rfl) | exact Or.inr (Or.inr rfl)) (hd : (x == ("__debug__" : Str)) = false := by decide)
    (hcd : (x == ("__classdict__" : Str)) = false := by decide) (hx : PlainIx a := by exact fun _ _ => rfl)
    (ha : ∀ v, assign (.Subscript (.Subscript (.Name x p) a q) b tp) X.env v = (do
      let ov ← holding [v] (eval (.Subscript (.Name x p) a q) X.env)
      let iv ← holding [v, ov] (eval b X.env)
      standAt tp; holding [v, ov, iv] (setItem ov iv v); release [v, ov, iv] []) := by intro _; rfl)
    (hs : swapsWithSole [.Subscript (.Subscript (.Name x p) a q) b tp] e pos.line X.env = pure false := by rfl) (hw : swappedStores [.Subscript (.Subscript (.Name x p) a q) b tp] e X.env = pure none := by rfl)
    (h1 : (assignEach [.Subscript (.Subscript (.Name x p) a q) b tp] X.env).map (·.2) = [assign (.Subscript (.Subscript (.Name x p) a q) b tp) X.env] := by rfl) :
    SS X W (.Assign [.Subscript (.Subscript (.Name x p) a q) b tp] e pos) (sPutG i f g ef) := fun H0 Lo =>
  (ps_asg he (pg_sub (pe_ix ix_list (pe_var hN hv hd hcd) hf hx) hg set_list ha) hs hw h1).weak fun D σ H ⟨ρ, α, rst, p⟩ => by
  refine ⟨_, ρ, rst.re, p.expr rst fun dv H1 v s r rst1 p1 => ?_⟩
  unfold gridO at p1
  cases hi : ρ[i]? with
  | none => simp only [hi] at p1; exact p1.elim
  | some z =>
    cases z with
    | none => simp only [hi] at p1; exact p1.elim
    | some z =>
      cases z with
      | own d => simp only [hi] at p1; exact p1.elim
      | val d => simp only [hi] at p1; exact p1.elim
      | pin _ => simp only [hi] at p1; exact p1.elim
      | ownP _ => simp only [hi] at p1; exact p1.elim
      | grid g =>
       cases g with
       | stu o d => simp only [hi] at p1; exact p1.elim
       | gx _ => simp only [hi] at p1; exact p1.elim
       | rows rows =>
        simp only [hi] at p1
        obtain ⟨c0, bs, e1, e2, e3, og⟩ := rst1.grd i _ hi
        have og : Ogr X.K H1 (Lv Lo α) rows c0 bs := og
        refine ⟨.ref c0, e2, _, ρ, rst1.re, p1.exprB rst1 fun dj H2 j s2 rj rst2 p2 => ?_⟩
        have og2 := og.mono s2
        unfold rowO at p2
        cases dj with
        | int j' =>
          obtain rfl := rj.intV
          simp only at p2
          cases hn : ixN rows.length j' with
          | none => simp only [hn] at p2; exact p2.elim
          | some n =>
            simp only [hn] at p2
            obtain ⟨c, us, q1, q2, q3, q4, q5⟩ := row_at og2 hn
            refine ⟨c0, _, j', .ref c, rfl, rfl, SqL.of og2.top, q2, _, ρ, rst2.re, p2.exprB rst2 fun dl H3 l s3 rl rst3 p3 => ?_⟩
            unfold putG at p3
            cases dl with
            | int l' =>
              obtain rfl := rl.intV
              simp only at p3
              cases hm : ixN (rows.getD n []).length l' with
              | none => simp only [hm] at p3; exact p3.elim
              | some m =>
                simp only [hm] at p3
                have q33 := s3 _ _ q3
                refine ⟨c, us, l', m, rfl, rfl, q33, by rw [← q4.length]; exact hm, ?_⟩
                obtain ⟨w1, w2⟩ := rst3.writeG (r' := (rows.getD n []).set m dv) (us' := us.set m v) hi e1 e2 e3 (og2.mono s3) q1 q33 (RpL.set ((r.mono s2).mono s3) m (q4.mono s3))
                exact p3 α σ _ w1 w2
            | _ => exact p3.elim
        | _ => exact p2.elim
end
end VV
namespace VV
open PySem PySem.Spec L2
open PyProof.Rows hiding St
def stepD (lo c : Int) (n : Nat) : List D := (List.range n).map fun (i : Nat) => PyData.int (lo + (i : Int) * c)
def rng3 : List D → Option (List D)
  | [.int i, .int j, .int c] => if (decide (c ≠ 0) && decide (c.natAbs < 1073741824) && Builtin.Range.small i j c && decide (0 ≤ Builtin.Range.rangeSize i j c)) = true then some (stepD i c (Builtin.Range.rangeSize i j c).toNat) else none
  | _ => none
def iRange3 (fs : List EF) : IF := fun ρ => (evA fs ρ).items rng3
theorem stepD_length (lo c : Int) (n : Nat) : (stepD lo c n).length = n := by simp [stepD]
theorem itb_step {K : PySem.W.Frag} {lo c : Int} {n : Nat} : ItS K (stepD lo c n) (Itc lo c n) (fun _ _ => True) where
  go := fun i H L _ hi => by rw [stepD_length] at hi; exact hi
  stop := fun i H L _ hi => by rw [stepD_length] at hi; exact hi
  yld := fun i H L x H' _ ⟨e, ex⟩ => by
    subst e ex
    refine ⟨Same.refl _, fun d hd => ?_⟩
    unfold stepD at hd
    rw [List.getElem?_map] at hd
    obtain ⟨k, hk, rfl⟩ := Option.map_eq_some_iff.mp hd
    have ek : k = i := by
      have := List.getElem?_eq_some_iff.mp hk
      obtain ⟨h1, h2⟩ := this
      simpa using h2.symm
    subst ek
    exact .int _
  keep := fun H L H' L' _ s l => trivial
  evo := fun H L H' L' _ _ => trivial
section
variable {X : Cx} {W : WX} {a b c tg : Expr} {fs : List EF} {p pos : Pos}
theorem rng3_ok {K : PySem.W.Frag} {H : Hp} {L : Ad} {ds es : List D} {vs : List V} (h : rng3 ds = some es) (r : RbL K H L ds vs) : ∃ (i j c : Int) (n : Nat), vs = [.int i, .int j, .int c] ∧ RgC i j c n ∧ es = stepD i c n := by
  unfold rng3 at h
  split at h
  · split at h
    · rename_i i j c hz
      cases h
      simp only [Bool.and_eq_true, decide_eq_true_eq] at hz
      obtain ⟨⟨⟨h1, h2⟩, h3⟩, h4⟩ := hz
      cases r with
      | cons r1 r2 =>
        cases r2 with
        | cons r2 r3 =>
          cases r3 with
          | cons r3 r4 =>
            cases r4
            refine ⟨i, j, c, _, by rw [r1.intV, r2.intV, r3.intV], ⟨h1, h2, h3, ?_⟩, rfl⟩
            omega
    · cases h
  · cases h
theorem sis_range3 (hm : X.mg "range" = none) (ha : SBA X W [a, b, c] fs) (hg : Gl X "range" := by rfl) (hs : starEach [a, b, c] X.env = (false, eval a X.env) :: starEach [b, c] X.env := by rfl) (hpl : (backTo pos (starEach [b, c] X.env)).any (·.1) = false := by rfl) :
    SIS X W tg (.Call (.Name "range" p) [a, b, c] [] pos) (iRange3 fs) := (pi_range3 hg hm ha hs hpl).weak fun σ H R ⟨L, ρ, re, q⟩ => by
  refine ⟨L, ρ, re, ?_⟩
  unfold iRange3 RL.items at q
  cases hf : evA fs ρ with
  | bad => rw [hf] at q; exact q.elim
  | exc c gs => rw [hf] at q; exact q
  | ok ds =>
    rw [hf] at q
    dsimp only at q
    intro H1 vs s1 r
    cases hz : rng3 ds with
    | none => simp only [hz] at q; exact q.elim
    | some es =>
      simp only [hz] at q
      obtain ⟨i, j, k, n, rfl, rg, rfl⟩ := rng3_ok hz r
      exact ⟨i, j, k, n, rfl, rg, q _ _ H1 s1 itb_step trivial⟩
end
def flatD : D → Bool
  | .none => true
  | .bool _ => true
  | .int _ => true
  | .str _ => true
  | _ => false
def signOf (w : Str) : Option Nat := match w.cps.toList with
  | [c] => some c
  | _ => none
theorem signOf_ok {w : Str} {c : Nat} (h : signOf w = some c) : w = ⟨#[c]⟩ := by
  obtain ⟨cps⟩ := w
  unfold signOf at h
  split at h
  · rename_i e
    cases h
    have : cps = #[c] := by
      have := congrArg List.toArray e
      simpa using this
    rw [this]
  · cases h
def memF : D → D → Option Bool
  | x, .list ds => if (SeqAt.shaped x && SeqAt.shaped (.list ds)) = true then some (ds.any fun z => PyData.eqv z x) else none
  | x, .tuple ds => if (flatD x && ds.all flatD) = true then some (ds.any fun z => PyData.eqv z x) else none
  | .str w, .str z => (signOf w).map fun c => decide (c ∈ z.cps.toList)
  | _, _ => none
def inF : D → D → Option D := fun x y => (memF x y).map PyData.bool
theorem inF_b {x y d : D} (h : inF x y = some d) : ∃ b, d = .bool b := by
  unfold inF at h
  obtain ⟨b, _, rfl⟩ := Option.map_eq_some_iff.mp h
  exact ⟨b, rfl⟩
theorem flat_ok {K : PySem.W.Frag} {H : Hp} {L : Ad} {d : D} {v : V} (r : Rb K H L d v) (h : flatD d = true) : flatV v = true := by
  cases d with
  | none => rw [r.nonV]; rfl
  | bool b => rw [r.blV]; rfl
  | int i => rw [r.intV]; rfl
  | str x => rw [r.strV]; rfl
  | _ => cases h
theorem eqV_ok {K : PySem.W.Frag} {H : Hp} {L : Ad} {d e : D} {v w : V} (r : Rb K H L d v) (q : Rb K H L e w) (h : flatD d = true) (g : flatD e = true) : eqV v w = PyData.eqv d e := by
  cases d with
  | none =>
    rw [r.nonV]
    cases e with
    | none => rw [q.nonV]; rfl
    | bool b => rw [q.blV]; rfl
    | int i => rw [q.intV]; rfl
    | str x => rw [q.strV]; rfl
    | _ => cases g
  | bool c =>
    rw [r.blV]
    cases e with
    | none => rw [q.nonV]; rfl
    | bool b => rw [q.blV]; simp [eqV, PyData.eqv]
    | int i => rw [q.intV]; simp [eqV, PyData.eqv]
    | str x => rw [q.strV]; rfl
    | _ => cases g
  | int c =>
    rw [r.intV]
    cases e with
    | none => rw [q.nonV]; rfl
    | bool b => rw [q.blV]; simp [eqV, PyData.eqv]
    | int i => rw [q.intV]; simp [eqV, PyData.eqv]
    | str x => rw [q.strV]; rfl
    | _ => cases g
  | str c =>
    rw [r.strV]
    cases e with
    | none => rw [q.nonV]; rfl
    | bool b => rw [q.blV]; rfl
    | int i => rw [q.intV]; rfl
    | str x => rw [q.strV]; simp [eqV, PyData.eqv]
    | _ => cases g
  | _ => cases h
theorem inV_ok {K : PySem.W.Frag} {H : Hp} {L : Ad} {x : D} {v : V} (rx : Rb K H L x v) (hx : flatD x = true) : ∀ {ds : List D} {vs : List V}, RpL K H L ds vs → ds.all flatD = true → inV v vs = (ds.any fun z => PyData.eqv z x) ∧ vs.all flatV = true
  | _, _, .nil, _ => ⟨rfl, rfl⟩
  | d :: ds, w :: vs, .cons r rl, h => by
    have h2 : flatD d = true ∧ ds.all flatD = true := by simpa using h
    obtain ⟨i1, i2⟩ := inV_ok rx hx rl h2.2
    have e := eqV_ok r.rb rx h2.1 hx
    constructor
    · unfold inV at i1 ⊢
      rw [List.any_cons, List.any_cons, e, i1]
    · rw [List.all_cons, flat_ok r.rb h2.1, i2]
      rfl
section
variable {X : Cx} {k : Nat}
theorem op_inX (hr : Room k X.A) : CmD X .In inF := by
  rintro pn s σ H x y v u Q I rx ry ⟨L, dx, dy, d, lv, bx, by', hf, go⟩
  unfold inF at hf
  obtain ⟨b, hb, rfl⟩ := Option.map_eq_some_iff.mp hf
  have un := hr.un
  unfold memF at hb
  split at hb
  · split at hb
    · rename_i hz
      cases hb
      rw [Bool.and_eq_true] at hz
      exact op_inD (by omega) pn s σ H _ _ v u Q I rx ry ⟨dx, _, bx.dp (SeqAt.canLay_of_shaped hz.1), by'.dp (SeqAt.canLay_of_shaped hz.2), hz.1, hz.2, go H _ (Same.refl H) (.bl _)⟩
    · cases hb
  · split at hb
    · rename_i hz
      cases hb
      rw [Bool.and_eq_true] at hz
      obtain ⟨p, vs, rfl, hp, rl⟩ := by'.tupV
      obtain ⟨e1, e2⟩ := inV_ok bx hz.1 rl hz.2
      refine op_in_seq pn s σ H _ _ v u Q I rx ry ⟨p, vs, rfl, .inr (SqT.of hp), flat_ok bx hz.1, e2, go H _ (Same.refl H) ?_⟩
      rw [if_neg (by decide), e1]
      exact .bl _
    · cases hb
  · obtain ⟨c, hc, rfl⟩ := Option.map_eq_some_iff.mp hb
    obtain rfl := signOf_ok hc
    obtain rfl := bx.strV
    obtain rfl := by'.strV
    exact op_in_sign pn s σ H _ _ v u Q I rx ry ⟨_, _, rfl, rfl, go H _ (Same.refl H) (.bl _)⟩
  · cases hb
end
end VV
namespace VV
open PySem PySem.Spec L2
open PyProof.Rows hiding St
abbrev Chk := PySem.W.Frag → Bool
def obsC (n : Nat) (fa : List He.Fa) (fn : List He.DefD) (cs : List Chk) (g : Addr → Option Obj) : AlV := (He.obsD fa fn (He.frG g (He.asD g n)), cs.all fun c => c (He.frG g (He.asD g n)))
def hookC (n : Nat) (fa : List He.Fa) (fn : List He.DefD) (cs : List Chk) : PySem.W.Hook where
  α := AlV
  obs := fun s => obsC n fa fn cs s.heap.get?
  val := fun _ => (He.valD fn, true)
  says := fun _ h => ∃ K : PySem.W.Frag, K.In h ∧ (He.SaysD fa fn K ∧ ∀ c ∈ cs, c K = true)
  of := fun _ _ e => ⟨_, He.frG_in, congrArg (fun z : AlV => z.1) e, fun c hc => List.all_eq_true.mp (congrArg (fun z : AlV => z.2) e) c hc⟩
  keeps := fun _ _ _ told kept => told.elim fun K h => ⟨K, PySem.W.Frag.In.keeps h.1 kept, h.2⟩
theorem obsC_eq {n : Nat} {fa : List He.Fa} {fn : List He.DefD} {cs : List Chk} {g : Addr → Option Obj} {s : Shared} (h : ∀ a, g a = s.heap.get? a) : obsC n fa fn cs g = (hookC n fa fn cs).obs s := by
  obtain rfl : g = s.heap.get? := funext h
  rfl
theorem chk_at {K : PySem.W.Frag} {cs : List Chk} (h : ∀ c ∈ cs, c K = true) (i : Nat) {c : Chk} (e : cs[i]? = some c) : c K = true := h c (List.mem_of_getElem? e)
def dvD : D → He.Dv
  | .bool b => .bl b
  | .int i => .int i
  | .str x => .str x
  | _ => .non
structure TupC (K : PySem.W.Frag) (mg : Str → Option Value) (x : Str) (ds : List D) : Prop where
  glo : mg x = some (.ref (He.ga K x))
  flat : ds.all flatD = true
  lies : ∀ H : Hp, ∃ vs, SqT K H (He.ga K x) vs ∧ ∀ L : Ad, RpL K H L ds vs
theorem dv_rp {K : PySem.W.Frag} {H : Hp} {L : Ad} : ∀ {ds : List D}, ds.all flatD = true → RpL K H L ds ((ds.map dvD).map (He.Dv.v K))
  | [], _ => .nil
  | d :: ds, h => by
    have h2 : flatD d = true ∧ ds.all flatD = true := by simpa using h
    refine .cons ?_ (dv_rp h2.2)
    cases d with
    | none => exact .non
    | bool b => exact .bl b
    | int i => exact .int i
    | str x => exact .str x
    | _ => exact absurd h2.1 (by simp [flatD])
theorem tupC_of {K : PySem.W.Frag} {mg : Str → Option Value} {x : Str} {ds : List D} (g : mg x = some (.ref (He.ga K x))) (f : ds.all flatD = true) (h : He.tupB K x (ds.map dvD) = true) : TupC K mg x ds := ⟨g, f, fun H => ⟨_, He.tupB_ok h H, fun L => dv_rp f⟩⟩
def inCF (neg : Bool) (ds : List D) : D → Option D := fun x => if flatD x = true then some (.bool (if neg then !(ds.any fun z => PyData.eqv z x) else ds.any fun z => PyData.eqv z x)) else none
section
variable {X : Cx} {W : WX} {a : Expr} {f : EF} {x : Str} {p pos : Pos} {ds : List D}
theorem tInC_of {neg : Bool} (T : TupC X.K X.mg x ds) : ∀ σ H Q, tE X.K W (eUn (inCF neg ds) f) σ H Q → tOp (rIn X.K neg) (tB X.K W f) (tC (.ref (He.ga X.K x))) σ H Q := fun σ H Q ⟨L, ρ, re, q⟩ =>
  ⟨L, ρ, re, q.step fun dx H1 v s1 rx p1 => by
    unfold inCF at p1
    split at p1
    · rename_i hz
      obtain ⟨vs, sq, rl⟩ := T.lies H1
      obtain ⟨e1, e2⟩ := inV_ok rx hz (rl L) T.flat
      refine ⟨_, vs, rfl, .inr sq, flat_ok rx hz, e2, ?_⟩
      rw [e1]
      exact p1 H1 _ (Same.refl H1) (.bl _)
    · exact p1.elim⟩
theorem tInCT_of {neg : Bool} (T : TupC X.K X.mg x ds) : ∀ σ H Q, tT X.K W (eUn (inCF neg ds) f) σ H Q → tOp (rIn X.K neg) (tB X.K W f) (tC (.ref (He.ga X.K x))) σ H fun v H' => ∃ b, v = .bl b ∧ Q b H' := fun σ H Q ⟨L, ρ, re, p⟩ =>
  tInC_of (W := W) T σ H _ ⟨L, ρ, re, by
    cases hr : eUn (inCF neg ds) f ρ with
    | bad => rw [hr] at p; exact p
    | exc c fs => rw [hr] at p; exact p
    | ok d =>
      rw [hr] at p
      cases d with
      | bool b => exact fun H' v s r => ⟨b, r.blV, p H' s⟩
      | _ => exact p.elim⟩
theorem st_inCn (T : TupC X.K X.mg x ds) (ha : SB X W a f) (hg : Gl X x := by rfl) (hd : (x == ("__debug__" : Str)) = false := by decide) (hm : behindInMarks .NotIn (.Name x p) = false := by rfl) : ST X W (.Compare a [.NotIn] [.Name x p] pos) (eUn (inCF true ds) f) := (pt_cmpR op_notIn_seq ha (pe_glob (v := .ref (He.ga X.K x)) hg T.glo rfl hd) hm).weak (tInCT_of T)
end
end VV
namespace VV
open PySem PySem.Spec L2
open PyProof.Rows hiding St
section
variable {P : Program} {w : World} {A : Around} {E : Value → Shared → Prop}
theorem far {a n m : Nat} (h : a < n) (e : m = n + 1) : a ≠ m := by omega
end
section
variable {X : Cx} {W : WX}
end
end VV
namespace VV
open PySem PySem.Spec L2
open PyProof.Rows hiding St
def sRn (i : Nat) : SF := fun ρ => match ρ[i]? with
  | some (some (.own d)) => .rn d
  | _ => .bad
theorem same_none {H H' : Hp} {a : Addr} (s : Same H H') (n : H' a = none) : H a = none := s.fre _ n
section
variable {X : Cx} {W : WX} {x : Str} {p pos : Pos} {e : Expr} {ef : EF}
theorem ss_rn (i : Nat) (hN : X.N[i]? = some x := by rfl) (hv : Vis X.env.scope x := by first | exact Or.inl rfl | exact Or.inr (Or.inl rfl) | exact Or.inr (Or.inr rfl)) (hd : (x == ("__debug__" : Str)) = false := by decide)
    (hcd : (x == ("__classdict__" : Str)) = false := by decide) : SS X W (.Return (some (.Name x p)) pos) (sRn i) := fun H0 Lo => (ps_ret (pe_var hN hv hd hcd)).weak fun D σ H ⟨ρ, α, rst, p⟩ => by
  unfold sRn at p
  cases hi : ρ[i]? with
  | none => simp only [hi] at p; exact p.elim
  | some q =>
    rcases q with _ | q
    · simp only [hi] at p; exact p.elim
    cases q with
    | own d =>
      simp only [hi] at p
      obtain ⟨a, e1, e2, ob⟩ := rst.own i d hi
      exact ⟨.ref a, e2, p H a rst.same (rst.new i a e1) (ob.lives fun z q => .inl (q.elim .inl fun y => .inr ⟨i, y ▸ e1⟩))⟩
    | _ => simp only [hi] at p; exact p.elim
end
def runW (n N : Nat) (f : SF) : List D → Rs := fun ds => if ds.length = n then
  (match f (ds.map (fun d => some (.val d)) ++ List.replicate (N - n) none) with
    | .rn d => .ok d
    | .exc c fs _ => .exc c fs
    | _ => .bad) else .bad
def spN (K : PySem.W.Frag) (n : Nat) (f : List D → Rs) : Sp := fun vs H Q E => ∃ L ds, LvOk K H L ∧ ds.length = n ∧ RpL K H L ds vs ∧ match f ds with
  | .ok d => ∀ H' a, Same H H' → H a = none → Ow K H' (Lp L a) d a → Q (.ref a) H'
  | .exc c fs => ∀ H' x, Same H H' → XR K H' L fs x → E (.ref (He.ga K c)) x H'
  | .bad => False
structure DnN (P : Program) (w : World) (K : PySem.W.Frag) (mg : Str → Option Value) (base : Heap) (x : Str) (k n : Nat) (f : List D → Rs) : Prop where
  ex : ∃ (fa : Addr) (fd : FuncData) (ps : List Str), mg x = some (.ref fa) ∧ FnOk P w K mg base (L2.CX P w) k fa fd ps (spN K n f) ∧ PySem.W.keepIn K (.ref fa) = true ∧ Binds K fd ps []
theorem fn_semN {P : Program} {w : World} {K : PySem.W.Frag} {mg : Str → Option Value} {base : Heap} {x qual : Str} {params : Arguments} {body : List Stmt} {scope : Scope} {dvs : List V} {kws : List (Str × V)} {fa : Addr} {fd : FuncData} {N ps : List Str} {k : Nat} {f : SF}
    (F : FunD K x qual params body scope dvs kws fa fd) (S : FnScope N ps scope)
    (hb : ∀ (cdv : Value) (A : Around) (outer : List Env) (s : Shared) (H : Hp) (E : XK), Room k (A.deeper (envOfC qual scope s.heap.objs.size fa cdv)) → Takes (cxOf (L2.CX P w) P w K mg base N qual scope fa cdv A outer s H E) (fun cls d _ H => E cls d H) →
      PassesOwn (model P w) (A.deeper (envOfC qual scope s.heap.objs.size fa cdv)) (envOfC qual scope s.heap.objs.size fa cdv) (cxOf (L2.CX P w) P w K mg base N qual scope fa cdv A outer s H E).xe →
      SSs (cxOf (L2.CX P w) P w K mg base N qual scope fa cdv A outer s H E) (fun cls d _ H => E cls d H) body f) (small : N.length ≤ 1000 := by decide) (less : ps.length ≤ N.length := by decide) :
    FnOk P w K mg base (L2.CX P w) (k + 1) fa fd ps (spN K ps.length (runW ps.length N.length f)) := by
  refine fn_gen F S hb small less fun vs H Q E ⟨L, ds, lv, hl, r, h⟩ => ⟨L, ds, lv, hl, r, ?_⟩
  unfold runW at h
  rw [if_pos hl] at h
  cases ho : f (ds.map (fun d => some (Sl.val d)) ++ List.replicate (N.length - ps.length) none) with
  | rn d => rw [ho] at h; exact h
  | exc c fs ρ => rw [ho] at h; exact h
  | _ => rw [ho] at h; exact h.elim
section
variable {X : Cx} {W : WX} {x : Str} {p pos : Pos} {e : Expr} {es : List Expr} {fs : List EF}
theorem evA_len : ∀ (gs : List EF) (ρ : En) (ds : List D), evA gs ρ = .ok ds → ds.length = gs.length
  | [], ρ, ds, h => by cases h; rfl
  | g :: gs, ρ, ds, h => by
    rw [evA_cons] at h
    cases hg : g ρ with
    | ok d =>
      rw [hg] at h
      cases hq : evA gs ρ with
      | ok es => rw [hq] at h; cases h; simp [evA_len gs ρ es hq]
      | _ => rw [hq] at h; cases h
    | _ => rw [hg] at h; cases h
theorem sn_callN {k n : Nat} {g : List D → Rs} (F : DnN X.prog X.w X.K X.mg X.base x k n g) (hr : Room k X.A) (tk : Takes X W) (ha : SA X W (e :: es) fs) (hlen : (e :: es).length = n := by rfl) (hfl : fs.length = n := by rfl) (hg : Gl X x := by rfl) (hdb : (x == ("__debug__" : Str)) = false := by decide)
    (he : starEach (e :: es) X.env = (false, eval e X.env) :: starEach es X.env := by rfl) (hpl : (backTo pos (starEach es X.env)).any (·.1) = false := by rfl) : SN X W (.Call (.Name x p) (e :: es) [] pos) (eCall g fs) := by
  obtain ⟨fa, fd, ps, hm, F, hk, hb⟩ := F.ex
  refine (pe_callS (E := WE W) F hr hg hm hk hb (fun σ => passAt tk σ) ha hdb he hpl).weak fun σ H Q ⟨L, ρ, re, p⟩ => ⟨L, ρ, re, ?_⟩
  unfold eCall at p
  cases hA : evA fs ρ with
  | bad => rw [hA] at p; exact p
  | exc c fs => rw [hA] at p; exact p
  | ok ds =>
    rw [hA] at p
    simp only [RL.bind_ok] at p
    refine fun H1 vs s1 r => ⟨L, ds, re.lv.mono s1, (evA_len fs ρ ds hA).trans hfl, r, ?_⟩
    cases hg : g ds with
    | bad => rw [hg] at p; exact p.elim
    | exc c fs => rw [hg] at p; exact fun H' x s2 xr => p H' x (s1.trans s2) xr
    | ok d => rw [hg] at p; exact fun H' a s2 n ow => p H' a (s1.trans s2) (same_none s1 n) ow
end
end VV
namespace VV
open PySem PySem.Spec L2
open PyProof.Rows hiding St
section
variable {X : Cx}
structure Land (X : Cx) (pins : List (Addr × Obj)) (σ : St) (H : Hp) (a : Addr) (cls : Value) (d : Option Addr) (B : Heap) (t s : Shared) : Prop where
  inv : Inv X pins σ H t
  ground : ∀ b o, t.heap.get? b = some o → b ∉ frs X.stack → B.get? b = some o
  up : t.heap.UpToSlots s.heap
  fly : HandSPX.FlyingZ B (X.env :: X.outer) a (Zc cls d) s.heap
  new : H a = none
  os : s.os = t.os
  bare : AllBare s.gens
variable {pins : List (Addr × Obj)} {σ : St} {H : Hp} {a : Addr} {cls : Value} {d : Option Addr} {B : Heap} {t s : Shared} {D : Ends}
theorem Land.here (l : Land X pins σ H a cls d B t s) : Inv X pins σ H s := l.inv.landed l.ground l.fly.1 l.up l.os l.bare
theorem Land.inside (l : Land X pins σ H a cls d B t s) (hf : X.env.frame = some X.env.locals) : ∃ oe, s.heap.get? a = some oe ∧ Zc cls d oe ∧ (∃ vs, oe.data = .fields vs) ∧ Inv (X.suite a ((a, oe) :: (X.pn ++ pins))) [] σ H s := by
  obtain ⟨oe, vs, at_, z, data⟩ := l.fly.there
  have off : a ∉ frs (X.env :: X.outer) := by
    intro m
    obtain ⟨_, o, at2, no⟩ := l.fly.2.2.1.mem m
    obtain rfl := Option.some.inj (at_.symm.trans at2)
    exact no _ data
  refine ⟨oe, at_, z, ⟨vs, data⟩, l.here.suite at_ data l.new (fun e => off ?_) fun m => off ?_⟩
  · exact List.mem_filterMap.mpr ⟨X.env, by simp, e ▸ hf⟩
  · obtain ⟨en, m1, m2⟩ := List.mem_filterMap.mp m
    exact List.mem_filterMap.mpr ⟨en, List.mem_cons_of_mem _ m1, m2⟩
theorem Land.on (l : Land X pins σ H a cls d B t s) {W : WX} (hs : X.stack = X.env :: X.outer) (hf : X.env.frame = some X.env.locals) (tk : Takes X W) (w : W cls d σ H) : wpAny (model X.prog X.w) X.A (handleBy (.ref a) X.env []) (SP X pins D) X.xe s := by
  apply wpAny_handleBy_nil
  have last : wpAny (model X.prog X.w) X.A (setFlight (.ref a) X.env.frame) (fun _ s4 => wpAny (model X.prog X.w) X.A (throw (.ref a) : Sem Flow) (SP X pins D) X.xe s4) X.xe s := by
    rw [hf]
    apply HandSPX.setFlight_upZ l.fly
    intro h held up
    exact wpAny_throw (tk _ _ ⟨a, B, t, pins, σ, H, cls, d, rfl, l.inv, l.ground, l.up.trans up, .inr (.inr (hs ▸ held)), l.new, l.os, l.bare, w⟩)
  obtain ⟨oe, vs, T, oT, ts, at_, z, data, one, _⟩ := l.fly.2.2.2
  unfold PySem.passOn
  refine wpAny_bind (wpAny_field at_ data one ?_)
  rw [if_neg (by simp)]
  first
    | exact wpAny_bind (wpAny_pure (wpAny_bind last))
    | exact wpAny_bind last
def HdOk (X : Cx) (h : ExceptHandler) (c : Value) (ts : Addr → Value → Option Addr → TS) : Prop := ∀ (rest : List ExceptHandler) (pins : List (Addr × Obj)) (σ : St) (H : Hp) (a : Addr) (cls : Value) (d : Option Addr) (B : Heap) (t s : Shared) (D : Ends) (b : Bool),
  Land X pins σ H a cls d B t s → PySem.W.exmOne X.K cls c = some b → (b = true → ts a cls d D σ H) → (b = false → wpAny (model X.prog X.w) X.A (handleBy (.ref a) X.env rest) (SP X pins D) X.xe s) → wpAny (model X.prog X.w) X.A (handleBy (.ref a) X.env (h :: rest)) (SP X pins D) X.xe s
variable {x n : Str} {c : Value} {i : Nat} {suite : List Stmt} {b₀ : Stmt} {np pos' : Pos} {ts : Addr → Value → Option Addr → TS}
def Ends.off (D : Ends) (i : Nat) : Ends := { nx := fun σ' H' => D.nx (σ'.set i none) H', rt := D.rt, bk := fun σ' H' => D.bk (σ'.set i none) H', ct := fun σ' H' => D.ct (σ'.set i none) H' }
inductive Hds (X : Cx) : List ExceptHandler → List (Value × (Addr → Value → Option Addr → TS)) → Prop
  | nil : Hds X [] []
  | cons {h : ExceptHandler} {c : Value} {ts : Addr → Value → Option Addr → TS} {hs : List ExceptHandler} {l : List (Value × (Addr → Value → Option Addr → TS))} : HdOk X h c ts → Hds X hs l → Hds X (h :: hs) ((c, ts) :: l)
theorem Hds.take {hds : List ExceptHandler} {cs : List (Value × (Addr → Value → Option Addr → TS))} {W : WX} (hk : Hds X hds cs) (hs : X.stack = X.env :: X.outer) (hf : X.env.frame = some X.env.locals) (tk : Takes X W) (l : Land X pins σ H a cls d B t s) :
    wMany X.K W D cs cls d σ H → wpAny (model X.prog X.w) X.A (handleBy (.ref a) X.env hds) (SP X pins D) X.xe s := by
  induction hk with
  | nil => exact fun w => l.on hs hf tk w
  | cons h1 _ ih =>
    rintro ⟨b, hb, yes, no⟩
    exact h1 _ _ _ _ _ _ _ _ _ _ _ b l hb (fun e => yes e a l.new) fun e => ih (no e)
end
end VV
namespace VV
open PySem PySem.Spec L2
open PyProof.Rows hiding St
structure Cl where
  slot : Option Nat
  sub : Str → Option Bool
  suite : Str → SF
def hitAs (i : Nat) (f : SF) (fs : List (Str × D)) (ρ : En) : Out := match fs, ρ[i]? with
  | [], some _ => Out.clr i (f (ρ.set i none))
  | _, _ => .bad
def Cl.hit (k : Cl) (c : Str) (fs : List (Str × D)) (ρ : En) : Out := match k.slot with
  | none => Out.suf (k.suite c ρ)
  | some i => hitAs i (k.suite c) fs ρ
section
variable {X : Cx} {W : WX} {x n : Str} {i : Nat} {body suite : List Stmt} {b₀ : Stmt} {np pos pos' : Pos} {fb fh : SF} {gh : Str → SF} {sub : Str → Option Bool} {h : ExceptHandler} {hds : List ExceptHandler} {k : Cl} {ks : List Cl}
abbrev Tk := Value × (Addr → Value → Option Addr → TS)
def Fit (X : Cx) (W : WX) (H0 : Hp) (Lo : Ad) (k : Cl) (q : Tk) : Prop := (∀ c b, k.sub c = some b → PySem.W.exmOne X.K (.ref (He.ga X.K c)) q.1 = some b) ∧
  ∀ (D : Ends) (c : Str) (fs : List (Str × VV.D)) (ρ : En) (α : Nat → Option Addr) (σ : St) (H : Hp) (xo : Option Addr) (a : Addr), k.sub c = some true → RSt X.K H0 Lo ρ α σ H → XR X.K H (Lv Lo α) fs xo → H a = none → PostS X.K H0 Lo W H α (k.hit c fs ρ) D → q.2 a (.ref (He.ga X.K c)) xo D σ H
def SHd (X : Cx) (h : ExceptHandler) (k : Cl) : Prop := ∀ (H0 : Hp) (Lo : Ad), ∃ q : Tk, HdOk X h q.1 q.2 ∧ ∀ W, Fit X W H0 Lo k q
inductive SHs (X : Cx) : List ExceptHandler → List Cl → Prop
  | nil : SHs X [] []
  | cons {h : ExceptHandler} {k : Cl} {hds : List ExceptHandler} {ks : List Cl} : SHd X h k → SHs X hds ks → SHs X (h :: hds) (k :: ks)
end
end VV
namespace VV
open PySem PySem.Spec L2
open PyProof.Rows hiding St
mutual
def bareD : D → D
  | .tuple ds => .tuple (bareL ds)
  | .list ds => .list (bareL ds)
  | .dict [(.none, .tuple ds)] => .tuple (bareL ds)
  | d => d
def bareL : List D → List D
  | [] => []
  | d :: ds => bareD d :: bareL ds
end
theorem bare_fz (ds : List D) : bareD (fzD ds) = .tuple (bareL ds) := by unfold fzD; rw [bareD]
theorem bare_dict {ps : List (D × D)} (h : asFz (.dict ps) = none) : bareD (.dict ps) = .dict ps := by
  rw [bareD]
  · intro ds e
    cases e
  · intro ds e
    cases e
  · intro ds e
    cases e
    simp [asFz] at h
section
variable {K : PySem.W.Frag} {H : Hp} {L : Ad}
theorem dk_nofz {ps : List (D × D)} {kvs : List (Key × V)} (z : ps.map (·.1) = kvs.map (fun q => keyD q.1)) : asFz (.dict ps) = none := by
  cases hz : asFz (.dict ps) with
  | none => rfl
  | some ds =>
    have := asFz_eq hz
    unfold fzD at this
    cases this
    exact (no_key1 z).elim
mutual
theorem Rp.dpZ : ∀ {d : D} {v : V}, Rp K H L d v → (bareD d).canLay0 = true → Dp K H v (bareD d)
  | _, _, .non, _ => by rw [bareD]; exact .non; all_goals (intros; contradiction)
  | _, _, .bl b, _ => by rw [bareD]; exact .bl b; all_goals (intros; contradiction)
  | _, _, .int i, _ => by rw [bareD]; exact .int i; all_goals (intros; contradiction)
  | _, _, .str x, _ => by rw [bareD]; exact .str x; all_goals (intros; contradiction)
  | _, _, .tup h r, c => by
    rw [bareD] at c ⊢
    exact .tup (SqT.of h) (RpL.dpZ r (by simpa [PyData.canLay0] using c))
  | _, _, .lst h n r, c => by
    rw [bareD] at c ⊢
    exact .lst (SqL.of h) (RpL.dpZ r (by simpa [PyData.canLay0] using c))
  | _, _, .rd h, c => by
    unfold rdL at c
    rw [bare_dict rfl] at c
    exact (not_lay_dict c).elim
  | _, _, .fz h e r, c => by
    rw [bare_fz] at c ⊢
    exact .tup (SqT.ofF h) (RpL.dpZ r (by simpa [PyData.canLay0] using c))
  | _, _, .fd h e r, c => by
    unfold fdD at c
    rw [bare_dict rfl] at c
    exact (not_lay_dict c).elim
  | _, _, .dk _ _ z _, c => by
    rw [bare_dict (dk_nofz z)] at c
    exact (not_lay_dict c).elim
  | _, _, .dt _ _ _ _, c => by
    rw [bare_dict rfl] at c
    exact (not_lay_dict c).elim
  | _, _, .ob _ _ _ _, c => by
    unfold obD at c
    rw [bare_dict rfl] at c
    exact (not_lay_dict c).elim
theorem RpL.dpZ : ∀ {ds : List D} {vs : List V}, RpL K H L ds vs → PyData.canLayAll0 (bareL ds) = true → DpAll K H vs (bareL ds)
  | _, _, .nil, _ => by rw [bareL]; exact .nil
  | _, _, .cons h r, c => by
    rw [bareL, PyData.canLayAll0, Bool.and_eq_true] at c
    rw [bareL]
    exact .cons (Rp.dpZ h c.1) (RpL.dpZ r c.2)
end
theorem Rb.dpZ {d : D} {v : V} (h : Rb K H L d v) (c : (bareD d).canLay0 = true) : Dp K H v (bareD d) := by
  rcases h with h | ⟨a, e, h⟩
  · exact h.dpZ c
  · subst e
    cases h with
    | lst h r =>
      rw [bareD] at c ⊢
      exact .lst (SqL.of h) (RpL.dpZ r (by simpa [PyData.canLay0] using c))
    | dk _ z _ =>
      rw [bare_dict (dk_nofz z)] at c
      exact (not_lay_dict c).elim
    | dt _ _ _ =>
      rw [bare_dict rfl] at c
      exact (not_lay_dict c).elim
    | ob _ _ _ =>
      unfold obD at c
      rw [bare_dict rfl] at c
      exact (not_lay_dict c).elim
end
def eqZF : D → D → Option D := fun x y => eqF (bareD x) (bareD y)
section
variable {X : Cx}
theorem op_eqZ {k : Nat} (hr : Room k X.A) : CmD X .Eq eqZF := by
  intro pn s σ H x y v u Q I rx ry h
  obtain ⟨L, dx, dy, d, lv, bx, by', hf, k⟩ := h
  unfold eqZF eqF at hf
  split at hf
  · cases hf
    rename_i hz
    rw [Bool.and_eq_true] at hz
    exact op_eqD hr.units pn s σ H _ _ v u Q I rx ry ⟨_, _, bx.dpZ (SeqAt.canLay_of_shaped hz.1), by'.dpZ (SeqAt.canLay_of_shaped hz.2), hz.1, hz.2, k H _ (Same.refl H) (.bl _)⟩
  · cases hf
def tupZF : List D → Option D
  | [.list ds] => some (fzD ds)
  | _ => none
theorem cl_tupZ : ClD X (.type "tuple") tupZF := by
  intro pn s σ H xs us Q I rs h
  obtain ⟨L, ds, d, lv, rb, hf, k⟩ := h
  unfold tupZF at hf
  split at hf
  · obtain ⟨v, rfl, r⟩ := rb.one
    obtain ⟨a, vs, rfl, ha, rl⟩ := r.lstV
    cases hf
    obtain ⟨u, rfl, ru⟩ := vals1 rs
    cases ru
    obtain ⟨its, rel, pl, big⟩ := I.list (SqL.of ha)
    have same := rel.length
    refine call_tuple_list pl.isList (fun h' kp => ?_) (by rw [List.size_toArray]; omega)
    have J : Inv X pn σ H { s with heap := h' } := I.kept (t' := s.toks) kp
    have free := J.hok.fresh (Nat.le_refl h'.objs.size)
    have made : ObjOk X.prog X.w (upd H h'.objs.size (.frz { cls := .type "tuple", data := .seq its.toArray } (.tup vs))) (h'.push { cls := .type "tuple", data := .seq its.toArray }) h'.objs.size (.frz { cls := .type "tuple", data := .seq its.toArray } (.tup vs)) :=
      ⟨Heap.get?_push_size _ rfl, big, its, rel, IsTup.new _ _⟩
    exact ⟨.ref h'.objs.size, _, J.laid (t' := s.toks) (fun b o e => Heap.get?_push_of_some _ e) (Nat.le_refl _) made, rfl, k _ _ (same_upd free) (.fz upd_same rfl (rl.mono (same_upd free)))⟩
  · cases hf
end
end VV
namespace VV
open PySem PySem.Spec L2
open PyProof.Rows hiding St
def pairsZ : List D → Option (List (D × D))
  | [] => some []
  | .tuple [k, v] :: ds => if isKeyT k = true then (pairsZ ds).map fun q => (k, v) :: q else none
  | _ => none
def mergeP (acc ps : List (D × D)) : List (D × D) := ps.foldl (fun acc q => dputP acc q.1 q.2) acc
structure Pz where
  at_ : Addr
  key : List Key
  kat : Addr
  val : V
abbrev keyT (ks : List Key) : D := .tuple (ks.map keyD)
section
variable {K : PySem.W.Frag} {H : Hp} {L : Ad}
end
section
variable {X : Cx} {pins : List (Addr × Obj)} {σ : St} {H : Hp} {s : Shared}
end
section
variable {X : Cx} {W : WX} {o e : Expr} {f g : EF} {apos cpos : Pos} {k : Nat}
end
end VV
namespace VVlaw
open PySem PySem.Spec L2 VV
open PyProof.Rows hiding St
def b_is_cell : SF := (sRet (eOr (eOp isF (eV 0) (eC .none)) (eCall sem_is_within [(eV 0), (eC (.int 0)), (eC (.int 255))])))
def sem_is_cell : List D → Rs := runB 1 1 b_is_cell
def lp_is_picture_1 : SF := (sIf (gOr (gNot (gTru (eIsi isTup (eV 2)))) (gOr (eOp neF (eCB lenF [(eV 2)]) (eV 1)) (gTru (eLc [3] (iSeq (eV 2)) (.nm 3) (gNot (gTru (eCall sem_is_cell [(eV 3)]))) (eV 3))))) (sRet (eC (.bool false))) sNx)
def b_is_picture : SF := (sSeq (sIf (gOr (gNot (gTru (eIsi isTup (eV 0)))) (gOr (gNot (eChain leF leF (eC (.int 1)) (eCB lenF [(eV 0)]) (eC (.int 120)))) (gNot (gTru (eIsi isTup (eOp ixF (eV 0) (eC (.int 0)))))))) (sRet (eC (.bool false))) sNx) (sSeq (sSet 1 (eCB lenF [(eOp ixF (eV 0) (eC (.int 0)))])) (sSeq (sIf (gNot (eChain leF leF (eC (.int 1)) (eV 1) (eC (.int 120)))) (sRet (eC (.bool false))) sNx) (sSeq (sFor (iSeq (eV 0)) (.nm 2) lp_is_picture_1) (sRet (eC (.bool true)))))))
def sem_is_picture : List D → Rs := runB 1 4 b_is_picture
def b_look_pictures : SF := (sIf (gNot (gTru (eCall sem_is_picture [(eV 0)]))) (sRaise "BadPicture") sNx)
def sem_look_pictures : List D → Rs := runB 1 1 b_look_pictures
def b_pair_at : SF := (sRet (eIf (gAnd (eOp ltF (eV 2) (eCB lenF [(eV 0)])) (eOp ltF (eV 1) (eCB lenF [(eOp ixF (eV 0) (eV 2))]))) (eOp ixF (eOp ixF (eV 0) (eV 2)) (eV 1)) (eTup [(eC (.int 0)), (eC (.int 0))])))
def sem_pair_at : List D → Rs := runB 3 3 b_pair_at
def lp_halved_1 : SF := (sSeq (sSet 5 (eLc2 [6, 7] [7] (iSeq (eTup [(eC (.int 0)), (eC (.int 1))])) (.nm 6) (eC (.bool true)) (iSeq (eTup [(eC (.int 0)), (eC (.int 1))])) (.nm 7) (eC (.bool true)) (eCall sem_pair_at [(eV 0), (eOp addF (eV 4) (eV 7)), (eOp addF (eV 2) (eV 6))]))) (sApp 3 (eTup [(eCB sumF [(eLc [8] (iSeq (eV 5)) (.nm 8) (eC (.bool true)) (eOp ixF (eV 8) (eC (.int 0))))]), (eCB sumF [(eLc [8] (iSeq (eV 5)) (.nm 8) (eC (.bool true)) (eOp ixF (eV 8) (eC (.int 1))))])])))
def lp_halved_2 : SF := (sSeq (sOwn 3 (eLst [])) (sSeq (sFor (iRange3 [(eC (.int 0)), (eCB lenF [(eOp ixF (eV 0) (eC (.int 0)))]), (eC (.int 2))]) (.nm 4) lp_halved_1) (sFrz 3 (sApp 1 (eV 3)))))
def b_halved : SF := (sSeq (sOwn 1 (eLst [])) (sSeq (sFor (iRange3 [(eC (.int 0)), (eCB lenF [(eV 0)]), (eC (.int 2))]) (.nm 2) lp_halved_2) (sRetV 1)))
def sem_halved : List D → Rs := runB 1 9 b_halved
def lp_tiles_of_1 : SF := (sApp 6 (eCB tupF [(eLc [10] (iRange2 [(eV 5), (eOp addF (eV 5) (eV 1))]) (.nm 10) (eC (.bool true)) (eCall sem_pair_at [(eV 0), (eV 10), (eV 7)]))]))
def lp_tiles_of_2 : SF := (sSeq (sOwn 6 (eLst [])) (sSeq (sFor (iRange2 [(eV 4), (eOp addF (eV 4) (eV 1))]) (.nm 7) lp_tiles_of_1) (sIf (gTru (eLc2 [8, 9] [9] (iSeq (eB 6)) (.nm 8) (eC (.bool true)) (iSeq (eV 8)) (.nm 9) (eOp gtF (eOp ixF (eV 9) (eC (.int 1))) (eC (.int 0))) (eC (.int 1)))) (sApp 3 (eTup [(eTup [(eV 2), (eOp divF (eV 5) (eV 1)), (eOp divF (eV 4) (eV 1))]), (eCB tupF [(eB 6)])])) sNx)))
def lp_tiles_of_3 : SF := (sFor (iRange3 [(eC (.int 0)), (eCB lenF [(eOp ixF (eV 0) (eC (.int 0)))]), (eV 1)]) (.nm 5) lp_tiles_of_2)
def b_tiles_of : SF := (sSeq (sOwn 3 (eLst [])) (sSeq (sFor (iRange3 [(eC (.int 0)), (eCB lenF [(eV 0)]), (eV 1)]) (.nm 4) lp_tiles_of_3) (sRn 3)))
def sem_tiles_of : List D → Rs := runW 3 11 b_tiles_of
def lp_built_of_1 : SF := (sSeq (sSet 2 (eCall sem_halved [(eV 2)])) (sSeq (sAug (fun i j => i + j) 6 (eC (.int 1))) (sExt 5 (eCall sem_tiles_of [(eV 2), (eV 1), (eV 6)]))))
def b_built_of : SF := (sSeq (sSet 2 (eLc [7] (iSeq (eV 0)) (.nm 7) (eC (.bool true)) (eLc [8] (iSeq (eV 7)) (.nm 8) (eC (.bool true)) (eIf (eOp isF (eV 8) (eC .none)) (eTup [(eC (.int 0)), (eC (.int 0))]) (eTup [(eV 8), (eC (.int 1))]))))) (sSeq (sPar 3 4 [(eCB lenF [(eOp ixF (eV 2) (eC (.int 0)))]), (eCB lenF [(eV 2)])]) (sSeq (sOwn 5 (eCall sem_tiles_of [(eV 2), (eV 1), (eC (.int 0))])) (sSeq (sSet 6 (eC (.int 0))) (sSeq (sWh 1000000 (gOr (eOp gtF (eCB lenF [(eV 2)]) (eV 1)) (eOp gtF (eCB lenF [(eOp ixF (eV 2) (eC (.int 0)))]) (eV 1))) lp_built_of_1) (sRet (eTup [(eV 1), (eV 3), (eV 4), (eCB tupZF [(eCB sortF [(eB 5)])])])))))))
def sem_built_of : List D → Rs := runB 2 9 b_built_of
def b_look_side : SF := (sIf (gOr (gNot (gTru (eCall sem_is_within [(eV 0), (eC (.int 2)), (eC (.int 8))]))) (eUn (inCF true [.int 2, .int 4, .int 8]) (eV 0))) (sRaise "BadSide") sNx)
def sem_look_side : List D → Rs := runB 1 1 b_look_side
def b_built : SF := (sSeq (sDrop (eCall sem_look_pictures [(eV 0)])) (sSeq (sDrop (eCall sem_look_side [(eV 1)])) (sRet (eCall sem_built_of [(eV 0), (eV 1)]))))
def sem_built : List D → Rs := runB 2 2 b_built
def b_is_pair : SF := (sSeq (sIf (gOr (gNot (gTru (eIsi isTup (eV 0)))) (eOp neF (eCB lenF [(eV 0)]) (eC (.int 2)))) (sRet (eC (.bool false))) sNx) (sSeq (sIf (gNot (gTru (eCall sem_is_within [(eOp ixF (eV 0) (eC (.int 1))), (eC (.int 0)), (eOp mulF (eC (.int 120)) (eC (.int 120)))]))) (sRet (eC (.bool false))) sNx) (sRet (eCall sem_is_within [(eOp ixF (eV 0) (eC (.int 0))), (eC (.int 0)), (eOp mulF (eC (.int 255)) (eOp ixF (eV 0) (eC (.int 1))))]))))
def sem_is_pair : List D → Rs := runB 1 1 b_is_pair
def lp_is_tile_1 : SF := (sIf (gOr (gNot (gTru (eIsi isTup (eV 2)))) (gOr (eOp neF (eCB lenF [(eV 2)]) (eV 1)) (gTru (eLc [3] (iSeq (eV 2)) (.nm 3) (gNot (gTru (eCall sem_is_pair [(eV 3)]))) (eV 3))))) (sRet (eC (.bool false))) sNx)
def b_is_tile : SF := (sSeq (sIf (gOr (gNot (gTru (eIsi isTup (eV 0)))) (gOr (eOp neF (eCB lenF [(eV 0)]) (eC (.int 2))) (gOr (gNot (gTru (eIsi isTup (eOp ixF (eV 0) (eC (.int 0)))))) (eOp neF (eCB lenF [(eOp ixF (eV 0) (eC (.int 0)))]) (eC (.int 3)))))) (sRet (eC (.bool false))) sNx) (sSeq (sIf (gOr (gTru (eLc [3] (iSeq (eOp ixF (eV 0) (eC (.int 0)))) (.nm 3) (gNot (gTru (eCall sem_is_within [(eV 3), (eC (.int 0)), (eC (.int 120))]))) (eV 3))) (gNot (gTru (eIsi isTup (eOp ixF (eV 0) (eC (.int 1))))))) (sRet (eC (.bool false))) sNx) (sSeq (sIf (eOp neF (eCB lenF [(eOp ixF (eV 0) (eC (.int 1)))]) (eV 1)) (sRet (eC (.bool false))) sNx) (sSeq (sFor (iSeq (eOp ixF (eV 0) (eC (.int 1)))) (.nm 2) lp_is_tile_1) (sRet (eC (.bool true)))))))
def sem_is_tile : List D → Rs := runB 2 4 b_is_tile
def b_has_form : SF := (sSeq (sIf (gOr (gNot (gTru (eIsi isTup (eV 0)))) (gOr (eOp neF (eCB lenF [(eV 0)]) (eC (.int 4))) (gOr (gNot (gTru (eCall sem_is_within [(eOp ixF (eV 0) (eC (.int 0))), (eC (.int 2)), (eC (.int 8))]))) (eUn (inCF true [.int 2, .int 4, .int 8]) (eOp ixF (eV 0) (eC (.int 0))))))) (sRet (eC (.bool false))) sNx) (sSeq (sIf (gOr (gNot (gTru (eCall sem_is_within [(eOp ixF (eV 0) (eC (.int 1))), (eC (.int 1)), (eC (.int 120))]))) (gNot (gTru (eCall sem_is_within [(eOp ixF (eV 0) (eC (.int 2))), (eC (.int 1)), (eC (.int 120))])))) (sRet (eC (.bool false))) sNx) (sSeq (sIf (gNot (gTru (eIsi isTup (eOp ixF (eV 0) (eC (.int 3)))))) (sRet (eC (.bool false))) sNx) (sRet (eNot (eLc [1] (iSeq (eOp ixF (eV 0) (eC (.int 3)))) (.nm 1) (gNot (gTru (eCall sem_is_tile [(eV 1), (eOp ixF (eV 0) (eC (.int 0)))]))) (eV 1)))))))
def sem_has_form : List D → Rs := runB 1 2 b_has_form
def lp_picture_in_1 : SF := (sIf (eOp gtF (eV 14) (eC (.int 0))) (sSeq (sIf (gOr (eOp gtF (eV 14) (eC (.int 1))) (gOr (eOp geF (eOp addF (eOp mulF (eV 7) (eV 1)) (eV 12)) (eV 2)) (eOp geF (eOp addF (eOp mulF (eV 8) (eV 1)) (eV 10)) (eV 3)))) (sRet (eC .none)) sNx) (sPutG 5 (eOp addF (eOp mulF (eV 8) (eV 1)) (eV 10)) (eOp addF (eOp mulF (eV 7) (eV 1)) (eV 12)) (eV 13))) sNx)
def lp_picture_in_2 : SF := (sFor (iEnum' [(eV 11)]) (.tp [(.nm 12), (.tp [(.nm 13), (.nm 14)])]) lp_picture_in_1)
def lp_picture_in_3 : SF := (sIf (eOp eqF (eV 6) (eC (.int 0))) (sFor (iEnum' [(eV 9)]) (.tp [(.nm 10), (.nm 11)]) lp_picture_in_2) sNx)
def b_picture_in : SF := (sSeq (sAsg (.tp [(.nm 1), (.nm 2), (.nm 3), (.nm 4)]) (eV 0)) (sSeq (sGrid 5 (eLc [15] (iRange1 [(eV 3)]) (.nm 15) (eC (.bool true)) (eOp repF (eLst [(eC .none)]) (eV 2)))) (sSeq (sFor (iSeq (eV 4)) (.tp [(.tp [(.nm 6), (.nm 7), (.nm 8)]), (.nm 9)]) lp_picture_in_3) (sFrzG 5 (sRet (eCB tupF [(eLc [11] (iSeq (eV 5)) (.nm 11) (eC (.bool true)) (eCB tupF [(eV 11)]))]))))))
def sem_picture_in : List D → Rs := runB 1 16 b_picture_in
def b_is_pyramid : SF := (sSeq (sIf (gNot (gTru (eCall sem_has_form [(eV 0)]))) (sRet (eC (.bool false))) sNx) (sSeq (sSet 1 (eCall sem_picture_in [(eV 0)])) (sRet (eAnd (eOp isNotF (eV 1) (eC .none)) (eOp eqZF (eCall sem_built_of [(eV 1), (eOp ixF (eV 0) (eC (.int 0)))]) (eV 0))))))
def sem_is_pyramid : List D → Rs := runB 1 2 b_is_pyramid
def b_look_pyramids : SF := (sIf (gNot (gTru (eCall sem_is_pyramid [(eV 0)]))) (sRaise "BadPyramid") sNx)
def sem_look_pyramids : List D → Rs := runB 1 1 b_look_pyramids
def lp_top_of_1 : SF := (sSeq (sPar 2 3 [(eOp divF (eOp addF (eV 2) (eC (.int 1))) (eC (.int 2))), (eOp divF (eOp addF (eV 3) (eC (.int 1))) (eC (.int 2)))]) (sAug (fun i j => i + j) 5 (eC (.int 1))))
def b_top_of : SF := (sSeq (sAsg (.tp [(.nm 1), (.nm 2), (.nm 3), (.nm 4)]) (eV 0)) (sSeq (sSet 5 (eC (.int 0))) (sSeq (sWh 1000000 (gOr (eOp gtF (eV 2) (eV 1)) (eOp gtF (eV 3) (eV 1))) lp_top_of_1) (sRet (eV 5)))))
def sem_top_of : List D → Rs := runB 1 6 b_top_of
def b_levels : SF := (sSeq (sDrop (eCall sem_look_pyramids [(eV 0)])) (sRet (eOp addF (eCall sem_top_of [(eV 0)]) (eC (.int 1)))))
def sem_levels : List D → Rs := runB 1 1 b_levels
def lp__law_some_picture_1 : SF := (sSeq (sSet 10 (eOp ixF (eV 2) (eOp modF (eOp addF (eOp addF (eOp mulF (eC (.int 7)) (eV 7)) (eOp mulF (eC (.int 3)) (eV 9))) (eC (.int 5))) (eC (.int 60))))) (sSeq (sSet 11 (eOp ixF (eLst [(eOp modF (eOp mulF (eV 10) (eC (.int 7))) (eC (.int 256))), (eOp mulF (eOp modF (eV 10) (eC (.int 3))) (eC (.int 60))), (eOp modF (eOp ixF (eV 2) (eC (.int 3))) (eC (.int 256))), (eOp modF (eOp addF (eOp mulF (eV 9) (eOp ixF (eV 2) (eC (.int 4)))) (eOp mulF (eV 7) (eC (.int 3)))) (eC (.int 256)))]) (eV 5))) (sSeq (sSet 12 (eOp ixF (eV 2) (eOp modF (eOp addF (eOp addF (eOp mulF (eC (.int 5)) (eV 7)) (eOp mulF (eC (.int 11)) (eV 9))) (eOp ixF (eV 2) (eC (.int 6)))) (eC (.int 60))))) (sSeq (sSet 13 (eAnd (eOp eqF (eOp modF (eOp ixF (eV 2) (eC (.int 5))) (eC (.int 2))) (eC (.int 0))) (eOp eqF (eOp modF (eV 12) (eOp addF (eC (.int 2)) (eOp modF (eOp ixF (eV 2) (eC (.int 7))) (eC (.int 5))))) (eC (.int 0))))) (sApp 8 (eIf (gTru (eV 13)) (eC .none) (eV 11)))))))
def lp__law_some_picture_2 : SF := (sSeq (sOwn 8 (eLst [])) (sSeq (sFor (iRange1 [(eV 4)]) (.nm 9) lp__law_some_picture_1) (sApp 6 (eCB tupF [(eB 8)]))))
def b__law_some_picture : SF := (sSeq (sSet 2 (eCall sem__law_row [(eV 0), (eV 1)])) (sSeq (sPar 3 4 [(eOp addF (eC (.int 1)) (eOp modF (eOp ixF (eV 2) (eC (.int 0))) (eC (.int 11)))), (eOp addF (eC (.int 1)) (eOp modF (eOp ixF (eV 2) (eC (.int 1))) (eC (.int 11))))]) (sSeq (sSet 5 (eOp modF (eOp ixF (eV 2) (eC (.int 2))) (eC (.int 4)))) (sSeq (sOwn 6 (eLst [])) (sSeq (sFor (iRange1 [(eV 3)]) (.nm 7) lp__law_some_picture_2) (sRet (eCB tupF [(eB 6)])))))))
def sem__law_some_picture : List D → Rs := runB 2 14 b__law_some_picture
end VVlaw
set_option maxHeartbeats 8000000
namespace VVlaw
open PySem PySem.Spec L2 VV
open PyProof.Rows hiding St
theorem forGo_acc {α β : Type} {t : Tg} {f : SF} (emb : α → D) (G : α → List β) (P : List β → En → Prop) : ∀ (xs done : List α) (ρ : En), P (done.flatMap G) ρ →
    (∀ pre x post, done ++ xs = pre ++ x :: post → ∀ ρ, P (pre.flatMap G) ρ → ∃ ρ1 ρ2, bindT t (emb x) ρ = some ρ1 ∧ f ρ1 = .nx ρ2 ∧ P (pre.flatMap G ++ G x) ρ2) → ∃ ρ', forGo t f (xs.map emb) ρ = .nx ρ' ∧ P ((done ++ xs).flatMap G) ρ'
  | [], done, ρ, h, _ => ⟨ρ, rfl, by rw [List.append_nil]; exact h⟩
  | x :: xs, done, ρ, h, hs => by
    obtain ⟨ρ1, ρ2, e1, e2, h2⟩ := hs done x xs rfl ρ h
    have e3 : (done ++ [x]).flatMap G = done.flatMap G ++ G x := by rw [List.flatMap_append]; simp
    rw [← e3] at h2
    have e4 : done ++ [x] ++ xs = done ++ x :: xs := by simp
    obtain ⟨ρ', e, h'⟩ := forGo_acc emb G P xs (done ++ [x]) ρ2 h2 (by rw [e4]; exact hs)
    rw [e4] at h'
    exact ⟨ρ', by rw [List.map_cons, forGo_nxT e1 e2]; exact e, h'⟩
theorem small_range (a b c : Int) (n : Int) (ha : -1000000 ≤ a ∧ a ≤ 1000000) (hb : -1000000 ≤ b ∧ b ≤ 1000000) (hc : 0 < c ∧ c ≤ 1000000) (hs : Builtin.Range.rangeSize a b c = n) (hn : 0 ≤ n ∧ n ≤ 10000000) : Builtin.Range.small a b c = true := by
  have fits : ∀ i : Int, -100000000 ≤ i ∧ i ≤ 100000000 → Builtin.Range.rangeFitsLong i = true := fun i hi => by
    unfold Builtin.Range.rangeFitsLong
    simp
    omega
  unfold Builtin.Range.small
  rw [hs, fits a (by omega), fits b (by omega), fits c (by omega), fits n (by omega), if_pos hc.1, fits (b + (c - 1)) (by omega)]
  simp
theorem up_range (n c : Nat) (hc : 1 ≤ c) (hc2 : c ≤ 1000) (hn : n ≤ 1000) : rng3 [.int 0, .int (n : Int), .int (c : Int)] = some ((List.range ((n + c - 1) / c)).map fun i => PyData.int ((i * c : Nat) : Int)) := by
  have sz : Builtin.Range.rangeSize 0 (n : Int) (c : Int) = (((n + c - 1) / c : Nat) : Int) := by
    unfold Builtin.Range.rangeSize
    rw [if_pos (by omega)]
    by_cases h : (0 : Int) < n
    · rw [if_pos h]
      have e : n + c - 1 = (n - 1) + c := by omega
      rw [e, Nat.add_div_right _ (by omega)]
      have : (n : Int) - 0 - 1 = ((n - 1 : Nat) : Int) := by omega
      rw [this]
      simp
    · rw [if_neg h]
      have : n = 0 := by omega
      subst this
      rw [Nat.zero_add, Nat.div_eq_of_lt (by omega)]
      rfl
  have le : (n + c - 1) / c ≤ n + c - 1 := Nat.div_le_self _ _
  generalize (n + c - 1) / c = m at sz le ⊢
  have sm := small_range 0 n c _ (by omega) (by omega) (by omega) sz (by omega)
  simp -implicitDefEqProofs only [rng3, sz, sm]
  rw [if_pos (by simp; omega)]
  unfold stepD
  rw [Int.toNat_natCast]
  refine congrArg some (List.map_congr_left fun i hi => congrArg PyData.int ?_)
  simp
theorem ap_iRange3 (fs : List EF) (ρ : En) : iRange3 fs ρ = (evA fs ρ).items rng3 := rfl
theorem items3 {ds es : List D} (h : rng3 ds = some es) : (RL.ok ds).items rng3 = .ok es := by
  unfold RL.items
  simp -implicitDefEqProofs only [h]
abbrev Pr := Int × Int
def prD (p : Pr) : D := .tuple [.int p.1, .int p.2]
abbrev GF := Nat → Nat → Pr
def grR (w : Nat) (f : GF) (y : Nat) : D := .list ((List.range w).map fun x => prD (f x y))
def grD (h w : Nat) (f : GF) : D := .list ((List.range h).map (grR w f))
def Zo (h w : Nat) (f : GF) : Prop := ∀ x y, ¬ (x < w ∧ y < h) → f x y = (0, 0)
theorem ix_range {β : Type} (g : Nat → D) (n k : Nat) (h : k < n) : ixF (.list ((List.range n).map g)) (.int (k : Int)) = some (g k) := by
  rw [ix_map_l g (List.range n) (k : Int) (by omega) (by simpa using h)]
  simp
theorem ix_gr (w h : Nat) (f : GF) (y : Nat) (hy : y < h) : ixF (grD h w f) (.int (y : Int)) = some (grR w f y) := ix_range (β := Unit) _ h y hy
theorem ix_grR (w : Nat) (f : GF) (x y : Nat) (hx : x < w) : ixF (grR w f y) (.int (x : Int)) = some (prD (f x y)) := ix_range (β := Unit) (fun x => prD (f x y)) w x hx
theorem len_gr (h w : Nat) (f : GF) : lenF [grD h w f] = some (.int (h : Int)) := by
  show some (PyData.int _) = _
  simp
theorem len_grR (w : Nat) (f : GF) (y : Nat) : lenF [grR w f y] = some (.int (w : Int)) := by
  show some (PyData.int _) = _
  simp
theorem pair_at_eq {h w : Nat} {f : GF} (Z : Zo h w f) (x y : Nat) : sem_pair_at [grD h w f, .int (x : Int), .int (y : Int)] = .ok (prD (f x y)) := by
  by_cases hy : y < h
  · have hy' : (y : Int) < h := by omega
    by_cases hx : x < w
    · have hx' : (x : Int) < w := by omega
      simp -implicitDefEqProofs only [sem_pair_at, b_pair_at, len_gr, ix_gr w h f y hy, len_grR, hx', hy', ix_grR w f x y hx, evs_, Option.bind_some, List.getElem?_cons_zero, List.getElem?_cons_succ, List.set_cons_zero, List.set_cons_succ, List.map_cons, List.map_nil, List.cons_append, List.nil_append, List.length_cons, List.length_nil, Nat.reduceAdd, Nat.reduceSub, Nat.reduceLeDiff, Nat.reduceLT, Bool.not_true, Bool.not_false, decide_true, decide_false]
    · have hx' : ¬ (x : Int) < w := by omega
      rw [Z x y (fun z => hx z.1)]
      simp -implicitDefEqProofs only [sem_pair_at, b_pair_at, len_gr, ix_gr w h f y hy, len_grR, hx', hy', evs_, Option.bind_some, List.getElem?_cons_zero, List.getElem?_cons_succ, List.set_cons_zero, List.set_cons_succ, List.map_cons, List.map_nil, List.cons_append, List.nil_append, List.length_cons, List.length_nil, Nat.reduceAdd, Nat.reduceSub, Nat.reduceLeDiff, Nat.reduceLT, Bool.not_true, Bool.not_false, decide_true, decide_false]
      rfl
  · have hy' : ¬ (y : Int) < h := by omega
    rw [Z x y (fun z => hy z.2)]
    simp -implicitDefEqProofs only [sem_pair_at, b_pair_at, len_gr, hy', evs_, Option.bind_some, List.getElem?_cons_zero, List.getElem?_cons_succ, List.set_cons_zero, List.set_cons_succ, List.map_cons, List.map_nil, List.cons_append, List.nil_append, List.length_cons, List.length_nil, Nat.reduceAdd, Nat.reduceSub, Nat.reduceLeDiff, Nat.reduceLT, Bool.not_true, Bool.not_false, decide_true, decide_false]
    rfl
theorem eLc2_filtA {α β : Type} {vs vs1 : List Nat} {fi fi1 : IF} {i j : Nat} {c c1 e : EF} {ρ : En} (xs : List α) (ea : α → D) (ys : α → List β) (eb : β → D) (q : α → β → Bool) (f : α → β → D) (hi : fi ρ = .ok (xs.map ea)) (hl : (xs.flatMap fun x => ((ys x).filter (q x)).map (f x)).length ≤ 16777216)
    (h : ∀ x ∈ xs, c ((wipeE ρ vs).set i (some (.val (ea x)))) = .ok (.bool true) ∧ fi1 ((wipeE ρ vs).set i (some (.val (ea x)))) = .ok ((ys x).map eb) ∧ ∀ y ∈ ys x, c1 ((wipeE ((wipeE ρ vs).set i (some (.val (ea x)))) vs1).set j (some (.val (eb y)))) = .ok (.bool (q x y)) ∧
      (q x y = true → e ((wipeE ((wipeE ρ vs).set i (some (.val (ea x)))) vs1).set j (some (.val (eb y)))) = .ok (f x y))) : eLc2 vs vs1 fi (.nm i) c fi1 (.nm j) c1 e ρ = .ok (.list (xs.flatMap fun x => ((ys x).filter (q x)).map (f x))) := by
  have key : ∀ zs : List α, (∀ x ∈ zs, x ∈ xs) → lc2Go vs1 (.nm i) c fi1 (.nm j) c1 e (wipeE ρ vs) (zs.map ea) = .ok (zs.flatMap fun x => ((ys x).filter (q x)).map (f x)) := by
    intro zs
    induction zs with
    | nil => intro _; rfl
    | cons z zs ih =>
      intro hz
      obtain ⟨h1, h2, h3⟩ := h z (hz z (by simp))
      have ih' := ih fun x hx => hz x (by simp [hx])
      have inner := lcGo_filtT (t := .nm j) (c := c1) (e := e) (ρ := wipeE ((wipeE ρ vs).set i (some (.val (ea z)))) vs1) eb (f z) (q z) (ys z) fun y hy => ⟨_, bT_nm .., (h3 y hy).1, (h3 y hy).2⟩
      simp -implicitDefEqProofs only [List.map_cons, lc2Go, bT_nm, h1, h2, inner, ih', List.flatMap_cons]
  unfold eLc2
  rw [hi, RL.bind_ok, key xs fun _ h => h]
  exact lstR_ok _ hl
theorem flat1 {α β : Type} (g : α → β) : ∀ xs : List α, (xs.flatMap fun x => [g x]) = xs.map g
  | [] => rfl
  | x :: xs => by rw [List.flatMap_cons, flat1 g xs]; rfl
def half (f : GF) : GF := fun x y => ((f (2 * x) (2 * y)).1 + (f (2 * x + 1) (2 * y)).1 + (f (2 * x) (2 * y + 1)).1 + (f (2 * x + 1) (2 * y + 1)).1, (f (2 * x) (2 * y)).2 + (f (2 * x + 1) (2 * y)).2 + (f (2 * x) (2 * y + 1)).2 + (f (2 * x + 1) (2 * y + 1)).2)
def up2 (n : Nat) : Nat := (n + 1) / 2
theorem half_zo {h w : Nat} {f : GF} (Z : Zo h w f) : Zo (up2 h) (up2 w) (half f) := by
  intro x y hn
  unfold up2 at hn
  unfold half
  rw [Z (2 * x) (2 * y) (by omega), Z (2 * x + 1) (2 * y) (by omega), Z (2 * x) (2 * y + 1) (by omega), Z (2 * x + 1) (2 * y + 1) (by omega)]
  rfl
theorem fsts_eq (L : List Pr) (hL : L.length ≤ 1000) (ρ : En) (hl : ρ.length = 9) (e5 : ρ[5]? = some (some (.val (.list (L.map prD))))) : eLc [8] (iSeq (eV 5)) (.nm 8) (eC (.bool true)) (eOp ixF (eV 8) (eC (.int 0))) ρ = .ok (.list ((L.map (·.1)).map PyData.int)) ∧
    eLc [8] (iSeq (eV 5)) (.nm 8) (eC (.bool true)) (eOp ixF (eV 8) (eC (.int 1))) ρ = .ok (.list ((L.map (·.2)).map PyData.int)) := by
  have at8 : ∀ d : D, ((wipeE ρ [8]).set 8 (some (.val d)))[8]? = some (some (.val d)) := fun d => List.getElem?_set_self (by rw [wipeE_length]; omega)
  have x0 : ∀ p : Pr, ixF (prD p) (.int 0) = some (.int p.1) := fun p => f_ix0 _ _
  have x1 : ∀ p : Pr, ixF (prD p) (.int 1) = some (.int p.2) := fun p => f_ix1 _ _ _
  constructor
  · rw [eLc_mapA L prD (fun p => PyData.int p.1) (by simp -implicitDefEqProofs only [e5, evs_, Option.bind_some, List.getElem?_cons_zero, List.getElem?_cons_succ, List.set_cons_zero, List.set_cons_succ, List.map_cons, List.map_nil, List.cons_append, List.nil_append, List.length_cons, List.length_nil, Nat.reduceAdd, Nat.reduceSub, Nat.reduceLeDiff, Nat.reduceLT, Bool.not_true, Bool.not_false, decide_true, decide_false]) (by omega) (by
      intro p _
      have := at8 (prD p)
      generalize (wipeE ρ [8]).set 8 (some (.val (prD p))) = ρ2 at this ⊢
      simp -implicitDefEqProofs only [this, x0, evs_, Option.bind_some, List.getElem?_cons_zero, List.getElem?_cons_succ, List.set_cons_zero, List.set_cons_succ, List.map_cons, List.map_nil, List.cons_append, List.nil_append, List.length_cons, List.length_nil, Nat.reduceAdd, Nat.reduceSub, Nat.reduceLeDiff, Nat.reduceLT, Bool.not_true, Bool.not_false, decide_true, decide_false]
      exact ⟨trivial, trivial⟩), List.map_map]
    rfl
  · rw [eLc_mapA L prD (fun p => PyData.int p.2) (by simp -implicitDefEqProofs only [e5, evs_, Option.bind_some, List.getElem?_cons_zero, List.getElem?_cons_succ, List.set_cons_zero, List.set_cons_succ, List.map_cons, List.map_nil, List.cons_append, List.nil_append, List.length_cons, List.length_nil, Nat.reduceAdd, Nat.reduceSub, Nat.reduceLeDiff, Nat.reduceLT, Bool.not_true, Bool.not_false, decide_true, decide_false]) (by omega) (by
      intro p _
      have := at8 (prD p)
      generalize (wipeE ρ [8]).set 8 (some (.val (prD p))) = ρ2 at this ⊢
      simp -implicitDefEqProofs only [this, x1, evs_, Option.bind_some, List.getElem?_cons_zero, List.getElem?_cons_succ, List.set_cons_zero, List.set_cons_succ, List.map_cons, List.map_nil, List.cons_append, List.nil_append, List.length_cons, List.length_nil, Nat.reduceAdd, Nat.reduceSub, Nat.reduceLeDiff, Nat.reduceLT, Bool.not_true, Bool.not_false, decide_true, decide_false]
      exact ⟨trivial, trivial⟩), List.map_map]
    rfl
def four (f : GF) (x y : Nat) : List Pr := [f (2 * x) (2 * y), f (2 * x + 1) (2 * y), f (2 * x) (2 * y + 1), f (2 * x + 1) (2 * y + 1)]
theorem four_len (f : GF) (x y : Nat) : (four f x y).length = 4 := rfl
theorem four_fst (f : GF) (x y : Nat) : ((four f x y).map (·.1)).sum = (half f x y).1 := by
  simp [half, four]
  omega
theorem four_snd (f : GF) (x y : Nat) : ((four f x y).map (·.2)).sum = (half f x y).2 := by
  simp [half, four]
  omega
def natD (k : Nat) : D := .int (k : Int)
theorem four_eq {h w : Nat} {f : GF} (Z : Zo h w f) (x y : Nat) (ρ : En) (hl : ρ.length = 9) (e0 : ρ[0]? = some (some (.val (grD h w f)))) (e2 : ρ[2]? = some (some (.val (.int ((y * 2 : Nat) : Int))))) (e4 : ρ[4]? = some (some (.val (.int ((x * 2 : Nat) : Int))))) :
    eLc2 [6, 7] [7] (iSeq (eTup [(eC (.int 0)), (eC (.int 1))])) (.nm 6) (eC (.bool true)) (iSeq (eTup [(eC (.int 0)), (eC (.int 1))])) (.nm 7) (eC (.bool true)) (eCall sem_pair_at [(eV 0), (eOp addF (eV 4) (eV 7)), (eOp addF (eV 2) (eV 6))]) ρ = .ok (.list ((four f x y).map prD)) := by
  have it : ∀ ρ : En, iSeq (eTup [(eC (.int 0)), (eC (.int 1))]) ρ = RL.ok (([0, 1] : List Nat).map natD) := fun ρ => by
    simp -implicitDefEqProofs only [evs_, Option.bind_some, List.getElem?_cons_zero, List.getElem?_cons_succ, List.set_cons_zero, List.set_cons_succ, List.map_cons, List.map_nil, List.cons_append, List.nil_append, List.length_cons, List.length_nil, Nat.reduceAdd, Nat.reduceSub, Nat.reduceLeDiff, Nat.reduceLT, Bool.not_true, Bool.not_false, decide_true, decide_false]
    rfl
  have big : (List.flatMap (fun b : Nat => List.map (fun a => prD (f (x * 2 + a) (y * 2 + b))) (List.filter (fun _ => true) [0, 1])) [0, 1]).length ≤ 16777216 := by
    rw [show (List.flatMap (fun b : Nat => List.map (fun a => prD (f (x * 2 + a) (y * 2 + b))) (List.filter (fun _ => true) [0, 1])) [0, 1]).length = 4 from rfl]
    omega
  rw [eLc2_filtA ([0, 1] : List Nat) natD (fun _ => ([0, 1] : List Nat)) natD (fun _ _ => true) (fun b a => prD (f (x * 2 + a) (y * 2 + b))) (it _) big (by
    intro b _
    refine ⟨rfl, it _, fun a _ => ⟨rfl, fun _ => ?_⟩⟩
    have g : ∀ j : Nat, j ≠ 6 → j ≠ 7 → ((wipeE ((wipeE ρ [6, 7]).set 6 (some (.val (natD b)))) [7]).set 7 (some (.val (natD a))))[j]? = ρ[j]? := fun j h6 h7 => by
      rw [List.getElem?_set_ne (Ne.symm h7), wipeE_get _ j [7] (by simpa using h7), List.getElem?_set_ne (Ne.symm h6), wipeE_get _ j [6, 7] (by simp; omega)]
    have g6 : ((wipeE ((wipeE ρ [6, 7]).set 6 (some (.val (natD b)))) [7]).set 7 (some (.val (natD a))))[6]? = some (some (.val (natD b))) := by
      rw [List.getElem?_set_ne (by decide), wipeE_get _ 6 [7] (by decide), List.getElem?_set_self (by rw [wipeE_length]; omega)]
    have g7 : ((wipeE ((wipeE ρ [6, 7]).set 6 (some (.val (natD b)))) [7]).set 7 (some (.val (natD a))))[7]? = some (some (.val (natD a))) := List.getElem?_set_self (by rw [wipeE_length, List.length_set, wipeE_length]; omega)
    have k0 := (g 0 (by decide) (by decide)).trans e0
    have k2 := (g 2 (by decide) (by decide)).trans e2
    have k4 := (g 4 (by decide) (by decide)).trans e4
    generalize (wipeE ((wipeE ρ [6, 7]).set 6 (some (.val (natD b)))) [7]).set 7 (some (.val (natD a))) = ρ2 at g6 g7 k0 k2 k4 ⊢
    have ex : addF (.int ((x * 2 : Nat) : Int)) (natD a) = some (.int ((x * 2 + a : Nat) : Int)) := by
      rw [Int.natCast_add]
      rfl
    have ey : addF (.int ((y * 2 : Nat) : Int)) (natD b) = some (.int ((y * 2 + b : Nat) : Int)) := by
      rw [Int.natCast_add]
      rfl
    simp -implicitDefEqProofs only [k0, k2, k4, g6, g7, ex, ey, pair_at_eq Z, evs_, Option.bind_some, List.getElem?_cons_zero, List.getElem?_cons_succ, List.set_cons_zero, List.set_cons_succ, List.map_cons, List.map_nil, List.cons_append, List.nil_append, List.length_cons, List.length_nil, Nat.reduceAdd, Nat.reduceSub, Nat.reduceLeDiff, Nat.reduceLT, Bool.not_true, Bool.not_false, decide_true, decide_false])]
  unfold four
  simp -implicitDefEqProofs only [List.flatMap_cons, List.flatMap_nil, List.filter_cons, List.filter_nil, if_true, List.map_cons, List.map_nil, List.append_nil, List.cons_append, List.nil_append, Nat.add_zero, Nat.mul_comm x 2, Nat.mul_comm y 2]
end VVlaw
namespace VVlaw
open PySem PySem.Spec L2 VV
open PyProof.Rows hiding St
theorem half1 {h w : Nat} {f : GF} (Z : Zo h w f) (x y : Nat) (o1 o5 : Option Sl) (acc : List D) (hlen : acc.length < 16777216) : lp_halved_1 [some (.val (grD h w f)), o1, some (.val (.int ((y * 2 : Nat) : Int))), some (.own (.list acc)), some (.val (.int ((x * 2 : Nat) : Int))), o5, none, none, none] =
    .nx [some (.val (grD h w f)), o1, some (.val (.int ((y * 2 : Nat) : Int))), some (.own (.list (acc ++ [prD (half f x y)]))), some (.val (.int ((x * 2 : Nat) : Int))), some (.val (.list ((four f x y).map prD))), none, none, none] := by
  have q := four_eq Z x y [some (.val (grD h w f)), o1, some (.val (.int ((y * 2 : Nat) : Int))), some (.own (.list acc)), some (.val (.int ((x * 2 : Nat) : Int))), o5, none, none, none] rfl rfl rfl rfl
  have fs := fsts_eq (four f x y) (by rw [four_len]; omega) [some (.val (grD h w f)), o1, some (.val (.int ((y * 2 : Nat) : Int))), some (.own (.list acc)), some (.val (.int ((x * 2 : Nat) : Int))), some (.val (.list ((four f x y).map prD))), none, none, none] rfl rfl
  simp -implicitDefEqProofs only [lp_halved_1, q, fs.1, fs.2, f_sum_l, four_fst, four_snd, appO_ok _ _ _ _ hlen, evs_, Option.bind_some, List.getElem?_cons_zero, List.getElem?_cons_succ, List.set_cons_zero, List.set_cons_succ, List.map_cons, List.map_nil, List.cons_append, List.nil_append, List.length_cons, List.length_nil, Nat.reduceAdd, Nat.reduceSub, Nat.reduceLeDiff, Nat.reduceLT, Bool.not_true, Bool.not_false, decide_true, decide_false]
  rfl
theorem pre_len {α : Type} {xs pre post : List α} {x : α} (h : [] ++ xs = pre ++ x :: post) : pre.length ≤ xs.length := by
  have := congrArg List.length h
  simp at this
  omega
theorem half2 {h w : Nat} {f : GF} (Z : Zo h w f) (w1 : 1 ≤ w) (w2 : w ≤ 1000) (h1 : 1 ≤ h) (y : Nat) (o3 o4 o5 : Option Sl) (acc : List D) (hlen : acc.length < 16777216) : ∃ p4 p5 : Option Sl, lp_halved_2 [some (.val (grD h w f)), some (.own (.list acc)), some (.val (.int ((y * 2 : Nat) : Int))), o3, o4, o5, none, none, none] =
    .nx [some (.val (grD h w f)), some (.own (.list (acc ++ [grR (up2 w) (half f) y]))), some (.val (.int ((y * 2 : Nat) : Int))), some (.val (grR (up2 w) (half f) y)), p4, p5, none, none, none] := by
  have r : rng3 [.int 0, .int (w : Int), .int 2] = some ((List.range (up2 w)).map fun i => PyData.int ((i * 2 : Nat) : Int)) := by
    have := up_range w 2 (by omega) (by omega) w2
    rw [show (w + 2 - 1) / 2 = up2 w by unfold up2; omega] at this
    exact this
  have uw : up2 w ≤ w := by unfold up2; omega
  have i0 : ixF (grD h w f) (.int 0) = some (grR w f 0) := ix_gr w h f 0 (by omega)
  obtain ⟨ρ', e, p4, p5, rfl⟩ := forGo_acc (t := .nm 4) (f := lp_halved_1) (fun i : Nat => PyData.int ((i * 2 : Nat) : Int)) (fun x => [prD (half f x y)])
    (fun ac ρ => ∃ o4 o5 : Option Sl, ρ = [some (.val (grD h w f)), some (.own (.list acc)), some (.val (.int ((y * 2 : Nat) : Int))), some (.own (.list ac)), o4, o5, none, none, none]) (List.range (up2 w)) []
    [some (.val (grD h w f)), some (.own (.list acc)), some (.val (.int ((y * 2 : Nat) : Int))), some (.own (.list [])), o4, o5, none, none, none] ⟨o4, o5, rfl⟩ (by
      rintro pre x post hp ρ ⟨o4, o5, rfl⟩
      have lp := pre_len hp
      rw [List.length_range] at lp
      have hl : (pre.flatMap fun x => [prD (half f x y)]).length < 16777216 := by
        rw [flat1, List.length_map]
        omega
      exact ⟨_, _, bT_nm .., half1 Z x y _ o5 _ hl, _, _, rfl⟩)
  rw [List.nil_append, flat1 (fun x => prD (half f x y))] at e
  refine ⟨p4, p5, ?_⟩
  simp -implicitDefEqProofs only [lp_halved_2, i0, len_grR, ap_iRange3, items3 r, e, appO_ok _ _ _ _ hlen, evs_, Option.bind_some, List.getElem?_cons_zero, List.getElem?_cons_succ, List.set_cons_zero, List.set_cons_succ, List.map_cons, List.map_nil, List.cons_append, List.nil_append, List.length_cons, List.length_nil, Nat.reduceAdd, Nat.reduceSub, Nat.reduceLeDiff, Nat.reduceLT, Bool.not_true, Bool.not_false, decide_true, decide_false]
  rfl
theorem halved_eq {h w : Nat} {f : GF} (Z : Zo h w f) (h1 : 1 ≤ h) (h2 : h ≤ 1000) (w1 : 1 ≤ w) (w2 : w ≤ 1000) : sem_halved [grD h w f] = .ok (grD (up2 h) (up2 w) (half f)) := by
  have r : rng3 [.int 0, .int (h : Int), .int 2] = some ((List.range (up2 h)).map fun i => PyData.int ((i * 2 : Nat) : Int)) := by
    have := up_range h 2 (by omega) (by omega) h2
    rw [show (h + 2 - 1) / 2 = up2 h by unfold up2; omega] at this
    exact this
  have uh : up2 h ≤ h := by unfold up2; omega
  obtain ⟨ρ', e, o2, o3, o4, o5, rfl⟩ := forGo_acc (t := .nm 2) (f := lp_halved_2) (fun i : Nat => PyData.int ((i * 2 : Nat) : Int)) (fun y => [grR (up2 w) (half f) y])
    (fun acc ρ => ∃ o2 o3 o4 o5 : Option Sl, ρ = [some (.val (grD h w f)), some (.own (.list acc)), o2, o3, o4, o5, none, none, none]) (List.range (up2 h)) []
    [some (.val (grD h w f)), some (.own (.list [])), none, none, none, none, none, none, none] ⟨none, none, none, none, rfl⟩ (by
      rintro pre y post hp ρ ⟨o2, o3, o4, o5, rfl⟩
      have lp := pre_len hp
      rw [List.length_range] at lp
      have hl : (pre.flatMap fun y => [grR (up2 w) (half f) y]).length < 16777216 := by
        rw [flat1, List.length_map]
        omega
      obtain ⟨p4, p5, q⟩ := half2 Z w1 w2 h1 y o3 o4 o5 _ hl
      exact ⟨_, _, bT_nm .., q, _, _, _, _, rfl⟩)
  rw [List.nil_append, flat1 (fun y => grR (up2 w) (half f) y)] at e
  simp -implicitDefEqProofs only [sem_halved, b_halved, len_gr, ap_iRange3, items3 r, e, evs_, Option.bind_some, List.getElem?_cons_zero, List.getElem?_cons_succ, List.set_cons_zero, List.set_cons_succ, List.map_cons, List.map_nil, List.cons_append, List.nil_append, List.length_cons, List.length_nil, Nat.reduceAdd, Nat.reduceSub, Nat.reduceLeDiff, Nat.reduceLT, Bool.not_true, Bool.not_false, decide_true, decide_false]
  rfl
end VVlaw
namespace VVlaw
open PySem PySem.Spec L2 VV
open PyProof.Rows hiding St
def outN : Out → Rs
  | .rn d => .ok d
  | .exc c fs _ => .exc c fs
  | _ => .bad
theorem outN_rn (d : D) : outN (.rn d) = .ok d := rfl
theorem runW_eq (n N : Nat) (f : SF) (ds : List D) (h : ds.length = n) : runW n N f ds = outN (f (ds.map (fun d => some (.val d)) ++ nones (N - n))) := by
  unfold runW outN
  rw [if_pos h, nones_eq]
  first | done | (cases f (List.map (fun d => some (Sl.val d)) ds ++ nones (N - n)) <;> rfl)
def rnO : Option (Option Sl) → Out
  | some (some (.own d)) => .rn d
  | _ => .bad
theorem ap_sRn (i : Nat) (ρ : En) : sRn i ρ = rnO ρ[i]? := by
  unfold sRn rnO
  rfl
theorem rnO_own (d : D) : rnO (some (some (.own d))) = .rn d := rfl
def cdiv (n c : Nat) : Nat := (n + c - 1) / c
def tileR (f : GF) (side a y : Nat) : D := .tuple ((List.range side).map fun i => prD (f (a * side + i) y))
def tileD (f : GF) (side a d : Nat) : D := .tuple ((List.range side).map fun j => tileR f side a (d * side + j))
def full (f : GF) (side a d : Nat) : Bool := (List.range side).any fun j => (List.range side).any fun i => decide (0 < (f (a * side + i) (d * side + j)).2)
abbrev Ky := Nat × Nat × Nat
def kyD (k : Ky) : D := .tuple [.int (k.1 : Int), .int (k.2.1 : Int), .int (k.2.2 : Int)]
def entD3 (f : GF) (side : Nat) (k : Ky) : D := .tuple [kyD k, tileD f side k.2.1 k.2.2]
def rowK (w : Nat) (f : GF) (side l d : Nat) : List Ky := ((List.range (cdiv w side)).filter fun a => full f side a d).map fun a => (l, a, d)
def keysAt (h w : Nat) (f : GF) (side l : Nat) : List Ky := (List.range (cdiv h side)).flatMap (rowK w f side l)
theorem range2_nat (a n : Nat) (ha : a ≤ 100000) (hn : n ≤ 1000) : (RL.ok [.int (a : Int), .int ((a : Int) + (n : Int))]).items rng2 = .ok ((List.range n).map fun i => PyData.int ((a + i : Nat) : Int)) := by
  rw [rng2_ok _ _ (by omega)]
  unfold rangeD
  rw [show ((a : Int) + n - a).toNat = n by omega]
  refine congrArg RL.ok (List.map_congr_left fun i _ => congrArg PyData.int ?_)
  omega
theorem tile1 {h w : Nat} {f : GF} (Z : Zo h w f) (side a y : Nat) (hs : side ≤ 1000) (ha : a * side ≤ 100000) (o2 o3 o4 o8 o9 o10 : Option Sl) (acc : List D) (hlen : acc.length < 16777216) :
    lp_tiles_of_1 [some (.val (grD h w f)), some (.val (.int (side : Int))), o2, o3, o4, some (.val (.int ((a * side : Nat) : Int))), some (.own (.list acc)), some (.val (.int (y : Int))), o8, o9, o10] =
    .nx [some (.val (grD h w f)), some (.val (.int (side : Int))), o2, o3, o4, some (.val (.int ((a * side : Nat) : Int))), some (.own (.list (acc ++ [tileR f side a y]))), some (.val (.int (y : Int))), o8, o9, o10] := by
  have r := range2_nat (a * side) side ha hs
  simp -implicitDefEqProofs only [lp_tiles_of_1, evs_, Option.bind_some, List.getElem?_cons_zero, List.getElem?_cons_succ, List.set_cons_zero, List.set_cons_succ, List.map_cons, List.map_nil, List.cons_append, List.nil_append, List.length_cons, List.length_nil, Nat.reduceAdd, Nat.reduceSub, Nat.reduceLeDiff, Nat.reduceLT, Bool.not_true, Bool.not_false, decide_true, decide_false]
  rw [eLc_mapA (List.range side) (fun i => PyData.int ((a * side + i : Nat) : Int)) (fun i => prD (f (a * side + i) y)) (by simp -implicitDefEqProofs only [r, evs_, Option.bind_some, List.getElem?_cons_zero, List.getElem?_cons_succ, List.set_cons_zero, List.set_cons_succ, List.map_cons, List.map_nil, List.cons_append, List.nil_append, List.length_cons, List.length_nil, Nat.reduceAdd, Nat.reduceSub, Nat.reduceLeDiff, Nat.reduceLT, Bool.not_true, Bool.not_false, decide_true, decide_false]) (by rw [List.length_range]; omega) (by
    intro i _
    simp -implicitDefEqProofs only [pair_at_eq Z, evs_, Option.bind_some, List.getElem?_cons_zero, List.getElem?_cons_succ, List.set_cons_zero, List.set_cons_succ, List.map_cons, List.map_nil, List.cons_append, List.nil_append, List.length_cons, List.length_nil, Nat.reduceAdd, Nat.reduceSub, Nat.reduceLeDiff, Nat.reduceLT, Bool.not_true, Bool.not_false, decide_true, decide_false]
    exact ⟨trivial, trivial⟩)]
  simp -implicitDefEqProofs only [appO_ok _ _ _ _ hlen, evs_, Option.bind_some, List.getElem?_cons_zero, List.getElem?_cons_succ, List.set_cons_zero, List.set_cons_succ, List.map_cons, List.map_nil, List.cons_append, List.nil_append, List.length_cons, List.length_nil, Nat.reduceAdd, Nat.reduceSub, Nat.reduceLeDiff, Nat.reduceLT, Bool.not_true, Bool.not_false, decide_true, decide_false]
  rfl
theorem empty_app {α : Type} (xs ys : List α) : (xs ++ ys).isEmpty = (xs.isEmpty && ys.isEmpty) := by
  cases xs <;> simp
theorem empty_map {α β : Type} (g : α → β) (xs : List α) : (xs.map g).isEmpty = xs.isEmpty := by
  cases xs <;> simp
theorem any_nil {α : Type} (p : α → Bool) : ∀ xs : List α, (xs.filter p).isEmpty = !(xs.any p)
  | [] => rfl
  | x :: xs => by
    have := any_nil p xs
    cases h : p x <;> simp_all [List.filter_cons]
theorem full_eq (f : GF) (side a d : Nat) (hs : side ≤ 1000) (ρ : En) (hl : ρ.length = 11) (e6 : ρ[6]? = some (some (.own (.list ((List.range side).map fun j => tileR f side a (d * side + j)))))) :
    ∃ L : List D, eLc2 [8, 9] [9] (iSeq (eB 6)) (.nm 8) (eC (.bool true)) (iSeq (eV 8)) (.nm 9) (eOp gtF (eOp ixF (eV 9) (eC (.int 1))) (eC (.int 0))) (eC (.int 1)) ρ = .ok (.list L) ∧ L.isEmpty = !(full f side a d) := by
  have len9 : ∀ (d : D) (x : Option Sl), ((wipeE ((wipeE ρ [8, 9]).set 8 x) [9]).set 9 (some (.val d)))[9]? = some (some (.val d)) := fun d x => List.getElem?_set_self (by rw [wipeE_length, List.length_set, wipeE_length]; omega)
  have len8 : ∀ d : D, ((wipeE ρ [8, 9]).set 8 (some (.val d)))[8]? = some (some (.val d)) := fun d => List.getElem?_set_self (by rw [wipeE_length]; omega)
  have x1 : ∀ p : Pr, ixF (prD p) (.int 1) = some (.int p.2) := fun p => f_ix1 _ _ _
  have bound : ∀ (g : Nat → List D) (c : Nat), (∀ j, (g j).length ≤ c) → ∀ xs : List Nat, (xs.flatMap g).length ≤ xs.length * c := by
    intro g c hg xs
    induction xs with
    | nil => simp
    | cons x xs ih =>
      have := hg x
      rw [List.flatMap_cons, List.length_append, List.length_cons, Nat.add_mul]
      omega
  refine ⟨(List.range side).flatMap fun j => (((List.range side).map fun i => f (a * side + i) (d * side + j)).filter fun p => decide (0 < p.2)).map fun _ => PyData.int 1, ?_, ?_⟩
  · refine eLc2_filtA (List.range side) (fun j => tileR f side a (d * side + j)) (fun j => (List.range side).map fun i => f (a * side + i) (d * side + j)) prD (fun _ p => decide (0 < p.2)) (fun _ _ => PyData.int 1) ?_ ?_ ?_
    · simp -implicitDefEqProofs only [e6, evs_, Option.bind_some, List.getElem?_cons_zero, List.getElem?_cons_succ, List.set_cons_zero, List.set_cons_succ, List.map_cons, List.map_nil, List.cons_append, List.nil_append, List.length_cons, List.length_nil, Nat.reduceAdd, Nat.reduceSub, Nat.reduceLeDiff, Nat.reduceLT, Bool.not_true, Bool.not_false, decide_true, decide_false]
    · refine Nat.le_trans (bound _ side (fun j => ?_) _) ?_
      · rw [List.length_map]
        refine Nat.le_trans (List.length_filter_le _ _) ?_
        rw [List.length_map, List.length_range]
        exact Nat.le_refl _
      · rw [List.length_range]
        have := Nat.mul_le_mul hs hs
        omega
    · intro j _
      refine ⟨rfl, ?_, fun p _ => ⟨?_, fun _ => rfl⟩⟩
      · have := len8 (tileR f side a (d * side + j))
        generalize (wipeE ρ [8, 9]).set 8 (some (.val (tileR f side a (d * side + j)))) = ρ2 at this ⊢
        rw [List.map_map]
        simp -implicitDefEqProofs only [this, evs_, Option.bind_some, List.getElem?_cons_zero, List.getElem?_cons_succ, List.set_cons_zero, List.set_cons_succ, List.map_cons, List.map_nil, List.cons_append, List.nil_append, List.length_cons, List.length_nil, Nat.reduceAdd, Nat.reduceSub, Nat.reduceLeDiff, Nat.reduceLT, Bool.not_true, Bool.not_false, decide_true, decide_false]
        rfl
      · have := len9 (prD p) (some (.val (tileR f side a (d * side + j))))
        generalize (wipeE ((wipeE ρ [8, 9]).set 8 (some (.val (tileR f side a (d * side + j))))) [9]).set 9 (some (.val (prD p))) = ρ2 at this ⊢
        simp -implicitDefEqProofs only [this, x1, evs_, Option.bind_some, List.getElem?_cons_zero, List.getElem?_cons_succ, List.set_cons_zero, List.set_cons_succ, List.map_cons, List.map_nil, List.cons_append, List.nil_append, List.length_cons, List.length_nil, Nat.reduceAdd, Nat.reduceSub, Nat.reduceLeDiff, Nat.reduceLT, Bool.not_true, Bool.not_false, decide_true, decide_false]
  · unfold full
    generalize List.range side = R
    have key : ∀ xs : List Nat, (xs.flatMap fun j => ((R.map fun i => f (a * side + i) (d * side + j)).filter fun p => decide (0 < p.2)).map fun _ => PyData.int 1).isEmpty = !(xs.any fun j => R.any fun i => decide (0 < (f (a * side + i) (d * side + j)).2)) := by
      intro xs
      induction xs with
      | nil => rfl
      | cons x xs ih =>
        rw [List.flatMap_cons, empty_app, ih, List.any_cons, Bool.not_or, empty_map, any_nil, List.any_map]
        rfl
    exact key R
theorem div_side (a side : Nat) (hs : 1 ≤ side) (h2 : side ≤ 1000) : divF (.int ((a * side : Nat) : Int)) (.int (side : Int)) = some (.int (a : Int)) := by
  rw [f_divP _ _ (by omega) (by omega)]
  congr 2
  rw [Int.natCast_mul]
  exact Int.mul_ediv_cancel _ (by omega)
def oneT (f : GF) (side l d a : Nat) : List D := if full f side a d = true then [entD3 f side (l, a, d)] else []
theorem oneT_t {f : GF} {side l d a : Nat} (h : full f side a d = true) : oneT f side l d a = [entD3 f side (l, a, d)] := if_pos h
theorem oneT_f {f : GF} {side l d a : Nat} (h : full f side a d = false) : oneT f side l d a = [] := if_neg (by rw [h]; exact Bool.false_ne_true)
theorem tile2 {h w : Nat} {f : GF} (Z : Zo h w f) (side a d l : Nat) (h1 : 1 ≤ side) (hs : side ≤ 1000) (ha : a * side ≤ 100000) (hd : d * side ≤ 100000) (o6 o7 : Option Sl) (acc : List D) (hlen : acc.length < 16777216) :
    ∃ p6 p7 : Option Sl, lp_tiles_of_2 [some (.val (grD h w f)), some (.val (.int (side : Int))), some (.val (.int (l : Int))), some (.own (.list acc)), some (.val (.int ((d * side : Nat) : Int))), some (.val (.int ((a * side : Nat) : Int))), o6, o7, none, none, none] =
    .nx [some (.val (grD h w f)), some (.val (.int (side : Int))), some (.val (.int (l : Int))), some (.own (.list (acc ++ oneT f side l d a))), some (.val (.int ((d * side : Nat) : Int))), some (.val (.int ((a * side : Nat) : Int))), p6, p7, none, none, none] := by
  have r := range2_nat (d * side) side hd hs
  obtain ⟨ρ', e, p7, rfl⟩ := forGo_acc (t := .nm 7) (f := lp_tiles_of_1) (fun i : Nat => PyData.int ((d * side + i : Nat) : Int)) (fun j => [tileR f side a (d * side + j)])
    (fun ac ρ => ∃ o7 : Option Sl, ρ = [some (.val (grD h w f)), some (.val (.int (side : Int))), some (.val (.int (l : Int))), some (.own (.list acc)), some (.val (.int ((d * side : Nat) : Int))), some (.val (.int ((a * side : Nat) : Int))), some (.own (.list ac)), o7, none, none, none]) (List.range side) []
    [some (.val (grD h w f)), some (.val (.int (side : Int))), some (.val (.int (l : Int))), some (.own (.list acc)), some (.val (.int ((d * side : Nat) : Int))), some (.val (.int ((a * side : Nat) : Int))), some (.own (.list [])), o7, none, none, none] ⟨o7, rfl⟩ (by
      rintro pre j post hp ρ ⟨o7, rfl⟩
      have lp := pre_len hp
      rw [List.length_range] at lp
      have hl : (pre.flatMap fun j => [tileR f side a (d * side + j)]).length < 16777216 := by
        rw [flat1, List.length_map]
        omega
      exact ⟨_, _, bT_nm .., tile1 Z side a (d * side + j) hs ha _ _ _ _ _ _ _ hl, _, rfl⟩)
  rw [List.nil_append, flat1 (fun j => tileR f side a (d * side + j))] at e
  obtain ⟨L, eL, emp⟩ := full_eq f side a d hs [some (.val (grD h w f)), some (.val (.int (side : Int))), some (.val (.int (l : Int))), some (.own (.list acc)), some (.val (.int ((d * side : Nat) : Int))), some (.val (.int ((a * side : Nat) : Int))), some (.own (.list ((List.range side).map fun j => tileR f side a (d * side + j)))), p7, none, none, none] rfl rfl
  have tl : tupF [.list ((List.range side).map fun j => tileR f side a (d * side + j))] = some (tileD f side a d) := rfl
  refine ⟨some (.own (.list ((List.range side).map fun j => tileR f side a (d * side + j)))), p7, ?_⟩
  cases hf : full f side a d with
  | true =>
    rw [hf] at emp
    rw [oneT_t hf]
    simp -implicitDefEqProofs only [lp_tiles_of_2, r, e, eL, emp, tl, div_side a side h1 hs, div_side d side h1 hs, appO_ok _ _ _ _ hlen, evs_, Option.bind_some, List.getElem?_cons_zero, List.getElem?_cons_succ, List.set_cons_zero, List.set_cons_succ, List.map_cons, List.map_nil, List.cons_append, List.nil_append, List.length_cons, List.length_nil, Nat.reduceAdd, Nat.reduceSub, Nat.reduceLeDiff, Nat.reduceLT, Bool.not_true, Bool.not_false, decide_true, decide_false]
    rfl
  | false =>
    rw [hf] at emp
    rw [oneT_f hf, List.append_nil]
    simp -implicitDefEqProofs only [lp_tiles_of_2, r, e, eL, emp, evs_, Option.bind_some, List.getElem?_cons_zero, List.getElem?_cons_succ, List.set_cons_zero, List.set_cons_succ, List.map_cons, List.map_nil, List.cons_append, List.nil_append, List.length_cons, List.length_nil, Nat.reduceAdd, Nat.reduceSub, Nat.reduceLeDiff, Nat.reduceLT, Bool.not_true, Bool.not_false, decide_true, decide_false]
theorem cdiv_mul {n side k : Nat} (hs : 1 ≤ side) (hk : k < cdiv n side) : k * side ≤ n := by
  unfold cdiv at hk
  have h1 : k + 1 ≤ (n + side - 1) / side := hk
  have h2 := (Nat.le_div_iff_mul_le (by omega)).mp h1
  rw [Nat.add_mul] at h2
  omega
theorem cdiv_le (n side : Nat) (hs : 1 ≤ side) : cdiv n side ≤ n := by
  unfold cdiv
  rw [Nat.div_le_iff_le_mul_add_pred (by omega)]
  have : n * 1 ≤ side * n := by rw [Nat.mul_comm side n]; exact Nat.mul_le_mul_left n hs
  omega
theorem one_len (f : GF) (side l d : Nat) : ∀ as : List Nat, (as.flatMap (oneT f side l d)).length ≤ as.length
  | [] => by simp
  | a :: as => by
    have := one_len f side l d as
    rw [List.flatMap_cons, List.length_append, List.length_cons]
    have le : (oneT f side l d a).length ≤ 1 := by
      unfold oneT
      split <;> simp
    omega
theorem tile3 {h w : Nat} {f : GF} (Z : Zo h w f) (side d l : Nat) (g1 : 1 ≤ h) (h1 : 1 ≤ side) (hs : side ≤ 1000) (w2 : w ≤ 1000) (hd : d * side ≤ 100000) (o5 o6 o7 : Option Sl) (acc : List D) (hlen : acc.length < 16000000) :
    ∃ p5 p6 p7 : Option Sl, lp_tiles_of_3 [some (.val (grD h w f)), some (.val (.int (side : Int))), some (.val (.int (l : Int))), some (.own (.list acc)), some (.val (.int ((d * side : Nat) : Int))), o5, o6, o7, none, none, none] =
    .nx [some (.val (grD h w f)), some (.val (.int (side : Int))), some (.val (.int (l : Int))), some (.own (.list (acc ++ (List.range (cdiv w side)).flatMap (oneT f side l d)))), some (.val (.int ((d * side : Nat) : Int))), p5, p6, p7, none, none, none] := by
  have r := up_range w side h1 hs w2
  have i0 : ixF (grD h w f) (.int 0) = some (grR w f 0) := ix_gr w h f 0 (by omega)
  have cw := cdiv_le w side h1
  obtain ⟨ρ', e, p5, p6, p7, rfl⟩ := forGo_acc (t := .nm 5) (f := lp_tiles_of_2) (fun i : Nat => PyData.int ((i * side : Nat) : Int)) (oneT f side l d)
    (fun ac ρ => ∃ o5 o6 o7 : Option Sl, ρ = [some (.val (grD h w f)), some (.val (.int (side : Int))), some (.val (.int (l : Int))), some (.own (.list (acc ++ ac))), some (.val (.int ((d * side : Nat) : Int))), o5, o6, o7, none, none, none]) (List.range (cdiv w side)) []
    [some (.val (grD h w f)), some (.val (.int (side : Int))), some (.val (.int (l : Int))), some (.own (.list acc)), some (.val (.int ((d * side : Nat) : Int))), o5, o6, o7, none, none, none] ⟨o5, o6, o7, by rw [List.flatMap_nil, List.append_nil]⟩ (by
      rintro pre a post hp ρ ⟨o5, o6, o7, rfl⟩
      have lp := pre_len hp
      rw [List.length_range] at lp
      have la : a < cdiv w side := by
        have : a ∈ List.range (cdiv w side) := by
          rw [List.nil_append] at hp
          rw [hp]
          simp
        simpa using this
      have ha := cdiv_mul h1 la
      have ol := one_len f side l d pre
      have hl : (acc ++ pre.flatMap (oneT f side l d)).length < 16777216 := by
        rw [List.length_append]
        omega
      obtain ⟨p6, p7, q⟩ := tile2 Z side a d l h1 hs (by omega) hd o6 o7 _ hl
      exact ⟨_, _, bT_nm .., q, _, _, _, by rw [List.append_assoc]⟩)
  rw [List.nil_append] at e
  refine ⟨p5, p6, p7, ?_⟩
  have r' : (RL.ok [PyData.int 0, PyData.int (w : Int), PyData.int (side : Int)]).items rng3 = .ok ((List.range (cdiv w side)).map fun i => PyData.int ((i * side : Nat) : Int)) := items3 r
  simp -implicitDefEqProofs only [lp_tiles_of_3, i0, len_grR, ap_iRange3, r', e, evs_, Option.bind_some, List.getElem?_cons_zero, List.getElem?_cons_succ, List.set_cons_zero, List.set_cons_succ, List.map_cons, List.map_nil, List.cons_append, List.nil_append, List.length_cons, List.length_nil, Nat.reduceAdd, Nat.reduceSub, Nat.reduceLeDiff, Nat.reduceLT, Bool.not_true, Bool.not_false, decide_true, decide_false]
theorem row_one (f : GF) (side l d : Nat) : ∀ as : List Nat, as.flatMap (oneT f side l d) = (((as.filter fun a => full f side a d).map fun a => ((l, a, d) : Ky))).map (entD3 f side)
  | [] => rfl
  | a :: as => by
    have ih := row_one f side l d as
    rw [List.flatMap_cons, ih, List.filter_cons]
    cases hf : full f side a d with
    | true => rw [oneT_t hf, if_pos rfl]; rfl
    | false => rw [oneT_f hf, if_neg Bool.false_ne_true]; rfl
theorem keys_len (h w : Nat) (f : GF) (side l : Nat) (hs : 1 ≤ side) : ∀ ds : List Nat, (ds.flatMap (rowK w f side l)).length ≤ ds.length * w
  | [] => by simp
  | d :: ds => by
    have := keys_len h w f side l hs ds
    have le : (rowK w f side l d).length ≤ w := by
      unfold rowK
      rw [List.length_map]
      refine Nat.le_trans (List.length_filter_le _ _) ?_
      rw [List.length_range]
      exact cdiv_le w side hs
    rw [List.flatMap_cons, List.length_append, List.length_cons, Nat.add_mul]
    omega
theorem tiles_of_eq {h w : Nat} {f : GF} (Z : Zo h w f) (side l : Nat) (g1 : 1 ≤ h) (g2 : h ≤ 1000) (w2 : w ≤ 1000) (h1 : 1 ≤ side) (hs : side ≤ 1000) : sem_tiles_of [grD h w f, .int (side : Int), .int (l : Int)] = .ok (.list ((keysAt h w f side l).map (entD3 f side))) := by
  have r : (RL.ok [PyData.int 0, PyData.int (h : Int), PyData.int (side : Int)]).items rng3 = .ok ((List.range (cdiv h side)).map fun i => PyData.int ((i * side : Nat) : Int)) := items3 (up_range h side h1 hs g2)
  have ch := cdiv_le h side h1
  obtain ⟨ρ', e, p4, p5, p6, p7, rfl⟩ := forGo_acc (t := .nm 4) (f := lp_tiles_of_3) (fun i : Nat => PyData.int ((i * side : Nat) : Int)) (rowK w f side l)
    (fun ac ρ => ∃ o4 o5 o6 o7 : Option Sl, ρ = [some (.val (grD h w f)), some (.val (.int (side : Int))), some (.val (.int (l : Int))), some (.own (.list (ac.map (entD3 f side)))), o4, o5, o6, o7, none, none, none]) (List.range (cdiv h side)) []
    [some (.val (grD h w f)), some (.val (.int (side : Int))), some (.val (.int (l : Int))), some (.own (.list [])), none, none, none, none, none, none, none] ⟨none, none, none, none, rfl⟩ (by
      rintro pre d post hp ρ ⟨o4, o5, o6, o7, rfl⟩
      have lp := pre_len hp
      rw [List.length_range] at lp
      have ld : d < cdiv h side := by
        have : d ∈ List.range (cdiv h side) := by
          rw [List.nil_append] at hp
          rw [hp]
          simp
        simpa using this
      have hd := cdiv_mul h1 ld
      have kl := keys_len h w f side l h1 pre
      have : pre.length * w ≤ 1000 * 1000 := Nat.mul_le_mul (by omega) w2
      have hl : ((pre.flatMap (rowK w f side l)).map (entD3 f side)).length < 16000000 := by
        rw [List.length_map]
        omega
      obtain ⟨p5, p6, p7, q⟩ := tile3 Z side d l g1 h1 hs w2 (by omega) o5 o6 o7 _ hl
      refine ⟨_, _, bT_nm .., q, some (.val (.int ((d * side : Nat) : Int))), p5, p6, p7, ?_⟩
      rw [row_one, List.map_append]
      rfl)
  rw [List.nil_append] at e
  simp -implicitDefEqProofs only [sem_tiles_of, runW_eq, b_tiles_of, len_gr, ap_iRange3, r, e, ap_sRn, rnO_own, outN_rn, evs_, Option.bind_some, List.getElem?_cons_zero, List.getElem?_cons_succ, List.set_cons_zero, List.set_cons_succ, List.map_cons, List.map_nil, List.cons_append, List.nil_append, List.length_cons, List.length_nil, Nat.reduceAdd, Nat.reduceSub, Nat.reduceLeDiff, Nat.reduceLT, Bool.not_true, Bool.not_false, decide_true, decide_false]
  rfl
end VVlaw
namespace VVlaw
open PySem PySem.Spec L2 VV
open PyProof.Rows hiding St
def Fl (f : GF) : Nat → GF
  | 0 => f
  | k + 1 => half (Fl f k)
def upN (n : Nat) : Nat → Nat
  | 0 => n
  | k + 1 => up2 (upN n k)
theorem Fl_zo {h w : Nat} {f : GF} (Z : Zo h w f) : ∀ k, Zo (upN h k) (upN w k) (Fl f k)
  | 0 => Z
  | k + 1 => half_zo (Fl_zo Z k)
theorem upN_le (n : Nat) : ∀ k, upN n k ≤ n
  | 0 => Nat.le_refl _
  | k + 1 => by
    have := upN_le n k
    show up2 (upN n k) ≤ n
    unfold up2
    omega
theorem upN_pos {n : Nat} (h : 1 ≤ n) : ∀ k, 1 ≤ upN n k
  | 0 => h
  | k + 1 => by
    have := upN_pos h k
    show 1 ≤ up2 (upN n k)
    unfold up2
    omega
def smallAt (h w side k : Nat) : Prop := upN h k ≤ side ∧ upN w k ≤ side
instance (h w side k : Nat) : Decidable (smallAt h w side k) := inferInstanceAs (Decidable (_ ∧ _))
structure Top (h w side t : Nat) : Prop where
  below : ∀ k, k < t → ¬ smallAt h w side k
  here : smallAt h w side t
def entA (f : GF) (side : Nat) (k : Ky) : D := entD3 (Fl f k.1) side k
def levK (h w : Nat) (f : GF) (side k : Nat) : List Ky := keysAt (upN h k) (upN w k) (Fl f k) side k
def upTo (h w : Nat) (f : GF) (side t : Nat) : List Ky := (List.range (t + 1)).flatMap (levK h w f side)
theorem lev_ent (h w : Nat) (f : GF) (side k : Nat) : (keysAt (upN h k) (upN w k) (Fl f k) side k).map (entD3 (Fl f k) side) = (levK h w f side k).map (entA f side) := by
  refine List.map_congr_left fun q hq => ?_
  unfold keysAt rowK at hq
  obtain ⟨d, _, hd⟩ := List.mem_flatMap.mp hq
  obtain ⟨a, _, rfl⟩ := List.mem_map.mp hd
  rfl
theorem levK_len {h w : Nat} (f : GF) {side : Nat} (k : Nat) (hs : 1 ≤ side) (h2 : h ≤ 120) (w2 : w ≤ 120) : (levK h w f side k).length ≤ 14400 := by
  unfold levK keysAt
  refine Nat.le_trans (keys_len (upN h k) (upN w k) (Fl f k) side k hs _) ?_
  rw [List.length_range]
  have a := Nat.le_trans (cdiv_le (upN h k) side hs) (upN_le h k)
  have b := upN_le w k
  exact Nat.mul_le_mul (show _ ≤ 120 by omega) (show _ ≤ 120 by omega)
theorem upTo_succ (h w : Nat) (f : GF) (side t : Nat) : upTo h w f side (t + 1) = upTo h w f side t ++ levK h w f side (t + 1) := by
  unfold upTo
  rw [List.range_succ, List.flatMap_append]
  simp
theorem upTo_len {h w : Nat} (f : GF) {side : Nat} (hs : 1 ≤ side) (h2 : h ≤ 120) (w2 : w ≤ 120) : ∀ t, (upTo h w f side t).length ≤ (t + 1) * 14400
  | 0 => by
    have := levK_len f (side := side) 0 hs h2 w2
    unfold upTo
    simp
    omega
  | t + 1 => by
    have := upTo_len (h := h) (w := w) f hs h2 w2 t
    have := levK_len f (side := side) (t + 1) hs h2 w2
    rw [upTo_succ, List.length_append]
    omega
theorem up_less {h w side k : Nat} (hs : 1 ≤ side) (h1 : 1 ≤ h) (w1 : 1 ≤ w) (hn : ¬ smallAt h w side k) : upN h (k + 1) + upN w (k + 1) < upN h k + upN w k := by
  unfold smallAt at hn
  have := upN_pos h1 k
  have := upN_pos w1 k
  show up2 (upN h k) + up2 (upN w k) < _
  unfold up2
  omega
abbrev bC : EF := gOr (eOp gtF (eCB lenF [(eV 2)]) (eV 1)) (eOp gtF (eCB lenF [(eOp ixF (eV 2) (eC (.int 0)))]) (eV 1))
def bSt (h w : Nat) (f : GF) (side : Nat) (p : D) (k : Nat) : En := [some (.val p), some (.val (.int (side : Int))), some (.val (grD (upN h k) (upN w k) (Fl f k))), some (.val (.int (w : Int))), some (.val (.int (h : Int))), some (.own (.list ((upTo h w f side k).map (entA f side)))), some (.val (.int (k : Int))), none, none]
theorem bC_eq {h w : Nat} (f : GF) (side : Nat) (p : D) (k : Nat) (h1 : 1 ≤ h) : bC (bSt h w f side p k) = .ok (.bool (!(decide (smallAt h w side k)))) := by
  have i0 : ixF (grD (upN h k) (upN w k) (Fl f k)) (.int 0) = some (grR (upN w k) (Fl f k) 0) := ix_gr _ _ _ 0 (upN_pos h1 k)
  unfold bSt
  by_cases a : (side : Int) < (upN h k : Int)
  · simp -implicitDefEqProofs only [len_gr, i0, len_grR, a, evs_, Option.bind_some, List.getElem?_cons_zero, List.getElem?_cons_succ, List.set_cons_zero, List.set_cons_succ, List.map_cons, List.map_nil, List.cons_append, List.nil_append, List.length_cons, List.length_nil, Nat.reduceAdd, Nat.reduceSub, Nat.reduceLeDiff, Nat.reduceLT, Bool.not_true, Bool.not_false, decide_true, decide_false]
    have : ¬ smallAt h w side k := fun z => by unfold smallAt at z; omega
    simp [this]
  · by_cases b : (side : Int) < (upN w k : Int)
    · simp -implicitDefEqProofs only [len_gr, i0, len_grR, a, b, evs_, Option.bind_some, List.getElem?_cons_zero, List.getElem?_cons_succ, List.set_cons_zero, List.set_cons_succ, List.map_cons, List.map_nil, List.cons_append, List.nil_append, List.length_cons, List.length_nil, Nat.reduceAdd, Nat.reduceSub, Nat.reduceLeDiff, Nat.reduceLT, Bool.not_true, Bool.not_false, decide_true, decide_false]
      have : ¬ smallAt h w side k := fun z => by unfold smallAt at z; omega
      simp [this]
    · simp -implicitDefEqProofs only [len_gr, i0, len_grR, a, b, evs_, Option.bind_some, List.getElem?_cons_zero, List.getElem?_cons_succ, List.set_cons_zero, List.set_cons_succ, List.map_cons, List.map_nil, List.cons_append, List.nil_append, List.length_cons, List.length_nil, Nat.reduceAdd, Nat.reduceSub, Nat.reduceLeDiff, Nat.reduceLT, Bool.not_true, Bool.not_false, decide_true, decide_false]
      have : smallAt h w side k := ⟨by omega, by omega⟩
      simp [this]
theorem aug_int (fn : Int → Int → Int) (i : Nat) (f : EF) (ρ : En) (a b : Int) (h1 : ρ[i]? = some (some (.val (.int a)))) (h2 : f ρ = .ok (.int b)) : sAug fn i f ρ = .nx (ρ.set i (some (.val (.int (fn a b))))) := by
  unfold sAug eV
  rw [h1, h2]
  rfl
theorem b_step {h w : Nat} {f : GF} (Z : Zo h w f) (side : Nat) (p : D) (k : Nat) (h1 : 1 ≤ h) (w1 : 1 ≤ w) (h2 : h ≤ 120) (w2 : w ≤ 120) (s1 : 1 ≤ side) (s2 : side ≤ 1000) (hk : k ≤ 1000) : lp_built_of_1 (bSt h w f side p k) = .nx (bSt h w f side p (k + 1)) := by
  have uh := upN_le h k
  have uw := upN_le w k
  have uh' := upN_le h (k + 1)
  have uw' := upN_le w (k + 1)
  have e1 := halved_eq (Fl_zo Z k) (upN_pos h1 k) (by omega) (upN_pos w1 k) (by omega)
  have e2 := tiles_of_eq (Fl_zo Z (k + 1)) side (k + 1) (upN_pos h1 (k + 1)) (by omega) (by omega) s1 s2
  rw [lev_ent] at e2
  have l1 := upTo_len f (h := h) (w := w) (side := side) s1 h2 w2 k
  have l2 := levK_len f (h := h) (w := w) (side := side) (k + 1) s1 h2 w2
  have e3 : sem_halved [grD (upN h k) (upN w k) (Fl f k)] = .ok (grD (upN h (k + 1)) (upN w (k + 1)) (Fl f (k + 1))) := e1
  have ek : (k : Int) + 1 = ((k + 1 : Nat) : Int) := by omega
  have hx : ((upTo h w f side k).map (entA f side)).length + ((levK h w f side (k + 1)).map (entA f side)).length ≤ 16777216 := by
    rw [List.length_map, List.length_map]
    omega
  have au := aug_int (fun i j => i + j) 6 (eC (.int 1)) [some (.val p), some (.val (.int (side : Int))), some (.val (grD (upN h (k + 1)) (upN w (k + 1)) (Fl f (k + 1)))), some (.val (.int (w : Int))), some (.val (.int (h : Int))), some (.own (.list ((upTo h w f side k).map (entA f side)))), some (.val (.int (k : Int))), none, none] k 1 rfl rfl
  unfold bSt
  simp -implicitDefEqProofs only [lp_built_of_1, e3, au, ek, e2, extO_ok _ _ _ _ hx, evs_, Option.bind_some, List.getElem?_cons_zero, List.getElem?_cons_succ, List.set_cons_zero, List.set_cons_succ, List.map_cons, List.map_nil, List.cons_append, List.nil_append, List.length_cons, List.length_nil, Nat.reduceAdd, Nat.reduceSub, Nat.reduceLeDiff, Nat.reduceLT, Bool.not_true, Bool.not_false, decide_true, decide_false]
  rw [upTo_succ, List.map_append]
theorem b_loop {h w : Nat} {f : GF} (Z : Zo h w f) (side : Nat) (p : D) (h1 : 1 ≤ h) (w1 : 1 ≤ w) (h2 : h ≤ 120) (w2 : w ≤ 120) (s1 : 1 ≤ side) (s2 : side ≤ 1000) : ∀ (n l : Nat), upN h l + upN w l ≤ n → l + n ≤ 240 → (∀ k, k < l → ¬ smallAt h w side k) →
    ∃ t, Top h w side t ∧ t ≤ 240 ∧ ∀ N, n < N → whGo bC lp_built_of_1 N (bSt h w f side p l) = .nx (bSt h w f side p t)
  | 0, l, hn, _, _ => by
    have := upN_pos h1 l
    omega
  | n + 1, l, hn, hl, hb => by
    by_cases hsm : smallAt h w side l
    · refine ⟨l, ⟨hb, hsm⟩, by omega, fun N hN => ?_⟩
      obtain ⟨M, rfl⟩ : ∃ M, N = M + 1 := ⟨N - 1, by omega⟩
      refine whGo_f ?_
      rw [bC_eq f side p l h1]
      simp [hsm]
    · have less := up_less s1 h1 w1 hsm
      obtain ⟨t, T, ht, go⟩ := b_loop Z side p h1 w1 h2 w2 s1 s2 n (l + 1) (by omega) (by omega) (by
        intro k hk
        rcases Nat.lt_or_ge k l with z | z
        · exact hb k z
        · have : k = l := by omega
          subst this
          exact hsm)
      refine ⟨t, T, ht, fun N hN => ?_⟩
      obtain ⟨M, rfl⟩ : ∃ M, N = M + 1 := ⟨N - 1, by omega⟩
      rw [whGo_t (by rw [bC_eq f side p l h1]; simp [hsm]) (b_step Z side p l h1 w1 h2 w2 s1 s2 (by omega))]
      exact go M (by omega)
abbrev Pic := List (List (Option Int))
def oD : Option Int → D
  | none => .none
  | some v => .int v
def prow (r : List (Option Int)) : D := .tuple (r.map oD)
def picD (p : Pic) : D := .tuple (p.map prow)
structure Pc2 (p : Pic) (h w : Nat) : Prop where
  len : p.length = h
  row : ∀ r ∈ p, r.length = w
  lev : ∀ r ∈ p, ∀ v, some v ∈ r → 0 ≤ v ∧ v ≤ 255
  h1 : 1 ≤ h
  h2 : h ≤ 120
  w1 : 1 ≤ w
  w2 : w ≤ 120
def pixO : Option Int → Pr
  | none => (0, 0)
  | some v => (v, 1)
def pix (p : Pic) : GF := fun x y => pixO ((p.getD y []).getD x none)
theorem pix_zo {p : Pic} {h w : Nat} (P : Pc2 p h w) : Zo h w (pix p) := by
  intro x y hn
  unfold pix
  by_cases hy : y < h
  · have hx : ¬ x < w := fun z => hn ⟨z, hy⟩
    have hy' : y < p.length := by rw [P.len]; exact hy
    have hr := P.row p[y] (List.getElem_mem hy')
    have e : p.getD y [] = p[y] := by simp [List.getD, hy']
    rw [e]
    have e2 : (p[y]).getD x none = none := by simp [List.getD, show (p[y]).length ≤ x by omega]
    rw [e2]
    rfl
  · have hl := P.len
    have e : p.getD y [] = [] := by simp [List.getD, show p.length ≤ y by omega]
    rw [e]
    rfl
end VVlaw
namespace VVlaw
open PySem PySem.Spec L2 VV
open PyProof.Rows hiding St
def leA (f : GF) (side : Nat) (k q : Ky) : Bool := PySem.W.dataLe false (fun d : D => d) (entA f side k) (entA f side q)
theorem sortD_ent (f : GF) (side : Nat) (K : List Ky) : sortD (K.map (entA f side)) = (K.mergeSort (leA f side)).map (entA f side) := by
  unfold sortD
  exact (List.map_mergeSort (f := entA f side) (r := leA f side) (s := PySem.W.dataLe false fun d : D => d) fun _ _ _ _ => rfl).symm
theorem alike_pr : ∀ (ps qs : List Pr), PySem.W.alikeAll (ps.map prD) (qs.map prD) = true
  | [], _ => by simp [PySem.W.alikeAll]
  | _ :: _, [] => by simp [PySem.W.alikeAll]
  | p :: ps, q :: qs => by
    have := alike_pr ps qs
    simp [PySem.W.alikeAll, PySem.W.alike, prD, this]
theorem alike_rows (f : GF) (side a b : Nat) (g : GF) : ∀ ys zs : List Nat, PySem.W.alikeAll (ys.map fun j => tileR f side a j) (zs.map fun j => tileR g side b j) = true
  | [], _ => by simp [PySem.W.alikeAll]
  | _ :: _, [] => by simp [PySem.W.alikeAll]
  | y :: ys, z :: zs => by
    have ih := alike_rows f side a b g ys zs
    have h1 : PySem.W.alike (tileR f side a y) (tileR g side b z) = true := by
      unfold tileR
      have := alike_pr ((List.range side).map fun i => f (a * side + i) y) ((List.range side).map fun i => g (b * side + i) z)
      rw [List.map_map, List.map_map] at this
      rw [PySem.W.alike]
      exact this
    simp -implicitDefEqProofs only [List.map_cons, PySem.W.alikeAll, h1, ih, Bool.and_self]
theorem alike_ent (f : GF) (side : Nat) (k q : Ky) : PySem.W.alike (entA f side k) (entA f side q) = true := by
  have h : PySem.W.alike (tileD (Fl f k.1) side k.2.1 k.2.2) (tileD (Fl f q.1) side q.2.1 q.2.2) = true := by
    unfold tileD
    have := alike_rows (Fl f k.1) side k.2.1 q.2.1 (Fl f q.1) ((List.range side).map fun j => k.2.2 * side + j) ((List.range side).map fun j => q.2.2 * side + j)
    rw [List.map_map, List.map_map] at this
    rw [PySem.W.alike]
    exact this
  unfold entA entD3 kyD
  simp [PySem.W.alike, PySem.W.alikeAll, h]
theorem lay_pr (p : Pr) : (prD p).canLay0 = true ∧ (prD p).depth ≤ 2 := by
  unfold prD
  simp [PyData.canLay0, PyData.canLayAll0, PyData.depth, PyData.depthAll]
theorem lay_all {α : Type} (g : α → D) (c : Nat) (h : ∀ x, (g x).canLay0 = true ∧ (g x).depth ≤ c) : ∀ xs : List α, PyData.canLayAll0 (xs.map g) = true ∧ PyData.depthAll (xs.map g) ≤ c
  | [] => by simp [PyData.canLayAll0, PyData.depthAll]
  | x :: xs => by
    obtain ⟨a, b⟩ := h x
    obtain ⟨ia, ib⟩ := lay_all g c h xs
    simp -implicitDefEqProofs only [List.map_cons, PyData.canLayAll0, PyData.depthAll, a, ia, Bool.and_self, true_and]
    omega
theorem lay_tuple {α : Type} (g : α → D) (c : Nat) (h : ∀ x, (g x).canLay0 = true ∧ (g x).depth ≤ c) (xs : List α) : (PyData.tuple (xs.map g)).canLay0 = true ∧ (PyData.tuple (xs.map g)).depth ≤ c + 1 := by
  obtain ⟨a, b⟩ := lay_all g c h xs
  simp -implicitDefEqProofs only [PyData.canLay0, PyData.depth, a, true_and]
  omega
theorem lay_ent (f : GF) (side : Nat) (k : Ky) : (entA f side k).canLay0 = true ∧ (entA f side k).depth ≤ 10 := by
  have h1 : ∀ (g : GF) (a y : Nat), (tileR g side a y).canLay0 = true ∧ (tileR g side a y).depth ≤ 3 := fun g a y => lay_tuple (fun i => prD (g (a * side + i) y)) 2 (fun i => lay_pr _) (List.range side)
  have h2 : ∀ (g : GF) (a d : Nat), (tileD g side a d).canLay0 = true ∧ (tileD g side a d).depth ≤ 4 := fun g a d => lay_tuple (fun j => tileR g side a (d * side + j)) 3 (fun j => h1 g a _) (List.range side)
  obtain ⟨a, b⟩ := h2 (Fl f k.1) k.2.1 k.2.2
  unfold entA entD3 kyD
  simp -implicitDefEqProofs only [PyData.canLay0, PyData.canLayAll0, PyData.depth, PyData.depthAll, a, Bool.and_self, true_and]
  omega
theorem okSort_ent (f : GF) (side : Nat) (K : List Ky) : okSort (K.map (entA f side)) = true := by
  unfold okSort
  simp -implicitDefEqProofs only [Bool.and_eq_true, List.all_eq_true, Bool.or_eq_true]
  refine ⟨⟨fun d hd e he => ?_, .inl fun d hd => ?_⟩, fun d hd => ?_⟩
  · obtain ⟨k, _, rfl⟩ := List.mem_map.mp hd
    obtain ⟨l, _, rfl⟩ := List.mem_map.mp he
    exact alike_ent f side k l
  · obtain ⟨k, _, rfl⟩ := List.mem_map.mp hd
    rfl
  · obtain ⟨k, _, rfl⟩ := List.mem_map.mp hd
    obtain ⟨a, b⟩ := lay_ent f side k
    exact ⟨a, decide_eq_true (by omega)⟩
theorem sort_tiles (f : GF) (side : Nat) (K : List Ky) : sortF [.list (K.map (entA f side))] = some (.list ((K.mergeSort (leA f side)).map (entA f side))) := by
  rw [← sortD_ent]
  show (if okSort (K.map (entA f side)) = true then some (PyData.list (sortD (K.map (entA f side)))) else none) = _
  rw [if_pos (okSort_ent f side K)]
end VVlaw
namespace VVlaw
open PySem PySem.Spec L2 VV
open PyProof.Rows hiding St
theorem map_range {α β : Type} (g : α → β) (z : α) (xs : List α) : xs.map g = (List.range xs.length).map fun i => g (xs.getD i z) := by
  refine List.ext_getElem (by simp) fun i h1 h2 => ?_
  have hi : i < xs.length := by simpa using h1
  simp [List.getD, hi]
theorem pic_grid {p : Pic} {h w : Nat} (P : Pc2 p h w) : (PyData.list (p.map fun r => PyData.list (r.map fun o => prD (pixO o)))) = grD h w (pix p) := by
  unfold grD
  rw [map_range (fun r : List (Option Int) => PyData.list (r.map fun o => prD (pixO o))) [] p, P.len]
  refine congrArg PyData.list (List.map_congr_left fun y hy => ?_)
  have hy' : y < p.length := by rw [P.len]; simpa using hy
  have e : p.getD y [] = p[y] := by simp [List.getD, hy']
  unfold grR
  rw [map_range (fun o : Option Int => prD (pixO o)) none (p.getD y []), e, P.row p[y] (List.getElem_mem hy')]
  refine congrArg PyData.list (List.map_congr_left fun x _ => ?_)
  unfold pix
  rw [e]
theorem rows_eq {p : Pic} {h w : Nat} (P : Pc2 p h w) (ρ : En) (hl : ρ.length = 9) (e0 : ρ[0]? = some (some (.val (picD p)))) :
    eLc [7] (iSeq (eV 0)) (.nm 7) (eC (.bool true)) (eLc [8] (iSeq (eV 7)) (.nm 8) (eC (.bool true)) (eIf (eOp isF (eV 8) (eC .none)) (eTup [(eC (.int 0)), (eC (.int 0))]) (eTup [(eV 8), (eC (.int 1))]))) ρ = .ok (grD h w (pix p)) := by
  have h2 := P.h2; have w2 := P.w2; have pl := P.len
  rw [← pic_grid P]
  refine eLc_mapA p prow (fun r => PyData.list (r.map fun o => prD (pixO o))) ?_ (by omega) ?_
  · have : picD p = .tuple (p.map prow) := rfl
    simp -implicitDefEqProofs only [e0, this, evs_, Option.bind_some, List.getElem?_cons_zero, List.getElem?_cons_succ, List.set_cons_zero, List.set_cons_succ, List.map_cons, List.map_nil, List.cons_append, List.nil_append, List.length_cons, List.length_nil, Nat.reduceAdd, Nat.reduceSub, Nat.reduceLeDiff, Nat.reduceLT, Bool.not_true, Bool.not_false, decide_true, decide_false]
  · intro r hr
    have lr := P.row r hr
    have q7 : ((wipeE ρ [7]).set 7 (some (.val (prow r))))[7]? = some (some (.val (prow r))) := List.getElem?_set_self (by rw [wipeE_length]; omega)
    have ql : ((wipeE ρ [7]).set 7 (some (.val (prow r)))).length = 9 := by rw [List.length_set, wipeE_length, hl]
    generalize (wipeE ρ [7]).set 7 (some (.val (prow r))) = ρ2 at q7 ql ⊢
    refine ⟨rfl, eLc_mapA r oD (fun o => prD (pixO o)) ?_ (by omega) ?_⟩
    · have : prow r = .tuple (r.map oD) := rfl
      simp -implicitDefEqProofs only [q7, this, evs_, Option.bind_some, List.getElem?_cons_zero, List.getElem?_cons_succ, List.set_cons_zero, List.set_cons_succ, List.map_cons, List.map_nil, List.cons_append, List.nil_append, List.length_cons, List.length_nil, Nat.reduceAdd, Nat.reduceSub, Nat.reduceLeDiff, Nat.reduceLT, Bool.not_true, Bool.not_false, decide_true, decide_false]
    · intro o _
      have q8 : ((wipeE ρ2 [8]).set 8 (some (.val (oD o))))[8]? = some (some (.val (oD o))) := List.getElem?_set_self (by rw [wipeE_length]; omega)
      generalize (wipeE ρ2 [8]).set 8 (some (.val (oD o))) = ρ3 at q8 ⊢
      refine ⟨rfl, ?_⟩
      cases o with
      | none =>
        have : isF (oD none) .none = some (.bool true) := by kernel_rfl
        simp -implicitDefEqProofs only [q8, this, evs_, Option.bind_some, List.getElem?_cons_zero, List.getElem?_cons_succ, List.set_cons_zero, List.set_cons_succ, List.map_cons, List.map_nil, List.cons_append, List.nil_append, List.length_cons, List.length_nil, Nat.reduceAdd, Nat.reduceSub, Nat.reduceLeDiff, Nat.reduceLT, Bool.not_true, Bool.not_false, decide_true, decide_false]
        rfl
      | some v =>
        have : isF (oD (some v)) .none = some (.bool false) := rfl
        simp -implicitDefEqProofs only [q8, this, evs_, Option.bind_some, List.getElem?_cons_zero, List.getElem?_cons_succ, List.set_cons_zero, List.set_cons_succ, List.map_cons, List.map_nil, List.cons_append, List.nil_append, List.length_cons, List.length_nil, Nat.reduceAdd, Nat.reduceSub, Nat.reduceLeDiff, Nat.reduceLT, Bool.not_true, Bool.not_false, decide_true, decide_false]
        rfl
theorem f_tupZ (ds : List D) : tupZF [.list ds] = some (fzD ds) := rfl
mutual
theorem bare_lay : ∀ d : D, d.canLay0 = true → bareD d = d
  | .none, _ => by rw [bareD]; all_goals (intros; contradiction)
  | .bool _, _ => by rw [bareD]; all_goals (intros; contradiction)
  | .int _, _ => by rw [bareD]; all_goals (intros; contradiction)
  | .str _, _ => by rw [bareD]; all_goals (intros; contradiction)
  | .tuple ds, c => by rw [bareD, bareL_lay ds (by simpa [PyData.canLay0] using c)]
  | .list ds, c => by rw [bareD, bareL_lay ds (by simpa [PyData.canLay0] using c)]
  | .dict ps, c => (not_lay_dict c).elim
theorem bareL_lay : ∀ ds : List D, PyData.canLayAll0 ds = true → bareL ds = ds
  | [], _ => by rw [bareL]
  | d :: ds, c => by
    rw [PyData.canLayAll0, Bool.and_eq_true] at c
    rw [bareL, bare_lay d c.1, bareL_lay ds c.2]
end
theorem eqZ_self {k : Nat} {x : D} (h : Ly k (bareD x)) (hk : k ≤ 64) : eqZF x x = some (.bool true) := f_eq_self h hk
theorem items_fz (ds : List D) : (Rs.ok (fzD ds)).items itF = .ok ds := rfl
theorem isi_fz (ds : List D) : isiO isTup (.ok (fzD ds)) = .ok (.bool true) := rfl
def pyrZ (p : Pic) (h w side t : Nat) : D := .tuple [.int (side : Int), .int (w : Int), .int (h : Int), fzD (((upTo h w (pix p) side t).mergeSort (leA (pix p) side)).map (entA (pix p) side))]
def pyrD (p : Pic) (h w side t : Nat) : D := .tuple [.int (side : Int), .int (w : Int), .int (h : Int), .tuple (((upTo h w (pix p) side t).mergeSort (leA (pix p) side)).map (entA (pix p) side))]
theorem built_of_eq {p : Pic} {h w : Nat} (P : Pc2 p h w) (side : Nat) (s1 : 1 ≤ side) (s2 : side ≤ 1000) : ∃ t, Top h w side t ∧ t ≤ 240 ∧ sem_built_of [picD p, .int (side : Int)] = .ok (pyrZ p h w side t) := by
  have h1 := P.h1; have h2 := P.h2; have w1 := P.w1; have w2 := P.w2
  have Z := pix_zo P
  obtain ⟨t, T, ht, go⟩ := b_loop Z side (picD p) h1 w1 h2 w2 s1 s2 (h + w) 0 (Nat.le_refl _) (by omega) (fun k hk => by omega)
  refine ⟨t, T, ht, ?_⟩
  have g := go 1000000 (by omega)
  have ti := tiles_of_eq Z side 0 h1 (by omega) (by omega) s1 s2
  have le0 := lev_ent h w (pix p) side 0
  have u0 : upTo h w (pix p) side 0 = levK h w (pix p) side 0 := by
    unfold upTo
    simp
  have rows := rows_eq P
  have t0 : sem_tiles_of [grD h w (pix p), .int (side : Int), .int 0] = .ok (.list ((upTo h w (pix p) side 0).map (entA (pix p) side))) := by
    rw [u0, ← le0]
    exact ti
  have i0 : ixF (grD h w (pix p)) (.int 0) = some (grR w (pix p) 0) := ix_gr _ _ _ 0 h1
  have st : bSt h w (pix p) side (picD p) 0 = [some (.val (picD p)), some (.val (.int (side : Int))), some (.val (grD h w (pix p))), some (.val (.int (w : Int))), some (.val (.int (h : Int))), some (.own (.list ((upTo h w (pix p) side 0).map (entA (pix p) side)))), some (.val (.int 0)), none, none] := rfl
  rw [st] at g
  unfold bSt at g
  simp -implicitDefEqProofs only [sem_built_of, b_built_of, rows, i0, len_gr, len_grR, t0, g, sort_tiles, f_tupZ, evs_, Option.bind_some, List.getElem?_cons_zero, List.getElem?_cons_succ, List.set_cons_zero, List.set_cons_succ, List.map_cons, List.map_nil, List.cons_append, List.nil_append, List.length_cons, List.length_nil, Nat.reduceAdd, Nat.reduceSub, Nat.reduceLeDiff, Nat.reduceLT, Bool.not_true, Bool.not_false, decide_true, decide_false]
  rfl
end VVlaw
namespace VVlaw
open PySem PySem.Spec L2 VV
open PyProof.Rows hiding St
theorem is_cell_eq (o : Option Int) (h : ∀ v, o = some v → 0 ≤ v ∧ v ≤ 255) : sem_is_cell [oD o] = .ok (.bool true) := by
  cases o with
  | none =>
    have : isF (oD none) .none = some (.bool true) := by kernel_rfl
    simp -implicitDefEqProofs only [sem_is_cell, b_is_cell, this, evs_, Option.bind_some, List.getElem?_cons_zero, List.getElem?_cons_succ, List.set_cons_zero, List.set_cons_succ, List.map_cons, List.map_nil, List.cons_append, List.nil_append, List.length_cons, List.length_nil, Nat.reduceAdd, Nat.reduceSub, Nat.reduceLeDiff, Nat.reduceLT, Bool.not_true, Bool.not_false, decide_true, decide_false]
  | some v =>
    have e : isF (oD (some v)) .none = some (.bool false) := rfl
    have e2 : oD (some v) = .int v := rfl
    have hv := h v rfl
    simp -implicitDefEqProofs only [sem_is_cell, b_is_cell, e, evs_, Option.bind_some, List.getElem?_cons_zero, List.getElem?_cons_succ, List.set_cons_zero, List.set_cons_succ, List.map_cons, List.map_nil, List.cons_append, List.nil_append, List.length_cons, List.length_nil, Nat.reduceAdd, Nat.reduceSub, Nat.reduceLeDiff, Nat.reduceLT, Bool.not_true, Bool.not_false, decide_true, decide_false]
    simp -implicitDefEqProofs only [e2, is_within_eq, hv, and_self, evs_, Option.bind_some, List.getElem?_cons_zero, List.getElem?_cons_succ, List.set_cons_zero, List.set_cons_succ, List.map_cons, List.map_nil, List.cons_append, List.nil_append, List.length_cons, List.length_nil, Nat.reduceAdd, Nat.reduceSub, Nat.reduceLeDiff, Nat.reduceLT, Bool.not_true, Bool.not_false, decide_true, decide_false]
theorem isi_prow (r : List (Option Int)) : isTup (prow r) = true := rfl
theorem len_prow (r : List (Option Int)) : lenF [prow r] = some (.int (r.length : Int)) := by
  show some (PyData.int _) = _
  simp
theorem len_pic (p : Pic) : lenF [picD p] = some (.int (p.length : Int)) := by
  show some (PyData.int _) = _
  simp
theorem isi_prow' (g : D → Bool) (r : List (Option Int)) : isiO g (.ok (prow r)) = .ok (.bool (g (prow r))) := rfl
theorem isi_pic' (g : D → Bool) (p : Pic) : isiO g (.ok (picD p)) = .ok (.bool (g (picD p))) := rfl
theorem isi_pic (p : Pic) : isTup (picD p) = true := rfl
theorem items_pic (p : Pic) : picD p = .tuple (p.map prow) := rfl
theorem items_prow (r : List (Option Int)) : prow r = .tuple (r.map oD) := rfl
theorem ne_int_self (i : Int) : neF (.int i) (.int i) = some (.bool false) := f_ne_self (Ly.int 0 i) (by decide)
theorem pic1 {p : Pic} {h w : Nat} (P : Pc2 p h w) (r : List (Option Int)) (hr : r ∈ p) (o3 : Option Sl) : lp_is_picture_1 [some (.val (picD p)), some (.val (.int (w : Int))), some (.val (prow r)), o3] = .nx [some (.val (picD p)), some (.val (.int (w : Int))), some (.val (prow r)), o3] := by
  have lr := P.row r hr
  have none_ : eLc [3] (iSeq (eV 2)) (.nm 3) (gNot (gTru (eCall sem_is_cell [(eV 3)]))) (eV 3) [some (.val (picD p)), some (.val (.int (w : Int))), some (.val (prow r)), o3] = .ok (.list []) := by
    refine eLc_noneA r oD (by simp -implicitDefEqProofs only [items_prow, evs_, Option.bind_some, List.getElem?_cons_zero, List.getElem?_cons_succ, List.set_cons_zero, List.set_cons_succ, List.map_cons, List.map_nil, List.cons_append, List.nil_append, List.length_cons, List.length_nil, Nat.reduceAdd, Nat.reduceSub, Nat.reduceLeDiff, Nat.reduceLT, Bool.not_true, Bool.not_false, decide_true, decide_false]) fun o ho => ?_
    have := is_cell_eq o fun v e => P.lev r hr v (e ▸ ho)
    simp -implicitDefEqProofs only [this, evs_, Option.bind_some, List.getElem?_cons_zero, List.getElem?_cons_succ, List.set_cons_zero, List.set_cons_succ, List.map_cons, List.map_nil, List.cons_append, List.nil_append, List.length_cons, List.length_nil, Nat.reduceAdd, Nat.reduceSub, Nat.reduceLeDiff, Nat.reduceLT, Bool.not_true, Bool.not_false, decide_true, decide_false]
  simp -implicitDefEqProofs only [lp_is_picture_1, isi_prow', isi_prow, len_prow, lr, ne_int_self, none_, List.isEmpty_nil, evs_, Option.bind_some, List.getElem?_cons_zero, List.getElem?_cons_succ, List.set_cons_zero, List.set_cons_succ, List.map_cons, List.map_nil, List.cons_append, List.nil_append, List.length_cons, List.length_nil, Nat.reduceAdd, Nat.reduceSub, Nat.reduceLeDiff, Nat.reduceLT, Bool.not_true, Bool.not_false, decide_true, decide_false]
theorem is_picture_eq {p : Pic} {h w : Nat} (P : Pc2 p h w) : sem_is_picture [picD p] = .ok (.bool true) := by
  have h1 := P.h1; have h2 := P.h2; have w1 := P.w1; have w2 := P.w2; have pl := P.len
  have hp : 0 < p.length := by omega
  have i0 : ixF (picD p) (.int 0) = some (prow p[0]) := ix_map_t prow p 0 (by decide) hp
  have l0 := P.row p[0] (List.getElem_mem hp)
  obtain ⟨ρ', e, o2, rfl⟩ := forGo_acc (t := .nm 2) (f := lp_is_picture_1) prow (fun _ => ([] : List D)) (fun _ ρ => ∃ o2 : Option Sl, ρ = [some (.val (picD p)), some (.val (.int (w : Int))), o2, none]) p []
    [some (.val (picD p)), some (.val (.int (w : Int))), none, none] ⟨none, rfl⟩ (by
      rintro pre r post hp ρ ⟨o2, rfl⟩
      have hr : r ∈ p := by
        rw [List.nil_append] at hp
        rw [hp]
        simp
      exact ⟨_, _, bT_nm .., pic1 P r hr none, _, rfl⟩)
  have c1 : (1 : Int) ≤ h := by omega
  have c2 : (h : Int) ≤ 120 := by omega
  have c3 : (1 : Int) ≤ w := by omega
  have c4 : (w : Int) ≤ 120 := by omega
  have it : iSeq (eV 0) [some (.val (picD p)), some (.val (.int (w : Int))), none, none] = .ok (p.map prow) := by simp -implicitDefEqProofs only [items_pic, evs_, Option.bind_some, List.getElem?_cons_zero, List.getElem?_cons_succ, List.set_cons_zero, List.set_cons_succ, List.map_cons, List.map_nil, List.cons_append, List.nil_append, List.length_cons, List.length_nil, Nat.reduceAdd, Nat.reduceSub, Nat.reduceLeDiff, Nat.reduceLT, Bool.not_true, Bool.not_false, decide_true, decide_false]
  simp -implicitDefEqProofs only [sem_is_picture, b_is_picture, isi_pic', isi_pic, len_pic, pl, c1, c2, c3, c4, i0, isi_prow', isi_prow, len_prow, l0, it, e, evs_, Option.bind_some, List.getElem?_cons_zero, List.getElem?_cons_succ, List.set_cons_zero, List.set_cons_succ, List.map_cons, List.map_nil, List.cons_append, List.nil_append, List.length_cons, List.length_nil, Nat.reduceAdd, Nat.reduceSub, Nat.reduceLeDiff, Nat.reduceLT, Bool.not_true, Bool.not_false, decide_true, decide_false]
theorem look_pictures_eq {p : Pic} {h w : Nat} (P : Pc2 p h w) : sem_look_pictures [picD p] = .ok .none := by
  simp -implicitDefEqProofs only [sem_look_pictures, b_look_pictures, is_picture_eq P, evs_, Option.bind_some, List.getElem?_cons_zero, List.getElem?_cons_succ, List.set_cons_zero, List.set_cons_succ, List.map_cons, List.map_nil, List.cons_append, List.nil_append, List.length_cons, List.length_nil, Nat.reduceAdd, Nat.reduceSub, Nat.reduceLeDiff, Nat.reduceLT, Bool.not_true, Bool.not_false, decide_true, decide_false]
def okSide (side : Nat) : Prop := side = 2 ∨ side = 4 ∨ side = 8
theorem okSide.bd {side : Nat} (h : okSide side) : 2 ≤ side ∧ side ≤ 8 := by
  unfold okSide at h
  omega
theorem in_sides {side : Nat} (h : okSide side) : inCF true [.int 2, .int 4, .int 8] (.int (side : Int)) = some (.bool false) := by
  rcases h with rfl | rfl | rfl <;> kernel_rfl
theorem look_side_eq {side : Nat} (h : okSide side) : sem_look_side [.int (side : Int)] = .ok .none := by
  have b := h.bd
  have c : (2 : Int) ≤ side ∧ (side : Int) ≤ 8 := by omega
  simp -implicitDefEqProofs only [sem_look_side, b_look_side, is_within_eq, c, and_self, in_sides h, evs_, Option.bind_some, List.getElem?_cons_zero, List.getElem?_cons_succ, List.set_cons_zero, List.set_cons_succ, List.map_cons, List.map_nil, List.cons_append, List.nil_append, List.length_cons, List.length_nil, Nat.reduceAdd, Nat.reduceSub, Nat.reduceLeDiff, Nat.reduceLT, Bool.not_true, Bool.not_false, decide_true, decide_false]
theorem built_eq {p : Pic} {h w : Nat} (P : Pc2 p h w) {side : Nat} (hs : okSide side) : ∃ t, Top h w side t ∧ t ≤ 240 ∧ sem_built [picD p, .int (side : Int)] = .ok (pyrZ p h w side t) ∧ sem_built_of [picD p, .int (side : Int)] = .ok (pyrZ p h w side t) := by
  have b := hs.bd
  obtain ⟨t, T, ht, e⟩ := built_of_eq P side (by omega) (by omega)
  refine ⟨t, T, ht, ?_, e⟩
  simp -implicitDefEqProofs only [sem_built, b_built, look_pictures_eq P, look_side_eq hs, e, evs_, Option.bind_some, List.getElem?_cons_zero, List.getElem?_cons_succ, List.set_cons_zero, List.set_cons_succ, List.map_cons, List.map_nil, List.cons_append, List.nil_append, List.length_cons, List.length_nil, Nat.reduceAdd, Nat.reduceSub, Nat.reduceLeDiff, Nat.reduceLT, Bool.not_true, Bool.not_false, decide_true, decide_false]
end VVlaw
namespace VVlaw
open PySem PySem.Spec L2 VV
open PyProof.Rows hiding St
theorem Top.uniq {h w side t u : Nat} (A : Top h w side t) (B : Top h w side u) : t = u := by
  rcases Nat.lt_trichotomy t u with z | z | z
  · exact absurd A.here (B.below t z)
  · exact z
  · exact absurd B.here (A.below u z)
abbrev tC : EF := gOr (eOp gtF (eV 2) (eV 1)) (eOp gtF (eV 3) (eV 1))
def tSt (h w side : Nat) (y ts : D) (k : Nat) : En := [some (.val y), some (.val (.int (side : Int))), some (.val (.int (upN w k : Int))), some (.val (.int (upN h k : Int))), some (.val ts), some (.val (.int (k : Int)))]
theorem tC_eq (h w side : Nat) (y ts : D) (k : Nat) : tC (tSt h w side y ts k) = .ok (.bool (!(decide (smallAt h w side k)))) := by
  unfold tSt
  by_cases a : (side : Int) < (upN w k : Int)
  · simp -implicitDefEqProofs only [a, evs_, Option.bind_some, List.getElem?_cons_zero, List.getElem?_cons_succ, List.set_cons_zero, List.set_cons_succ, List.map_cons, List.map_nil, List.cons_append, List.nil_append, List.length_cons, List.length_nil, Nat.reduceAdd, Nat.reduceSub, Nat.reduceLeDiff, Nat.reduceLT, Bool.not_true, Bool.not_false, decide_true, decide_false]
    have : ¬ smallAt h w side k := fun z => by unfold smallAt at z; omega
    simp [this]
  · by_cases b : (side : Int) < (upN h k : Int)
    · simp -implicitDefEqProofs only [a, b, evs_, Option.bind_some, List.getElem?_cons_zero, List.getElem?_cons_succ, List.set_cons_zero, List.set_cons_succ, List.map_cons, List.map_nil, List.cons_append, List.nil_append, List.length_cons, List.length_nil, Nat.reduceAdd, Nat.reduceSub, Nat.reduceLeDiff, Nat.reduceLT, Bool.not_true, Bool.not_false, decide_true, decide_false]
      have : ¬ smallAt h w side k := fun z => by unfold smallAt at z; omega
      simp [this]
    · simp -implicitDefEqProofs only [a, b, evs_, Option.bind_some, List.getElem?_cons_zero, List.getElem?_cons_succ, List.set_cons_zero, List.set_cons_succ, List.map_cons, List.map_nil, List.cons_append, List.nil_append, List.length_cons, List.length_nil, Nat.reduceAdd, Nat.reduceSub, Nat.reduceLeDiff, Nat.reduceLT, Bool.not_true, Bool.not_false, decide_true, decide_false]
      have : smallAt h w side k := ⟨by omega, by omega⟩
      simp [this]
theorem div_up (n : Nat) : divF (.int ((n : Int) + 1)) (.int 2) = some (.int (up2 n : Int)) := by
  rw [f_divP _ _ (by decide) (by decide)]
  unfold up2
  congr 2
theorem t_step (h w side : Nat) (y ts : D) (k : Nat) : lp_top_of_1 (tSt h w side y ts k) = .nx (tSt h w side y ts (k + 1)) := by
  have ek : (k : Int) + 1 = ((k + 1 : Nat) : Int) := by omega
  have au := aug_int (fun i j => i + j) 5 (eC (.int 1)) [some (.val y), some (.val (.int (side : Int))), some (.val (.int (upN w (k + 1) : Int))), some (.val (.int (upN h (k + 1) : Int))), some (.val ts), some (.val (.int (k : Int)))] k 1 rfl rfl
  have d1 : divF (.int ((upN w k : Int) + 1)) (.int 2) = some (.int (upN w (k + 1) : Int)) := div_up _
  have d2 : divF (.int ((upN h k : Int) + 1)) (.int 2) = some (.int (upN h (k + 1) : Int)) := div_up _
  unfold tSt
  simp -implicitDefEqProofs only [lp_top_of_1, d1, d2, au, ek, evs_, Option.bind_some, List.getElem?_cons_zero, List.getElem?_cons_succ, List.set_cons_zero, List.set_cons_succ, List.map_cons, List.map_nil, List.cons_append, List.nil_append, List.length_cons, List.length_nil, Nat.reduceAdd, Nat.reduceSub, Nat.reduceLeDiff, Nat.reduceLT, Bool.not_true, Bool.not_false, decide_true, decide_false]
theorem t_loop {h w side t : Nat} (T : Top h w side t) (y ts : D) : ∀ (n k : Nat), k + n = t → ∀ N, n < N → whGo tC lp_top_of_1 N (tSt h w side y ts k) = .nx (tSt h w side y ts t)
  | 0, k, hk, N, hN => by
    have e : k = t := by omega
    subst e
    obtain ⟨M, rfl⟩ : ∃ M, N = M + 1 := ⟨N - 1, by omega⟩
    refine whGo_f ?_
    rw [tC_eq]
    simp [T.here]
  | n + 1, k, hk, N, hN => by
    obtain ⟨M, rfl⟩ : ∃ M, N = M + 1 := ⟨N - 1, by omega⟩
    have ns := T.below k (by omega)
    rw [whGo_t (by rw [tC_eq]; simp [ns]) (t_step h w side y ts k)]
    exact t_loop T y ts n (k + 1) (by omega) M (by omega)
theorem top_of_eq {h w side t : Nat} (T : Top h w side t) (ht : t ≤ 240) (ts : D) : sem_top_of [.tuple [.int (side : Int), .int (w : Int), .int (h : Int), ts]] = .ok (.int (t : Int)) := by
  have g := t_loop T (.tuple [.int (side : Int), .int (w : Int), .int (h : Int), ts]) ts t 0 (by omega) 1000000 (by omega)
  have st : tSt h w side (.tuple [.int (side : Int), .int (w : Int), .int (h : Int), ts]) ts 0 = [some (.val (.tuple [.int (side : Int), .int (w : Int), .int (h : Int), ts])), some (.val (.int (side : Int))), some (.val (.int (w : Int))), some (.val (.int (h : Int))), some (.val ts), some (.val (.int 0))] := rfl
  rw [st] at g
  unfold tSt at g
  simp -implicitDefEqProofs only [sem_top_of, b_top_of, g, evs_, Option.bind_some, List.getElem?_cons_zero, List.getElem?_cons_succ, List.set_cons_zero, List.set_cons_succ, List.map_cons, List.map_nil, List.cons_append, List.nil_append, List.length_cons, List.length_nil, Nat.reduceAdd, Nat.reduceSub, Nat.reduceLeDiff, Nat.reduceLT, Bool.not_true, Bool.not_false, decide_true, decide_false]
end VVlaw
namespace VVlaw
open PySem PySem.Spec L2 VV
open PyProof.Rows hiding St
def okPr (p : Pr) : Prop := 0 ≤ p.2 ∧ 0 ≤ p.1 ∧ p.1 ≤ 255 * p.2
theorem pix_ok {p : Pic} {h w : Nat} (P : Pc2 p h w) (x y : Nat) : okPr (pix p x y) := by
  unfold pix
  cases e : (p.getD y []).getD x none with
  | none => exact ⟨by decide, by decide, by decide⟩
  | some v =>
    have hy : y < p.length := by
      rcases Nat.lt_or_ge y p.length with z | z
      · exact z
      · rw [show p.getD y [] = [] by simp [List.getD, z]] at e
        cases e
    have er : p.getD y [] = p[y] := by simp [List.getD, hy]
    rw [er] at e
    have m : some v ∈ p[y] := by
      rw [List.getD_eq_getElem?_getD] at e
      cases hx : (p[y])[x]? with
      | none => rw [hx] at e; cases e
      | some o =>
        rw [hx] at e
        have : o = some v := e
        subst this
        exact List.mem_of_getElem? hx
    have := P.lev p[y] (List.getElem_mem hy) v m
    show 0 ≤ (1 : Int) ∧ 0 ≤ v ∧ v ≤ 255 * 1
    omega
theorem half_ok {f : GF} (h : ∀ x y, okPr (f x y)) (x y : Nat) : okPr (half f x y) := by
  obtain ⟨a1, a2, a3⟩ := h (2 * x) (2 * y)
  obtain ⟨b1, b2, b3⟩ := h (2 * x + 1) (2 * y)
  obtain ⟨c1, c2, c3⟩ := h (2 * x) (2 * y + 1)
  obtain ⟨d1, d2, d3⟩ := h (2 * x + 1) (2 * y + 1)
  unfold half okPr
  dsimp only
  omega
theorem Fl_ok {f : GF} (h : ∀ x y, okPr (f x y)) : ∀ k x y, okPr (Fl f k x y)
  | 0 => h
  | k + 1 => half_ok (Fl_ok h k)
def Sm (n : Nat) (g : Nat → Int) : Int := ((List.range n).map g).sum
theorem Sm_succ (n : Nat) (g : Nat → Int) : Sm (n + 1) g = Sm n g + g n := by
  unfold Sm
  rw [List.range_succ, List.map_append, List.sum_append]
  simp
theorem Sm_two (g : Nat → Int) : ∀ n, Sm (2 * n) g = Sm n fun i => g (2 * i) + g (2 * i + 1)
  | 0 => rfl
  | n + 1 => by
    rw [show 2 * (n + 1) = 2 * n + 1 + 1 by omega, Sm_succ, Sm_succ, Sm_two g n, Sm_succ]
    omega
theorem Sm_add (g k : Nat → Int) : ∀ n, Sm n (fun i => g i + k i) = Sm n g + Sm n k
  | 0 => rfl
  | n + 1 => by
    rw [Sm_succ, Sm_succ, Sm_succ, Sm_add g k n]
    omega
theorem Sm_congr {g k : Nat → Int} : ∀ n, (∀ i, i < n → g i = k i) → Sm n g = Sm n k
  | 0, _ => rfl
  | n + 1, h => by
    rw [Sm_succ, Sm_succ, Sm_congr n fun i hi => h i (by omega), h n (by omega)]
theorem Fl_shift (f : GF) : ∀ k, Fl f (k + 1) = Fl (half f) k
  | 0 => rfl
  | k + 1 => by
    show half (Fl f (k + 1)) = half (Fl (half f) k)
    rw [Fl_shift f k]
theorem Fl_block1 : ∀ (k : Nat) (f : GF) (x y : Nat), (Fl f k x y).1 = Sm (2 ^ k) fun j => Sm (2 ^ k) fun i => (f (x * 2 ^ k + i) (y * 2 ^ k + j)).1
  | 0, f, x, y => by
    simp [Sm, Fl]
  | k + 1, f, x, y => by
    rw [Fl_shift, Fl_block1 k (half f) x y, show 2 ^ (k + 1) = 2 * 2 ^ k by rw [Nat.pow_succ, Nat.mul_comm], Sm_two]
    refine Sm_congr _ fun j _ => ?_
    rw [Sm_two, Sm_two, ← Sm_add]
    refine Sm_congr _ fun i _ => ?_
    unfold half
    dsimp only
    have e1 : 2 * (x * 2 ^ k + i) = x * (2 * 2 ^ k) + 2 * i := by rw [Nat.mul_add, Nat.mul_left_comm]
    have e2 : 2 * (y * 2 ^ k + j) = y * (2 * 2 ^ k) + 2 * j := by rw [Nat.mul_add, Nat.mul_left_comm]
    rw [e1, e2]
    simp -implicitDefEqProofs only [Nat.add_assoc]
    omega
theorem Fl_block2 : ∀ (k : Nat) (f : GF) (x y : Nat), (Fl f k x y).2 = Sm (2 ^ k) fun j => Sm (2 ^ k) fun i => (f (x * 2 ^ k + i) (y * 2 ^ k + j)).2
  | 0, f, x, y => by
    simp [Sm, Fl]
  | k + 1, f, x, y => by
    rw [Fl_shift, Fl_block2 k (half f) x y, show 2 ^ (k + 1) = 2 * 2 ^ k by rw [Nat.pow_succ, Nat.mul_comm], Sm_two]
    refine Sm_congr _ fun j _ => ?_
    rw [Sm_two, Sm_two, ← Sm_add]
    refine Sm_congr _ fun i _ => ?_
    unfold half
    dsimp only
    have e1 : 2 * (x * 2 ^ k + i) = x * (2 * 2 ^ k) + 2 * i := by rw [Nat.mul_add, Nat.mul_left_comm]
    have e2 : 2 * (y * 2 ^ k + j) = y * (2 * 2 ^ k) + 2 * j := by rw [Nat.mul_add, Nat.mul_left_comm]
    rw [e1, e2]
    simp -implicitDefEqProofs only [Nat.add_assoc]
    omega
theorem Sm_most (B : Int) (hB : 0 ≤ B) (X m : Nat) {g : Nat → Int} (h1 : ∀ i, g i ≤ B) (h0 : ∀ i, m ≤ X + i → g i ≤ 0) : ∀ n, Sm n g ≤ B * ((min n (m - X) : Nat) : Int)
  | 0 => by simp [Sm]
  | n + 1 => by
    have ih := Sm_most B hB X m h1 h0 n
    rw [Sm_succ]
    by_cases c : X + n < m
    · have e1 : min (n + 1) (m - X) = n + 1 := by omega
      have e2 : min n (m - X) = n := by omega
      rw [e2] at ih
      rw [e1]
      have := h1 n
      have e3 : B * ((n + 1 : Nat) : Int) = B * (n : Int) + B := by rw [Int.natCast_add, Int.mul_add]; simp
      omega
    · have := h0 n (by omega)
      have e1 : min (n + 1) (m - X) = min n (m - X) := by omega
      rw [e1]
      omega
theorem count_most {p : Pic} {h w : Nat} (P : Pc2 p h w) (k x y : Nat) : (Fl (pix p) k x y).2 ≤ 14400 := by
  have Z := pix_zo P
  have one : ∀ a b, (pix p a b).2 ≤ 1 := fun a b => by
    unfold pix
    cases (p.getD b []).getD a none with
    | none => exact (by decide : (0 : Int) ≤ 1)
    | some v => exact Int.le_refl 1
  have inner : ∀ b, (Sm (2 ^ k) fun i => (pix p (x * 2 ^ k + i) b).2) ≤ 120 := fun b => by
    have := Sm_most 1 (by decide) (x * 2 ^ k) w (g := fun i => (pix p (x * 2 ^ k + i) b).2) (fun i => one _ _) (fun i hi => by
      show (pix p (x * 2 ^ k + i) b).2 ≤ 0
      rw [Z _ _ (fun z => by omega)]
      exact Int.le_refl 0) (2 ^ k)
    have w2 := P.w2
    omega
  rw [Fl_block2]
  have := Sm_most 120 (by decide) (y * 2 ^ k) h (g := fun j => Sm (2 ^ k) fun i => (pix p (x * 2 ^ k + i) (y * 2 ^ k + j)).2) (fun j => inner _) (fun j hj => by
    have e : (Sm (2 ^ k) fun i => (pix p (x * 2 ^ k + i) (y * 2 ^ k + j)).2) = Sm (2 ^ k) fun _ => 0 := Sm_congr _ fun i _ => by rw [Z _ _ (fun z => by omega)]
    have z : ∀ n, Sm n (fun _ => 0) = 0 := fun n => by
      induction n with
      | zero => rfl
      | succ n ih => rw [Sm_succ, ih]; rfl
    show (Sm (2 ^ k) fun i => (pix p (x * 2 ^ k + i) (y * 2 ^ k + j)).2) ≤ 0
    rw [e, z]
    exact Int.le_refl 0) (2 ^ k)
  have h2 := P.h2
  omega
end VVlaw
namespace VVlaw
open PySem PySem.Spec L2 VV
open PyProof.Rows hiding St
theorem is_pair_eq (q : Pr) (h : okPr q) (hm : q.2 ≤ 14400) : sem_is_pair [prD q] = .ok (.bool true) := by
  obtain ⟨a, b, c⟩ := h
  have x0 : ixF (prD q) (.int 0) = some (.int q.1) := f_ix0 _ _
  have x1 : ixF (prD q) (.int 1) = some (.int q.2) := f_ix1 _ _ _
  have i1 : isiO isTup (.ok (prD q)) = .ok (.bool true) := rfl
  have l2 : lenF [prD q] = some (.int 2) := rfl
  have m1 : mulF (.int 120) (.int 120) = some (.int 14400) := by kernel_rfl
  have m2 : mulF (.int 255) (.int q.2) = some (.int (255 * q.2)) := f_mul _ _ (.inl (by decide))
  have c1 : 0 ≤ q.2 ∧ q.2 ≤ 14400 := ⟨a, hm⟩
  have c2 : 0 ≤ q.1 ∧ q.1 ≤ 255 * q.2 := ⟨b, c⟩
  simp -implicitDefEqProofs only [sem_is_pair, b_is_pair, i1, l2, ne_int_self, x0, x1, m1, m2, is_within_eq, c1, c2, and_self, evs_, Option.bind_some, List.getElem?_cons_zero, List.getElem?_cons_succ, List.set_cons_zero, List.set_cons_succ, List.map_cons, List.map_nil, List.cons_append, List.nil_append, List.length_cons, List.length_nil, Nat.reduceAdd, Nat.reduceSub, Nat.reduceLeDiff, Nat.reduceLT, Bool.not_true, Bool.not_false, decide_true, decide_false]
theorem is_tile_row {f : GF} (ok : ∀ x y, okPr (f x y) ∧ (f x y).2 ≤ 14400) (side a y : Nat) (s2 : side ≤ 1000) (th : D) (o3 : Option Sl) :
    lp_is_tile_1 [some (.val th), some (.val (.int (side : Int))), some (.val (tileR f side a y)), o3] = .nx [some (.val th), some (.val (.int (side : Int))), some (.val (tileR f side a y)), o3] := by
  have i1 : isiO isTup (.ok (tileR f side a y)) = .ok (.bool true) := rfl
  have l1 : lenF [tileR f side a y] = some (.int (side : Int)) := by
    show some (PyData.int _) = _
    simp
  have it : tileR f side a y = .tuple ((List.range side).map fun i => prD (f (a * side + i) y)) := rfl
  have none_ : eLc [3] (iSeq (eV 2)) (.nm 3) (gNot (gTru (eCall sem_is_pair [(eV 3)]))) (eV 3) [some (.val th), some (.val (.int (side : Int))), some (.val (tileR f side a y)), o3] = .ok (.list []) := by
    refine eLc_noneA (List.range side) (fun i => prD (f (a * side + i) y)) (by simp -implicitDefEqProofs only [it, evs_, Option.bind_some, List.getElem?_cons_zero, List.getElem?_cons_succ, List.set_cons_zero, List.set_cons_succ, List.map_cons, List.map_nil, List.cons_append, List.nil_append, List.length_cons, List.length_nil, Nat.reduceAdd, Nat.reduceSub, Nat.reduceLeDiff, Nat.reduceLT, Bool.not_true, Bool.not_false, decide_true, decide_false]) fun i _ => ?_
    have := is_pair_eq (f (a * side + i) y) (ok _ _).1 (ok _ _).2
    simp -implicitDefEqProofs only [this, evs_, Option.bind_some, List.getElem?_cons_zero, List.getElem?_cons_succ, List.set_cons_zero, List.set_cons_succ, List.map_cons, List.map_nil, List.cons_append, List.nil_append, List.length_cons, List.length_nil, Nat.reduceAdd, Nat.reduceSub, Nat.reduceLeDiff, Nat.reduceLT, Bool.not_true, Bool.not_false, decide_true, decide_false]
  simp -implicitDefEqProofs only [lp_is_tile_1, i1, l1, ne_int_self, none_, List.isEmpty_nil, evs_, Option.bind_some, List.getElem?_cons_zero, List.getElem?_cons_succ, List.set_cons_zero, List.set_cons_succ, List.map_cons, List.map_nil, List.cons_append, List.nil_append, List.length_cons, List.length_nil, Nat.reduceAdd, Nat.reduceSub, Nat.reduceLeDiff, Nat.reduceLT, Bool.not_true, Bool.not_false, decide_true, decide_false]
def okKy (k : Ky) : Prop := k.1 ≤ 120 ∧ k.2.1 ≤ 120 ∧ k.2.2 ≤ 120
theorem is_tile_eq {f : GF} (ok : ∀ x y, okPr (f x y) ∧ (f x y).2 ≤ 14400) (side : Nat) (s2 : side ≤ 1000) (k : Ky) (hk : okKy k) : sem_is_tile [entD3 f side k, .int (side : Int)] = .ok (.bool true) := by
  obtain ⟨k1, k2, k3⟩ := hk
  have i1 : isiO isTup (.ok (entD3 f side k)) = .ok (.bool true) := rfl
  have l1 : lenF [entD3 f side k] = some (.int 2) := rfl
  have x0 : ixF (entD3 f side k) (.int 0) = some (kyD k) := f_ix0 _ _
  have x1 : ixF (entD3 f side k) (.int 1) = some (tileD f side k.2.1 k.2.2) := f_ix1 _ _ _
  have i2 : isiO isTup (.ok (kyD k)) = .ok (.bool true) := rfl
  have l2 : lenF [kyD k] = some (.int 3) := rfl
  have i3 : isiO isTup (.ok (tileD f side k.2.1 k.2.2)) = .ok (.bool true) := rfl
  have l3 : lenF [tileD f side k.2.1 k.2.2] = some (.int (side : Int)) := by
    show some (PyData.int _) = _
    simp
  have it : tileD f side k.2.1 k.2.2 = .tuple ((List.range side).map fun j => tileR f side k.2.1 (k.2.2 * side + j)) := rfl
  have ik : kyD k = .tuple (([k.1, k.2.1, k.2.2] : List Nat).map fun n : Nat => PyData.int (n : Int)) := rfl
  have none_ : eLc [3] (iSeq (eOp ixF (eV 0) (eC (.int 0)))) (.nm 3) (gNot (gTru (eCall sem_is_within [(eV 3), (eC (.int 0)), (eC (.int 120))]))) (eV 3) [some (.val (entD3 f side k)), some (.val (.int (side : Int))), none, none] = .ok (.list []) := by
    refine eLc_noneA ([k.1, k.2.1, k.2.2] : List Nat) (fun n : Nat => PyData.int (n : Int)) (by simp -implicitDefEqProofs only [x0, evs_, Option.bind_some, List.getElem?_cons_zero, List.getElem?_cons_succ, List.set_cons_zero, List.set_cons_succ, List.map_cons, List.map_nil, List.cons_append, List.nil_append, List.length_cons, List.length_nil, Nat.reduceAdd, Nat.reduceSub, Nat.reduceLeDiff, Nat.reduceLT, Bool.not_true, Bool.not_false, decide_true, decide_false, ik]) fun n hn => ?_
    have c : (0 : Int) ≤ n ∧ (n : Int) ≤ 120 := by
      simp -implicitDefEqProofs only [List.mem_cons, List.not_mem_nil, or_false] at hn
      rcases hn with rfl | rfl | rfl <;> omega
    simp -implicitDefEqProofs only [is_within_eq, c, and_self, evs_, Option.bind_some, List.getElem?_cons_zero, List.getElem?_cons_succ, List.set_cons_zero, List.set_cons_succ, List.map_cons, List.map_nil, List.cons_append, List.nil_append, List.length_cons, List.length_nil, Nat.reduceAdd, Nat.reduceSub, Nat.reduceLeDiff, Nat.reduceLT, Bool.not_true, Bool.not_false, decide_true, decide_false]
  obtain ⟨ρ', e, o2, rfl⟩ := forGo_acc (t := .nm 2) (f := lp_is_tile_1) (fun j : Nat => tileR f side k.2.1 (k.2.2 * side + j)) (fun _ => ([] : List D)) (fun _ ρ => ∃ o2 : Option Sl, ρ = [some (.val (entD3 f side k)), some (.val (.int (side : Int))), o2, none]) (List.range side) []
    [some (.val (entD3 f side k)), some (.val (.int (side : Int))), none, none] ⟨none, rfl⟩ (by
      rintro pre j post hp ρ ⟨o2, rfl⟩
      exact ⟨_, _, bT_nm .., is_tile_row ok side k.2.1 _ s2 _ none, _, rfl⟩)
  have its : iSeq (eOp ixF (eV 0) (eC (.int 1))) [some (.val (entD3 f side k)), some (.val (.int (side : Int))), none, none] = .ok ((List.range side).map fun j => tileR f side k.2.1 (k.2.2 * side + j)) := by simp -implicitDefEqProofs only [x1, it, evs_, Option.bind_some, List.getElem?_cons_zero, List.getElem?_cons_succ, List.set_cons_zero, List.set_cons_succ, List.map_cons, List.map_nil, List.cons_append, List.nil_append, List.length_cons, List.length_nil, Nat.reduceAdd, Nat.reduceSub, Nat.reduceLeDiff, Nat.reduceLT, Bool.not_true, Bool.not_false, decide_true, decide_false]
  have n2 : neF (.int 2) (.int 2) = some (.bool false) := ne_int_self 2
  have n3 : neF (.int 3) (.int 3) = some (.bool false) := ne_int_self 3
  simp -implicitDefEqProofs only [sem_is_tile, b_is_tile, i1, l1, x0, x1, i2, l2, i3, l3, n2, n3, ne_int_self, none_, its, e, List.isEmpty_nil, evs_, Option.bind_some, List.getElem?_cons_zero, List.getElem?_cons_succ, List.set_cons_zero, List.set_cons_succ, List.map_cons, List.map_nil, List.cons_append, List.nil_append, List.length_cons, List.length_nil, Nat.reduceAdd, Nat.reduceSub, Nat.reduceLeDiff, Nat.reduceLT, Bool.not_true, Bool.not_false, decide_true, decide_false]
theorem mem_keysAt {h w : Nat} {f : GF} {side l : Nat} {k : Ky} : k ∈ keysAt h w f side l ↔ k.1 = l ∧ k.2.1 < cdiv w side ∧ k.2.2 < cdiv h side ∧ full f side k.2.1 k.2.2 = true := by
  unfold keysAt rowK
  simp -implicitDefEqProofs only [List.mem_flatMap, List.mem_range, List.mem_map, List.mem_filter]
  constructor
  · rintro ⟨d, hd, a, ⟨ha, hf⟩, rfl⟩
    exact ⟨rfl, ha, hd, hf⟩
  · rintro ⟨h1, h2, h3, h4⟩
    exact ⟨k.2.2, h3, k.2.1, ⟨h2, h4⟩, by rw [← h1]⟩
theorem mem_upTo {h w : Nat} {f : GF} {side t : Nat} {k : Ky} : k ∈ upTo h w f side t ↔ k.1 ≤ t ∧ k.2.1 < cdiv (upN w k.1) side ∧ k.2.2 < cdiv (upN h k.1) side ∧ full (Fl f k.1) side k.2.1 k.2.2 = true := by
  unfold upTo levK
  simp -implicitDefEqProofs only [List.mem_flatMap, List.mem_range, mem_keysAt]
  constructor
  · rintro ⟨l, hl, rfl, h2, h3, h4⟩
    exact ⟨by omega, h2, h3, h4⟩
  · rintro ⟨h1, h2, h3, h4⟩
    exact ⟨k.1, by omega, rfl, h2, h3, h4⟩
theorem upN_most (n : Nat) (h : n ≤ 120) : upN n 6 ≤ 2 := by
  show up2 (up2 (up2 (up2 (up2 (up2 n))))) ≤ 2
  unfold up2
  omega
theorem Top.le6 {h w side t : Nat} (T : Top h w side t) (h2 : h ≤ 120) (w2 : w ≤ 120) (s : 2 ≤ side) : t ≤ 6 := by
  rcases Nat.lt_or_ge 6 t with z | z
  · have a := upN_most h h2
    have b := upN_most w w2
    exact absurd (show smallAt h w side 6 from ⟨by omega, by omega⟩) (T.below 6 z)
  · exact z
theorem key_ok {h w : Nat} {f : GF} {side t : Nat} {k : Ky} (hk : k ∈ upTo h w f side t) (h2 : h ≤ 120) (w2 : w ≤ 120) (s1 : 1 ≤ side) (t6 : t ≤ 6) : okKy k := by
  obtain ⟨a, b, c, _⟩ := mem_upTo.mp hk
  have b1 := cdiv_le (upN w k.1) side s1
  have b2 := upN_le w k.1
  have c1 := cdiv_le (upN h k.1) side s1
  have c2 := upN_le h k.1
  exact ⟨by omega, by omega, by omega⟩
def pyK (p : Pic) (h w side t : Nat) : List Ky := (upTo h w (pix p) side t).mergeSort (leA (pix p) side)
theorem mem_pyK {p : Pic} {h w side t : Nat} {k : Ky} : k ∈ pyK p h w side t ↔ k ∈ upTo h w (pix p) side t := List.mem_mergeSort
theorem pyr_eq (p : Pic) (h w side t : Nat) : pyrZ p h w side t = .tuple [.int (side : Int), .int (w : Int), .int (h : Int), fzD ((pyK p h w side t).map (entA (pix p) side))] := rfl
theorem has_form_eq {p : Pic} {h w : Nat} (P : Pc2 p h w) {side t : Nat} (hs : okSide side) (T : Top h w side t) : sem_has_form [pyrZ p h w side t] = .ok (.bool true) := by
  have h1 := P.h1; have h2 := P.h2; have w1 := P.w1; have w2 := P.w2
  have b := hs.bd
  have t6 := T.le6 h2 w2 b.1
  have c0 : (2 : Int) ≤ side ∧ (side : Int) ≤ 8 := by omega
  have c1 : (1 : Int) ≤ w ∧ (w : Int) ≤ 120 := by omega
  have c2 : (1 : Int) ≤ h ∧ (h : Int) ≤ 120 := by omega
  have n4 : neF (.int 4) (.int 4) = some (.bool false) := ne_int_self 4
  have none_ : eLc [1] (iSeq (eOp ixF (eV 0) (eC (.int 3)))) (.nm 1) (gNot (gTru (eCall sem_is_tile [(eV 1), (eOp ixF (eV 0) (eC (.int 0)))]))) (eV 1) [some (.val (pyrZ p h w side t)), none] = .ok (.list []) := by
    refine eLc_noneA (pyK p h w side t) (entA (pix p) side) (by simp -implicitDefEqProofs only [pyr_eq, items_fz, evs_, Option.bind_some, List.getElem?_cons_zero, List.getElem?_cons_succ, List.set_cons_zero, List.set_cons_succ, List.map_cons, List.map_nil, List.cons_append, List.nil_append, List.length_cons, List.length_nil, Nat.reduceAdd, Nat.reduceSub, Nat.reduceLeDiff, Nat.reduceLT, Bool.not_true, Bool.not_false, decide_true, decide_false]) fun k hk => ?_
    have := is_tile_eq (f := Fl (pix p) k.1) (fun x y => ⟨Fl_ok (pix_ok P) k.1 x y, count_most P k.1 x y⟩) side (by omega) k (key_ok (mem_pyK.mp hk) h2 w2 (by omega) t6)
    have e : entA (pix p) side k = entD3 (Fl (pix p) k.1) side k := rfl
    simp -implicitDefEqProofs only [pyr_eq, e, this, evs_, Option.bind_some, List.getElem?_cons_zero, List.getElem?_cons_succ, List.set_cons_zero, List.set_cons_succ, List.map_cons, List.map_nil, List.cons_append, List.nil_append, List.length_cons, List.length_nil, Nat.reduceAdd, Nat.reduceSub, Nat.reduceLeDiff, Nat.reduceLT, Bool.not_true, Bool.not_false, decide_true, decide_false]
  have i0 : isiO isTup (.ok (pyrZ p h w side t)) = .ok (.bool true) := rfl
  have l0 : lenF [pyrZ p h w side t] = some (.int 4) := rfl
  have x0 : ixF (pyrZ p h w side t) (.int 0) = some (.int (side : Int)) := f_ix0 _ _
  have x1 : ixF (pyrZ p h w side t) (.int 1) = some (.int (w : Int)) := f_ix1 _ _ _
  have x2 : ixF (pyrZ p h w side t) (.int 2) = some (.int (h : Int)) := f_ix2 _ _ _ _
  have x3 : ixF (pyrZ p h w side t) (.int 3) = some (fzD ((pyK p h w side t).map (entA (pix p) side))) := f_ix3 _ _ _ _ _
  simp -implicitDefEqProofs only [sem_has_form, b_has_form, i0, l0, x0, x1, x2, x3, n4, is_within_eq, c0, c1, c2, and_self, in_sides hs, none_, isi_fz, List.isEmpty_nil, evs_, Option.bind_some, List.getElem?_cons_zero, List.getElem?_cons_succ, List.set_cons_zero, List.set_cons_succ, List.map_cons, List.map_nil, List.cons_append, List.nil_append, List.length_cons, List.length_nil, Nat.reduceAdd, Nat.reduceSub, Nat.reduceLeDiff, Nat.reduceLT, Bool.not_true, Bool.not_false, decide_true, decide_false]
end VVlaw
namespace VVlaw
open PySem PySem.Spec L2 VV
open PyProof.Rows hiding St
theorem enum_range (g : Nat → D) (n : Nat) : enumD 0 ((List.range n).map g) = (List.range n).map fun i => .tuple [.int (i : Int), g i] := by
  rw [enumD_map g (List.range n) 0]
  refine List.ext_getElem (by simp) fun i h1 h2 => ?_
  simp
abbrev vl (d : D) : Option Sl := some (.val d)
abbrev vi (i : Int) : Option Sl := some (.val (.int i))
end VVlaw
namespace VVlaw
open PySem PySem.Spec L2 VV
open PyProof.Rows hiding St
def cel (p : Pic) (x y : Nat) : Option Int := (p.getD y []).getD x none
theorem pix_cel (p : Pic) (x y : Nat) : pix p x y = pixO (cel p x y) := rfl
def part (p : Pic) (S : List (Nat × Nat)) (x y : Nat) : D := if (x, y) ∈ S then oD (cel p x y) else .none
def partG (p : Pic) (h w : Nat) (S : List (Nat × Nat)) : List (List D) := (List.range h).map fun y => (List.range w).map fun x => part p S x y
theorem partG_len (p : Pic) (h w : Nat) (S : List (Nat × Nat)) : (partG p h w S).length = h := by simp [partG]
theorem partG_row (p : Pic) (h w : Nat) (S : List (Nat × Nat)) (y : Nat) (hy : y < h) : (partG p h w S).getD y [] = (List.range w).map fun x => part p S x y := by
  simp [partG, List.getD, hy]
theorem partG_put (p : Pic) (h w : Nat) (S : List (Nat × Nat)) (x y : Nat) (hy : y < h) (hx : x < w) : (partG p h w S).set y (((partG p h w S).getD y []).set x (oD (cel p x y))) = partG p h w (S ++ [(x, y)]) := by
  rw [partG_row p h w S y hy]
  refine List.ext_getElem (by simp [partG]) fun j h1 h2 => ?_
  have hj : j < h := by simpa [partG] using h2
  rw [List.getElem_set]
  by_cases e : y = j
  · subst e
    rw [if_pos rfl]
    refine List.ext_getElem (by simp [partG]) fun i h3 h4 => ?_
    have hi : i < w := by simpa using h3
    rw [List.getElem_set]
    by_cases e2 : x = i
    · subst e2
      rw [if_pos rfl]
      simp [partG, part]
    · rw [if_neg e2]
      have ne : i ≠ x := fun z => e2 z.symm
      simp [partG, part, ne]
  · rw [if_neg e]
    simp -implicitDefEqProofs only [partG, part, List.getElem_map, List.getElem_range, List.mem_append, List.mem_singleton, Prod.mk.injEq]
    refine List.map_congr_left fun i _ => ?_
    have : ¬ (i = x ∧ j = y) := fun z => e z.2.symm
    simp -implicitDefEqProofs only [this, or_false]
theorem partG_skip (p : Pic) (h w : Nat) (S : List (Nat × Nat)) (x y : Nat) (hc : ¬ (x < w ∧ y < h) ∨ cel p x y = none) : partG p h w (S ++ [(x, y)]) = partG p h w S := by
  refine List.map_congr_left fun j hj => List.map_congr_left fun i hi => ?_
  have hj := List.mem_range.mp hj
  have hi := List.mem_range.mp hi
  unfold part
  by_cases e : i = x ∧ j = y
  · obtain ⟨rfl, rfl⟩ := e
    rcases hc with hc | hc
    · exact absurd ⟨hi, hj⟩ hc
    · rw [hc]
      show (if _ then PyData.none else PyData.none) = (if _ then PyData.none else PyData.none)
      rw [ite_self, ite_self]
  · simp -implicitDefEqProofs only [List.mem_append, List.mem_singleton, Prod.mk.injEq, e, or_false]
theorem ixN_nat (n k : Nat) (h : k < n) : ixN n (k : Int) = some k := by
  unfold ixN
  simp
  omega
theorem put_eq {ρ : En} {i : Nat} {f g e : EF} {rows : List (List D)} {v : D} {n m : Nat} (hi : ρ[i]? = some (some (.grid (.rows rows)))) (he : e ρ = .ok v) (hf : f ρ = .ok (.int (n : Int))) (hg : g ρ = .ok (.int (m : Int))) (hn : n < rows.length) (hm : m < (rows.getD n []).length) :
    sPutG i f g e ρ = .nx (ρ.set i (some (.grid (.rows (rows.set n ((rows.getD n []).set m v)))))) := by
  unfold sPutG gridO
  rw [he, hi]
  simp -implicitDefEqProofs only [Rs.out_ok, hf, rowO, ixN_nat _ _ hn, hg, putG, ixN_nat _ _ hm]
def piE (y ts : D) (side h w : Nat) (G : List (List D)) (js : List (Option Sl)) : En := [vl y, vi side, vi w, vi h, vl ts, some (.grid (.rows G))] ++ js
theorem pi1 {p : Pic} {h w : Nat} (P : Pc2 p h w) (side : Nat) (s2 : side ≤ 1000) (a d i j : Nat) (ha : a ≤ 1000) (hd : d ≤ 1000) (S : List (Nat × Nat)) (y ts : D) (q : D) (o9 o10 o11 o15 : Option Sl) :
    lp_picture_in_1 (piE y ts side h w (partG p h w S) [vi 0, vi a, vi d, o9, vi j, o11, vi i, vi (pix p (a * side + i) (d * side + j)).1, vi (pix p (a * side + i) (d * side + j)).2, o15]) =
    .nx (piE y ts side h w (partG p h w (S ++ [(a * side + i, d * side + j)])) [vi 0, vi a, vi d, o9, vi j, o11, vi i, vi (pix p (a * side + i) (d * side + j)).1, vi (pix p (a * side + i) (d * side + j)).2, o15]) := by
  have Z := pix_zo P
  unfold piE
  cases hc : cel p (a * side + i) (d * side + j) with
  | none =>
    rw [partG_skip p h w S _ _ (.inr hc), pix_cel, hc]
    simp -implicitDefEqProofs only [lp_picture_in_1, pixO, evs_, Option.bind_some, List.getElem?_cons_zero, List.getElem?_cons_succ, List.set_cons_zero, List.set_cons_succ, List.map_cons, List.map_nil, List.cons_append, List.nil_append, List.length_cons, List.length_nil, Nat.reduceAdd, Nat.reduceSub, Nat.reduceLeDiff, Nat.reduceLT, Bool.not_true, Bool.not_false, decide_true, decide_false]
    simp -implicitDefEqProofs only [Int.lt_irrefl, evs_, Option.bind_some, List.getElem?_cons_zero, List.getElem?_cons_succ, List.set_cons_zero, List.set_cons_succ, List.map_cons, List.map_nil, List.cons_append, List.nil_append, List.length_cons, List.length_nil, Nat.reduceAdd, Nat.reduceSub, Nat.reduceLeDiff, Nat.reduceLT, Bool.not_true, Bool.not_false, decide_true, decide_false]
  | some v =>
    have inb : a * side + i < w ∧ d * side + j < h := by
      by_cases z : a * side + i < w ∧ d * side + j < h
      · exact z
      · have := Z _ _ z
        rw [pix_cel, hc] at this
        simp [pixO] at this
    have g1 : (partG p h w S).length = h := partG_len ..
    have g2 : ((partG p h w S).getD (d * side + j) []).length = w := by rw [partG_row p h w S _ inb.2]; simp
    have m1 : mulF (.int (a : Int)) (.int (side : Int)) = some (.int ((a * side : Nat) : Int)) := by rw [f_mul _ _ (.inl (by omega)), Int.natCast_mul]
    have m2 : mulF (.int (d : Int)) (.int (side : Int)) = some (.int ((d * side : Nat) : Int)) := by rw [f_mul _ _ (.inl (by omega)), Int.natCast_mul]
    have a1 : ((a * side : Nat) : Int) + (i : Int) = ((a * side + i : Nat) : Int) := by omega
    have a2 : ((d * side : Nat) : Int) + (j : Int) = ((d * side + j : Nat) : Int) := by omega
    have c1 : ¬ ((w : Int) ≤ ((a * side + i : Nat) : Int)) := by omega
    have c2 : ¬ ((h : Int) ≤ ((d * side + j : Nat) : Int)) := by omega
    rw [← partG_put p h w S _ _ inb.2 inb.1, pix_cel, hc]
    have pu := put_eq (ρ := [vl y, vi side, vi w, vi h, vl ts, some (.grid (.rows (partG p h w S)))] ++ [vi 0, vi a, vi d, o9, vi j, o11, vi i, vi v, vi 1, o15]) (i := 5) (f := eOp addF (eOp mulF (eV 8) (eV 1)) (eV 10)) (g := eOp addF (eOp mulF (eV 7) (eV 1)) (eV 12)) (e := eV 13) (rows := partG p h w S) (v := .int v) (n := d * side + j) (m := a * side + i) rfl
      (by simp -implicitDefEqProofs only [evs_, Option.bind_some, List.getElem?_cons_zero, List.getElem?_cons_succ, List.set_cons_zero, List.set_cons_succ, List.map_cons, List.map_nil, List.cons_append, List.nil_append, List.length_cons, List.length_nil, Nat.reduceAdd, Nat.reduceSub, Nat.reduceLeDiff, Nat.reduceLT, Bool.not_true, Bool.not_false, decide_true, decide_false]) (by simp -implicitDefEqProofs only [m2, a2, evs_, Option.bind_some, List.getElem?_cons_zero, List.getElem?_cons_succ, List.set_cons_zero, List.set_cons_succ, List.map_cons, List.map_nil, List.cons_append, List.nil_append, List.length_cons, List.length_nil, Nat.reduceAdd, Nat.reduceSub, Nat.reduceLeDiff, Nat.reduceLT, Bool.not_true, Bool.not_false, decide_true, decide_false]) (by simp -implicitDefEqProofs only [m1, a1, evs_, Option.bind_some, List.getElem?_cons_zero, List.getElem?_cons_succ, List.set_cons_zero, List.set_cons_succ, List.map_cons, List.map_nil, List.cons_append, List.nil_append, List.length_cons, List.length_nil, Nat.reduceAdd, Nat.reduceSub, Nat.reduceLeDiff, Nat.reduceLT, Bool.not_true, Bool.not_false, decide_true, decide_false]) (by rw [g1]; exact inb.2) (by rw [g2]; exact inb.1)
    simp -implicitDefEqProofs only [evs_, Option.bind_some, List.getElem?_cons_zero, List.getElem?_cons_succ, List.set_cons_zero, List.set_cons_succ, List.map_cons, List.map_nil, List.cons_append, List.nil_append, List.length_cons, List.length_nil, Nat.reduceAdd, Nat.reduceSub, Nat.reduceLeDiff, Nat.reduceLT, Bool.not_true, Bool.not_false, decide_true, decide_false] at pu
    simp -implicitDefEqProofs only [lp_picture_in_1, pixO, m1, m2, a1, a2, c1, c2, evs_, Option.bind_some, List.getElem?_cons_zero, List.getElem?_cons_succ, List.set_cons_zero, List.set_cons_succ, List.map_cons, List.map_nil, List.cons_append, List.nil_append, List.length_cons, List.length_nil, Nat.reduceAdd, Nat.reduceSub, Nat.reduceLeDiff, Nat.reduceLT, Bool.not_true, Bool.not_false, decide_true, decide_false]
    simp -implicitDefEqProofs only [show (0 : Int) < 1 by decide, show ¬ ((1 : Int) < 1) by decide, m1, m2, a1, a2, c1, c2, evs_, Option.bind_some, List.getElem?_cons_zero, List.getElem?_cons_succ, List.set_cons_zero, List.set_cons_succ, List.map_cons, List.map_nil, List.cons_append, List.nil_append, List.length_cons, List.length_nil, Nat.reduceAdd, Nat.reduceSub, Nat.reduceLeDiff, Nat.reduceLT, Bool.not_true, Bool.not_false, decide_true, decide_false]
    rw [pu]
    rfl
theorem pi2 {p : Pic} {h w : Nat} (P : Pc2 p h w) (side : Nat) (s2 : side ≤ 1000) (a d j : Nat) (ha : a ≤ 1000) (hd : d ≤ 1000) (S : List (Nat × Nat)) (y ts : D) (o9 o12 o13 o14 o15 : Option Sl) :
    ∃ p12 p13 p14 : Option Sl, lp_picture_in_2 (piE y ts side h w (partG p h w S) [vi 0, vi a, vi d, o9, vi j, vl (tileR (pix p) side a (d * side + j)), o12, o13, o14, o15]) =
    .nx (piE y ts side h w (partG p h w (S ++ (List.range side).map fun i => (a * side + i, d * side + j))) [vi 0, vi a, vi d, o9, vi j, vl (tileR (pix p) side a (d * side + j)), p12, p13, p14, o15]) := by
  obtain ⟨ρ', e, p12, p13, p14, rfl⟩ := forGo_acc (t := .tp [(.nm 12), (.tp [(.nm 13), (.nm 14)])]) (f := lp_picture_in_1) (fun i : Nat => PyData.tuple [.int (i : Int), prD (pix p (a * side + i) (d * side + j))]) (fun i => [(a * side + i, d * side + j)])
    (fun ac ρ => ∃ o12 o13 o14 : Option Sl, ρ = piE y ts side h w (partG p h w (S ++ ac)) [vi 0, vi a, vi d, o9, vi j, vl (tileR (pix p) side a (d * side + j)), o12, o13, o14, o15]) (List.range side) []
    (piE y ts side h w (partG p h w S) [vi 0, vi a, vi d, o9, vi j, vl (tileR (pix p) side a (d * side + j)), o12, o13, o14, o15]) ⟨o12, o13, o14, by rw [List.flatMap_nil, List.append_nil]⟩ (by
      rintro pre i post hp ρ ⟨o12, o13, o14, rfl⟩
      have st := pi1 P side s2 a d i j ha hd (S ++ pre.flatMap fun i => [(a * side + i, d * side + j)]) y ts (.none) o9 none (vl (tileR (pix p) side a (d * side + j))) o15
      rw [List.append_assoc] at st
      refine ⟨_, _, ?_, st, _, _, _, rfl⟩
      unfold piE prD
      simp -implicitDefEqProofs only [evs_, Option.bind_some, List.getElem?_cons_zero, List.getElem?_cons_succ, List.set_cons_zero, List.set_cons_succ, List.map_cons, List.map_nil, List.cons_append, List.nil_append, List.length_cons, List.length_nil, Nat.reduceAdd, Nat.reduceSub, Nat.reduceLeDiff, Nat.reduceLT, Bool.not_true, Bool.not_false, decide_true, decide_false])
  rw [List.nil_append, flat1 (fun i => (a * side + i, d * side + j))] at e
  refine ⟨p12, p13, p14, ?_⟩
  have it : iEnum' [eV 11] (piE y ts side h w (partG p h w S) [vi 0, vi a, vi d, o9, vi j, vl (tileR (pix p) side a (d * side + j)), o12, o13, o14, o15]) = .ok ((List.range side).map fun i : Nat => PyData.tuple [.int (i : Int), prD (pix p (a * side + i) (d * side + j))]) := by
    unfold piE tileR
    simp -implicitDefEqProofs only [ap_iEnum, items_enT, evs_, Option.bind_some, List.getElem?_cons_zero, List.getElem?_cons_succ, List.set_cons_zero, List.set_cons_succ, List.map_cons, List.map_nil, List.cons_append, List.nil_append, List.length_cons, List.length_nil, Nat.reduceAdd, Nat.reduceSub, Nat.reduceLeDiff, Nat.reduceLT, Bool.not_true, Bool.not_false, decide_true, decide_false]
    rw [enum_range]
  unfold lp_picture_in_2
  rw [ap_sFor, it, RL.out_ok]
  exact e
def cellsT (side a d : Nat) : List (Nat × Nat) := (List.range side).flatMap fun j => (List.range side).map fun i => (a * side + i, d * side + j)
def cellsK (side : Nat) (k : Ky) : List (Nat × Nat) := if k.1 = 0 then cellsT side k.2.1 k.2.2 else []
theorem pi3 {p : Pic} {h w : Nat} (P : Pc2 p h w) (side : Nat) (s2 : side ≤ 1000) (k : Ky) (hk : okKy k) (S : List (Nat × Nat)) (y ts : D) (o10 o11 o12 o13 o14 o15 : Option Sl) :
    ∃ p10 p11 p12 p13 p14 : Option Sl, lp_picture_in_3 (piE y ts side h w (partG p h w S) [vi k.1, vi k.2.1, vi k.2.2, vl (tileD (Fl (pix p) k.1) side k.2.1 k.2.2), o10, o11, o12, o13, o14, o15]) =
    .nx (piE y ts side h w (partG p h w (S ++ cellsK side k)) [vi k.1, vi k.2.1, vi k.2.2, vl (tileD (Fl (pix p) k.1) side k.2.1 k.2.2), p10, p11, p12, p13, p14, o15]) := by
  obtain ⟨l, a, d⟩ := k
  obtain ⟨k1, k2, k3⟩ := hk
  dsimp only at k1 k2 k3 ⊢
  by_cases hl : l = 0
  · subst hl
    unfold cellsK
    rw [if_pos rfl]
    dsimp only
    obtain ⟨ρ', e, p10, p11, p12, p13, p14, rfl⟩ := forGo_acc (t := .tp [(.nm 10), (.nm 11)]) (f := lp_picture_in_2) (fun j : Nat => PyData.tuple [.int (j : Int), tileR (pix p) side a (d * side + j)]) (fun j => (List.range side).map fun i => (a * side + i, d * side + j))
      (fun ac ρ => ∃ o10 o11 o12 o13 o14 : Option Sl, ρ = piE y ts side h w (partG p h w (S ++ ac)) [vi 0, vi a, vi d, vl (tileD (pix p) side a d), o10, o11, o12, o13, o14, o15]) (List.range side) []
      (piE y ts side h w (partG p h w S) [vi 0, vi a, vi d, vl (tileD (pix p) side a d), o10, o11, o12, o13, o14, o15]) ⟨o10, o11, o12, o13, o14, by rw [List.flatMap_nil, List.append_nil]⟩ (by
        rintro pre j post hp ρ ⟨o10, o11, o12, o13, o14, rfl⟩
        obtain ⟨p12, p13, p14, st⟩ := pi2 P side s2 a d j (by omega) (by omega) (S ++ pre.flatMap fun j => (List.range side).map fun i => (a * side + i, d * side + j)) y ts (vl (tileD (pix p) side a d)) o12 o13 o14 o15
        rw [List.append_assoc] at st
        refine ⟨_, _, ?_, st, _, _, _, _, _, rfl⟩
        unfold piE
        simp -implicitDefEqProofs only [evs_, Option.bind_some, List.getElem?_cons_zero, List.getElem?_cons_succ, List.set_cons_zero, List.set_cons_succ, List.map_cons, List.map_nil, List.cons_append, List.nil_append, List.length_cons, List.length_nil, Nat.reduceAdd, Nat.reduceSub, Nat.reduceLeDiff, Nat.reduceLT, Bool.not_true, Bool.not_false, decide_true, decide_false])
    rw [List.nil_append] at e
    refine ⟨p10, p11, p12, p13, p14, ?_⟩
    have it : iEnum' [eV 9] (piE y ts side h w (partG p h w S) [vi 0, vi a, vi d, vl (tileD (pix p) side a d), o10, o11, o12, o13, o14, o15]) = .ok ((List.range side).map fun j : Nat => PyData.tuple [.int (j : Int), tileR (pix p) side a (d * side + j)]) := by
      unfold piE tileD
      simp -implicitDefEqProofs only [ap_iEnum, items_enT, evs_, Option.bind_some, List.getElem?_cons_zero, List.getElem?_cons_succ, List.set_cons_zero, List.set_cons_succ, List.map_cons, List.map_nil, List.cons_append, List.nil_append, List.length_cons, List.length_nil, Nat.reduceAdd, Nat.reduceSub, Nat.reduceLeDiff, Nat.reduceLT, Bool.not_true, Bool.not_false, decide_true, decide_false]
      rw [enum_range]
    have c : eOp eqF (eV 6) (eC (.int 0)) (piE y ts side h w (partG p h w S) [vi 0, vi a, vi d, vl (tileD (pix p) side a d), o10, o11, o12, o13, o14, o15]) = .ok (.bool true) := by
      unfold piE
      simp -implicitDefEqProofs only [evs_, Option.bind_some, List.getElem?_cons_zero, List.getElem?_cons_succ, List.set_cons_zero, List.set_cons_succ, List.map_cons, List.map_nil, List.cons_append, List.nil_append, List.length_cons, List.length_nil, Nat.reduceAdd, Nat.reduceSub, Nat.reduceLeDiff, Nat.reduceLT, Bool.not_true, Bool.not_false, decide_true, decide_false]
    unfold lp_picture_in_3
    rw [ap_sIf]
    show ifO (eOp eqF (eV 6) (eC (.int 0)) (piE y ts side h w (partG p h w S) [vi 0, vi a, vi d, vl (tileD (pix p) side a d), o10, o11, o12, o13, o14, o15])) _ _ _ = _
    rw [c, ifO_t, ap_sFor]
    refine Eq.trans ?_ e
    refine congrArg (fun r => RL.out r _ _) it
  · unfold cellsK
    rw [if_neg hl, List.append_nil]
    refine ⟨o10, o11, o12, o13, o14, ?_⟩
    have hl' : ¬ ((l : Int) = 0) := by omega
    unfold piE
    simp -implicitDefEqProofs only [lp_picture_in_3, hl', evs_, Option.bind_some, List.getElem?_cons_zero, List.getElem?_cons_succ, List.set_cons_zero, List.set_cons_succ, List.map_cons, List.map_nil, List.cons_append, List.nil_append, List.length_cons, List.length_nil, Nat.reduceAdd, Nat.reduceSub, Nat.reduceLeDiff, Nat.reduceLT, Bool.not_true, Bool.not_false, decide_true, decide_false]
end VVlaw
namespace VVlaw
open PySem PySem.Spec L2 VV
open PyProof.Rows hiding St
theorem asRows_map {α : Type} (g : α → List D) : ∀ xs : List α, asRows (xs.map fun x => PyData.list (g x)) = some (xs.map g)
  | [] => rfl
  | x :: xs => by
    rw [List.map_cons, List.map_cons]
    unfold asRows
    rw [asRows_map g xs]
    rfl
theorem rep_none (w : Nat) (hw : w ≤ 1000) : repF (.list [.none]) (.int (w : Int)) = some (.list ((List.range w).map fun _ => PyData.none)) := by
  have e : (List.replicate w [PyData.none]).flatten = (List.range w).map fun _ => PyData.none := by
    refine List.ext_getElem (by simp) fun i h1 h2 => ?_
    simp
  dsimp only [repF]
  rw [if_pos, Int.toNat_natCast, e]
  simp -implicitDefEqProofs only [List.length_cons, List.length_nil, Nat.zero_add, Nat.one_mul, Int.toNat_natCast, Bool.and_eq_true, decide_eq_true_eq]
  refine ⟨⟨by omega, by omega⟩, ?_⟩
  show w ≤ 16777216
  omega
theorem part_nil (p : Pic) (h w : Nat) : partG p h w [] = (List.range h).map fun _ => (List.range w).map fun _ => PyData.none := by
  unfold partG part
  simp
theorem grid_eq {p : Pic} (h w : Nat) (h2 : h ≤ 120) (w2 : w ≤ 120) (y ts : D) (side : Nat) (o5 o15 : Option Sl) (js : List (Option Sl)) (hj : js.length = 9) : sGrid 5 (eLc [15] (iRange1 [(eV 3)]) (.nm 15) (eC (.bool true)) (eOp repF (eLst [(eC .none)]) (eV 2))) ([vl y, vi side, vi w, vi h, vl ts, o5] ++ js ++ [none]) = .nx (piE y ts side h w (partG p h w []) (js ++ [none])) := by
  unfold sGrid
  have r : iRange1 [eV 3] ([vl y, vi side, vi w, vi h, vl ts, o5] ++ js ++ [none]) = .ok ((List.range h).map fun (i : Nat) => PyData.int (i : Int)) := by
    simp -implicitDefEqProofs only [evs_, Option.bind_some, List.getElem?_cons_zero, List.getElem?_cons_succ, List.set_cons_zero, List.set_cons_succ, List.map_cons, List.map_nil, List.cons_append, List.nil_append, List.length_cons, List.length_nil, Nat.reduceAdd, Nat.reduceSub, Nat.reduceLeDiff, Nat.reduceLT, Bool.not_true, Bool.not_false, decide_true, decide_false]
    rw [rng1_ok _ (by omega) (by omega)]
    unfold rangeD
    rw [Int.toNat_natCast]
    refine congrArg RL.ok (List.map_congr_left fun i _ => congrArg PyData.int ?_)
    omega
  rw [eLc_mapA (List.range h) (fun (i : Nat) => PyData.int (i : Int)) (fun _ => PyData.list ((List.range w).map fun _ => PyData.none)) r (by simp; omega) (by
    intro i _
    have rp := rep_none w (by omega)
    have one : ([] : List D).length + 1 ≤ 16777216 := by decide
    refine ⟨rfl, ?_⟩
    simp -implicitDefEqProofs only [rp, evs_, Option.bind_some, List.getElem?_cons_zero, List.getElem?_cons_succ, List.set_cons_zero, List.set_cons_succ, List.map_cons, List.map_nil, List.cons_append, List.nil_append, List.length_cons, List.length_nil, Nat.reduceAdd, Nat.reduceSub, Nat.reduceLeDiff, Nat.reduceLT, Bool.not_true, Bool.not_false, decide_true, decide_false])]
  simp -implicitDefEqProofs only [Rs.out_ok]
  rw [asRows_map (fun _ => (List.range w).map fun _ => PyData.none), part_nil]
  unfold piE
  simp -implicitDefEqProofs only [evs_, Option.bind_some, List.getElem?_cons_zero, List.getElem?_cons_succ, List.set_cons_zero, List.set_cons_succ, List.map_cons, List.map_nil, List.cons_append, List.nil_append, List.length_cons, List.length_nil, Nat.reduceAdd, Nat.reduceSub, Nat.reduceLeDiff, Nat.reduceLT, Bool.not_true, Bool.not_false, decide_true, decide_false]
theorem gridO_frz (i : Nat) (f : SF) (ρ : En) (rows : List (List D)) (h : ρ[i]? = some (some (.grid (.rows rows)))) : sFrzG i f ρ = f (ρ.set i (some (.val (rowsD rows)))) := by
  unfold sFrzG
  rw [h]
theorem full_cell {f : GF} {side a d i j : Nat} (hi : i < side) (hj : j < side) (hf : 0 < (f (a * side + i) (d * side + j)).2) : full f side a d = true := by
  unfold full
  rw [List.any_eq_true]
  refine ⟨j, List.mem_range.mpr hj, ?_⟩
  rw [List.any_eq_true]
  exact ⟨i, List.mem_range.mpr hi, decide_eq_true hf⟩
theorem div_lt_cdiv {x w side : Nat} (hs : 1 ≤ side) (hx : x < w) : x / side < cdiv w side := by
  unfold cdiv
  have h1 : x / side + 1 = (x + side) / side := (Nat.add_div_right x (by omega)).symm
  have h2 : (x + side) / side ≤ (w + side - 1) / side := Nat.div_le_div_right (by omega)
  omega
theorem all_cells {p : Pic} {h w : Nat} (P : Pc2 p h w) {side : Nat} (s1 : 1 ≤ side) (t : Nat) (x y : Nat) (hx : x < w) (hy : y < h) (v : Int) (hv : cel p x y = some v) : (x, y) ∈ (pyK p h w side t).flatMap (cellsK side) := by
  have ex : x / side * side + x % side = x := by rw [Nat.mul_comm]; exact Nat.div_add_mod x side
  have ey : y / side * side + y % side = y := by rw [Nat.mul_comm]; exact Nat.div_add_mod y side
  have mx := Nat.mod_lt x (show side > 0 by omega)
  have my := Nat.mod_lt y (show side > 0 by omega)
  refine List.mem_flatMap.mpr ⟨(0, x / side, y / side), mem_pyK.mpr (mem_upTo.mpr ⟨Nat.zero_le _, div_lt_cdiv s1 hx, div_lt_cdiv s1 hy, full_cell (f := pix p) mx my ?_⟩), ?_⟩
  · rw [ex, ey, pix_cel, hv]
    exact (by decide : (0 : Int) < 1)
  · unfold cellsK cellsT
    rw [if_pos rfl]
    exact List.mem_flatMap.mpr ⟨y % side, List.mem_range.mpr my, List.mem_map.mpr ⟨x % side, List.mem_range.mpr mx, by rw [ex, ey]⟩⟩
theorem cel_get {p : Pic} {h w : Nat} (P : Pc2 p h w) (x y : Nat) (hx : x < w) (hy : y < h) : ∃ (h1 : y < p.length) (h2 : x < (p[y]).length), cel p x y = (p[y])[x] := by
  have h1 : y < p.length := by rw [P.len]; exact hy
  have h2 : x < (p[y]).length := by rw [P.row _ (List.getElem_mem h1)]; exact hx
  refine ⟨h1, h2, ?_⟩
  unfold cel
  simp [List.getD, h1, h2]
theorem part_all {p : Pic} {h w : Nat} (P : Pc2 p h w) {side : Nat} (s1 : 1 ≤ side) (t : Nat) : partG p h w ((pyK p h w side t).flatMap (cellsK side)) = p.map fun r => r.map oD := by
  have pl := P.len
  refine List.ext_getElem (by simp [partG, pl]) fun y h1 h2 => ?_
  have hy : y < h := by simpa [partG] using h1
  have hy' : y < p.length := by omega
  have rl := P.row _ (List.getElem_mem hy')
  simp -implicitDefEqProofs only [partG, List.getElem_map, List.getElem_range]
  refine List.ext_getElem (by simp [rl]) fun x h3 h4 => ?_
  have hx : x < w := by simpa using h3
  simp -implicitDefEqProofs only [List.getElem_map, List.getElem_range]
  obtain ⟨_, _, ce⟩ := cel_get P x y hx hy
  unfold part
  rw [← ce]
  cases hc : cel p x y with
  | none =>
    show (if _ then PyData.none else PyData.none) = PyData.none
    rw [ite_self]
  | some v => rw [if_pos (all_cells P s1 t x y hx hy v hc)]
theorem picture_in_eq {p : Pic} {h w : Nat} (P : Pc2 p h w) {side t : Nat} (hs : okSide side) (T : Top h w side t) : sem_picture_in [pyrZ p h w side t] = .ok (picD p) := by
  have h1 := P.h1; have h2 := P.h2; have w1 := P.w1; have w2 := P.w2
  have b := hs.bd
  have t6 := T.le6 h2 w2 b.1
  have g := grid_eq (p := p) h w h2 w2 (pyrZ p h w side t) (fzD ((pyK p h w side t).map (entA (pix p) side))) side none none [none, none, none, none, none, none, none, none, none] rfl
  obtain ⟨ρ', e, o6, o7, o8, o9, o10, o11, o12, o13, o14, rfl⟩ := forGo_acc (t := .tp [(.tp [(.nm 6), (.nm 7), (.nm 8)]), (.nm 9)]) (f := lp_picture_in_3) (entA (pix p) side) (cellsK side)
    (fun ac ρ => ∃ o6 o7 o8 o9 o10 o11 o12 o13 o14 : Option Sl, ρ = piE (pyrZ p h w side t) (fzD ((pyK p h w side t).map (entA (pix p) side))) side h w (partG p h w ac) [o6, o7, o8, o9, o10, o11, o12, o13, o14, none]) (pyK p h w side t) []
    (piE (pyrZ p h w side t) (fzD ((pyK p h w side t).map (entA (pix p) side))) side h w (partG p h w []) [none, none, none, none, none, none, none, none, none, none]) ⟨none, none, none, none, none, none, none, none, none, rfl⟩ (by
      rintro pre k post hp ρ ⟨o6, o7, o8, o9, o10, o11, o12, o13, o14, rfl⟩
      have hk : k ∈ pyK p h w side t := by
        rw [List.nil_append] at hp
        rw [hp]
        simp
      obtain ⟨p10, p11, p12, p13, p14, st⟩ := pi3 P side (by omega) k (key_ok (mem_pyK.mp hk) h2 w2 (by omega) t6) (pre.flatMap (cellsK side)) (pyrZ p h w side t) (fzD ((pyK p h w side t).map (entA (pix p) side))) o10 o11 o12 o13 o14 none
      refine ⟨_, _, ?_, st, _, _, _, _, _, _, _, _, _, rfl⟩
      unfold piE entA entD3 kyD
      simp -implicitDefEqProofs only [evs_, Option.bind_some, List.getElem?_cons_zero, List.getElem?_cons_succ, List.set_cons_zero, List.set_cons_succ, List.map_cons, List.map_nil, List.cons_append, List.nil_append, List.length_cons, List.length_nil, Nat.reduceAdd, Nat.reduceSub, Nat.reduceLeDiff, Nat.reduceLT, Bool.not_true, Bool.not_false, decide_true, decide_false])
  rw [List.nil_append, part_all P (by omega)] at e
  unfold piE at g e
  simp -implicitDefEqProofs only [evs_, Option.bind_some, List.getElem?_cons_zero, List.getElem?_cons_succ, List.set_cons_zero, List.set_cons_succ, List.map_cons, List.map_nil, List.cons_append, List.nil_append, List.length_cons, List.length_nil, Nat.reduceAdd, Nat.reduceSub, Nat.reduceLeDiff, Nat.reduceLT, Bool.not_true, Bool.not_false, decide_true, decide_false] at g e
  have lst : ∀ rows : List (List D), rowsD rows = .list (rows.map PyData.list) := fun _ => rfl
  have last : ∀ ρ : En, ρ.length = 16 → ρ[5]? = some (some (.val (rowsD (p.map fun r => r.map oD)))) → eLc [11] (iSeq (eV 5)) (.nm 11) (eC (.bool true)) (eCB tupF [(eV 11)]) ρ = .ok (.list (p.map prow)) := fun ρ hl e5 => by
    refine eLc_mapA p (fun r => PyData.list (r.map oD)) prow ?_ (by have := P.len; omega) ?_
    · rw [lst, List.map_map] at e5
      simp -implicitDefEqProofs only [e5, evs_, Option.bind_some, List.getElem?_cons_zero, List.getElem?_cons_succ, List.set_cons_zero, List.set_cons_succ, List.map_cons, List.map_nil, List.cons_append, List.nil_append, List.length_cons, List.length_nil, Nat.reduceAdd, Nat.reduceSub, Nat.reduceLeDiff, Nat.reduceLT, Bool.not_true, Bool.not_false, decide_true, decide_false]
      rfl
    · intro r _
      have : ((wipeE ρ [11]).set 11 (some (.val (PyData.list (r.map oD)))))[11]? = some (some (.val (.list (r.map oD)))) := List.getElem?_set_self (by rw [wipeE_length]; omega)
      generalize (wipeE ρ [11]).set 11 (some (.val (PyData.list (r.map oD)))) = ρ2 at this ⊢
      simp -implicitDefEqProofs only [this, evs_, Option.bind_some, List.getElem?_cons_zero, List.getElem?_cons_succ, List.set_cons_zero, List.set_cons_succ, List.map_cons, List.map_nil, List.cons_append, List.nil_append, List.length_cons, List.length_nil, Nat.reduceAdd, Nat.reduceSub, Nat.reduceLeDiff, Nat.reduceLT, Bool.not_true, Bool.not_false, decide_true, decide_false]
      exact ⟨trivial, rfl⟩
  have pe : pyrZ p h w side t = .tuple [.int (side : Int), .int (w : Int), .int (h : Int), fzD ((pyK p h w side t).map (entA (pix p) side))] := rfl
  unfold sem_picture_in b_picture_in
  rw [runB_eq 1 16 _ _ rfl]
  have as : sAsg (.tp [(.nm 1), (.nm 2), (.nm 3), (.nm 4)]) (eV 0) ([pyrZ p h w side t].map (fun d => some (Sl.val d)) ++ nones (16 - 1)) = .nx [vl (pyrZ p h w side t), vi side, vi w, vi h, vl (fzD ((pyK p h w side t).map (entA (pix p) side))), none, none, none, none, none, none, none, none, none, none, none] := by
    simp -implicitDefEqProofs only [pe, evs_, Option.bind_some, List.getElem?_cons_zero, List.getElem?_cons_succ, List.set_cons_zero, List.set_cons_succ, List.map_cons, List.map_nil, List.cons_append, List.nil_append, List.length_cons, List.length_nil, Nat.reduceAdd, Nat.reduceSub, Nat.reduceLeDiff, Nat.reduceLT, Bool.not_true, Bool.not_false, decide_true, decide_false]
  rw [ap_sSeq, as, seqO_nx, ap_sSeq, g, seqO_nx, ap_sSeq, ap_sFor]
  have it : iSeq (eV 4) [vl (pyrZ p h w side t), vi side, vi w, vi h, vl (fzD ((pyK p h w side t).map (entA (pix p) side))), some (.grid (.rows (partG p h w []))), none, none, none, none, none, none, none, none, none, none] = .ok ((pyK p h w side t).map (entA (pix p) side)) := by
    simp -implicitDefEqProofs only [items_fz, evs_, Option.bind_some, List.getElem?_cons_zero, List.getElem?_cons_succ, List.set_cons_zero, List.set_cons_succ, List.map_cons, List.map_nil, List.cons_append, List.nil_append, List.length_cons, List.length_nil, Nat.reduceAdd, Nat.reduceSub, Nat.reduceLeDiff, Nat.reduceLT, Bool.not_true, Bool.not_false, decide_true, decide_false]
  rw [it, RL.out_ok, e, seqO_nx, gridO_frz _ _ _ (p.map fun r => r.map oD) rfl, ap_sRet]
  simp -implicitDefEqProofs only [evs_, Option.bind_some, List.getElem?_cons_zero, List.getElem?_cons_succ, List.set_cons_zero, List.set_cons_succ, List.map_cons, List.map_nil, List.cons_append, List.nil_append, List.length_cons, List.length_nil, Nat.reduceAdd, Nat.reduceSub, Nat.reduceLeDiff, Nat.reduceLT, Bool.not_true, Bool.not_false, decide_true, decide_false]
  rw [last _ rfl rfl]
  simp -implicitDefEqProofs only [evs_, Option.bind_some, List.getElem?_cons_zero, List.getElem?_cons_succ, List.set_cons_zero, List.set_cons_succ, List.map_cons, List.map_nil, List.cons_append, List.nil_append, List.length_cons, List.length_nil, Nat.reduceAdd, Nat.reduceSub, Nat.reduceLeDiff, Nat.reduceLT, Bool.not_true, Bool.not_false, decide_true, decide_false]
  rfl
theorem lay_pyr (p : Pic) (h w side t : Nat) : Ly 12 (pyrD p h w side t) := by
  refine Ly.tuple (k := 11) fun d hd => ?_
  simp -implicitDefEqProofs only [List.mem_cons, List.not_mem_nil, or_false] at hd
  rcases hd with rfl | rfl | rfl | rfl
  · exact Ly.int _ _
  · exact Ly.int _ _
  · exact Ly.int _ _
  · refine Ly.tuple (k := 10) fun d hd => ?_
    obtain ⟨k, _, rfl⟩ := List.mem_map.mp hd
    exact lay_ent (pix p) side k
theorem bare_pyr (p : Pic) (h w side t : Nat) : bareD (pyrZ p h w side t) = pyrD p h w side t := by
  have e := bareL_lay (((upTo h w (pix p) side t).mergeSort (leA (pix p) side)).map (entA (pix p) side)) (lay_all (entA (pix p) side) 10 (lay_ent (pix p) side) _).1
  unfold pyrZ pyrD
  rw [bareD, bareL, bareL, bareL, bareL, bareL, bare_fz, e, bare_lay (.int _) rfl, bare_lay (.int _) rfl, bare_lay (.int _) rfl]
theorem lay_pyrZ (p : Pic) (h w side t : Nat) : Ly 12 (bareD (pyrZ p h w side t)) := by
  rw [bare_pyr]
  exact lay_pyr p h w side t
theorem is_pyramid_eq {p : Pic} {h w : Nat} (P : Pc2 p h w) {side t : Nat} (hs : okSide side) (T : Top h w side t) : sem_is_pyramid [pyrZ p h w side t] = .ok (.bool true) := by
  obtain ⟨u, U, _, _, e⟩ := built_eq P hs
  have := T.uniq U
  subst this
  have x0 : ixF (pyrZ p h w side t) (.int 0) = some (.int (side : Int)) := f_ix0 _ _
  have nn : isNotF (picD p) .none = some (.bool true) := by kernel_rfl
  have ee := eqZ_self (lay_pyrZ p h w side t) (by decide)
  simp -implicitDefEqProofs only [sem_is_pyramid, b_is_pyramid, has_form_eq P hs T, picture_in_eq P hs T, x0, e, nn, ee, evs_, Option.bind_some, List.getElem?_cons_zero, List.getElem?_cons_succ, List.set_cons_zero, List.set_cons_succ, List.map_cons, List.map_nil, List.cons_append, List.nil_append, List.length_cons, List.length_nil, Nat.reduceAdd, Nat.reduceSub, Nat.reduceLeDiff, Nat.reduceLT, Bool.not_true, Bool.not_false, decide_true, decide_false]
theorem look_pyramids_eq {p : Pic} {h w : Nat} (P : Pc2 p h w) {side t : Nat} (hs : okSide side) (T : Top h w side t) : sem_look_pyramids [pyrZ p h w side t] = .ok .none := by
  simp -implicitDefEqProofs only [sem_look_pyramids, b_look_pyramids, is_pyramid_eq P hs T, evs_, Option.bind_some, List.getElem?_cons_zero, List.getElem?_cons_succ, List.set_cons_zero, List.set_cons_succ, List.map_cons, List.map_nil, List.cons_append, List.nil_append, List.length_cons, List.length_nil, Nat.reduceAdd, Nat.reduceSub, Nat.reduceLeDiff, Nat.reduceLT, Bool.not_true, Bool.not_false, decide_true, decide_false]
theorem levels_eq {p : Pic} {h w : Nat} (P : Pc2 p h w) {side t : Nat} (hs : okSide side) (T : Top h w side t) : sem_levels [pyrZ p h w side t] = .ok (.int ((t : Int) + 1)) := by
  have b := hs.bd
  have t6 := T.le6 P.h2 P.w2 b.1
  have := top_of_eq T (by omega) (fzD ((pyK p h w side t).map (entA (pix p) side)))
  rw [← pyr_eq] at this
  simp -implicitDefEqProofs only [sem_levels, b_levels, look_pyramids_eq P hs T, this, evs_, Option.bind_some, List.getElem?_cons_zero, List.getElem?_cons_succ, List.set_cons_zero, List.set_cons_succ, List.map_cons, List.map_nil, List.cons_append, List.nil_append, List.length_cons, List.length_nil, Nat.reduceAdd, Nat.reduceSub, Nat.reduceLeDiff, Nat.reduceLT, Bool.not_true, Bool.not_false, decide_true, decide_false]
end VVlaw
namespace VVlaw
open PySem PySem.Spec L2 VV
open PyProof.Rows hiding St
theorem pick4 (a b c d : Int) (k : Int) : ∃ v, ixF (.list [.int a, .int b, .int c, .int d]) (.int (k % 4)) = some (.int v) ∧ (v = a ∨ v = b ∨ v = c ∨ v = d) := by
  have h : k % 4 = 0 ∨ k % 4 = 1 ∨ k % 4 = 2 ∨ k % 4 = 3 := by omega
  rcases h with h | h | h | h <;> rw [h]
  · exact ⟨a, f_ix_l [.int a, .int b, .int c, .int d] 0 (by decide) (by simp), .inl rfl⟩
  · exact ⟨b, f_ix_l [.int a, .int b, .int c, .int d] 1 (by decide) (by simp), .inr (.inl rfl)⟩
  · exact ⟨c, f_ix_l [.int a, .int b, .int c, .int d] 2 (by decide) (by simp), .inr (.inr (.inl rfl))⟩
  · exact ⟨d, f_ix_l [.int a, .int b, .int c, .int d] 3 (by decide) (by simp), .inr (.inr (.inr rfl))⟩
theorem some_picture_eq (ns : List Int) (t : Int) (h0 : 0 ≤ t) : ∃ p h w, sem__law_some_picture [rdL ns, .int t] = .ok (picD p) ∧ Pc2 p h w ∧ h ≤ 11 ∧ w ≤ 11 := by
  obtain ⟨r, er, R⟩ := law_row_eq ns t h0
  have i0 := R.at 0 (by decide) (by decide)
  have i1 := R.at 1 (by decide) (by decide)
  have i2 := R.at 2 (by decide) (by decide)
  have i3 := R.at 3 (by decide) (by decide)
  have i4 := R.at 4 (by decide) (by decide)
  have i5 := R.at 5 (by decide) (by decide)
  have i6 := R.at 6 (by decide) (by decide)
  have i7 := R.at 7 (by decide) (by decide)
  have b4 := R.bdAt 4
  have b6 := R.bdAt 6
  have b7 := R.bdAt 7
  generalize r.getD (Int.toNat 0) 0 = u at i0
  generalize r.getD (Int.toNat 1) 0 = v at i1
  generalize r.getD (Int.toNat 2) 0 = wy at i2
  generalize r.getD (Int.toNat 3) 0 = r3 at i3
  have e4 : r.getD (Int.toNat 4) 0 = r.getD 4 0 := rfl
  have e6 : r.getD (Int.toNat 6) 0 = r.getD 6 0 := rfl
  have e7 : r.getD (Int.toNat 7) 0 = r.getD 7 0 := rfl
  rw [e4] at i4
  rw [e6] at i6
  rw [e7] at i7
  generalize r.getD 4 0 = r4 at i4 b4
  generalize r.getD (Int.toNat 5) 0 = r5 at i5
  generalize r.getD 6 0 = r6 at i6 b6
  generalize r.getD 7 0 = r7 at i7 b7
  have base : ∀ js : List (Option Sl), [vl (rdL ns), vi t, vl (.list (r.map PyData.int)), vi (1 + u % 11), vi (1 + v % 11), vi (wy % 4)] ++ js = vl (rdL ns) :: vi t :: vl (.list (r.map PyData.int)) :: vi (1 + u % 11) :: vi (1 + v % 11) :: vi (wy % 4) :: js := fun _ => rfl
  obtain ⟨ρ', e, S, o7, o8, o9, o10, o11, o12, o13, rfl, hS, hq⟩ := forGo_rng (i := 7) (lo := 0) (n := (1 + u % 11).toNat) (f := lp__law_some_picture_2)
    (fun k ρ => ∃ (S : Pic) (o7 o8 o9 o10 o11 o12 o13 : Option Sl), ρ = [vl (rdL ns), vi t, vl (.list (r.map PyData.int)), vi (1 + u % 11), vi (1 + v % 11), vi (wy % 4), some (.own (.list (S.map prow))), o7, o8, o9, o10, o11, o12, o13] ∧ S.length = k ∧ ∀ q ∈ S, (q.length : Int) = 1 + v % 11 ∧ ∀ z, some z ∈ q → 0 ≤ z ∧ z ≤ 255)
    (ρ := [vl (rdL ns), vi t, vl (.list (r.map PyData.int)), vi (1 + u % 11), vi (1 + v % 11), vi (wy % 4), some (.own (.list [])), none, none, none, none, none, none, none]) ⟨[], none, none, none, none, none, none, none, rfl, rfl, by simp⟩ (by
      rintro k ρ hk ⟨S, o7, o8, o9, o10, o11, o12, o13, rfl, hS, hq⟩
      simp -implicitDefEqProofs only [lp__law_some_picture_2, rng1_ok (1 + v % 11) (by omega) (by omega), evs_, Option.bind_some, List.getElem?_cons_zero, List.getElem?_cons_succ, List.set_cons_zero, List.set_cons_succ, List.map_cons, List.map_nil, List.cons_append, List.nil_append, List.length_cons, List.length_nil, Nat.reduceAdd, Nat.reduceSub, Nat.reduceLeDiff, Nat.reduceLT, Bool.not_true, Bool.not_false, decide_true, decide_false]
      obtain ⟨ρ2, e2, L, p9, p10, p11, p12, p13, rfl, hL, hz⟩ := forGo_rng (i := 9) (lo := 0) (n := (1 + v % 11).toNat) (f := lp__law_some_picture_1)
        (fun j ρ => ∃ (L : List (Option Int)) (o9 o10 o11 o12 o13 : Option Sl), ρ = [vl (rdL ns), vi t, vl (.list (r.map PyData.int)), vi (1 + u % 11), vi (1 + v % 11), vi (wy % 4), some (.own (.list (S.map prow))), vi (0 + (k : Int)), some (.own (.list (L.map oD))), o9, o10, o11, o12, o13] ∧ L.length = j ∧ ∀ z, some z ∈ L → 0 ≤ z ∧ z ≤ 255)
        (ρ := [vl (rdL ns), vi t, vl (.list (r.map PyData.int)), vi (1 + u % 11), vi (1 + v % 11), vi (wy % 4), some (.own (.list (S.map prow))), vi (0 + (k : Int)), some (.own (.list [])), o9, o10, o11, o12, o13]) ⟨[], o9, o10, o11, o12, o13, rfl, rfl, by simp⟩ (by
          rintro j ρ hj ⟨L, q9, q10, q11, q12, q13, rfl, hL, hz⟩
          have hlen : (L.map oD).length < 16777216 := by rw [List.length_map]; omega
          have m1 : mulF (.int 7) (.int (0 + (k : Int))) = some (.int (7 * (0 + (k : Int)))) := f_mul _ _ (.inl (by decide))
          have m2 : mulF (.int 3) (.int (0 + (j : Int))) = some (.int (3 * (0 + (j : Int)))) := f_mul _ _ (.inl (by decide))
          have m3 : mulF (.int 5) (.int (0 + (k : Int))) = some (.int (5 * (0 + (k : Int)))) := f_mul _ _ (.inl (by decide))
          have m4 : mulF (.int 11) (.int (0 + (j : Int))) = some (.int (11 * (0 + (j : Int)))) := f_mul _ _ (.inl (by decide))
          have m5 : mulF (.int (0 + (j : Int))) (.int r4) = some (.int ((0 + (j : Int)) * r4)) := f_mul _ _ (.inr (by omega))
          have m6 : mulF (.int (0 + (k : Int))) (.int 3) = some (.int ((0 + (k : Int)) * 3)) := f_mul _ _ (.inr (by decide))
          have ia := R.at ((7 * (0 + (k : Int)) + 3 * (0 + (j : Int)) + 5) % 60) (by omega) (by omega)
          have ib := R.at ((5 * (0 + (k : Int)) + 11 * (0 + (j : Int)) + r6) % 60) (by omega) (by omega)
          generalize r.getD ((7 * (0 + (k : Int)) + 3 * (0 + (j : Int)) + 5) % 60).toNat 0 = one at ia
          generalize r.getD ((5 * (0 + (k : Int)) + 11 * (0 + (j : Int)) + r6) % 60).toNat 0 = oth at ib
          have m7 : mulF (.int one) (.int 7) = some (.int (one * 7)) := f_mul _ _ (.inr (by decide))
          have m60 : mulF (.int (one % 3)) (.int 60) = some (.int (one % 3 * 60)) := f_mul _ _ (.inr (by decide))
          obtain ⟨val, ev, hval⟩ := pick4 (one * 7 % 256) (one % 3 * 60) (r3 % 256) (((0 + (j : Int)) * r4 + (0 + (k : Int)) * 3) % 256) wy
          have hv : 0 ≤ val ∧ val ≤ 255 := by
            generalize (0 + (j : Int)) * r4 = z at hval
            rcases hval with rfl | rfl | rfl | rfl <;> omega
          have md : modF (.int oth) (.int (2 + r7 % 5)) = some (.int (oth % (2 + r7 % 5))) := f_modP _ _ (by omega)
          have fin : ∀ o : Option Int, (∀ z, o = some z → 0 ≤ z ∧ z ≤ 255) → ∀ z, some z ∈ L ++ [o] → 0 ≤ z ∧ z ≤ 255 := by
            intro o ho z hz'
            rw [List.mem_append] at hz'
            rcases hz' with hz' | hz'
            · exact hz z hz'
            · simp -implicitDefEqProofs only [List.mem_singleton] at hz'
              exact ho z hz'.symm
          by_cases c1 : r5 % 2 = 0
          · by_cases c2 : oth % (2 + r7 % 5) = 0
            · simp -implicitDefEqProofs only [lp__law_some_picture_1, m1, m2, m3, m4, m5, m6, f_modP _ 60 (by decide), ia, ib, i3, i4, i5, i6, i7, m7, f_modP _ 256 (by decide), f_modP _ 3 (by decide), f_modP _ 2 (by decide), f_modP _ 5 (by decide), m60, ev, md, c1, c2, appO_ok _ _ _ _ hlen, evs_, Option.bind_some, List.getElem?_cons_zero, List.getElem?_cons_succ, List.set_cons_zero, List.set_cons_succ, List.map_cons, List.map_nil, List.cons_append, List.nil_append, List.length_cons, List.length_nil, Nat.reduceAdd, Nat.reduceSub, Nat.reduceLeDiff, Nat.reduceLT, Bool.not_true, Bool.not_false, decide_true, decide_false]
              exact ⟨_, rfl, L ++ [none], _, _, _, _, _, by rw [List.map_append]; rfl, by simp [hL], fin none (by simp)⟩
            · simp -implicitDefEqProofs only [lp__law_some_picture_1, m1, m2, m3, m4, m5, m6, f_modP _ 60 (by decide), ia, ib, i3, i4, i5, i6, i7, m7, f_modP _ 256 (by decide), f_modP _ 3 (by decide), f_modP _ 2 (by decide), f_modP _ 5 (by decide), m60, ev, md, c1, c2, appO_ok _ _ _ _ hlen, evs_, Option.bind_some, List.getElem?_cons_zero, List.getElem?_cons_succ, List.set_cons_zero, List.set_cons_succ, List.map_cons, List.map_nil, List.cons_append, List.nil_append, List.length_cons, List.length_nil, Nat.reduceAdd, Nat.reduceSub, Nat.reduceLeDiff, Nat.reduceLT, Bool.not_true, Bool.not_false, decide_true, decide_false]
              exact ⟨_, rfl, L ++ [some val], _, _, _, _, _, by rw [List.map_append]; rfl, by simp [hL], fin (some val) (by simpa using hv)⟩
          · simp -implicitDefEqProofs only [lp__law_some_picture_1, m1, m2, m3, m4, m5, m6, f_modP _ 60 (by decide), ia, ib, i3, i4, i5, i6, i7, m7, f_modP _ 256 (by decide), f_modP _ 3 (by decide), f_modP _ 2 (by decide), f_modP _ 5 (by decide), m60, ev, md, c1, appO_ok _ _ _ _ hlen, evs_, Option.bind_some, List.getElem?_cons_zero, List.getElem?_cons_succ, List.set_cons_zero, List.set_cons_succ, List.map_cons, List.map_nil, List.cons_append, List.nil_append, List.length_cons, List.length_nil, Nat.reduceAdd, Nat.reduceSub, Nat.reduceLeDiff, Nat.reduceLT, Bool.not_true, Bool.not_false, decide_true, decide_false]
            exact ⟨_, rfl, L ++ [some val], _, _, _, _, _, by rw [List.map_append]; rfl, by simp [hL], fin (some val) (by simpa using hv)⟩)
      have hlen : (S.map prow).length < 16777216 := by rw [List.length_map]; omega
      rw [e2]
      simp -implicitDefEqProofs only [appO_ok _ _ _ _ hlen, evs_, Option.bind_some, List.getElem?_cons_zero, List.getElem?_cons_succ, List.set_cons_zero, List.set_cons_succ, List.map_cons, List.map_nil, List.cons_append, List.nil_append, List.length_cons, List.length_nil, Nat.reduceAdd, Nat.reduceSub, Nat.reduceLeDiff, Nat.reduceLT, Bool.not_true, Bool.not_false, decide_true, decide_false]
      refine ⟨_, rfl, S ++ [L], vi (0 + (k : Int)), some (.own (.list (L.map oD))), p9, p10, p11, p12, p13, ?_, by simp [hS], ?_⟩
      · rw [List.map_append]; rfl
      · intro q hq'
        rw [List.mem_append] at hq'
        rcases hq' with hq' | hq'
        · exact hq q hq'
        · simp -implicitDefEqProofs only [List.mem_singleton] at hq'
          subst hq'
          exact ⟨by omega, hz⟩)
  simp -implicitDefEqProofs only [sem__law_some_picture, b__law_some_picture, er, i0, i1, i2, f_modP _ 11 (by decide), f_modP _ 4 (by decide), rng1_ok (1 + u % 11) (by omega) (by omega), e, evs_, Option.bind_some, List.getElem?_cons_zero, List.getElem?_cons_succ, List.set_cons_zero, List.set_cons_succ, List.map_cons, List.map_nil, List.cons_append, List.nil_append, List.length_cons, List.length_nil, Nat.reduceAdd, Nat.reduceSub, Nat.reduceLeDiff, Nat.reduceLT, Bool.not_true, Bool.not_false, decide_true, decide_false]
  exact ⟨S, (1 + u % 11).toNat, (1 + v % 11).toNat, rfl, ⟨by omega, fun q h => by have := (hq q h).1; omega, fun q h => (hq q h).2, by omega, by omega, by omega, by omega⟩, by omega, by omega⟩
end VVlaw
namespace VVlaw
open PySem PySem.Spec L2 VV
open PyProof.Rows hiding St
theorem f_addL' (xs ys : List D) (h : xs.length + ys.length ≤ 16777216) : addF (.list xs) (.list ys) = some (.list (xs ++ ys)) := if_pos h
end VVlaw
namespace VVlaw
open PySem PySem.Spec L2 VV
open PyProof.Rows hiding St
end VVlaw
namespace VVlaw
open PySem PySem.Spec L2 VV
open PyProof.Rows hiding St
theorem nodup_flat {α β : Type} (g : α → List β) (tag : β → α) (ht : ∀ a, ∀ b ∈ g a, tag b = a) (hg : ∀ a, (g a).Nodup) : ∀ xs : List α, xs.Nodup → (xs.flatMap g).Nodup
  | [], _ => by simp
  | x :: xs, h => by
    rw [List.flatMap_cons, List.nodup_append]
    rw [List.nodup_cons] at h
    refine ⟨hg x, nodup_flat g tag ht hg xs h.2, fun a ha b hb e => ?_⟩
    obtain ⟨y, hy, hb'⟩ := List.mem_flatMap.mp hb
    have t1 := ht x a ha
    have t2 := ht y b hb'
    rw [e, t2] at t1
    exact h.1 (t1 ▸ hy)
theorem nodup_map_tag {α β : Type} (g : α → β) (tag : β → α) (ht : ∀ a, tag (g a) = a) (xs : List α) (h : xs.Nodup) : (xs.map g).Nodup := by
  rw [List.nodup_iff_pairwise_ne, List.pairwise_map]
  exact (List.nodup_iff_pairwise_ne.mp h).imp fun hn e => hn ((ht _).symm.trans ((congrArg tag e).trans (ht _)))
theorem keysAt_nodup (h w : Nat) (f : GF) (side l : Nat) : (keysAt h w f side l).Nodup := by
  unfold keysAt
  refine nodup_flat (rowK w f side l) (fun k => k.2.2) (fun d k hk => ?_) (fun d => ?_) _ List.nodup_range
  · obtain ⟨a, _, rfl⟩ := List.mem_map.mp hk
    rfl
  · exact nodup_map_tag (fun a => ((l, a, d) : Ky)) (fun k => k.2.1) (fun _ => rfl) _ (List.nodup_range.filter _)
end VVlaw
set_option maxHeartbeats 4000000
namespace VVlaw
open PySem PySem.Spec L2 VV
open PyProof.Rows hiding St
def b_is_window : SF := (sSeq (sIf (gOr (gNot (gTru (eIsi isTup (eV 1)))) (gOr (eOp neF (eCB lenF [(eV 1)]) (eC (.int 5))) (gNot (gTru (eCall sem_is_within [(eOp ixF (eV 1) (eC (.int 0))), (eC (.int 0)), (eCall sem_top_of [(eV 0)])]))))) (sRet (eC (.bool false))) sNx) (sSeq (sIf (gOr (gNot (gTru (eCall sem_is_within [(eOp ixF (eV 1) (eC (.int 1))), (eC (.int 0)), (eC (.int 120))]))) (gNot (gTru (eCall sem_is_within [(eOp ixF (eV 1) (eC (.int 2))), (eC (.int 0)), (eC (.int 120))])))) (sRet (eC (.bool false))) sNx) (sRet (eAnd (eCall sem_is_within [(eOp ixF (eV 1) (eC (.int 3))), (eC (.int 1)), (eC (.int 16))]) (eCall sem_is_within [(eOp ixF (eV 1) (eC (.int 4))), (eC (.int 1)), (eC (.int 16))])))))
def sem_is_window : List D → Rs := runB 2 2 b_is_window
def b_look_window : SF := (sSeq (sDrop (eCall sem_look_pyramids [(eV 0)])) (sIf (gNot (gTru (eCall sem_is_window [(eV 0), (eV 1)]))) (sRaise "BadWindow") sNx))
def sem_look_window : List D → Rs := runB 2 2 b_look_window
def b_cell_of : SF := (sRet (eIf (eOp gtF (eOp ixF (eV 0) (eC (.int 1))) (eC (.int 0))) (eCall sem_least [(eOp ixF (eV 0) (eC (.int 0))), (eOp ixF (eV 0) (eC (.int 1)))]) (eC .none)))
def sem_cell_of : List D → Rs := runB 1 1 b_cell_of
end VVlaw
set_option maxHeartbeats 8000000
namespace VVlaw
open PySem PySem.Spec L2 VV
open PyProof.Rows hiding St
def frL (a b : Int) : D := .tuple [.int (a / (Int.gcd a b : Int)), .int (b / (Int.gcd a b : Int))]
def celD (q : Pr) : D := if 0 < q.2 then frL q.1 q.2 else .none
theorem celD_pos {q : Pr} (h : 0 < q.2) : celD q = frL q.1 q.2 := if_pos h
theorem celD_no {q : Pr} (h : ¬ 0 < q.2) : celD q = .none := if_neg h
theorem cell_of_eq (q : Pr) (hm : q.2 ≤ 14400) : sem_cell_of [prD q] = .ok (celD q) := by
  have x0 : ixF (prD q) (.int 0) = some (.int q.1) := f_ix0 _ _
  have x1 : ixF (prD q) (.int 1) = some (.int q.2) := f_ix1 _ _ _
  by_cases h : 0 < q.2
  · rw [celD_pos h]
    have := least_eq q.1 q.2 h (by omega)
    simp -implicitDefEqProofs only [sem_cell_of, b_cell_of, x0, x1, h, this, evs_, Option.bind_some, List.getElem?_cons_zero, List.getElem?_cons_succ, List.set_cons_zero, List.set_cons_succ, List.map_cons, List.map_nil, List.cons_append, List.nil_append, List.length_cons, List.length_nil, Nat.reduceAdd, Nat.reduceSub, Nat.reduceLeDiff, Nat.reduceLT, Bool.not_true, Bool.not_false, decide_true, decide_false]
    rfl
  · rw [celD_no h]
    simp -implicitDefEqProofs only [sem_cell_of, b_cell_of, x1, h, evs_, Option.bind_some, List.getElem?_cons_zero, List.getElem?_cons_succ, List.set_cons_zero, List.set_cons_succ, List.map_cons, List.map_nil, List.cons_append, List.nil_append, List.length_cons, List.length_nil, Nat.reduceAdd, Nat.reduceSub, Nat.reduceLeDiff, Nat.reduceLT, Bool.not_true, Bool.not_false, decide_true, decide_false]
theorem ky_eqv (k q : Ky) : PyData.eqv (kyD k) (kyD q) = decide (k = q) := by
  have := keyT_eqv [.inl (k.1 : Int), .inl (k.2.1 : Int), .inl (k.2.2 : Int)] [.inl (q.1 : Int), .inl (q.2.1 : Int), .inl (q.2.2 : Int)]
  show PyData.eqvAll _ _ = _
  refine this.trans ?_
  obtain ⟨a, b, c⟩ := k
  obtain ⟨a', b', c'⟩ := q
  refine decide_eq_decide.mpr ?_
  simp -implicitDefEqProofs only [List.cons.injEq, Sum.inl.injEq, and_true, Prod.mk.injEq]
  omega
theorem dput_new (qs : List (D × D)) (k v : D) (h : ∀ q ∈ qs, PyData.eqv q.1 k = false) : dputP qs k v = qs ++ [(k, v)] := by
  unfold dputP
  rw [if_neg]
  rw [List.any_eq_true]
  rintro ⟨q, hq, e⟩
  rw [h q hq] at e
  cases e
theorem upTo_nodup (h w : Nat) (f : GF) (side t : Nat) : (upTo h w f side t).Nodup := by
  unfold upTo levK
  refine nodup_flat (fun k => keysAt (upN h k) (upN w k) (Fl f k) side k) (fun k => k.1) (fun l k hk => (mem_keysAt.mp hk).1) (fun l => keysAt_nodup _ _ _ _ _) _ List.nodup_range
theorem pyK_nodup (p : Pic) (h w side t : Nat) : (pyK p h w side t).Nodup := (List.mergeSort_perm _ _).nodup_iff.mpr (upTo_nodup h w (pix p) side t)
def winD (l x y wd hg : Nat) : D := .tuple [.int (l : Int), .int (x : Int), .int (y : Int), .int (wd : Int), .int (hg : Int)]
theorem is_window_eq {p : Pic} {h w : Nat} (P : Pc2 p h w) {side t : Nat} (hs : okSide side) (T : Top h w side t) (l x y wd hg : Nat) (hl : l ≤ t) (hx : x ≤ 120) (hy : y ≤ 120) (w1 : 1 ≤ wd) (w2 : wd ≤ 16) (g1 : 1 ≤ hg) (g2 : hg ≤ 16) :
    sem_is_window [pyrZ p h w side t, winD l x y wd hg] = .ok (.bool true) := by
  have b := hs.bd
  have t6 := T.le6 P.h2 P.w2 b.1
  have tp := top_of_eq T (by omega) (fzD ((pyK p h w side t).map (entA (pix p) side)))
  rw [← pyr_eq] at tp
  have i0 : isiO isTup (.ok (winD l x y wd hg)) = .ok (.bool true) := rfl
  have l0 : lenF [winD l x y wd hg] = some (.int 5) := rfl
  have n5 : neF (.int 5) (.int 5) = some (.bool false) := ne_int_self 5
  have x0 : ixF (winD l x y wd hg) (.int 0) = some (.int (l : Int)) := f_ix0 _ _
  have x1 : ixF (winD l x y wd hg) (.int 1) = some (.int (x : Int)) := f_ix1 _ _ _
  have x2 : ixF (winD l x y wd hg) (.int 2) = some (.int (y : Int)) := f_ix2 _ _ _ _
  have x3 : ixF (winD l x y wd hg) (.int 3) = some (.int (wd : Int)) := f_ix3 _ _ _ _ _
  have x4 : ixF (winD l x y wd hg) (.int 4) = some (.int (hg : Int)) := f_ix_t _ 4 (by decide) (by simp)
  have c0 : (0 : Int) ≤ l ∧ (l : Int) ≤ t := by omega
  have c1 : (0 : Int) ≤ x ∧ (x : Int) ≤ 120 := by omega
  have c2 : (0 : Int) ≤ y ∧ (y : Int) ≤ 120 := by omega
  have c3 : (1 : Int) ≤ wd ∧ (wd : Int) ≤ 16 := by omega
  have c4 : (1 : Int) ≤ hg ∧ (hg : Int) ≤ 16 := by omega
  simp -implicitDefEqProofs only [sem_is_window, b_is_window, i0, l0, n5, x0, x1, x2, x3, x4, tp, is_within_eq, c0, c1, c2, c3, c4, and_self, evs_, Option.bind_some, List.getElem?_cons_zero, List.getElem?_cons_succ, List.set_cons_zero, List.set_cons_succ, List.map_cons, List.map_nil, List.cons_append, List.nil_append, List.length_cons, List.length_nil, Nat.reduceAdd, Nat.reduceSub, Nat.reduceLeDiff, Nat.reduceLT, Bool.not_true, Bool.not_false, decide_true, decide_false]
end VVlaw
namespace VVlaw
open PySem PySem.Spec L2 VV
open PyProof.Rows hiding St
end VVlaw
set_option maxHeartbeats 4000000
namespace VVlaw
open PySem PySem.Spec L2 VV
open PyProof.Rows hiding St
def Bd (k : Nat) (i : Int) : Prop := i.natAbs < 2 ^ k
theorem Bd.mono {k l : Nat} {i : Int} (h : Bd k i) (hl : k ≤ l) : Bd l i := Nat.lt_of_lt_of_le h (Nat.pow_le_pow_right (by decide) hl)
theorem Bd.add {k : Nat} {i j : Int} (h : Bd k i) (g : Bd k j) : Bd (k + 1) (i + j) := by
  unfold Bd at *
  have := Int.natAbs_add_le i j
  rw [Nat.pow_succ]
  omega
theorem Bd.neg {k : Nat} {i : Int} (h : Bd k i) : Bd k (-i) := by
  unfold Bd at *
  rw [Int.natAbs_neg]
  exact h
theorem Bd.sub {k : Nat} {i j : Int} (h : Bd k i) (g : Bd k j) : Bd (k + 1) (i - j) := by
  rw [Int.sub_eq_add_neg]
  exact h.add g.neg
theorem Bd.dvd {k : Nat} {i j : Int} (h : Bd k i) (hd : j ∣ i) : Bd k (i / j) := by
  unfold Bd at *
  obtain ⟨c, rfl⟩ := hd
  by_cases hj : j = 0
  · subst hj
    simp
    exact Nat.two_pow_pos k
  · rw [Int.mul_ediv_cancel_left _ hj]
    rw [Int.natAbs_mul] at h
    have : 1 ≤ j.natAbs := by omega
    exact Nat.lt_of_le_of_lt (Nat.le_mul_of_pos_left _ this) h
theorem Bd.of {k : Nat} {i : Int} (a b : Int) (h : a ≤ i ∧ i ≤ b) (ha : a.natAbs < 2 ^ k) (hb : b.natAbs < 2 ^ k) : Bd k i := by
  unfold Bd
  omega
end VVlaw
namespace VVlaw
open PySem PySem.Spec L2 VV
open PyProof.Rows hiding St
end VVlaw
namespace VVlaw
open PySem PySem.Spec L2 VV
open PyProof.Rows hiding St
end VVlaw
namespace VVlaw
open PySem PySem.Spec L2 VV
open PyProof.Rows hiding St
theorem Bd.gcd {k : Nat} {a b : Int} (h0 : 0 < b) (hb : Bd k b) : Bd k (Int.gcd a b : Int) := by
  unfold Bd at *
  have := Int.le_of_dvd h0 (Int.gcd_dvd_right (a := a) (b := b))
  omega
theorem Bd.fr {k : Nat} {a b : Int} (ha : Bd k a) (hb : Bd k b) : Bd k (a / (Int.gcd a b : Int)) ∧ Bd k (b / (Int.gcd a b : Int)) := ⟨ha.dvd (Int.gcd_dvd_left ..), hb.dvd (Int.gcd_dvd_right ..)⟩
abbrev Ent := (Int × Int) × Int
def keyT (k : Int × Int) : D := .tuple [.int k.1, .int k.2]
def both (a b : List (List Int)) (w' h' p q : Int) (y x : Int) : List Ent := if (0 ≤ y - q ∧ y - q < h') ∧ 0 ≤ x - p ∧ x - p < w' then [((x, y), cell a y x - cell b (y - q) (x - p))] else []
end VVlaw
set_option maxHeartbeats 8000000
namespace VVlaw
open PySem PySem.Spec L2 VV
open PyProof.Rows hiding St
end VVlaw
set_option maxHeartbeats 4000000
namespace VV
open PySem PySem.Spec L2
open PyProof.Rows hiding St
def placeD (d : D) : List D → Option Nat
  | [] => none
  | z :: ds => if PyData.eqv z d = true then some 0 else (placeD d ds).map (· + 1)
theorem placeD_ok {d : D} : ∀ {ds : List D} {j : Nat}, placeD d ds = some j → ∃ z, ds[j]? = some z ∧ PyData.eqv z d = true ∧ ∀ (m : Nat) (y : D), m < j → ds[m]? = some y → PyData.eqv y d = false
  | [], j, h => nomatch h
  | z :: ds, j, h => by
    unfold placeD at h
    split at h
    · rename_i hz
      cases h
      exact ⟨z, rfl, hz, fun m y hm => absurd hm (Nat.not_lt_zero m)⟩
    · rename_i hz
      obtain ⟨i, hi, rfl⟩ := Option.map_eq_some_iff.mp h
      obtain ⟨w, e1, e2, e3⟩ := placeD_ok hi
      refine ⟨w, by simpa using e1, e2, fun m y hm hy => ?_⟩
      cases m with
      | zero =>
        simp only [List.getElem?_cons_zero, Option.some.injEq] at hy
        subst hy
        simpa using hz
      | succ m => exact e3 m y (by omega) (by simpa using hy)
section
variable {X : Cx} {W : WX}
end
end VV
namespace VV
open PySem PySem.Spec L2
open PyProof.Rows hiding St
section
variable {X : Cx}
end
end VV
namespace VV
open PySem PySem.Spec L2
open PyProof.Rows hiding St
def testsIn (ifs : List Expr) (env : Env) : Sem Bool := forIn ifs true fun c r => if r = true then do let ok ← isTrue c env (eval c env); pure (ForInStep.yield ok) else pure (ForInStep.yield r)
def clauseGo (iter t : Expr) (ifs : List Expr) (it : Value) (env : Env) (act : Sem Fin) (c : Code) : Sem Fin := do
  standAt iter.pos
  match ← pyNext it with
  | none => pure (.done .next)
  | some v =>
    letOwnedTupleGo t it v
    assign t env v
    let ok ← testsIn ifs env
    if ok = true then act else again c
theorem clause_wp {M : Model} {A : Around} {E : Value → Shared → Prop} {s : Shared} {iter t : Expr} {ifs : List Expr} {it : Value} {env : Env} {act : Sem Fin} {c : Code} {Q : Fin → Shared → Prop}
    (h : wpAny M A (pyNext it) (fun r s1 => match r with
      | none => Q (.done .next) s1
      | some v => wpAny M A (letOwnedTupleGo t it v) (fun _ s2 => wpAny M A (assign t env v) (fun _ s3 => wpAny M A (testsIn ifs env) (fun b s4 => (b = true → wpAny M A act Q E s4) ∧ (b = false → Q (.again c) s4)) E s3) E s2) E s1) E s) :
    wpAny M A (clauseGo iter t ifs it env act c) Q E s := by
  unfold clauseGo
  refine wpAny_bind (wpAny_standAt (wpAny_bind (thn h fun r s1 h1 => ?_)))
  cases r with
  | none => exact wpAny_pure h1
  | some v =>
    refine wpAny_bind (thn h1 fun _ s2 h2 => wpAny_bind (thn h2 fun _ s3 h3 => wpAny_bind (thn h3 fun b s4 h4 => ?_)))
    cases b with
    | true => exact h4.1 rfl
    | false => exact wpAny_pure (h4.2 rfl)
def Knows (σ σ2 : St) : Prop := σ.length = σ2.length ∧ ∀ (j : Nat) v, σ[j]? = some (some v) → σ2[j]? = some (some v)
theorem Knows.of_wipe {σ σ2 : St} {vs : List Nat} (h : L2.wipe σ2 vs = L2.wipe σ vs) : Knows (L2.wipe σ vs) σ2 :=
  ⟨by rw [← h, wipe_length], fun j v e => by rw [← h] at e; exact (wipe_some e).1⟩
theorem Knows.trans {a b c : St} (h : Knows a b) (k : Knows b c) : Knows a c := ⟨h.1.trans k.1, fun j v e => k.2 j v (h.2 j v e)⟩
abbrev noX : Value → Shared → Prop := fun _ _ => False
def Rounds (J : It) (g : TG) (tt : TT) (σb : St) (ta : St → Hp → (Hp → Prop) → Prop) (W : Nat → Nat → Hp → Prop) (Fn : Hp → Prop) : Prop := ∀ i m H, W i m H →
  (J.stop i H ∧ Fn H) ∨ (J.go i H ∧ ∃ Nx : Hp → Prop, (∀ H', Nx H' → ∃ m', m' < m ∧ W (i + 1) m' H') ∧
    ∀ x H', J.yld i H x H' → g x σb H' fun σ2 H2 => Knows σb σ2 ∧ tt σ2 H2 fun b H3 => (b = true → ta σ2 H3 Nx) ∧ (b = false → Nx H3))
section
variable {X : Cx} {pins : List (Addr × Obj)} {σb : St} {ce : Expr} {d : Nat} {acc : Value} {iter tg : Expr} {ifs : List Expr} {act : Sem Fin} {it : Addr} {fp : List Addr} {tn : Nat → Heap → Prop} {J : It} {g : TG} {tt : TT} {R : Result → Shared → Prop} {s : Shared} {H : Hp}
theorem clause_loop (den : (model X.prog X.w).den (.compLoop ce d (.ref it) acc X.env) = (clauseGo iter tg ifs (.ref it) X.env act (.compLoop ce d (.ref it) acc X.env)).onRaise (fun x => do noteFrame x X.env; theTreesLotGoes x))
    (und : X.A.under (.compLoop ce d (.ref it) acc X.env) = X.A) (qt : (Code.compLoop ce d (.ref it) acc X.env).quiet = true) (hc : X.calm = true) (hx : X.xe = noX) (T : Turn X.prog X.w X.K tg J fp it tn)
    (stat : ∀ {σ' : St} {H' : Hp} {s' : Shared}, Inv X pins σ' H' s' → (∀ b ∈ fp, H' b = none) → ∀ b ∈ fp, FpOk X pins H' b) (pg : PG X tg g) (pt : PTs X ifs tt) (W : Nat → Nat → Hp → Prop) (Fn : Hp → Prop) (ta : St → Hp → (Hp → Prop) → Prop) (rounds : Rounds J g tt σb ta W Fn)
    (hact : ∀ {pl : List (Addr × Obj)} {σ2 : St} {H : Hp} {s : Shared} {Nx : Hp → Prop}, Knows σb σ2 → Inv X (pins ++ pl) σ2 H s → ta σ2 H Nx →
      wpAny (model X.prog X.w) X.A act (fun f s' => f = .again (.compLoop ce d (.ref it) acc X.env) ∧ ∃ σ3 H', Inv X (pins ++ pl) σ3 H' s' ∧ Knows σb σ3 ∧ Nx H') noX s)
    (hR : ∀ H s', Inv X pins σb H s' → Fn H → R (.ok .next) s') (m0 : Nat) (I : Inv X pins σb H s) (st : tn 0 s.heap) (nf : ∀ b ∈ fp, H b = none) (w0 : W 0 m0 H) :
    codeAny (model X.prog X.w) X.A (.compLoop ce d (.ref it) acc X.env) R s := by
  refine codeAny_loop qt (fun n s' => ∃ i H', Inv X pins σb H' s' ∧ tn i s'.heap ∧ (∀ b ∈ fp, H' b = none) ∧ W i n H') ?_ m0 ⟨0, H, I, st, nf, w0⟩
  rintro n sa ⟨i, Ha, Ia, ta', na, wa⟩
  rw [und, den]
  refine wpAny_noted (clause_wp ?_)
  rcases rounds i n Ha wa with ⟨stop, fin⟩ | ⟨go, Nx, next, step⟩
  · refine thnF (T.done X rfl rfl rfl hc i pins sa σb Ha noX Ia (stat Ia na) ta' stop) ?_
    rintro r sb ⟨rfl, Ib⟩
    exact hR Ha sb Ib fin
  · refine thnF (T.item X rfl rfl rfl hc i pins sa σb Ha noX Ia (stat Ia na) ta' go) ?_
    rintro r sb ⟨u, rfl, hu⟩
    refine thnF hu ?_
    rintro _ sc ⟨x, Hc, Ic, rx, yx, tc, nc⟩
    have Ip := Ic.pinned (stat Ic nc) (T.obj _ _ tc)
    -- back at the turn's start
    have home : ∀ {σ3 : St} {H' : Hp} {s' : Shared}, Inv X (pins ++ pinsAt fp sc.heap) σ3 H' s' → Knows σb σ3 → Nx H' → ∃ m, m < n ∧ ∃ i H', Inv X pins σb H' s' ∧ tn i s'.heap ∧ (∀ b ∈ fp, H' b = none) ∧ W i m H' := by
      intro σ3 H' s' Ie kn nx
      obtain ⟨m', lt, we⟩ := next H' nx
      have kept : ∀ b ∈ fp, ∀ o, sc.heap.get? b = some o → s'.heap.get? b = some o ∧ H' b = none := fun b hb o e =>
        have z := Ie.pin (b, o) (List.mem_append_right _ (List.mem_append_right _ (mem_pinsAt hb e)))
        ⟨z.1, z.2.1⟩
      refine ⟨m', lt, i + 1, H', Ie.unpinned.weak kn.1 kn.2, T.keep _ _ _ tc fun b hb o e => (kept b hb o e).1, fun b hb => ?_, we⟩
      obtain ⟨o, e, _⟩ := T.obj _ _ tc b hb
      exact (kept b hb o e).2
    have r1 := pg.run _ sc σb Hc x u _ Ip rx (step x Hc yx)
    rw [hx] at r1
    refine thnF r1 ?_
    rintro _ sd ⟨σ2, Hd, Id, kn, qd⟩
    have r2 := pt.run _ sd σ2 Hd _ Id qd
    rw [hx] at r2
    refine thnF r2 ?_
    rintro b se ⟨He, Ie, qe⟩
    refine ⟨fun hb => thnF (hact kn Ie (qe.1 hb)) ?_, fun hb => ⟨rfl, home Ie kn (qe.2 hb)⟩⟩
    rintro f sf ⟨rfl, σ3, Hf, If, kn3, nx⟩
    exact ⟨rfl, home If kn3 nx⟩
end
end VV
namespace VV
open PySem PySem.Spec L2
open PyProof.Rows hiding St
theorem Knows.out {σ σ2 : St} {vs vs1 : List Nat} (h : Knows (L2.wipe σ vs) σ2) (sub : ∀ i ∈ vs1, i ∈ vs) : Knows (L2.wipe σ vs) (L2.wipe σ2 vs1) :=
  ⟨h.1.trans (wipe_length σ2 vs1).symm, fun j v e => by
    rw [wipe_at fun z => (wipe_some e).2 (sub j z)]
    exact h.2 j v e⟩
section
variable {P : Program} {w : World} {A : Around} {R : Result → Shared → Prop} {s : Shared} {ce : Expr} {d : Nat} {it acc : Value} {env : Env}
theorem start_wp {c : Comprehension} (den : (model P w).den (.compStart ce d it acc env) = (compStart ce d it acc env).onRaise (fun x => do noteFrame x env; standAt theWindowsPlace)) (und : A.under (.compStart ce d it acc env) = A)
    (hg : (clausesOf ce)[d]? = some c) (ha : c.is_async = 0) (qt : (Code.compLoop ce d it acc env).quiet = true) (h0 : codeAny (model P w) A (.compLoop ce d it acc env) R s)
    (self : ∀ (Q : Value → Shared → Prop) (E : Value → Shared → Prop), Q it s → wpAny (model P w) A (pyIter it) Q E s) : codeAny (model P w) A (.compStart ce d it acc env) R s := by
  refine codeAny_of_tree ?_
  rw [und, den]
  refine wpAny_notedAt ?_
  unfold compStart
  simp only [hg, ha, Option.elim, bne_self_eq_false, Bool.false_eq_true, if_false]
  show wpAny _ _ (ask >>= _) _ _ s
  refine wpAny_bind (wpAny_askSetting (wpAny_ite ?_))
  split
  · first
      | exact wpAny_pure ⟨qt, h0⟩
      | exact wpAny_bind (wpAny_pure (wpAny_pure ⟨qt, h0⟩))
  · refine wpAny_bind (wpAny_rule ?_)
    first
      | exact wpAny_bind (wpAny_standAt (wpAny_bind (self _ _ (wpAny_pure ⟨qt, h0⟩))))
      | exact wpAny_bind (wpAny_bind (wpAny_standAt (wpAny_pure (wpAny_bind (self _ _ (wpAny_pure ⟨qt, h0⟩))))))
end
theorem put_dt {X : Cx} {pins : List (Addr × Obj)} {σ : St} {H : Hp} {s : Shared} {E : Value → Shared → Prop} {a b : Addr} {kvs : List (List Key × V)} {k : List Key} {v : V} {r : Value} {Q : Unit → Shared → Prop} (hu : X.A.units + 1 < cLine) (I : Inv X pins σ H s) (e : H a = some (.dT kvs)) (eb : H b = some (.tup (k.map kV)))
    (lt : kvs.length < sizeLine) (rv : RelV v r) (h : ∀ s', Inv X pins σ (upd H a (.dT (putK kvs k v))) s' → Q () s') : wpAny (model X.prog X.w) X.A (dictSet a (.ref b) r) Q E s := by
  obtain ⟨z, hd, xs, rel, dd⟩ := dt_of I.hok e
  have xl : xs.length ≤ sizeLine := (Paired.length rel) ▸ z
  have nl : (putK kvs k v).length ≤ sizeLine := Nat.le_trans (length_putK kvs k v) lt
  refine wpAny_dictSet_heap (hsz := xl) (knd := tupleKind (mixKind X.prog X.w)) (by show X.A.units < cLine; omega) (key_of I.hok eb) dd fun h' new same => h _ ?_
  obtain ⟨q, en, ep, g1, g2, g3, g4, _, g5⟩ := new
  have kt := (rel.put k eb rv).keeps (H' := upd H a (.dT (putK kvs k v))) fun c ys ec => by
    rw [upd_ne (ne_of ec e fun z => nomatch z)]
    exact ec
  exact d_write I (by rw [e]; trivial) same ⟨q, g1⟩ ⟨nl, hd, _, kt, q, en, ep, g1, g2, g3, g4, g5⟩
def tPutT (D : Addr) (tk tv : TE) : St → Hp → (Hp → Prop) → Prop := fun σ H Nx => tk σ H fun y H1 => tv σ H1 fun z H2 => ∃ kvs k b, y = .ref b ∧ H2 D = some (.dT kvs) ∧ H2 b = some (.tup (k.map kV)) ∧ kvs.length < sizeLine ∧ Nx (upd H2 D (.dT (putK kvs k z)))
def tIn2 (wi : TI) (g : TG) (tt : TT) (vs : List Nat) (ta : St → Hp → (Hp → Prop) → Prop) : St → Hp → (Hp → Prop) → Prop := fun σ H Nx => wi σ H fun J H1 => ∃ (W : Nat → Nat → Hp → Prop) (m : Nat), W 0 m H1 ∧ Rounds J g tt (L2.wipe σ vs) ta W Nx
def tDc2 (wi : TI) (g : TG) (tt : TT) (wi1 : TI) (g1 : TG) (tt1 : TT) (tk tv : TE) (vs vs1 : List Nat) : TE := fun σ H Q => wi σ H fun J H1 => ∀ D, H1 D = none →
  ∃ (W : Nat → Nat → Hp → Prop) (m : Nat), W 0 m (upd H1 D (.dT [])) ∧ Rounds J g tt (L2.wipe σ vs) (tIn2 wi1 g1 tt1 vs1 (tPutT D tk tv)) W (Q (.ref D))
abbrev AllBlk (X : Cx) (scope : Scope) (p : Cx → Prop) : Prop := ∀ (s : Shared) (H : Hp) (C : Addr) (cl : List (Str × Addr)) (fp : List Addr), p (X.blk s H scope (compEnvC scope cl C X.env) fp)
section
variable {X : Cx} {kx vx tg iter tg1 iter1 : Expr} {ifs ifs1 : List Expr} {scope : Scope} {own : List (Str × Nat)} {vs1 : List Nat} {pos : Pos} {wi wi1 : TI} {g g1 : TG} {tt tt1 : TT} {tk tv : TE}
theorem pe_dc2 (hu : X.A.units + 1 < cLine) (hc : X.calm = true) (hN : X.N.Nodup) (hi : PI X tg iter wi) (ok : BlkOk X.N X.env.scope scope own) (sub : ∀ i ∈ vs1, i ∈ own.map (·.2)) (hg : AllBlk X scope fun Y => PG Y tg g) (ht : AllBlk X scope fun Y => PTs Y ifs tt)
    (hi1 : AllBlk X scope fun Y => PI Y tg1 iter1 wi1) (hg1 : AllBlk X scope fun Y => PG Y tg1 g1) (ht1 : AllBlk X scope fun Y => PTs Y ifs1 tt1) (hk : AllBlk X scope fun Y => PE Y kx tk) (hv : AllBlk X scope fun Y => PE Y vx tv)
    (hs : ∀ x, foldedSetIterable iter X.env x = pure x) (hs1 : ∀ env x, foldedSetIterable iter1 env x = pure x) :
    PE X (.DictComp kx vx [⟨tg, iter, ifs, 0⟩, ⟨tg1, iter1, ifs1, 0⟩] scope pos) (tDc2 wi g tt wi1 g1 tt1 tk tv (own.map (·.2)) vs1) := ⟨fun pins s σ H Q I q => by
  rw [arm_eval_DictComp]
  have clo := closure_ok (scope := scope) (env := X.env) fun y hy e => (ok.free y hy e).elim (fun k => I.ok.has _ (.inl k)) fun k => I.ok.has _ (.inr k)
  refine wpAny_comprehension_free (use := none) rfl hs clo ok.kind (fun y hy e => by rw [ok.uniq y hy, e]) (thn (hi.run pins s σ H _ I q) fun xv sa ha => thn ha fun itv sb hb => ?_)
  obtain ⟨it, fp, tn, J, Hb, rfl, Ib, T, tb, fb, qb⟩ := hb
  refine wpAny_newObj_type (newEnv_comp ?_)
  -- the new dict lies at D
  obtain ⟨D, hD⟩ : ∃ D, sb.heap.objs.size = D := ⟨_, rfl⟩
  rw [hD]
  obtain ⟨W, m0, w0, rounds⟩ := qb D (Ib.hok.fresh (Nat.le_of_eq hD))
  obtain ⟨sc, hsc⟩ : ∃ sc : Shared, sc = { sb with heap := sb.heap.push { cls := .type "dict", data := .dict #[] } } := ⟨_, rfl⟩
  rw [← hsc]
  have hp : sc.heap = sb.heap.push { cls := .type "dict", data := .dict #[] } := by rw [hsc]
  have Ic : Inv X pins σ (upd Hb D (.dT [])) sc := by
    rw [hsc]
    exact Ib.laid (t' := sb.toks) (fun b o e => Heap.get?_push_of_some _ e) (Nat.le_of_eq hD) (hD ▸ dt_empty sb.heap Ib.big)
  have fc : ∀ b ∈ fp, FpOk X pins (upd Hb D (.dT [])) b ∧ b < sc.heap.objs.size := fun b hb => by
    obtain ⟨o, e, _⟩ := T.obj _ _ tb b hb
    have lt := Heap.lt_size e
    have nb : (upd Hb D (.dT [])) b = none := by
      rw [upd_ne (hD ▸ Nat.ne_of_lt lt)]
      exact (fb b hb).1
    exact ⟨⟨nb, (fb b hb).2⟩, by rw [hp, Heap.size_push]; exact Nat.lt_succ_of_lt lt⟩
  have tc : tn 0 sc.heap := T.keep _ _ _ tb fun b _ o e => by rw [hp]; exact Heap.get?_push_of_some _ e
  have Id := block_start Ic ok hN fc
  obtain ⟨cl, hcl⟩ : ∃ cl, cl = cellsFrom (sc.heap.objs.size + 1) scope.names (cloFrom X.env.cells scope.names []) := ⟨_, rfl⟩
  obtain ⟨C, hC⟩ : ∃ C, C = sc.heap.objs.size := ⟨_, rfl⟩
  obtain ⟨sd, hsd⟩ : ∃ sd : Shared, sd = { sc with heap := pushCells (sc.heap.push { cls := .type "dict", data := .dict #[] }) scope.names } := ⟨_, rfl⟩
  have td : tn 0 sd.heap := T.keep _ _ _ tc fun b _ o e => by rw [hsd]; exact pushCells_keeps _ _ _ _ (Heap.get?_push_of_some _ e)
  obtain ⟨Y, hY⟩ : ∃ Y : Cx, Y = X.blk sc (upd Hb D (.dT [])) scope (compEnvC scope cl C X.env) fp := ⟨_, rfl⟩
  have e1 : Y.prog = X.prog := by rw [hY]
  have e2 : Y.w = X.w := by rw [hY]
  have e3 : Y.A = X.A := by rw [hY]
  have e4 : Y.K = X.K := by rw [hY]
  have e5 : Y.xe = noX := by rw [hY]
  have e6 : Y.calm = true := by rw [hY]; exact hc
  have e7 : Y.env.locals = C := by rw [hY]; rfl
  have e8 : Y.ex = fp := by rw [hY]
  have e9 : Y.pn = [] := by rw [hY]
  have e10 : Y.env = compEnvC scope cl C X.env := by rw [hY]
  have pg : PG Y tg g := hY ▸ hg ..
  have pt : PTs Y ifs tt := hY ▸ ht ..
  have pi1 : PI Y tg1 iter1 wi1 := hY ▸ hi1 ..
  have pg1 : PG Y tg1 g1 := hY ▸ hg1 ..
  have pt1 : PTs Y ifs1 tt1 := hY ▸ ht1 ..
  have pk : PE Y kx tk := hY ▸ hk ..
  have pv : PE Y vx tv := hY ▸ hv ..
  have IY : Inv Y [] (L2.wipe σ (own.map (·.2))) (upd Hb D (.dT [])) sd := by rw [hY, hsd, hcl, hC]; exact Id
  have TY : Turn Y.prog Y.w Y.K tg J fp it tn := by rw [e1, e2, e4]; exact T
  have back : ∀ {σ' : St} {H' : Hp} {s' : Shared}, Inv Y [] σ' H' s' → Inv X pins σ H' s' ∧ FpOk X pins H' C ∧ ∃ m, s'.heap.Ns C m := fun {σ' H' s'} I' => by
    have nC : H' C = none := e7 ▸ I'.free
    obtain ⟨m, hn, _⟩ := I'.loc
    refine ⟨?_, Ic.fpOk (Nat.le_of_eq hC.symm) nC, m, e7 ▸ hn⟩
    rw [hY] at I'
    exact Ic.call' (ch := fp) I'.os I'.base I'.hok I'.bare fun b hb => ⟨(fc b hb).1.2.2.2.1, (fc b hb).1.2.1, (fc b hb).1.2.2.2.2.1, (fc b hb).1.2.2.2.2.2⟩
  rw [← hcl, ← hC, ← hsd]
  have post : ∀ (H' : Hp) (s' : Shared), Inv Y [] (L2.wipe σ (own.map (·.2))) H' s' → Q (.ref D) H' → compPost (model X.prog X.w) X.A X.xe none (EP X pins σ Q) (.ref D) C (.ok .next) s' := fun H' s' I' qd => by
    obtain ⟨J', ⟨f0, f1, f2, f3, f4, f5⟩, m, hn⟩ := back I'
    exact ⟨m, hn, fun h'' sb' => ⟨.ref D, H', J'.turned (t' := s'.toks) (fun b o hb e => (sb'.2 b hb).trans e) f0 f1 f3 f4 f5, rfl, qd⟩⟩
  have stat : ∀ {σ' : St} {H' : Hp} {s' : Shared}, Inv Y [] σ' H' s' → (∀ b ∈ fp, H' b = none) → ∀ b ∈ fp, FpOk Y [] H' b := fun {σ' H' s'} I' hn b hb =>
    have mem : b ∈ Y.ex := e8 ▸ hb
    ⟨hn b hb, (I'.ok.exf b mem).1, I'.ok.exfs b mem, .inl mem, fun x c e => (I'.ok.exf b mem).2 x c e, fun p hp => by rw [e9] at hp; exact nomatch hp⟩
  have hu' : Y.A.units + 1 < cLine := by rw [e3]; exact hu
  have nf : ∀ b ∈ fp, (upd Hb D (.dT [])) b = none := fun b hb => (fc b hb).1.1
  show codeAny (model X.prog X.w) X.A (.compStart _ 0 (.ref it) (.ref D) (compEnvC scope cl C X.env)) (compPost (model X.prog X.w) X.A X.xe none (EP X pins σ Q) (.ref D) C) sd
  generalize compPost (model X.prog X.w) X.A X.xe none (EP X pins σ Q) (.ref D) C = R at post ⊢
  rw [← e10, ← e1, ← e2, ← e3]
  refine start_wp (c := ⟨tg, iter, ifs, 0⟩) rfl rfl rfl rfl rfl (clause_loop (act := do
      let x ← eval iter1 Y.env
      standAt iter1.pos
      let x ← foldedSetIterable iter1 Y.env x
      let _ ← runOwn (.compStart (.DictComp kx vx [⟨tg, iter, ifs, 0⟩, ⟨tg1, iter1, ifs1, 0⟩] scope pos) 1 (← holding [x] (pyIter x)) (.ref D) Y.env) Y.env
      again (.compLoop (.DictComp kx vx [⟨tg, iter, ifs, 0⟩, ⟨tg1, iter1, ifs1, 0⟩] scope pos) 0 (.ref it) (.ref D) Y.env)) rfl rfl rfl e6 e5 TY stat pg pt W _ _ rounds ?_ post m0 IY td nf w0) fun Q' E' h => TY.self _ 0 _ _ _ td h
  intro pl σ2 H2 s2 Nx kn I2 q2
  have r1 := pi1.run _ s2 σ2 H2 _ I2 q2
  rw [e5] at r1
  refine wpAny_bind (thnF r1 fun xv sx hx => wpAny_bind (wpAny_standAt (wpAny_bind (wpAny_of_eq (hs1 _ xv) (wpAny_bind (wpAny_holding (thnF hx fun itv sy hy => ?_)))))))
  obtain ⟨it1, fp1, tn1, J1, H3, rfl, I3, T1, t3, f3, W1, m1, w1, rounds1⟩ := hy
  refine wpAny_bind (wpAny_runOwn ?_)
  rw [Around.mark_none]
  have inner : codeAny (model Y.prog Y.w) Y.A (.compLoop (.DictComp kx vx [⟨tg, iter, ifs, 0⟩, ⟨tg1, iter1, ifs1, 0⟩] scope pos) 1 (.ref it1) (.ref D) Y.env) (fun r s' => match r with
      | .ok _ => ∃ H', Inv Y ([] ++ pl) (L2.wipe σ2 vs1) H' s' ∧ Nx H'
      | .error _ => False) sy := by
    refine clause_loop (act := (do
        let kv ← eval kx Y.env
        let vv ← holding [kv] (eval vx Y.env)
        standAt { kx.pos with endLine := vx.pos.endLine, endCol := vx.pos.endCol }
        holding [kv, vv] (dictSet D kv vv)) >>= fun _ => again (.compLoop (.DictComp kx vx [⟨tg, iter, ifs, 0⟩, ⟨tg1, iter1, ifs1, 0⟩] scope pos) 1 (.ref it1) (.ref D) Y.env)) rfl rfl rfl e6 e5 T1 (fun _ hn b hb => ⟨hn b hb, (f3 b hb).2⟩) pg1 pt1 W1 Nx _ rounds1 ?_ (fun H' s' I' nx => ⟨H', I', nx⟩) m1 (I3.weak (wipe_length _ _) fun j v e => (wipe_some e).1) t3 (fun b hb => (f3 b hb).1) w1
    intro pl1 σ4 H4 s4 Nx1 kn4 I4 q4
    have r4 := pk.run _ s4 σ4 H4 _ I4 q4
    rw [e5] at r4
    refine wpAny_bind (wpAny_bind (thnF r4 ?_))
    rintro kv s5 ⟨y, H5, I5, ry, q5⟩
    have r5 := pv.run _ s5 σ4 H5 _ I5 q5
    rw [e5] at r5
    refine wpAny_bind (wpAny_holding (thnF r5 ?_))
    rintro vv s6 ⟨z, H6, I6, rz, kvs, k, b, rfl, hD6, hb6, lt, nx⟩
    cases (show kv = Value.ref b from ry)
    exact wpAny_bind (wpAny_standAt (wpAny_holding (put_dt hu' I6 hD6 hb6 lt rz fun s7 I7 => wpAny_pure ⟨rfl, σ4, _, I7, kn4, nx⟩)))
  refine codeAny_mono (start_wp (c := ⟨tg1, iter1, ifs1, 0⟩) rfl rfl rfl rfl rfl inner fun Q' E' h => T1.self _ 0 _ _ _ t3 h) fun r s' hr => ?_
  cases r with
  | error e => exact hr.elim
  | ok f =>
    obtain ⟨H', I', nx⟩ := hr
    exact wpAny_pure ⟨rfl, _, H', I', kn.out sub, nx⟩⟩
end
end VV
namespace VV
open PySem PySem.Spec L2
open PyProof.Rows hiding St
def ePair (f g : EF) : EF := fun ρ => (f ρ).bind fun k => (g ρ).bind fun v => .ok (.tuple [k, v])
def dcR : RL → Rs
  | .ok rs => (match pairsZ rs with
    | some ps => if ps.length ≤ sizeLine then .ok (.dict ((.none, .none) :: mergeP [] ps)) else .bad
    | none => .bad)
  | _ => .bad
def eDc2 (vs vs1 : List Nat) (fi : IF) (t : Tg) (c : EF) (fi1 : IF) (t1 : Tg) (c1 ek ev : EF) : EF := fun ρ => (fi ρ).bind fun ds => dcR (lc2Go vs1 t c fi1 t1 c1 (ePair ek ev) (wipeE ρ vs) ds)
theorem ePair_ok {f g : EF} {ρ : En} {y : D} (h : ePair f g ρ = .ok y) : ∃ k v, f ρ = .ok k ∧ g ρ = .ok v ∧ y = .tuple [k, v] := by
  unfold ePair at h
  cases hf : f ρ with
  | bad => rw [hf] at h; cases h
  | exc c fs => rw [hf] at h; cases h
  | ok k =>
    cases hg : g ρ with
    | bad => rw [hf, hg] at h; cases h
    | exc c fs => rw [hf, hg] at h; cases h
    | ok v => rw [hf, hg] at h; cases h; exact ⟨k, v, rfl, rfl, rfl⟩
theorem pairsZ_cons {d : D} {ds : List D} {ps : List (D × D)} (h : pairsZ (d :: ds) = some ps) : ∃ k v qs, d = .tuple [k, v] ∧ isKeyT k = true ∧ pairsZ ds = some qs ∧ ps = (k, v) :: qs := by
  unfold pairsZ at h
  split at h
  · rename_i e; cases e
  · rename_i k x ds' e
    cases e
    split at h
    · rename_i hk
      obtain ⟨q, hq, rfl⟩ := Option.map_eq_some_iff.mp h
      exact ⟨k, x, q, rfl, hk, hq, rfl⟩
    · cases h
  · cases h
theorem pairsZ_append : ∀ {as bs : List D} {ps : List (D × D)}, pairsZ (as ++ bs) = some ps → ∃ pa pb, pairsZ as = some pa ∧ pairsZ bs = some pb ∧ ps = pa ++ pb
  | [], bs, ps, h => ⟨[], ps, rfl, h, rfl⟩
  | a :: as, bs, ps, h => by
    obtain ⟨k, v, qs, rfl, hk, hq, rfl⟩ := pairsZ_cons (show pairsZ (a :: (as ++ bs)) = some ps from h)
    obtain ⟨pa, pb, h1, h2, rfl⟩ := pairsZ_append hq
    refine ⟨(k, v) :: pa, pb, ?_, h2, rfl⟩
    unfold pairsZ
    rw [if_pos hk, h1]
    rfl
def Sofar (K : PySem.W.Frag) (H : Hp) (L : Ad) (D : Addr) (acc : List (VV.D × VV.D)) : Prop := ∃ kvs : List (List Key × V), H D = some (.dT kvs) ∧ acc.map (·.1) = kvs.map (fun q => keyT q.1) ∧ RpL K H L (acc.map (·.2)) (kvs.map (·.2))
theorem Sofar.mono {K : PySem.W.Frag} {H H' : Hp} {L : Ad} {D : Addr} {acc : List (VV.D × VV.D)} (h : Sofar K H L D acc) (s : Same H H') : Sofar K H' L D acc :=
  let ⟨kvs, a, b, c⟩ := h
  ⟨kvs, s _ _ a, b, c.mono s⟩
section
variable {X : Cx} {W : WX}
theorem dc2_loop {K : PySem.W.Frag} {L : Ad} {σ : St} {ρ : En} {H1 : Hp} {J : It} {S : Hp → Ad → Prop} {ds rs : List VV.D} {ps : List (VV.D × VV.D)} {t t1 : Tg} {c c1 ek ev : EF} {fi1 : IF} {vs vs1 : List Nat} {Q : VK} (re : RE K H1 L ρ σ) (it : ItB K ds J S) (hS : S H1 L)
    (hsl : ∀ i ∈ slotsT t, i ∈ vs) (hsl1 : ∀ i ∈ slotsT t1, i ∈ vs1) (hgo : lc2Go vs1 t c fi1 t1 c1 (ePair ek ev) (wipeE ρ vs) ds = .ok rs) (hps : pairsZ rs = some ps) (hz : ps.length ≤ sizeLine) (hQ : ∀ D H, H1 D = none → Same H1 H → Ow K H (Lp L D) (.dict ((.none, .none) :: mergeP [] ps)) D → Q (.ref D) H) :
    tDc2 (fun _ _ R => R J H1) (gT K t) (tT K WF c) (tIS K WF fi1) (gT K t1) (tT K WF c1) (tE K WF ek) (tE K WF ev) vs vs1 σ H1 Q := by
  intro D hD
  have lives : ∀ a, Lp L D a → L a ∨ H1 a = none := fun a z => z.elim .inl fun q => .inr (by rw [q]; exact hD)
  let Iv : Nat → Hp → Prop := fun i H => i ≤ ds.length ∧ Same H1 H ∧ ∃ acc rest qs, Sofar K H (Lp L D) D acc ∧ lc2Go vs1 t c fi1 t1 c1 (ePair ek ev) (wipeE ρ vs) (ds.drop i) = .ok rest ∧ pairsZ rest = some qs ∧ mergeP acc qs = mergeP [] ps ∧ acc.length + qs.length ≤ sizeLine
  refine ⟨fun i m H => m = ds.length - i ∧ Iv i H, ds.length, ⟨by simp, Nat.zero_le _, same_upd hD, [], rs, ps, ⟨[], upd_same, rfl, .nil⟩, hgo, hps, rfl, by simpa using hz⟩, ?_⟩
  rintro i m H ⟨rfl, hi, s1, acc, rest, qs, sof, hrest, hqs, htot, hlen⟩
  have hSn : S H (Lp L D) := it.keep H1 L H _ hS s1 lives
  have reH : RE K H (Lp L D) ρ σ := by
    obtain ⟨kvs, hk, _⟩ := sof
    refine ⟨⟨fun a z => z.elim (fun q => re.lv.mono s1 a q) fun q => by rw [q, hk]; simp, re.lv.tb.mono s1⟩, (re.mono s1).len, fun j x q => ?_⟩
    obtain ⟨o, e1, r⟩ := re.sl j x q
    exact ⟨o, e1, (r.lives (L' := Lp L D) lives).mono s1⟩
  by_cases hlt : i < ds.length
  · refine .inr ⟨it.go i H _ hSn hlt, Iv (i + 1), fun H' p' => ⟨ds.length - (i + 1), by omega, rfl, p'⟩, fun x H' y => ?_⟩
    obtain ⟨s2, hx⟩ := it.yld i H _ x H' hSn y
    rw [List.drop_eq_getElem_cons hlt] at hrest
    obtain ⟨ρ1, hb, hcase⟩ := lc2Go_ok hrest
    refine gT_of ((reH.mono s2).wipe vs) (hx ds[i] (by simp [hlt])) hb fun σ1 re1 ch => ?_
    have back : ∀ (j : Nat) (x : Sl) (v : V), ρ1[j]? = some (some x) → σ1[j]? = some (some v) → j ∉ slotsT t → ρ[j]? = some (some x) ∧ σ[j]? = some (some v) := fun j x v h1 h2 hj => by
      rw [ch.r j hj] at h1
      obtain ⟨h3, h4⟩ := wipeE_some h1
      rw [ch.s j hj, wipe_at h4] at h2
      exact ⟨h3, h2⟩
    have no : NoOwn K D H1 ρ1 σ1 := by
      constructor
      · intro j d a h1 h2
        obtain ⟨h3, h4⟩ := back j _ _ h1 h2 fun z => ch.v j z d h1
        obtain ⟨o, e1, a', e2, ow⟩ := re.sl j _ h3
        rw [e1] at h4
        cases h4
        cases e2
        obtain ⟨ob, q, _⟩ := ow.chg
        exact ne_of_none q hD
      · intro j rows a h1 h2
        obtain ⟨h3, h4⟩ := back j _ _ h1 h2 fun z => ch.g j z rows h1
        obtain ⟨o, e1, a', bs, e2, og⟩ := re.sl j _ h3
        rw [e1] at h4
        cases h4
        cases e2
        exact ⟨fun z => og.there.1 (z ▸ hD), _, bs, og, fun z => og.there.2 D z hD⟩
      · intro j d a h1 h2
        obtain ⟨h3, h4⟩ := back j _ _ h1 h2 fun z => ch.p j z d h1
        obtain ⟨o, e1, a', e2, ow⟩ := re.sl j _ h3
        rw [e1] at h4
        cases h4
        cases e2
        obtain ⟨ob, q, _⟩ := ow.chg
        exact ne_of_none q hD
    refine ⟨.of_wipe ?_, _, ρ1, re1, ?_⟩
    · rw [← wipe_twice (σ := σ)]
      exact wipe_eq ch.ls fun j hj => ch.s j fun q => hj (hsl j q)
    · rcases hcase with ⟨hc, ds1, r0, r, h1, h2, hk, rfl⟩ | ⟨hc, hk⟩
      · rw [hc]
        intro H3 s3
        refine ⟨fun _ => ⟨_, ρ1, re1.mono s3, ?_⟩, nofun⟩
        rw [h1]
        intro J1 S1 H4 s4 it1 hS1
        have s24 : Same H H4 := s2.trans (s3.trans s4)
        obtain ⟨p0, pr, hp0, hpr, rfl⟩ := pairsZ_append hqs
        let Iv1 : Nat → Hp → Prop := fun j Hn => j ≤ ds1.length ∧ Same H1 Hn ∧ S1 Hn (Lp L D) ∧ RE K Hn (Lp L D) ρ1 σ1 ∧ ∃ a1 rest1 q1, Sofar K Hn (Lp L D) D a1 ∧ lcGo t1 c1 (ePair ek ev) (wipeE ρ1 vs1) (ds1.drop j) = .ok rest1 ∧ pairsZ rest1 = some q1 ∧ mergeP a1 (q1 ++ pr) = mergeP [] ps ∧ a1.length + q1.length + pr.length ≤ sizeLine
        refine ⟨fun j k Hn => k = ds1.length - j ∧ Iv1 j Hn, ds1.length, ⟨by simp, Nat.zero_le _, s1.trans s24, hS1, re1.mono (s3.trans s4), acc, r0, p0, sof.mono s24, h2, hp0, htot, by rw [List.length_append] at hlen; omega⟩, ?_⟩
        rintro j k Hn ⟨rfl, hj, sn, hSn1, ren, a1, rest1, q1, sof1, hgo1, hq1, htot1, hlen1⟩
        by_cases hjl : j < ds1.length
        · refine .inr ⟨it1.go j Hn _ hSn1 hjl, Iv1 (j + 1), fun H' p' => ⟨ds1.length - (j + 1), by omega, rfl, p'⟩, fun x1 H5 y1 => ?_⟩
          obtain ⟨s5, hx1⟩ := it1.yld j Hn _ x1 H5 hSn1 y1
          rw [List.drop_eq_getElem_cons hjl] at hgo1
          obtain ⟨ρ2, hb2, hcase2⟩ := lcOne_ok hgo1
          refine gT_of ((ren.mono s5).wipe vs1) (hx1 ds1[j] (by simp [hjl])) hb2 fun σ2 re2 ch2 => ?_
          refine ⟨.of_wipe ?_, _, ρ2, re2, ?_⟩
          · rw [← wipe_twice (σ := σ1)]
            exact wipe_eq ch2.ls fun j hj => ch2.s j fun q => hj (hsl1 j q)
          · rcases hcase2 with ⟨hc2, y2, r2, he2, hk2, rfl⟩ | ⟨hc2, hk2⟩
            · rw [hc2]
              intro H6 s6
              obtain ⟨kd, vd, hkd, hvd, rfl⟩ := ePair_ok he2
              obtain ⟨_, _, q2, e0, hkt, hq2, rfl⟩ := pairsZ_cons hq1
              cases e0
              refine ⟨fun _ => ⟨_, ρ2, re2.mono s6, ?_⟩, nofun⟩
              rw [hkd]
              intro H7 yv s7 rk
              refine ⟨_, ρ2, re2.mono (s6.trans s7), ?_⟩
              rw [hvd]
              intro H8 zv s8 rv
              have s58 : Same Hn H8 := s5.trans (s6.trans (s7.trans s8))
              obtain ⟨kvs, hk8, z, rl⟩ := sof1.mono s58
              obtain ⟨ks, b, rfl, rfl, hb8⟩ := (rk.mono s8).rb.keyTV hkt
              have hLD : Lp L D D := .inr rfl
              have kl : kvs.length = a1.length := by
                have := congrArg List.length z
                rw [List.length_map, List.length_map] at this
                exact this.symm
              rw [List.length_cons] at hlen1
              obtain ⟨g1, g2⟩ := dput_rel (emb := keyT) (fun a b => by simp only [PyData.eqv]; exact keyT_eqv a b) ks (rv.upd hk8 trivial hLD (o' := .dT (putK kvs ks zv))) z (rl.upd hk8 trivial hLD (o' := .dT (putK kvs ks zv)))
              refine ⟨kvs, ks, b, rfl, hk8, hb8, by omega, hjl, (sn.trans s58).updN hD hk8 trivial, ?_, ?_, dputP a1 (keyT ks) vd, r2, q2, ⟨_, upd_same, g1, g2⟩, hk2, hq2, htot1, ?_⟩
              · exact it1.evo H8 _ _ _ (it1.keep Hn _ H8 _ hSn1 s58 fun _ q => .inl q) fun d w r => r.upd hk8 trivial hLD
              · exact (ren.mono s58).upd no (sn.trans s58) hk8 trivial trivial hLD
              · have h1 := congrArg List.length g1
                rw [List.length_map, List.length_map] at h1
                have h2 := length_putK kvs ks zv
                omega
            · rw [hc2]
              intro H6 s6
              have s56 : Same Hn H6 := s5.trans s6
              exact ⟨nofun, fun _ => ⟨hjl, sn.trans s56, it1.keep Hn _ H6 _ hSn1 s56 fun _ q => .inl q, ren.mono s56, a1, rest1, q1, sof1.mono s56, hk2, hq1, htot1, hlen1⟩⟩
        · obtain rfl : j = ds1.length := by omega
          rw [List.drop_length] at hgo1
          cases hgo1
          cases hq1
          exact .inl ⟨it1.stop _ Hn _ hSn1 (Nat.le_refl _), hlt, sn, a1, r, pr, sof1, hk, hpr, htot1, by simpa using hlen1⟩
      · rw [hc]
        intro H3 s3
        have s23 : Same H H3 := s2.trans s3
        exact ⟨nofun, fun _ => ⟨hlt, s1.trans s23, acc, rest, qs, sof.mono s23, hk, hqs, htot, hlen⟩⟩
  · obtain rfl : i = ds.length := by omega
    rw [List.drop_length] at hrest
    cases hrest
    cases hqs
    obtain ⟨kvs, hk, z, rl⟩ := sof
    refine .inl ⟨it.stop _ H _ hSn (Nat.le_refl _), hQ D H hD s1 ?_⟩
    rw [← htot]
    exact .dt hk z rl
variable {kx vx tg iter tg1 iter1 : Expr} {ifs ifs1 : List Expr} {scope : Scope} {own : List (Str × Nat)} {pos : Pos} {fi fi1 : IF} {t t1 : Tg} {c c1 ek ev : EF} {i : Nat} {x : Str} {k : Nat}
theorem sn_dc2 (vs1 : List Nat) (hr : Room k X.A) (hN : X.N.Nodup) (hi : SI X W tg iter fi) (ok : BlkOk X.N X.env.scope scope own) (hg : AllBlk X scope fun Y => PG Y tg (gT X.K t)) (ht : AllBlk X scope fun Y => STs Y ifs c)
    (hi1 : AllBlk X scope fun Y => SIS Y WF tg1 iter1 fi1) (hg1 : AllBlk X scope fun Y => PG Y tg1 (gT X.K t1)) (ht1 : AllBlk X scope fun Y => STs Y ifs1 c1) (hk : AllBlk X scope fun Y => SE Y WF kx ek) (hv : AllBlk X scope fun Y => SE Y WF vx ev)
    (sub : ∀ i ∈ vs1, i ∈ own.map (·.2) := by decide) (hsl : ∀ i ∈ slotsT t, i ∈ own.map (·.2) := by decide) (hsl1 : ∀ i ∈ slotsT t1, i ∈ vs1 := by decide)
    (hc : X.calm = true := by rfl) (hs : ∀ x, foldedSetIterable iter X.env x = pure x := by intro _; rfl) (hs1 : ∀ env x, foldedSetIterable iter1 env x = pure x := by intro _ _; rfl) :
    SN X W (.DictComp kx vx [⟨tg, iter, ifs, 0⟩, ⟨tg1, iter1, ifs1, 0⟩] scope pos) (eDc2 (own.map (·.2)) vs1 fi t c fi1 t1 c1 ek ev) :=
  (pe_dc2 (by have := hr.un; omega) hc hN hi ok sub hg ht hi1 hg1 ht1 hk hv hs hs1).weak fun σ H Q ⟨L, ρ, re, p⟩ => by
    refine ⟨L, ρ, re, ?_⟩
    unfold eDc2 at p
    cases hf : fi ρ with
    | bad => rw [hf] at p; exact p
    | exc c fs => rw [hf] at p; exact p
    | ok ds =>
      rw [hf] at p
      simp only [RL.bind_ok] at p
      cases hgo : lc2Go vs1 t c fi1 t1 c1 (ePair ek ev) (wipeE ρ (own.map (·.2))) ds with
      | bad => rw [hgo] at p; exact p.elim
      | exc c' fs => rw [hgo] at p; exact p.elim
      | ok rs =>
        rw [hgo] at p
        unfold dcR at p
        dsimp only at p
        split at p
        · rename_i ps hps
          split at p
          · rename_i hz
            intro J S H1 s1 it hS
            exact dc2_loop (re.mono s1) it hS hsl hsl1 hgo hps hz fun D H' hD s' ow => p H' D (s1.trans s') (s1.free hD) ow
          · exact p.elim
        · exact p.elim
end
section
variable {X : Cx} {W : WX} {i o : Expr} {f g : EF} {pos : Pos} {k : Nat}
theorem st_din (hr : Room k X.A) (hi : SB X W i g) (ho : SB X W o f) (hm : behindInMarks .In o = false := by rfl) : ST X W (.Compare i [.In] [o] pos) (eOp dinF g f) := (pt_cmp (pc_din (by have := hr.un; omega) hi ho) hm).weak fun σ H Q ⟨L, ρ, re, p⟩ =>
  ⟨L, ρ, re, p.step fun dy H1 y s1 ry p1 => ⟨L, ρ, re.mono s1, p1.step fun dx H2 x s2 rx p2 => by
    unfold dinF at p2
    cases hd : dAt dx dy with
    | none => rw [hd] at p2; exact p2.elim
    | some r =>
      rw [hd] at p2
      obtain ⟨a, ov, rfl, _, dg, q1, q2⟩ := dAt_ok rx (ry.mono s2) hd
      cases r with
      | none =>
        cases q2 rfl
        exact ⟨a, none, rfl, dg, false, rfl, p2 H2 (Same.refl H2)⟩
      | some z =>
        obtain ⟨u, rfl, _⟩ := q1 z rfl
        exact ⟨a, some u, rfl, dg, true, rfl, p2 H2 (Same.refl H2)⟩⟩⟩
end
end VV
namespace VVlaw
open PySem PySem.Spec L2 VV
open PyProof.Rows hiding St
def b_needed_of : SF := (sSeq (sSet 2 (eOp ixF (eV 0) (eC (.int 0)))) (sSeq (sAsg (.tp [(.nm 3), (.nm 4), (.nm 5), (.nm 6), (.nm 7)]) (eV 1)) (sSeq (sSet 8 (eDc2 [9, 10] [10] (iRange2 [(eV 4), (eOp addF (eV 4) (eV 6))]) (.nm 9) (eC (.bool true)) (iRange2 [(eV 5), (eOp addF (eV 5) (eV 7))]) (.nm 10) (eC (.bool true)) (eTup [(eV 3), (eOp divF (eV 9) (eV 2)), (eOp divF (eV 10) (eV 2))]) (eC (.bool true)))) (sRet (eLc [11, 12] (iSeq (eOp ixF (eV 0) (eC (.int 3)))) (.tp [(.nm 11), (.nm 12)]) (eOp dinF (eV 11) (eV 8)) (eV 11))))))
def sem_needed_of : List D → Rs := runB 2 13 b_needed_of
def b_needed : SF := (sSeq (sDrop (eCall sem_look_window [(eV 0), (eV 1)])) (sRet (eCall sem_needed_of [(eV 0), (eV 1)])))
def sem_needed : List D → Rs := runB 2 2 b_needed
end VVlaw
set_option maxHeartbeats 8000000
namespace VVlaw
open PySem PySem.Spec L2 VV
open PyProof.Rows hiding St
theorem lc2Go_mapA {α β : Type} {vs1 : List Nat} {fi1 : IF} {i j : Nat} {c c1 e : EF} {ρ : En} (ea : α → D) (ys : α → List β) (eb : β → D) (f : α → β → D) : ∀ xs : List α,
    (∀ x ∈ xs, c (ρ.set i (some (.val (ea x)))) = .ok (.bool true) ∧ fi1 (ρ.set i (some (.val (ea x)))) = .ok ((ys x).map eb) ∧ ∀ y ∈ ys x, c1 ((wipeE (ρ.set i (some (.val (ea x)))) vs1).set j (some (.val (eb y)))) = .ok (.bool true) ∧
      e ((wipeE (ρ.set i (some (.val (ea x)))) vs1).set j (some (.val (eb y)))) = .ok (f x y)) → lc2Go vs1 (.nm i) c fi1 (.nm j) c1 e ρ (xs.map ea) = .ok (xs.flatMap fun x => (ys x).map (f x))
  | [], _ => rfl
  | x :: xs, h => by
    obtain ⟨h1, h2, h3⟩ := h x (by simp)
    have ih := lc2Go_mapA (c := c) (c1 := c1) (e := e) (fi1 := fi1) (vs1 := vs1) (i := i) (j := j) (ρ := ρ) ea ys eb f xs fun z hz => h z (by simp [hz])
    have inner := lcGo_filtT (t := .nm j) (c := c1) (e := e) (ρ := wipeE (ρ.set i (some (.val (ea x)))) vs1) eb (f x) (fun _ => true) (ys x) fun y hy => ⟨_, bT_nm .., (h3 y hy).1, fun _ => (h3 y hy).2⟩
    rw [show (ys x).filter (fun _ => true) = ys x from List.filter_eq_self.mpr fun _ _ => rfl] at inner
    simp -implicitDefEqProofs only [List.map_cons, lc2Go, bT_nm, h1, h2, inner, ih, List.flatMap_cons]
def setP (A : List Ky) : List (D × D) := A.map fun k => (kyD k, .bool true)
theorem pairs_set : ∀ K : List Ky, pairsZ (K.map fun k => .tuple [kyD k, .bool true]) = some (setP K)
  | [] => rfl
  | k :: K => by
    have ih := pairs_set K
    rw [List.map_cons]
    show (if isKeyT (kyD k) = true then (pairsZ (K.map fun k => .tuple [kyD k, .bool true])).map (fun q => (kyD k, PyData.bool true) :: q) else none) = _
    rw [if_pos (show isKeyT (kyD k) = true from rfl), ih]
    rfl
theorem put_set (A : List Ky) (k : Ky) : dputP (setP A) (kyD k) (.bool true) = setP (if k ∈ A then A else A ++ [k]) := by
  by_cases h : k ∈ A
  · rw [if_pos h]
    unfold dputP
    rw [if_pos]
    · unfold setP
      rw [List.map_map]
      refine List.map_congr_left fun a _ => ?_
      show (if PyData.eqv (kyD a) (kyD k) = true then (kyD a, PyData.bool true) else (kyD a, PyData.bool true)) = _
      split <;> rfl
    · rw [List.any_eq_true]
      refine ⟨(kyD k, .bool true), List.mem_map.mpr ⟨k, h, rfl⟩, ?_⟩
      rw [ky_eqv]
      simp
  · rw [if_neg h, dput_new]
    · unfold setP
      rw [List.map_append]
      rfl
    · intro q hq
      obtain ⟨j, hj, rfl⟩ := List.mem_map.mp hq
      rw [ky_eqv]
      exact decide_eq_false fun z => h (z ▸ hj)
theorem merge_set : ∀ (K A : List Ky), ∃ B : List Ky, mergeP (setP A) (setP K) = setP B ∧ ∀ k, k ∈ B ↔ k ∈ A ∨ k ∈ K
  | [], A => ⟨A, rfl, fun k => by simp⟩
  | k :: K, A => by
    obtain ⟨B, e, m⟩ := merge_set K (if k ∈ A then A else A ++ [k])
    refine ⟨B, ?_, fun j => ?_⟩
    · rw [← e]
      show mergeP (dputP (setP A) (kyD k) (.bool true)) (setP K) = _
      rw [put_set]
    · rw [m j]
      by_cases h : k ∈ A
      · rw [if_pos h, List.mem_cons]
        constructor
        · rintro (z | z)
          · exact .inl z
          · exact .inr (.inr z)
        · rintro (z | z | z)
          · exact .inl z
          · exact .inl (z ▸ h)
          · exact .inr z
      · rw [if_neg h]
        simp -implicitDefEqProofs only [List.mem_append, List.mem_cons, List.not_mem_nil, or_false, or_assoc]
theorem get_set (k : Ky) : ∀ A : List Ky, dgetP (setP A) (kyD k) = if k ∈ A then some (.bool true) else none
  | [] => rfl
  | j :: A => by
    have ih := get_set k A
    unfold dgetP setP at ih ⊢
    rw [List.map_cons, List.find?_cons]
    show (match PyData.eqv (kyD j) (kyD k) with | true => some (kyD j, PyData.bool true) | false => _).map _ = _
    rw [ky_eqv]
    by_cases e : j = k
    · subst e
      simp
    · have e' : ¬ k = j := fun z => e z.symm
      simp -implicitDefEqProofs only [e, decide_false, ih, List.mem_cons, e', false_or]
theorem din_set (A : List Ky) (k : Ky) : dinF (kyD k) (.dict ((.none, .none) :: setP A)) = some (.bool (decide (k ∈ A))) := by
  show some (PyData.bool (dgetP (setP A) (kyD k)).isSome) = _
  rw [get_set]
  by_cases h : k ∈ A <;> simp [h]
def needK (side l x y wd hg : Nat) : List Ky := (List.range wd).flatMap fun i => (List.range hg).map fun j => (l, (x + i) / side, (y + j) / side)
theorem mem_needK {side l x y wd hg : Nat} {k : Ky} : k ∈ needK side l x y wd hg ↔ ∃ i j, i < wd ∧ j < hg ∧ k = (l, (x + i) / side, (y + j) / side) := by
  unfold needK
  simp -implicitDefEqProofs only [List.mem_flatMap, List.mem_map, List.mem_range]
  constructor
  · rintro ⟨i, hi, j, hj, rfl⟩
    exact ⟨i, j, hi, hj, rfl⟩
  · rintro ⟨i, j, hi, hj, rfl⟩
    exact ⟨i, hi, j, hj, rfl⟩
theorem len_prod {α : Type} (f : Nat → Nat → α) (n m : Nat) : ((List.range n).flatMap fun i => (List.range m).map (f i)).length = n * m := by
  induction n with
  | zero => simp
  | succ n ih =>
    rw [List.range_succ, List.flatMap_append, List.length_append, ih, Nat.succ_mul]
    simp
theorem nat_range2 (a n : Nat) (ha : a ≤ 1000) (h : n ≤ 1000) : (RL.ok [.int (a : Int), .int ((a : Int) + (n : Int))]).items rng2 = .ok ((List.range n).map fun (i : Nat) => PyData.int ((a + i : Nat) : Int)) := by
  rw [rng2_ok _ _ (by omega), show ((a : Int) + (n : Int) - (a : Int)).toNat = n by omega]
  unfold rangeD
  refine congrArg RL.ok (List.map_congr_left fun i _ => congrArg PyData.int ?_)
  omega
def neededL (p : Pic) (h w side t l x y wd hg : Nat) : List Ky := (pyK p h w side t).filter fun k => decide (k ∈ needK side l x y wd hg)
theorem needed_of_eq {p : Pic} {h w : Nat} (P : Pc2 p h w) {side t : Nat} (hs : okSide side) (l x y wd hg : Nat) (hx : x ≤ 200) (hy : y ≤ 200) (hw : wd ≤ 200) (hh : hg ≤ 200) (hlen : (pyK p h w side t).length ≤ 16777216) :
    sem_needed_of [pyrZ p h w side t, winD l x y wd hg] = .ok (.list ((neededL p h w side t l x y wd hg).map kyD)) := by
  have b := hs.bd
  have x0 : ixF (pyrZ p h w side t) (.int 0) = some (.int (side : Int)) := f_ix0 _ _
  have x3 : ixF (pyrZ p h w side t) (.int 3) = some (fzD ((pyK p h w side t).map (entA (pix p) side))) := f_ix3 _ _ _ _ _
  have wn : winD l x y wd hg = .tuple [.int (l : Int), .int (x : Int), .int (y : Int), .int (wd : Int), .int (hg : Int)] := rfl
  have rx := nat_range2 x wd (by omega) (by omega)
  have ry := nat_range2 y hg (by omega) (by omega)
  obtain ⟨B, eB, mB⟩ := merge_set (needK side l x y wd hg) []
  have mk : ∀ o9 o10 : Option Sl, ∀ js : List (Option Sl), eDc2 [9, 10] [10] (iRange2 [(eV 4), (eOp addF (eV 4) (eV 6))]) (.nm 9) (eC (.bool true)) (iRange2 [(eV 5), (eOp addF (eV 5) (eV 7))]) (.nm 10) (eC (.bool true)) (eTup [(eV 3), (eOp divF (eV 9) (eV 2)), (eOp divF (eV 10) (eV 2))]) (eC (.bool true))
      ([vl (pyrZ p h w side t), vl (winD l x y wd hg), vi side, vi l, vi x, vi y, vi wd, vi hg, none, o9, o10] ++ js) = .ok (.dict ((.none, .none) :: setP B)) := by
    intro o9 o10 js
    have go : lc2Go [10] (.nm 9) (eC (.bool true)) (iRange2 [(eV 5), (eOp addF (eV 5) (eV 7))]) (.nm 10) (eC (.bool true)) (ePair (eTup [(eV 3), (eOp divF (eV 9) (eV 2)), (eOp divF (eV 10) (eV 2))]) (eC (.bool true))) (wipeE ([vl (pyrZ p h w side t), vl (winD l x y wd hg), vi side, vi l, vi x, vi y, vi wd, vi hg, none, o9, o10] ++ js) [9, 10]) ((List.range wd).map fun (i : Nat) => PyData.int ((x + i : Nat) : Int)) = .ok ((List.range wd).flatMap fun i => (List.range hg).map fun j => .tuple [kyD (l, (x + i) / side, (y + j) / side), .bool true]) := by
      refine lc2Go_mapA (fun i : Nat => PyData.int ((x + i : Nat) : Int)) (fun _ => List.range hg) (fun j : Nat => PyData.int ((y + j : Nat) : Int)) (fun i j => .tuple [kyD (l, (x + i) / side, (y + j) / side), .bool true]) (List.range wd) fun i hi => ⟨rfl, ?_, fun j hj => ⟨rfl, ?_⟩⟩
      · simp -implicitDefEqProofs only [ry, evs_, Option.bind_some, List.getElem?_cons_zero, List.getElem?_cons_succ, List.set_cons_zero, List.set_cons_succ, List.map_cons, List.map_nil, List.cons_append, List.nil_append, List.length_cons, List.length_nil, Nat.reduceAdd, Nat.reduceSub, Nat.reduceLeDiff, Nat.reduceLT, Bool.not_true, Bool.not_false, decide_true, decide_false]
      · have d1 : divF (.int ((x + i : Nat) : Int)) (.int (side : Int)) = some (.int (((x + i) / side : Nat) : Int)) := by
          rw [f_divP _ _ (by omega) (by omega)]
          rfl
        have d2 : divF (.int ((y + j : Nat) : Int)) (.int (side : Int)) = some (.int (((y + j) / side : Nat) : Int)) := by
          rw [f_divP _ _ (by omega) (by omega)]
          rfl
        unfold ePair
        simp -implicitDefEqProofs only [d1, d2, evs_, Option.bind_some, List.getElem?_cons_zero, List.getElem?_cons_succ, List.set_cons_zero, List.set_cons_succ, List.map_cons, List.map_nil, List.cons_append, List.nil_append, List.length_cons, List.length_nil, Nat.reduceAdd, Nat.reduceSub, Nat.reduceLeDiff, Nat.reduceLT, Bool.not_true, Bool.not_false, decide_true, decide_false]
        rfl
    unfold eDc2
    have it : iRange2 [(eV 4), (eOp addF (eV 4) (eV 6))] ([vl (pyrZ p h w side t), vl (winD l x y wd hg), vi side, vi l, vi x, vi y, vi wd, vi hg, none, o9, o10] ++ js) = .ok ((List.range wd).map fun (i : Nat) => PyData.int ((x + i : Nat) : Int)) := by simp -implicitDefEqProofs only [rx, evs_, Option.bind_some, List.getElem?_cons_zero, List.getElem?_cons_succ, List.set_cons_zero, List.set_cons_succ, List.map_cons, List.map_nil, List.cons_append, List.nil_append, List.length_cons, List.length_nil, Nat.reduceAdd, Nat.reduceSub, Nat.reduceLeDiff, Nat.reduceLT, Bool.not_true, Bool.not_false, decide_true, decide_false]
    rw [it, RL.bind_ok, go]
    have fl : ((List.range wd).flatMap fun i => (List.range hg).map fun j => PyData.tuple [kyD (l, (x + i) / side, (y + j) / side), .bool true]) = (needK side l x y wd hg).map fun k => PyData.tuple [kyD k, .bool true] := by
      unfold needK
      rw [List.map_flatMap]
      refine congrArg (fun f => (List.range wd).flatMap f) (funext fun i => ?_)
      rw [List.map_map]
      rfl
    have ln : (setP (needK side l x y wd hg)).length ≤ sizeLine := by
      unfold setP
      rw [List.length_map]
      unfold needK
      rw [len_prod]
      have : wd * hg ≤ 200 * 200 := Nat.mul_le_mul hw hh
      exact Nat.le_trans this (by decide)
    rw [fl]
    unfold dcR
    dsimp only
    rw [pairs_set]
    dsimp only
    rw [if_pos ln, ← eB]
    rfl
  have lc : ∀ ρ : En, ρ.length = 13 → ρ[0]? = some (vl (pyrZ p h w side t)) → ρ[8]? = some (vl (.dict ((.none, .none) :: setP B))) → eLc [11, 12] (iSeq (eOp ixF (eV 0) (eC (.int 3)))) (.tp [(.nm 11), (.nm 12)]) (eOp dinF (eV 11) (eV 8)) (eV 11) ρ = .ok (.list ((neededL p h w side t l x y wd hg).map kyD)) := by
    intro ρ hl e0 e8
    have sq : iSeq (eOp ixF (eV 0) (eC (.int 3))) ρ = .ok ((pyK p h w side t).map (entA (pix p) side)) := by
      simp -implicitDefEqProofs only [e0, x3, evs_, Option.bind_some, List.getElem?_cons_zero, List.getElem?_cons_succ, List.set_cons_zero, List.set_cons_succ, List.map_cons, List.map_nil, List.cons_append, List.nil_append, List.length_cons, List.length_nil, Nat.reduceAdd, Nat.reduceSub, Nat.reduceLeDiff, Nat.reduceLT, Bool.not_true, Bool.not_false, decide_true, decide_false]
      rfl
    refine eLc_filtT (pyK p h w side t) (entA (pix p) side) kyD (fun k => decide (k ∈ needK side l x y wd hg)) sq ?_ fun k _ => ⟨((wipeE ρ [11, 12]).set 11 (vl (kyD k))).set 12 (vl (tileD (Fl (pix p) k.1) side k.2.1 k.2.2)), rfl, ?_, fun _ => ?_⟩
    · exact hlen
    · have g8 : (((wipeE ρ [11, 12]).set 11 (vl (kyD k))).set 12 (vl (tileD (Fl (pix p) k.1) side k.2.1 k.2.2)))[8]? = some (vl (.dict ((.none, .none) :: setP B))) := by
        rw [List.getElem?_set_ne (by decide), List.getElem?_set_ne (by decide), wipeE_get _ _ _ (by decide), e8]
      have g11 : (((wipeE ρ [11, 12]).set 11 (vl (kyD k))).set 12 (vl (tileD (Fl (pix p) k.1) side k.2.1 k.2.2)))[11]? = some (vl (kyD k)) := by
        rw [List.getElem?_set_ne (by decide), List.getElem?_set_self (by rw [wipeE_length]; omega)]
      have de : decide (k ∈ B) = decide (k ∈ needK side l x y wd hg) := decide_eq_decide.mpr (by rw [mB k]; simp)
      generalize ((wipeE ρ [11, 12]).set 11 (vl (kyD k))).set 12 (vl (tileD (Fl (pix p) k.1) side k.2.1 k.2.2)) = ρ2 at g8 g11 ⊢
      simp -implicitDefEqProofs only [g8, g11, din_set, de, evs_, Option.bind_some, List.getElem?_cons_zero, List.getElem?_cons_succ, List.set_cons_zero, List.set_cons_succ, List.map_cons, List.map_nil, List.cons_append, List.nil_append, List.length_cons, List.length_nil, Nat.reduceAdd, Nat.reduceSub, Nat.reduceLeDiff, Nat.reduceLT, Bool.not_true, Bool.not_false, decide_true, decide_false]
    · have g11 : (((wipeE ρ [11, 12]).set 11 (vl (kyD k))).set 12 (vl (tileD (Fl (pix p) k.1) side k.2.1 k.2.2)))[11]? = some (vl (kyD k)) := by
        rw [List.getElem?_set_ne (by decide), List.getElem?_set_self (by rw [wipeE_length]; omega)]
      generalize ((wipeE ρ [11, 12]).set 11 (vl (kyD k))).set 12 (vl (tileD (Fl (pix p) k.1) side k.2.1 k.2.2)) = ρ2 at g11 ⊢
      simp -implicitDefEqProofs only [g11, evs_, Option.bind_some, List.getElem?_cons_zero, List.getElem?_cons_succ, List.set_cons_zero, List.set_cons_succ, List.map_cons, List.map_nil, List.cons_append, List.nil_append, List.length_cons, List.length_nil, Nat.reduceAdd, Nat.reduceSub, Nat.reduceLeDiff, Nat.reduceLT, Bool.not_true, Bool.not_false, decide_true, decide_false]
  simp -implicitDefEqProofs only [sem_needed_of, b_needed_of, x0, wn, evs_, Option.bind_some, List.getElem?_cons_zero, List.getElem?_cons_succ, List.set_cons_zero, List.set_cons_succ, List.map_cons, List.map_nil, List.cons_append, List.nil_append, List.length_cons, List.length_nil, Nat.reduceAdd, Nat.reduceSub, Nat.reduceLeDiff, Nat.reduceLT, Bool.not_true, Bool.not_false, decide_true, decide_false]
  rw [← wn]
  have := mk none none [none, none]
  simp -implicitDefEqProofs only [List.cons_append, List.nil_append] at this
  rw [this]
  simp -implicitDefEqProofs only [evs_, Option.bind_some, List.getElem?_cons_zero, List.getElem?_cons_succ, List.set_cons_zero, List.set_cons_succ, List.map_cons, List.map_nil, List.cons_append, List.nil_append, List.length_cons, List.length_nil, Nat.reduceAdd, Nat.reduceSub, Nat.reduceLeDiff, Nat.reduceLT, Bool.not_true, Bool.not_false, decide_true, decide_false]
  rw [lc _ rfl rfl rfl]
  rfl
end VVlaw
set_option maxHeartbeats 4000000
namespace VV
open PySem PySem.Spec L2
open PyProof.Rows hiding St
section
variable {K : PySem.W.Frag} {H : Hp} {L : Ad}
end
section
variable {X : Cx} {W : WX} {o i : Expr} {f g : EF} {pos : Pos} {k : Nat}
end
section
variable {X : Cx} {W : WX} {tg e : Expr} {f : EF}
end
end VV
namespace VVlaw
open PySem PySem.Spec L2 VV
open PyProof.Rows hiding St
end VVlaw
set_option maxHeartbeats 8000000
namespace VVlaw
open PySem PySem.Spec L2 VV
open PyProof.Rows hiding St
abbrev Sgn := Int ⊕ List Nat
abbrev lx (a b : List Sgn) : Bool := PyProof.Rows.lexLt PyProof.Rows.itemOrd a b
theorem lx_int (i j : Int) (a b : List Sgn) : lx (.inl i :: a) (.inl j :: b) = if i = j then lx a b else decide (i < j) := by
  by_cases h : i = j
  · subst h
    rw [if_pos rfl]
    exact lex_self (O := PyProof.Rows.itemOrd) _ _ _
  · rw [if_neg h]
    exact lex_diff (O := PyProof.Rows.itemOrd) (x := .inl i) (y := .inl j) (fun z => h (Sum.inl.inj z))
theorem lx_same (x : Sgn) (a b : List Sgn) : lx (x :: a) (x :: b) = lx a b := lex_self (O := PyProof.Rows.itemOrd) x a b
abbrev leD (a b : D) : Bool := PySem.W.dataLe false (fun d : D => d) a b
theorem leD_eq (a b : D) : leD a b = !lx (PySem.W.keyToks b) (PySem.W.keyToks a) := by
  show PySem.W.dataLe false (fun d : D => d) a b = _
  unfold PySem.W.dataLe PySem.W.sortLe
  rfl
theorem leD_trans {a b c : D} (h : leD a b = true) (h' : leD b c = true) : leD a c = true := (PySem.W.sortLe_total _ false _).trans _ _ _ h h'
theorem leD_total (a b : D) : (leD a b || leD b a) = true := by
  rw [Bool.or_eq_true]
  exact (PySem.W.sortLe_total _ false _).total _ _
theorem leD_anti {a b : D} (h : leD a b = true) (h' : leD b a = true) : PySem.W.keyToks a = PySem.W.keyToks b := by
  rw [leD_eq, Bool.not_eq_true'] at h h'
  exact lex_total _ _ h' h
theorem sortD_is {α : Type} (emb : α → D) {L M : List α} (inj : ∀ a ∈ M, ∀ b ∈ M, PySem.W.keyToks (emb a) = PySem.W.keyToks (emb b) → a = b) (pm : M.Perm L) (so : M.Pairwise fun a b => leD (emb a) (emb b) = true) : sortD (L.map emb) = M.map emb := by
  have e : sortD (L.map emb) = (L.mergeSort fun a b => leD (emb a) (emb b)).map emb := by
    unfold sortD
    exact (List.map_mergeSort (f := emb) (r := fun a b => leD (emb a) (emb b)) fun _ _ _ _ => rfl).symm
  rw [e]
  refine congrArg (List.map emb) ?_
  have p2 : (L.mergeSort fun a b => leD (emb a) (emb b)).Perm M := (List.mergeSort_perm ..).trans pm.symm
  refine List.Perm.eq_of_pairwise (le := fun a b => leD (emb a) (emb b) = true) (fun a b ha hb h1 h2 => ?_) (List.pairwise_mergeSort (le := fun a b => leD (emb a) (emb b)) (fun a b c h h' => leD_trans h h') (fun a b => leD_total _ _) L) so p2
  exact inj a (p2.mem_iff.mp ha) b hb (leD_anti h1 h2)
theorem okSort_tup {α : Type} (emb : α → D) (L : List α) (h1 : ∀ a b, PySem.W.alike (emb a) (emb b) = true) (h2 : ∀ a, isTupC (emb a) = true) (h3 : ∀ a ∈ L, Ly 50 (emb a)) : okSort (L.map emb) = true := by
  unfold okSort
  simp -implicitDefEqProofs only [Bool.and_eq_true, List.all_eq_true, Bool.or_eq_true]
  refine ⟨⟨fun d hd e he => ?_, .inl fun d hd => ?_⟩, fun d hd => ?_⟩
  · obtain ⟨k, _, rfl⟩ := List.mem_map.mp hd
    obtain ⟨l, _, rfl⟩ := List.mem_map.mp he
    exact h1 k l
  · obtain ⟨k, _, rfl⟩ := List.mem_map.mp hd
    exact h2 k
  · obtain ⟨k, hk, rfl⟩ := List.mem_map.mp hd
    exact ⟨(h3 k hk).1, decide_eq_true (h3 k hk).2⟩
theorem sortF_is {α : Type} (emb : α → D) {L M : List α} (ok : okSort (L.map emb) = true) (inj : ∀ a ∈ M, ∀ b ∈ M, PySem.W.keyToks (emb a) = PySem.W.keyToks (emb b) → a = b) (pm : M.Perm L) (so : M.Pairwise fun a b => leD (emb a) (emb b) = true) : sortF [.list (L.map emb)] = some (.list (M.map emb)) := by
  show (if okSort (L.map emb) = true then some (PyData.list (sortD (L.map emb))) else none) = _
  rw [if_pos ok, sortD_is emb inj pm so]
end VVlaw
namespace VVlaw
open PySem PySem.Spec L2 VV
open PyProof.Rows hiding St
def kyLt (k q : Ky) : Bool := decide (k.1 < q.1 ∨ (k.1 = q.1 ∧ (k.2.1 < q.2.1 ∨ (k.2.1 = q.2.1 ∧ k.2.2 < q.2.2))))
theorem kyLt_iff {k q : Ky} : kyLt k q = true ↔ (k.1 < q.1 ∨ (k.1 = q.1 ∧ (k.2.1 < q.2.1 ∨ (k.2.1 = q.2.1 ∧ k.2.2 < q.2.2)))) := decide_eq_true_iff
theorem kyLt_total (k q : Ky) : kyLt k q = true ∨ k = q ∨ kyLt q k = true := by
  obtain ⟨a, b, c⟩ := k
  obtain ⟨a', b', c'⟩ := q
  simp -implicitDefEqProofs only [kyLt_iff, Prod.mk.injEq]
  omega
theorem kyLt_irrefl (k : Ky) : kyLt k k = false := by
  rw [Bool.eq_false_iff]
  intro h
  have := kyLt_iff.mp h
  omega
theorem kyLt_asymm {k q : Ky} (h : kyLt k q = true) : kyLt q k = false := by
  rw [Bool.eq_false_iff]
  intro z
  have := kyLt_iff.mp h
  have := kyLt_iff.mp z
  omega
theorem kyLt_trans {k q r : Ky} (h : kyLt k q = true) (h' : kyLt q r = true) : kyLt k r = true := by
  rw [kyLt_iff] at h h' ⊢
  omega
theorem toks_kyD (k : Ky) : PySem.W.keyToks (kyD k) = [.inl 1, .inl (k.1 : Int), .inl 1, .inl (k.2.1 : Int), .inl 1, .inl (k.2.2 : Int), .inl 0] := by
  simp [kyD, PySem.W.keyToks, PySem.W.keyToksAll]
theorem lx_ky (k q : Ky) (a b : List Sgn) : lx (PySem.W.keyToks (kyD k) ++ a) (PySem.W.keyToks (kyD q) ++ b) = if k = q then lx a b else kyLt k q := by
  obtain ⟨x, y, z⟩ := k
  obtain ⟨x', y', z'⟩ := q
  rw [toks_kyD, toks_kyD]
  simp -implicitDefEqProofs only [List.cons_append, List.nil_append, lx_same, lx_int, Prod.mk.injEq]
  unfold kyLt
  by_cases h1 : x = x'
  · subst h1
    by_cases h2 : y = y'
    · subst h2
      by_cases h3 : z = z'
      · subst h3
        simp
      · have e3 : ¬ (z : Int) = z' := by omega
        simp [h3, e3]
    · have e2 : ¬ (y : Int) = y' := by omega
      simp [h2, e2]
  · have e1 : ¬ (x : Int) = x' := by omega
    simp [h1, e1]
def Rises (K : List Ky) : Prop := K.Pairwise fun k q => kyLt k q = true
def leK (k q : Ky) : Bool := !kyLt q k
def sortK (K : List Ky) : List Ky := K.mergeSort leK
theorem leK_trans {a b c : Ky} (h : leK a b = true) (h' : leK b c = true) : leK a c = true := by
  unfold leK at *
  rw [Bool.not_eq_true'] at *
  rw [Bool.eq_false_iff] at *
  intro z
  rcases kyLt_total b a with q | q | q
  · exact h q
  · subst q; exact h' z
  · exact h' (kyLt_trans z q)
theorem leK_total (a b : Ky) : (leK a b || leK b a) = true := by
  unfold leK
  rcases kyLt_total a b with q | q | q
  · rw [kyLt_asymm q]; rfl
  · subst q; rw [kyLt_irrefl]; rfl
  · rw [kyLt_asymm q]; simp
theorem sortK_rises {K : List Ky} (nd : K.Nodup) : Rises (sortK K) := by
  have s : (sortK K).Pairwise fun a b => leK a b = true := List.pairwise_mergeSort (le := leK) (fun a b c h h' => leK_trans h h') leK_total K
  have n : (sortK K).Pairwise fun a b => a ≠ b := (List.mergeSort_perm K leK).nodup_iff.mpr nd
  refine (s.and n).imp fun {a b} h => ?_
  have h1 := h.1
  unfold leK at h1
  rw [Bool.not_eq_true'] at h1
  rcases kyLt_total a b with q | q | q
  · exact q
  · exact absurd q h.2
  · rw [q] at h1; cases h1
theorem sortK_perm (K : List Ky) : (sortK K).Perm K := List.mergeSort_perm ..
theorem mem_sortK {K : List Ky} {k : Ky} : k ∈ sortK K ↔ k ∈ K := List.mem_mergeSort
theorem ky_inj {k q : Ky} (h : PySem.W.keyToks (kyD k) = PySem.W.keyToks (kyD q)) : k = q := by
  rw [toks_kyD, toks_kyD] at h
  simp -implicitDefEqProofs only [List.cons.injEq, Sum.inl.injEq, and_true, true_and] at h
  exact Prod.ext (by omega) (Prod.ext (by omega) (by omega))
theorem leD_ky {k q : Ky} : leD (kyD k) (kyD q) = leK k q := by
  rw [leD_eq]
  have := lx_ky q k [] []
  rw [List.append_nil, List.append_nil] at this
  rw [this]
  unfold leK
  by_cases h : q = k
  · subst h
    rw [if_pos rfl, kyLt_irrefl, show lx [] [] = false from lex_irrefl (O := PyProof.Rows.itemOrd) []]
  · rw [if_neg h]
theorem lay_kyD (k : Ky) : Ly 1 (kyD k) := Ly.tuple (k := 0) fun d hd => by
  simp -implicitDefEqProofs only [List.mem_cons, List.not_mem_nil, or_false] at hd
  rcases hd with rfl | rfl | rfl <;> exact Ly.int _ _
theorem alike_ky (k q : Ky) : PySem.W.alike (kyD k) (kyD q) = true := by simp [kyD, PySem.W.alike, PySem.W.alikeAll]
theorem sort_ky (K : List Ky) (nd : K.Nodup) : sortF [.list (K.map kyD)] = some (.list ((sortK K).map kyD)) :=
  sortF_is kyD (okSort_tup kyD K alike_ky (fun _ => rfl) fun k _ => (lay_kyD k).mono (by decide)) (fun a _ b _ h => ky_inj h) (sortK_perm K) ((sortK_rises nd).imp fun {a b} h => by
    rw [leD_ky]
    unfold leK
    rw [kyLt_asymm h]
    rfl)
end VVlaw
namespace VVlaw
open PySem PySem.Spec L2 VV
open PyProof.Rows hiding St
structure Et where
  ks : List Ky
  v : Ky → D
def Et.ent (E : Et) (k : Ky) : D := .tuple [kyD k, E.v k]
def Et.pr (E : Et) (k : Ky) : D × D := (kyD k, E.v k)
structure Et.Ok (E : Et) : Prop where
  rs : Rises E.ks
  len : E.ks.length ≤ 1000000
  ly : ∀ k, Ly 9 (E.v k)
def Et.fz (E : Et) : D := fzD (E.ks.map E.ent)
def Et.fd (E : Et) : D := fdD (E.ks.map E.pr)
def pzD (s w h : Int) (E : Et) : D := .tuple [.int s, .int w, .int h, E.fz]
theorem toks_pair (a b : D) : PySem.W.keyToks (.tuple [a, b]) = .inl 1 :: (PySem.W.keyToks a ++ (.inl 1 :: (PySem.W.keyToks b ++ [.inl 0]))) := by
  simp [PySem.W.keyToks, PySem.W.keyToksAll]
theorem pyK_len6 {p : Pic} {h w : Nat} (P : Pc2 p h w) {side t : Nat} (hs : 1 ≤ side) (ht : t ≤ 60) : (pyK p h w side t).length ≤ 1000000 := by
  unfold pyK
  rw [List.length_mergeSort]
  have := upTo_len (pix p) hs P.h2 P.w2 t
  have h2 : (t + 1) * 14400 ≤ 61 * 14400 := Nat.mul_le_mul_right _ (by omega)
  omega
end VVlaw
namespace VVlaw
open PySem PySem.Spec L2 VV
open PyProof.Rows hiding St
mutual
def noB : D → Bool
  | .none => true
  | .bool _ => false
  | .int _ => true
  | .str _ => true
  | .list ds => noBL ds
  | .tuple ds => noBL ds
  | .dict _ => false
def noBL : List D → Bool
  | [] => true
  | d :: ds => noB d && noBL ds
end
def hasT (ts : List D) (d : D) : Bool := ts.any fun z => PyData.eqv z d
def addT (ts : List D) (d : D) : List D := if hasT ts d = true then ts else ts ++ [d]
theorem mem_add {ts : List D} {d z : D} (h : z ∈ addT ts d) : z ∈ ts ∨ z = d := by
  unfold addT at h
  split at h
  · exact .inl h
  · rcases List.mem_append.mp h with h | h
    · exact .inl h
    · exact .inr (by simpa using h)
end VVlaw
namespace VVlaw
open PySem PySem.Spec L2 VV
open PyProof.Rows hiding St
structure Ed where
  s : Int
  w : Int
  h : Int
  e : Et
def Ed.pz (X : Ed) : D := pzD X.s X.w X.h X.e
structure Ed.Ok (X : Ed) : Prop where
  ok : X.e.Ok
  pl : ∀ k, noB (X.e.v k) = true
structure Tl (ts : List D) : Prop where
  ly : ∀ z ∈ ts, Ly 9 z
  pl : ∀ z ∈ ts, noB z = true
theorem Tl.add {ts : List D} {d : D} (T : Tl ts) (h1 : Ly 9 d) (h2 : noB d = true) : Tl (addT ts d) :=
  ⟨fun z hz => (mem_add hz).elim (T.ly z) fun e => e ▸ h1, fun z hz => (mem_add hz).elim (T.pl z) fun e => e ▸ h2⟩
end VVlaw
namespace VVlaw
open PySem PySem.Spec L2 VV
open PyProof.Rows hiding St
end VVlaw
namespace VVlaw
open PySem PySem.Spec L2 VV
open PyProof.Rows hiding St
theorem any_ky (K : List Ky) (k : Ky) : ((K.map kyD).any fun z => PyData.eqv z (kyD k)) = decide (k ∈ K) := by
  rw [List.any_map, Bool.eq_iff_iff, List.any_eq_true, decide_eq_true_eq]
  constructor
  · rintro ⟨j, hj, e⟩
    have e' : PyData.eqv (kyD j) (kyD k) = true := e
    rw [ky_eqv, decide_eq_true_eq] at e'
    exact e' ▸ hj
  · intro hk
    refine ⟨k, hk, ?_⟩
    show PyData.eqv (kyD k) (kyD k) = true
    rw [ky_eqv]
    simp
end VVlaw
namespace VVlaw
open PySem PySem.Spec L2 VV
open PyProof.Rows hiding St
open Classical in
noncomputable def Et.at_ (E : Et) (k : Ky) : Option D := if k ∈ E.ks then some (E.v k) else none
theorem in_ky (K : List Ky) (k : Ky) : inF (kyD k) (.list (K.map kyD)) = some (.bool (decide (k ∈ K))) := by
  have l : Ly 2 (.list (K.map kyD)) := Ly.list (k := 1) fun d hd => by
    obtain ⟨j, _, rfl⟩ := List.mem_map.mp hd
    exact lay_kyD j
  show (if (SeqAt.shaped (kyD k) && SeqAt.shaped (.list (K.map kyD))) = true then some ((K.map kyD).any fun z => PyData.eqv z (kyD k)) else none).map PyData.bool = _
  rw [(lay_kyD k).shaped (by decide), l.shaped (by decide), Bool.and_self, if_pos rfl, any_ky]
  rfl
theorem lay_keysL (K : List Ky) : Ly 2 (.list (K.map kyD)) := Ly.list (k := 1) fun d hd => by
  obtain ⟨j, _, rfl⟩ := List.mem_map.mp hd
  exact lay_kyD j
theorem cut_from {α : Type} (xs : List α) (a : Nat) (h : a ≤ xs.length) : cutL xs (some (a : Int)) none = xs.drop a := by
  unfold cutL
  rw [HT.sIx_nat, HT.sIx_none, Nat.min_eq_left h]
  exact List.take_of_length_le (by rw [List.length_drop]; omega)
structure Std (p : Pic) (side : Nat) (X : Ed) : Prop where
  ok : X.Ok
  look : sem_look_pyramids [X.pz] = .ok .none
  built : sem_built [picD p, .int (side : Int)] = .ok X.pz
end VVlaw
set_option maxHeartbeats 4000000
namespace VV
open PySem PySem.Spec L2
open PyProof.Rows hiding St
section
variable {X : Cx} {W : WX} {e : Expr} {ef : EF} {pos p : Pos}
end
end VV
namespace VV
open PySem PySem.Spec L2
open PyProof.Rows hiding St
def trsOf (K : PySem.W.Frag) (W : WX) (fs : List (EF × EF)) : List (TE × TE) := fs.map fun p => (tE K W p.1, tE K W p.2)
abbrev SP (X : Cx) (W : WX) (pos : Pos) (ks : List (Option Expr)) (vs : List Expr) (fs : List (EF × EF)) : Prop := PPs X pos ks vs (trsOf X.K W fs)
section
variable {X : Cx} {W : WX} {pos : Pos} {ks : List (Option Expr)} {vs : List Expr} {k v : Expr} {f g : EF} {fs : List (EF × EF)}
end
section
variable {X : Cx} {W : WX}
end
end VV
namespace VV
open PySem PySem.Spec L2
open PyProof.Rows hiding St
def placeFrom (d : D) (i : Nat) (ds : List D) : Option Nat := (placeD d (ds.drop i)).map (· + i)
def idx3F (x d k : D) : Option D := match x, k with
  | .list ds, .int i => if (SeqAt.shaped (.list ds) && SeqAt.shaped d && decide (0 ≤ i) && decide (i ≤ 1000000000)) = true then (placeFrom d i.toNat ds).map fun j => .int (j : Nat) else none
  | _, _ => none
def eIdx3 (f g h : EF) : EF := fun ρ => (f ρ).bind fun x => match x with
  | .list ds => (g ρ).bind fun y => (h ρ).bind fun k => Rs.of (idx3F (.list ds) y k)
  | _ => .bad
theorem placeFrom_ok {d : D} {i j : Nat} {ds : List D} (h : placeFrom d i ds = some j) : i ≤ j ∧ ∃ z, ds[j]? = some z ∧ PyData.eqv z d = true ∧ ∀ (m : Nat) (y : D), i ≤ m → m < j → ds[m]? = some y → PyData.eqv y d = false := by
  obtain ⟨n, hn, rfl⟩ := Option.map_eq_some_iff.mp h
  obtain ⟨z, e1, e2, e3⟩ := placeD_ok hn
  refine ⟨Nat.le_add_left i n, z, ?_, e2, fun m y h1 h2 hy => ?_⟩
  · rw [List.getElem?_drop] at e1
    rw [Nat.add_comm]
    exact e1
  · refine e3 (m - i) y (by omega) ?_
    rw [List.getElem?_drop, show i + (m - i) = m by omega]
    exact hy
theorem vals_back' : ∀ {vs : List V} {us : List Value}, Vals vs us → ∀ {i : Nat} {v : Value}, us[i]? = some v → ∃ u, vs[i]? = some u ∧ RelV u v
  | _, _, .nil, i, v, h => by simp at h
  | _, _, .cons r t, 0, v, h => by
    simp only [List.getElem?_cons_zero, Option.some.injEq] at h
    subst h
    exact ⟨_, rfl, r⟩
  | _, _, .cons r t, i + 1, v, h => by
    obtain ⟨u, e, q⟩ := vals_back' t (i := i) (by simpa using h)
    exact ⟨u, by simpa using e, q⟩
section
variable {X : Cx} {W : WX}
def rIdx3 (K : PySem.W.Frag) : V → List V → Hp → VK → Prop := fun x xs H Q => ∃ (a : Addr) (y : V) (d : PyData) (ds : List PyData) (i j : Nat), x = V.ref a ∧ xs = [y, .int (i : Int)] ∧ Dp K H (V.ref a) (.list ds) ∧ Dp K H y d ∧
  SeqAt.shaped (.list ds) = true ∧ SeqAt.shaped d = true ∧ placeFrom d i ds = some j ∧ Q (.int (j : Nat)) H
theorem mt_idx3 (hu : X.A.units + 65 < cLine) : MtR X "list.index" (rIdx3 X.K) := by
  rintro pins s σ H _ _ v us Q I rx rxs ⟨a, y, d, ds, i, j, rfl, rfl, hl, hy, sl, sd, hp, q⟩
  cases rx
  obtain ⟨uy, ui, rfl, ry, ri⟩ := vals2 rxs
  obtain ⟨ti, rfl⟩ := ri
  obtain ⟨lo, z, hz, hzj, hno⟩ := placeFrom_ok hp
  obtain ⟨bs, r1⟩ := Dp.reads I d y uy hy ry
  have lay := SeqAt.canLay_of_shaped sl
  have deep := room_in_shaped (xs := ds) sd hu
  cases hl with
  | lst hs ha =>
    obtain ⟨its, rv, ⟨⟨cls, dd, data, sls⟩, n, ho, rfl, hdn, rfl⟩, hlen⟩ := I.list hs
    obtain ⟨as, rd⟩ := Dp.readsAll I ds _ its ha rv
    have same : its.map (SeqAt.readOf s.heap) = ds := SeqAt.readsAll_map ds its as lay rd
    have many : its.length = ds.length := by rw [← same, List.length_map]
    have jd : j < ds.length := (List.getElem?_eq_some_iff.mp hz).1
    have rdAt : ∀ (m : Nat) (hm : m < its.toArray.size) (y' : PyData), ds[m]? = some y' → SeqAt.readOf s.heap its.toArray[m] = y' := fun m hm y' e => by
      have hm' : m < its.length := by simpa using hm
      rw [← same, List.getElem?_map, List.getElem?_eq_getElem hm'] at e
      simpa using e
    have small : its.length ≤ 16777216 := by
      have := rv.length
      rw [← this]
      exact hlen
    have sf : PySem.SeqAt.searchFrom (i : Int) its.toArray.size = i := PySem.SeqAt.searchFrom_nat i _
    have eqs := SeqAt.items_eqAt (vs := its.toArray) (show ReadsAll s.heap its.toArray.toList ds as from rd) r1 lay (SeqAt.canLay_of_shaped sd) deep
    refine call_meets PySem.F.slot_list_index ⟨_, ho, rfl⟩ PySem.F.entry_list_index (PySem.F.args_list_index_3 _ _ _)
      (PySem.SeqAt.list_index3_found a its.toArray n dd sls uy (fun m => if hm : m < its.toArray.size then PyData.eqv (SeqAt.readOf s.heap its.toArray[m]) d else false) (i : Int) ti j (by simpa using (show j < its.length by omega)) (by rw [sf]; exact lo) (by omega) ?_ ?_) ⟨ho, fun m hm => ?_, ⟨.int (j : Nat), H, I.tok _, ⟨_, rfl⟩, q⟩⟩
    · have hj : j < its.toArray.size := by simpa using (show j < its.length by omega)
      rw [dif_pos hj, rdAt j hj z hz]
      exact hzj
    · intro m hm h1 h2
      rw [sf] at h1
      rw [dif_pos hm]
      have md : m < ds.length := by
        have : m < its.length := by simpa using hm
        omega
      rw [rdAt m hm _ (List.getElem?_eq_getElem md)]
      exact hno m _ h1 h2 (List.getElem?_eq_getElem md)
    · rw [dif_pos hm]
      exact eqs _ (Array.getElem_mem hm)
theorem se_index3 {o e e2 : Expr} {f g h : EF} {apos cpos : Pos} {k : Nat} (hr : Room k X.A) (ho : SB X W o f) (he : SE X W e g) (he2 : SE X W e2 h) (hbase : attributeBase o "index" X.env (eval o X.env) = eval o X.env := by rfl) (hline : (apos.endLine == cpos.line) = true := by rfl)
    (na : starEach [e, e2] X.env = [(false, eval e X.env), (false, eval e2 X.env)] := by rfl) (na2 : starEach [e2] X.env = (false, eval e2 X.env) :: starEach [] X.env := by rfl) : SE X W (.Call (.Attribute o "index" apos) [e, e2] [] cpos) (eIdx3 f g h) := by
  have room : X.A.units + 65 < cLine := by have := hr.un; omega
  have na' : starEach [e, e2] X.env = (false, eval e X.env) :: starEach [e2] X.env := by rw [na, na2]; rfl
  have key := pe_bm (apos := apos) (cpos := cpos) PySem.F.plainAttrs_list PySem.F.slot_list_index PySem.F.type_list_index (mt_idx3 (X := X) room) ho (pa_cons he (pa_cons he2 pa_nil na2) na') hbase (by rw [na]; rfl) hline na' (by rw [na2]; rfl)
  refine key.weak fun σ H Q ⟨L, ρ, re, p⟩ => ⟨L, ρ, re, p.step fun dx H1 x s1 rx p1 => ?_⟩
  cases dx with
  | list ds =>
    have rx0 := rx
    obtain ⟨a, vs, rfl, ha, rl⟩ := rx.lstV
    refine ⟨.inl ⟨rfl, vs, SqL.of ha⟩, L, ρ, re.mono s1, p1.stepE fun dy H2 y s2 ry p2 => ⟨L, ρ, re.mono (s1.trans s2), p2.stepE fun dz H3 z s3 rz p3 => ?_⟩⟩
    unfold idx3F at p3
    cases dz with
    | int i =>
      dsimp only at p3
      split at p3
      · rename_i hz
        simp only [Bool.and_eq_true, decide_eq_true_eq] at hz
        obtain ⟨⟨⟨h1, h2⟩, h3⟩, h4⟩ := hz
        obtain rfl := rz.intV
        cases hj : placeFrom dy i.toNat ds with
        | none => rw [hj] at p3; exact p3.elim
        | some j =>
          rw [hj] at p3
          have ei : i = ((i.toNat : Nat) : Int) := by omega
          refine ⟨a, y, dy, ds, i.toNat, j, rfl, ?_, (rx0.mono (s2.trans s3)).dp (SeqAt.canLay_of_shaped h1), (ry.mono s3).dp (SeqAt.canLay_of_shaped h2), h1, h2, hj, p3 _ _ (Same.refl _) (.int _)⟩
          rw [← ei]
      · exact p3.elim
    | _ => exact p3.elim
  | _ => exact p1.elim
def okMin (ds : List D) : Bool := ds.all (fun d => ds.all fun e => PySem.W.alike d e) && ds.all (fun d => !isNone d) && ds.all (fun d => d.canLay0 && decide (d.depth ≤ 50))
def minDF : List D → Option D
  | [.list (d :: ds)] => if okMin (d :: ds) = true then some (PySem.W.minD d ds) else none
  | _ => none
theorem cl_minD {k : Nat} (hr : Room k X.A) (hc : X.calm = true) : ClD X (.builtin "min") minDF := by
  intro pn s σ H xs us Q I rs h
  obtain ⟨L, ds, d, lv, rb, hf, kk⟩ := h
  unfold minDF at hf
  split at hf
  · rename_i d0 dr
    obtain ⟨v, rfl, r⟩ := rb.one
    obtain ⟨a, vs, rfl, ha, rl⟩ := r.lstV
    split at hf
    · rename_i ok
      cases hf
      obtain ⟨u, rfl, ru⟩ := vals1 rs
      cases ru
      unfold okMin at ok
      simp only [Bool.and_eq_true, List.all_eq_true, decide_eq_true_eq] at ok
      obtain ⟨⟨al, nn⟩, ly⟩ := ok
      have layA : PyData.canLayAll0 (d0 :: dr) = true ∧ PyData.depthAll (d0 :: dr) ≤ 50 := by
        have aux : ∀ zs : List D, (∀ z ∈ zs, z.canLay0 = true ∧ z.depth ≤ 50) → PyData.canLayAll0 zs = true ∧ PyData.depthAll zs ≤ 50 := by
          intro zs
          induction zs with
          | nil => intro _; exact ⟨rfl, by simp [PyData.depthAll]⟩
          | cons z zs ih =>
            intro hz
            obtain ⟨p1, p2⟩ := hz z (by simp)
            obtain ⟨q1, q2⟩ := ih fun y hy => hz y (by simp [hy])
            refine ⟨by simp [PyData.canLayAll0, p1, q1], ?_⟩
            simp only [PyData.depthAll]
            omega
        exact aux _ ly
      obtain ⟨its, rv, pl, hz⟩ := I.list (SqL.of ha)
      obtain ⟨as, rd⟩ := Dp.readsAll I (d0 :: dr) vs its (rl.dp layA.1) rv
      have un := hr.un
      refine PySem.W.min_list_data (vs := its.toArray) (I.ok.hd hc) pl.isList (show ReadsAll s.heap its.toArray.toList (d0 :: dr) as from rd) ⟨al, fun x hx e => ?_⟩ (by omega) fun i v h' tk bs hv rm keep => ?_
      · have := nn x hx
        rw [e] at this
        cases this
      · have hv' : its[i]? = some v := by simpa using hv
        have J : Inv X pn σ H { s with heap := h', toks := tk } := I.kept keep
        obtain ⟨u, hu, ru⟩ := vals_back' rv hv'
        obtain ⟨dz, hd, rz⟩ := rl.getV hu
        have lz := ly dz (List.mem_of_getElem? hd)
        obtain ⟨bs2, rd2⟩ := Dp.reads J dz u v (rz.dp lz.1) ru
        have e1 := SeqAt.readOf_eq lz.1 rd2
        have mem : PySem.W.minD d0 dr ∈ d0 :: dr := by
          have aux : ∀ (ys : List D) (z : D), ys.foldl (fun a y => if PySem.W.dataLt y a = true then y else a) z = z ∨ ys.foldl (fun a y => if PySem.W.dataLt y a = true then y else a) z ∈ ys := by
            intro ys
            induction ys with
            | nil => intro z; exact .inl rfl
            | cons y ys ih =>
              intro z
              rw [List.foldl_cons]
              rcases ih (if PySem.W.dataLt y z = true then y else z) with e | e
              · rw [e]
                split
                · exact .inr (by simp)
                · exact .inl rfl
              · exact .inr (by simp [e])
          unfold PySem.W.minD
          rcases aux dr d0 with e | e
          · rw [e]; simp
          · simp [e]
        have e2 := SeqAt.readOf_eq (ly _ mem).1 rm
        have e3 : PySem.W.minD d0 dr = dz := e2.symm.trans e1
        rw [e3] at kk
        exact ⟨u, H, J, ru, kk H u (Same.refl H) rz⟩
    · cases hf
  · cases hf
end
end VV
namespace VV
open PySem PySem.Spec L2
open PyProof.Rows hiding St
section
variable {X : Cx} {W : WX} {e : Expr} {ef : EF} {pos : Pos}
end
section
variable {X : Cx} {W : WX}
end
end VV
namespace VV
open PySem PySem.Spec L2
open PyProof.Rows hiding St
section
variable {X : Cx} {W : WX}
def constV : D → V
  | .int i => .int i
  | .str x => .str x
  | .bool b => .bl b
  | _ => .non
structure DkD (P : Program) (w : World) (K : PySem.W.Frag) (mg : Str → Option Value) (base : Heap) (x : Str) (k n : Nat) (ks : List Str) (dv : List D) (f : List D → Rs) : Prop where
  ex : ∃ (fa : Addr) (fd : FuncData) (ps : List Str) (gN : List Value → List Value → List Value), mg x = some (.ref fa) ∧ FnOk P w K mg base (L2.CX P w) k fa fd ps (spP K (n + ks.length + dv.length) f) ∧ PySem.W.keepIn K (.ref fa) = true ∧ KBn K fd ps n ks gN (fun vs zs => vs ++ zs ++ dv.map constV)
variable {e : Expr} {es : List Expr} {kws : List Keyword} {fs gs : List EF} {p pos : Pos} {x : Str} {ks : List Str}
end
end VV
namespace VVlaw
open PySem PySem.Spec L2 VV
open PyProof.Rows hiding St
def lp_keys_of_1 : SF := (sExt 2 (eCall sem_needed_of [(eV 0), (eV 3)]))
def b_keys_of : SF := (sSeq (sOwn 2 (eLst [])) (sSeq (sFor (iSeq (eV 1)) (.nm 3) lp_keys_of_1) (sRetV 2)))
def sem_keys_of : List D → Rs := runB 2 4 b_keys_of
def b_next_use : SF := (sRet (eIf (eOp inF (eV 2) (eSl (eV 0) (some (eV 1)) none)) (eIdx3 (eV 0) (eV 2) (eV 1)) (eCB lenF [(eV 0)])))
def sem_next_use : List D → Rs := runB 3 3 b_next_use
def b_gone : SF := (sSeq (sIf (eOp eqF (eV 3) (eC (.str "first"))) (sRet (eOp ixF (eOp ixF (eV 2) (eC (.int 0))) (eC (.int 0)))) sNx) (sSeq (sIf (eOp eqF (eV 3) (eC (.str "old"))) (sRet (eOp ixF (eCB minDF [(eLc [4, 5] (iSeq (eV 2)) (.tp [(.nm 4), (.nm 5)]) (eC (.bool true)) (eTup [(eV 5), (eV 4)]))]) (eC (.int 1)))) sNx) (sRet (eOp ixF (eCB minDF [(eLc [4, 5] (iSeq (eV 2)) (.tp [(.nm 4), (.nm 5)]) (eC (.bool true)) (eTup [(eUn negF (eCall sem_next_use [(eV 0), (eV 1), (eV 4)])), (eV 4)]))]) (eC (.int 1))))))
def sem_gone : List D → Rs := runB 4 6 b_gone
def lp_fetched_of_1 : SF := (sIf (eOp inF (eV 6) (eLc [8, 9] (iSeq (eV 3)) (.tp [(.nm 8), (.nm 9)]) (eC (.bool true)) (eV 8))) (sSet 3 (eLc [8, 9] (iSeq (eV 3)) (.tp [(.nm 8), (.nm 9)]) (eC (.bool true)) (eTup [(eV 8), (eIf (eOp eqF (eV 8) (eV 6)) (eV 5) (eV 9))]))) (sSeq (sApp 4 (eV 6)) (sSeq (sIf (eOp eqF (eCB lenF [(eV 3)]) (eV 1)) (sSeq (sSet 7 (eCall sem_gone [(eV 0), (eV 5), (eV 3), (eV 2)])) (sSet 3 (eLc [10] (iSeq (eV 3)) (.nm 10) (eOp neF (eOp ixF (eV 10) (eC (.int 0))) (eV 7)) (eV 10)))) sNx) (sSet 3 (eOp addF (eV 3) (eLst [(eTup [(eV 6), (eV 5)])]))))))
def b_fetched_of : SF := (sSeq (sSet 3 (eLst [])) (sSeq (sOwn 4 (eLst [])) (sSeq (sFor (iEnum' [(eV 0)]) (.tp [(.nm 5), (.nm 6)]) lp_fetched_of_1) (sRetV 4))))
def sem_fetched_of : List D → Rs := runB 3 11 b_fetched_of
def b_look_trip : SF := (sSeq (sDrop (eCall sem_look_pyramids [(eV 0)])) (sIf (gOr (gNot (gTru (eIsi isLst (eV 1)))) (gOr (eOp gtF (eCB lenF [(eV 1)]) (eC (.int 12))) (gTru (eLc [2] (iSeq (eV 1)) (.nm 2) (gNot (gTru (eCall sem_is_window [(eV 0), (eV 2)]))) (eV 2))))) (sRaise "BadTrip") sNx))
def sem_look_trip : List D → Rs := runB 2 3 b_look_trip
def b_fetched : SF := (sSeq (sDrop (eCall sem_look_trip [(eV 0), (eV 1)])) (sSeq (sIf (gOr (gNot (gTru (eCall sem_is_within [(eV 2), (eC (.int 1)), (eC (.int 40))]))) (gOr (gNot (gTru (eIsi isStr (eV 3)))) (eUn (inCF true [.str "old", .str "far", .str "first"]) (eV 3)))) (sRaise "BadCount") sNx) (sRet (eCall sem_fetched_of [(eCall sem_keys_of [(eV 0), (eV 1)]), (eV 2), (eV 3)]))))
def sem_fetched : List D → Rs := runB 4 4 b_fetched
def lp__law_trip_1 : SF := (sSeq (sSet 8 (eOp addF (eOp addF (eV 1) (eC (.int 1))) (eOp mulF (eC (.int 5)) (eV 7)))) (sSeq (sIf (eOp eqF (eOp modF (eOp ixF (eV 0) (eOp modF (eV 8) (eC (.int 60)))) (eC (.int 5))) (eC (.int 0))) (sSet 3 (eOp modF (eOp ixF (eV 0) (eOp modF (eOp addF (eV 8) (eC (.int 1))) (eC (.int 60)))) (eOp addF (eV 2) (eC (.int 1))))) sNx) (sSeq (sSet 4 (eCB max2F [(eC (.int 0)), (eOp subF (eOp addF (eV 4) (eOp modF (eOp ixF (eV 0) (eOp modF (eOp addF (eV 8) (eC (.int 2))) (eC (.int 60)))) (eC (.int 5)))) (eC (.int 2)))])) (sSeq (sSet 5 (eCB max2F [(eC (.int 0)), (eOp subF (eOp addF (eV 5) (eOp modF (eOp ixF (eV 0) (eOp modF (eOp addF (eV 8) (eC (.int 3))) (eC (.int 60)))) (eC (.int 5)))) (eC (.int 2)))])) (sSeq (sSet 9 (eOp ixF (eV 0) (eOp modF (eOp addF (eV 8) (eC (.int 4))) (eC (.int 60))))) (sApp 6 (eTup [(eV 3), (eOp divF (eV 4) (eOp addF (eC (.int 1)) (eV 3))), (eOp divF (eV 5) (eOp addF (eC (.int 1)) (eV 3))), (eOp addF (eC (.int 1)) (eOp modF (eV 9) (eC (.int 4)))), (eOp addF (eC (.int 1)) (eOp modF (eOp divF (eV 9) (eC (.int 4))) (eC (.int 3))))])))))))
def b__law_trip : SF := (sSeq (sSet 3 (eOp modF (eOp ixF (eV 0) (eOp modF (eOp addF (eV 1) (eC (.int 50))) (eC (.int 60)))) (eOp addF (eV 2) (eC (.int 1))))) (sSeq (sPar 4 5 [(eOp modF (eOp ixF (eV 0) (eOp modF (eOp addF (eV 1) (eC (.int 51))) (eC (.int 60)))) (eC (.int 9))), (eOp modF (eOp ixF (eV 0) (eOp modF (eOp addF (eV 1) (eC (.int 52))) (eC (.int 60)))) (eC (.int 9)))]) (sSeq (sOwn 6 (eLst [])) (sSeq (sFor (iRange1 [(eOp modF (eOp ixF (eV 0) (eOp modF (eV 1) (eC (.int 60)))) (eC (.int 8)))]) (.nm 7) lp__law_trip_1) (sRetV 6)))))
def sem__law_trip : List D → Rs := runB 3 10 b__law_trip
end VVlaw
set_option maxHeartbeats 8000000
namespace VVlaw
open PySem PySem.Spec L2 VV
open PyProof.Rows hiding St
def nextU (keys : List Ky) (t : Nat) (k : Ky) : Nat := t + (keys.drop t).idxOf k
theorem place_idx (k : Ky) : ∀ K : List Ky, placeD (kyD k) (K.map kyD) = if k ∈ K then some (K.idxOf k) else none
  | [] => rfl
  | j :: K => by
    rw [List.map_cons]
    unfold placeD
    rw [ky_eqv, place_idx k K, List.idxOf_cons]
    by_cases e : j = k
    · subst e
      simp
    · have e' : ¬ k = j := fun z => e z.symm
      by_cases h : k ∈ K
      · simp [e, e', h, beq_eq_false_iff_ne.mpr e]
      · simp [e, e', h]
theorem next_use_eq (keys : List Ky) (hl : keys.length ≤ 1000000) (t : Nat) (ht : t ≤ keys.length) (k : Ky) : sem_next_use [.list (keys.map kyD), .int (t : Int), kyD k] = .ok (.int (nextU keys t k : Int)) := by
  have sl : slF (.list (keys.map kyD)) (some (t : Int)) none = some (.list ((keys.drop t).map kyD)) := by
    show some (PyData.list (cutL (keys.map kyD) (some (t : Int)) none)) = _
    rw [cut_from _ _ (by rw [List.length_map]; exact ht), List.map_drop]
  have inn := in_ky (keys.drop t) k
  unfold nextU
  by_cases h : k ∈ keys.drop t
  · rw [decide_eq_true h] at inn
    have ix : idx3F (.list (keys.map kyD)) (kyD k) (.int (t : Int)) = some (.int ((t + (keys.drop t).idxOf k : Nat) : Int)) := by
      show (if (SeqAt.shaped (.list (keys.map kyD)) && SeqAt.shaped (kyD k) && decide (0 ≤ (t : Int)) && decide ((t : Int) ≤ 1000000000)) = true then (placeFrom (kyD k) (t : Int).toNat (keys.map kyD)).map (fun j => PyData.int (j : Nat)) else none) = _
      rw [(lay_keysL keys).shaped (by decide), (lay_kyD k).shaped (by decide), if_pos (by simp; omega)]
      unfold placeFrom
      rw [Int.toNat_natCast, ← List.map_drop, place_idx, if_pos h]
      show some (PyData.int (((keys.drop t).idxOf k + t : Nat) : Int)) = _
      rw [Nat.add_comm]
    have e3 : ∀ ρ : En, ρ[0]? = some (vl (.list (keys.map kyD))) → ρ[1]? = some (vi t) → ρ[2]? = some (vl (kyD k)) → eIdx3 (eV 0) (eV 2) (eV 1) ρ = .ok (.int ((t + (keys.drop t).idxOf k : Nat) : Int)) := fun ρ h0 h1 h2 => by
      show ((eV 0) ρ).bind _ = _
      simp -implicitDefEqProofs only [h0, h1, h2, ix, evs_, Option.bind_some, List.getElem?_cons_zero, List.getElem?_cons_succ, List.set_cons_zero, List.set_cons_succ, List.map_cons, List.map_nil, List.cons_append, List.nil_append, List.length_cons, List.length_nil, Nat.reduceAdd, Nat.reduceSub, Nat.reduceLeDiff, Nat.reduceLT, Bool.not_true, Bool.not_false, decide_true, decide_false]
    simp -implicitDefEqProofs only [sem_next_use, b_next_use, sl, inn, evs_, Option.bind_some, List.getElem?_cons_zero, List.getElem?_cons_succ, List.set_cons_zero, List.set_cons_succ, List.map_cons, List.map_nil, List.cons_append, List.nil_append, List.length_cons, List.length_nil, Nat.reduceAdd, Nat.reduceSub, Nat.reduceLeDiff, Nat.reduceLT, Bool.not_true, Bool.not_false, decide_true, decide_false]
    rw [e3 _ rfl rfl rfl]
    simp -implicitDefEqProofs only [evs_, Option.bind_some, List.getElem?_cons_zero, List.getElem?_cons_succ, List.set_cons_zero, List.set_cons_succ, List.map_cons, List.map_nil, List.cons_append, List.nil_append, List.length_cons, List.length_nil, Nat.reduceAdd, Nat.reduceSub, Nat.reduceLeDiff, Nat.reduceLT, Bool.not_true, Bool.not_false, decide_true, decide_false]
  · rw [decide_eq_false h] at inn
    have ln : lenF [.list (keys.map kyD)] = some (.int (keys.length : Int)) := by rw [f_len_l, List.length_map]
    have e : t + (keys.drop t).idxOf k = keys.length := by
      rw [List.idxOf_eq_length h, List.length_drop]
      omega
    rw [e]
    simp -implicitDefEqProofs only [sem_next_use, b_next_use, sl, inn, ln, evs_, Option.bind_some, List.getElem?_cons_zero, List.getElem?_cons_succ, List.set_cons_zero, List.set_cons_succ, List.map_cons, List.map_nil, List.cons_append, List.nil_append, List.length_cons, List.length_nil, Nat.reduceAdd, Nat.reduceSub, Nat.reduceLeDiff, Nat.reduceLT, Bool.not_true, Bool.not_false, decide_true, decide_false]
abbrev Rk := Int × Ky
def rkD (r : Rk) : D := .tuple [.int r.1, kyD r.2]
def ltR (a b : Rk) : Bool := decide (a.1 < b.1) || (decide (a.1 = b.1) && kyLt a.2 b.2)
theorem dataLt_rk (a b : Rk) : PySem.W.dataLt (rkD a) (rkD b) = ltR a b := by
  show lx (PySem.W.keyToks (rkD a)) (PySem.W.keyToks (rkD b)) = _
  unfold rkD
  rw [toks_pair, toks_pair, lx_same]
  have ti : ∀ i : Int, PySem.W.keyToks (.int i) = [.inl i] := fun i => by simp [PySem.W.keyToks]
  rw [ti, ti]
  simp -implicitDefEqProofs only [List.cons_append, List.nil_append]
  rw [lx_int]
  unfold ltR
  by_cases h : a.1 = b.1
  · rw [if_pos h, lx_same, lx_ky]
    by_cases e : a.2 = b.2
    · rw [if_pos e, e, kyLt_irrefl]
      have : lx [.inl 0] [.inl 0] = false := by rw [lx_same]; exact lex_irrefl (O := PyProof.Rows.itemOrd) []
      rw [this]
      simp [h]
    · rw [if_neg e]
      simp [h]
  · rw [if_neg h]
    simp [h]
def minR (a : Rk) (rs : List Rk) : Rk := rs.foldl (fun a y => if ltR y a = true then y else a) a
theorem minD_rk : ∀ (rs : List Rk) (a : Rk), PySem.W.minD (rkD a) (rs.map rkD) = rkD (minR a rs)
  | [], a => rfl
  | r :: rs, a => by
    have ih := minD_rk rs (if ltR r a = true then r else a)
    unfold PySem.W.minD minR at ih ⊢
    rw [List.map_cons, List.foldl_cons, List.foldl_cons, dataLt_rk, ← ih]
    congr 1
    split <;> rfl
theorem lay_rk (r : Rk) : Ly 2 (rkD r) := Ly.tuple (k := 1) fun d hd => by
  simp -implicitDefEqProofs only [List.mem_cons, List.not_mem_nil, or_false] at hd
  rcases hd with rfl | rfl
  · exact Ly.int _ _
  · exact lay_kyD _
theorem min_rk (a : Rk) (rs : List Rk) : minDF [.list ((a :: rs).map rkD)] = some (rkD (minR a rs)) := by
  show (if okMin ((a :: rs).map rkD) = true then some (PySem.W.minD (rkD a) (rs.map rkD)) else none) = _
  rw [if_pos, minD_rk]
  unfold okMin
  simp -implicitDefEqProofs only [Bool.and_eq_true, List.all_eq_true, decide_eq_true_eq]
  refine ⟨⟨fun d hd e he => ?_, fun d hd => ?_⟩, fun d hd => ?_⟩
  · obtain ⟨k, _, rfl⟩ := List.mem_map.mp hd
    obtain ⟨l, _, rfl⟩ := List.mem_map.mp he
    simp [rkD, kyD, PySem.W.alike, PySem.W.alikeAll]
  · obtain ⟨k, _, rfl⟩ := List.mem_map.mp hd
    rfl
  · obtain ⟨k, _, rfl⟩ := List.mem_map.mp hd
    exact ⟨(lay_rk k).1, Nat.le_trans (lay_rk k).2 (by decide)⟩
inductive Rule where
  | first | old | far
def Rule.s : Rule → Str
  | .first => "first"
  | .old => "old"
  | .far => "far"
abbrev Kept := List (Ky × Nat)
def ksD (c : Ky × Nat) : D := .tuple [kyD c.1, .int (c.2 : Int)]
def rankO (c : Ky × Nat) : Rk := ((c.2 : Int), c.1)
def rankF (keys : List Ky) (t : Nat) (c : Ky × Nat) : Rk := (-(nextU keys t c.1 : Int), c.1)
def outK (r : Rule) (keys : List Ky) (t : Nat) : Kept → Ky
  | [] => (0, 0, 0)
  | c :: cs => match r with
    | .first => c.1
    | .old => (minR (rankO c) (cs.map rankO)).2
    | .far => (minR (rankF keys t c) (cs.map (rankF keys t))).2
theorem gone_eq (r : Rule) (keys : List Ky) (hl : keys.length ≤ 1000000) (t : Nat) (ht : t ≤ keys.length) (c : Ky × Nat) (cs : Kept) (hk : cs.length ≤ 1000000) : sem_gone [.list (keys.map kyD), .int (t : Int), .list ((c :: cs).map ksD), .str r.s] = .ok (kyD (outK r keys t (c :: cs))) := by
  have x0 : ixF (.list ((c :: cs).map ksD)) (.int 0) = some (ksD c) := f_ix_l _ 0 (by decide) (by simp)
  have x00 : ixF (ksD c) (.int 0) = some (kyD c.1) := f_ix0 _ _
  have x1 : ∀ q : Rk, ixF (rkD q) (.int 1) = some (kyD q.2) := fun q => f_ix1 _ _ _
  have s1 : eqF (.str "first") (.str "first") = some (.bool true) := by kernel_rfl
  have s2 : eqF (.str "old") (.str "first") = some (.bool false) := by kernel_rfl
  have s3 : eqF (.str "old") (.str "old") = some (.bool true) := by kernel_rfl
  have s4 : eqF (.str "far") (.str "first") = some (.bool false) := by kernel_rfl
  have s5 : eqF (.str "far") (.str "old") = some (.bool false) := by kernel_rfl
  cases r with
  | first =>
    show sem_gone [_, _, _, .str "first"] = .ok (kyD c.1)
    generalize (c :: cs).map ksD = L at x0
    simp -implicitDefEqProofs only [sem_gone, b_gone, s1, x0, x00, evs_, Option.bind_some, List.getElem?_cons_zero, List.getElem?_cons_succ, List.set_cons_zero, List.set_cons_succ, List.map_cons, List.map_nil, List.cons_append, List.nil_append, List.length_cons, List.length_nil, Nat.reduceAdd, Nat.reduceSub, Nat.reduceLeDiff, Nat.reduceLT, Bool.not_true, Bool.not_false, decide_true, decide_false]
  | old =>
    have lc : ∀ ρ : En, ρ.length = 6 → ρ[2]? = some (vl (.list ((c :: cs).map ksD))) → eLc [4, 5] (iSeq (eV 2)) (.tp [(.nm 4), (.nm 5)]) (eC (.bool true)) (eTup [(eV 5), (eV 4)]) ρ = .ok (.list ((c :: cs).map (rkD ∘ rankO))) := by
      intro ρ hlen e2
      refine eLc_mapT (c :: cs) ksD (rkD ∘ rankO) (by simp -implicitDefEqProofs only [e2, ap_iSeq, ap_eV, valO_val]; rfl) (by rw [List.length_cons]; omega) fun q _ => ⟨((wipeE ρ [4, 5]).set 4 (vl (kyD q.1))).set 5 (vi q.2), rfl, rfl, ?_⟩
      have g4 : (((wipeE ρ [4, 5]).set 4 (vl (kyD q.1))).set 5 (vi q.2))[4]? = some (vl (kyD q.1)) := by rw [List.getElem?_set_ne (by decide), List.getElem?_set_self (by rw [wipeE_length]; omega)]
      have g5 : (((wipeE ρ [4, 5]).set 4 (vl (kyD q.1))).set 5 (vi q.2))[5]? = some (vi q.2) := by rw [List.getElem?_set_self (by rw [List.length_set, wipeE_length]; omega)]
      generalize ((wipeE ρ [4, 5]).set 4 (vl (kyD q.1))).set 5 (vi q.2) = ρ2 at g4 g5 ⊢
      simp -implicitDefEqProofs only [g4, g5, evs_, Option.bind_some, List.getElem?_cons_zero, List.getElem?_cons_succ, List.set_cons_zero, List.set_cons_succ, List.map_cons, List.map_nil, List.cons_append, List.nil_append, List.length_cons, List.length_nil, Nat.reduceAdd, Nat.reduceSub, Nat.reduceLeDiff, Nat.reduceLT, Bool.not_true, Bool.not_false, decide_true, decide_false]
      rfl
    have mn : minDF [.list ((c :: cs).map (rkD ∘ rankO))] = some (rkD (minR (rankO c) (cs.map rankO))) := by
      rw [← List.map_map]
      exact min_rk (rankO c) (cs.map rankO)
    show sem_gone [_, _, _, .str "old"] = .ok (kyD (minR (rankO c) (cs.map rankO)).2)
    generalize (c :: cs).map (rkD ∘ rankO) = M at lc mn
    generalize (c :: cs).map ksD = L at lc
    simp -implicitDefEqProofs only [sem_gone, b_gone, s2, s3, evs_, Option.bind_some, List.getElem?_cons_zero, List.getElem?_cons_succ, List.set_cons_zero, List.set_cons_succ, List.map_cons, List.map_nil, List.cons_append, List.nil_append, List.length_cons, List.length_nil, Nat.reduceAdd, Nat.reduceSub, Nat.reduceLeDiff, Nat.reduceLT, Bool.not_true, Bool.not_false, decide_true, decide_false]
    rw [lc _ rfl rfl]
    simp -implicitDefEqProofs only [mn, x1, evs_, Option.bind_some, List.getElem?_cons_zero, List.getElem?_cons_succ, List.set_cons_zero, List.set_cons_succ, List.map_cons, List.map_nil, List.cons_append, List.nil_append, List.length_cons, List.length_nil, Nat.reduceAdd, Nat.reduceSub, Nat.reduceLeDiff, Nat.reduceLT, Bool.not_true, Bool.not_false, decide_true, decide_false]
  | far =>
    have lc : ∀ ρ : En, ρ.length = 6 → ρ[0]? = some (vl (.list (keys.map kyD))) → ρ[1]? = some (vi t) → ρ[2]? = some (vl (.list ((c :: cs).map ksD))) → eLc [4, 5] (iSeq (eV 2)) (.tp [(.nm 4), (.nm 5)]) (eC (.bool true)) (eTup [(eUn negF (eCall sem_next_use [(eV 0), (eV 1), (eV 4)])), (eV 4)]) ρ = .ok (.list ((c :: cs).map (rkD ∘ rankF keys t))) := by
      intro ρ hlen e0 e1 e2
      refine eLc_mapT (c :: cs) ksD (rkD ∘ rankF keys t) (by simp -implicitDefEqProofs only [e2, ap_iSeq, ap_eV, valO_val]; rfl) (by rw [List.length_cons]; omega) fun q _ => ⟨((wipeE ρ [4, 5]).set 4 (vl (kyD q.1))).set 5 (vi q.2), rfl, rfl, ?_⟩
      have g4 : (((wipeE ρ [4, 5]).set 4 (vl (kyD q.1))).set 5 (vi q.2))[4]? = some (vl (kyD q.1)) := by rw [List.getElem?_set_ne (by decide), List.getElem?_set_self (by rw [wipeE_length]; omega)]
      have g0 : (((wipeE ρ [4, 5]).set 4 (vl (kyD q.1))).set 5 (vi q.2))[0]? = some (vl (.list (keys.map kyD))) := by rw [List.getElem?_set_ne (by decide), List.getElem?_set_ne (by decide), wipeE_get _ _ _ (by decide), e0]
      have g1 : (((wipeE ρ [4, 5]).set 4 (vl (kyD q.1))).set 5 (vi q.2))[1]? = some (vi t) := by rw [List.getElem?_set_ne (by decide), List.getElem?_set_ne (by decide), wipeE_get _ _ _ (by decide), e1]
      generalize ((wipeE ρ [4, 5]).set 4 (vl (kyD q.1))).set 5 (vi q.2) = ρ2 at g4 g0 g1 ⊢
      have nu := next_use_eq keys hl t ht q.1
      simp -implicitDefEqProofs only [g4, g0, g1, nu, evs_, Option.bind_some, List.getElem?_cons_zero, List.getElem?_cons_succ, List.set_cons_zero, List.set_cons_succ, List.map_cons, List.map_nil, List.cons_append, List.nil_append, List.length_cons, List.length_nil, Nat.reduceAdd, Nat.reduceSub, Nat.reduceLeDiff, Nat.reduceLT, Bool.not_true, Bool.not_false, decide_true, decide_false]
      rfl
    have mn : minDF [.list ((c :: cs).map (rkD ∘ rankF keys t))] = some (rkD (minR (rankF keys t c) (cs.map (rankF keys t)))) := by
      rw [← List.map_map]
      exact min_rk (rankF keys t c) (cs.map (rankF keys t))
    show sem_gone [_, _, _, .str "far"] = .ok (kyD (minR (rankF keys t c) (cs.map (rankF keys t))).2)
    generalize (c :: cs).map (rkD ∘ rankF keys t) = M at lc mn
    generalize (c :: cs).map ksD = L at lc
    simp -implicitDefEqProofs only [sem_gone, b_gone, s4, s5, evs_, Option.bind_some, List.getElem?_cons_zero, List.getElem?_cons_succ, List.set_cons_zero, List.set_cons_succ, List.map_cons, List.map_nil, List.cons_append, List.nil_append, List.length_cons, List.length_nil, Nat.reduceAdd, Nat.reduceSub, Nat.reduceLeDiff, Nat.reduceLT, Bool.not_true, Bool.not_false, decide_true, decide_false]
    rw [lc _ rfl rfl rfl rfl]
    simp -implicitDefEqProofs only [mn, x1, evs_, Option.bind_some, List.getElem?_cons_zero, List.getElem?_cons_succ, List.set_cons_zero, List.set_cons_succ, List.map_cons, List.map_nil, List.cons_append, List.nil_append, List.length_cons, List.length_nil, Nat.reduceAdd, Nat.reduceSub, Nat.reduceLeDiff, Nat.reduceLT, Bool.not_true, Bool.not_false, decide_true, decide_false]
structure Fs where
  kept : Kept
  found : List Ky
def isK (k : Ky) (c : Kept) : Bool := decide (k ∈ c.map (·.1))
def stepF (r : Rule) (room : Nat) (keys : List Ky) (s : Fs) (q : Ky × Nat) : Fs :=
  if isK q.1 s.kept = true then ⟨s.kept.map fun c => (c.1, if c.1 = q.1 then q.2 else c.2), s.found⟩
  else ⟨(if s.kept.length = room then s.kept.filter (fun c => decide (c.1 ≠ outK r keys q.2 s.kept)) else s.kept) ++ [(q.1, q.2)], s.found ++ [q.1]⟩
def fetchK (r : Rule) (room : Nat) (keys : List Ky) : List Ky := (keys.zipIdx.foldl (stepF r room keys) ⟨[], []⟩).found
end VVlaw
namespace VVlaw
open PySem PySem.Spec L2 VV
open PyProof.Rows hiding St
theorem eq_ky (a b : Ky) : eqF (kyD a) (kyD b) = some (.bool (decide (a = b))) := by
  rw [f_eq (lay_kyD a) (lay_kyD b) (by decide), ky_eqv]
theorem ne_ky (a b : Ky) : neF (kyD a) (kyD b) = some (.bool (decide (a ≠ b))) := by
  rw [f_ne (lay_kyD a) (lay_kyD b) (by decide), ky_eqv]
  by_cases h : a = b <;> simp [h]
section
variable (r : Rule) (room : Nat) (keys : List Ky)
abbrev fE (kept : Kept) (found : List Ky) (o5 o6 o7 : Option Sl) : En := [vl (.list (keys.map kyD)), vi room, vl (.str r.s), vl (.list (kept.map ksD)), some (.own (.list (found.map kyD))), o5, o6, o7, none, none, none]
theorem step1 (h1 : 1 ≤ room) (hl : keys.length ≤ 1000000) (s : Fs) (hk : s.kept.length ≤ 1000000) (hf : s.found.length ≤ 1000000) (k : Ky) (t : Nat) (ht : t ≤ keys.length) (o7 : Option Sl) : ∃ p7 : Option Sl,
    lp_fetched_of_1 (fE r room keys s.kept s.found (vi t) (vl (kyD k)) o7) = .nx (fE r room keys (stepF r room keys s (k, t)).kept (stepF r room keys s (k, t)).found (vi t) (vl (kyD k)) p7) := by
  obtain ⟨kept, found⟩ := s
  simp -implicitDefEqProofs only at hk hf
  have sq : ∀ ρ : En, ρ[3]? = some (vl (.list (kept.map ksD))) → iSeq (eV 3) ρ = .ok (kept.map ksD) := fun ρ e => by simp -implicitDefEqProofs only [e, evs_, Option.bind_some, List.getElem?_cons_zero, List.getElem?_cons_succ, List.set_cons_zero, List.set_cons_succ, List.map_cons, List.map_nil, List.cons_append, List.nil_append, List.length_cons, List.length_nil, Nat.reduceAdd, Nat.reduceSub, Nat.reduceLeDiff, Nat.reduceLT, Bool.not_true, Bool.not_false, decide_true, decide_false]
  have bd : ∀ (ρ : En) (c : Ky × Nat), ρ.length = 11 → ∃ ρ2 : En, bindT (.tp [(.nm 8), (.nm 9)]) (ksD c) (wipeE ρ [8, 9]) = some ρ2 ∧ ρ2[8]? = some (vl (kyD c.1)) ∧ ρ2[9]? = some (vi c.2) ∧ ∀ j, j ≠ 8 → j ≠ 9 → ρ2[j]? = ρ[j]? := fun ρ c hlen => by
    refine ⟨((wipeE ρ [8, 9]).set 8 (vl (kyD c.1))).set 9 (vi c.2), rfl, ?_, ?_, fun j n1 n2 => ?_⟩
    · rw [List.getElem?_set_ne (by decide), List.getElem?_set_self (by rw [wipeE_length]; omega)]
    · rw [List.getElem?_set_self (by rw [List.length_set, wipeE_length]; omega)]
    · rw [List.getElem?_set_ne (fun z => n2 z.symm), List.getElem?_set_ne (fun z => n1 z.symm), wipeE_get _ _ _ (by simp [n1, n2])]
  have c1 : ∀ ρ : En, ρ.length = 11 → ρ[3]? = some (vl (.list (kept.map ksD))) → eLc [8, 9] (iSeq (eV 3)) (.tp [(.nm 8), (.nm 9)]) (eC (.bool true)) (eV 8) ρ = .ok (.list ((kept.map (·.1)).map kyD)) := by
    intro ρ hlen e3
    rw [List.map_map]
    refine eLc_mapT kept ksD (kyD ∘ Prod.fst) (sq ρ e3) (by omega) fun c _ => ?_
    obtain ⟨ρ2, b, g8, _, _⟩ := bd ρ c hlen
    exact ⟨ρ2, b, rfl, by simp -implicitDefEqProofs only [g8, evs_, Option.bind_some, List.getElem?_cons_zero, List.getElem?_cons_succ, List.set_cons_zero, List.set_cons_succ, List.map_cons, List.map_nil, List.cons_append, List.nil_append, List.length_cons, List.length_nil, Nat.reduceAdd, Nat.reduceSub, Nat.reduceLeDiff, Nat.reduceLT, Bool.not_true, Bool.not_false, decide_true, decide_false]; rfl⟩
  have inn := in_ky (kept.map (·.1)) k
  unfold stepF isK
  simp -implicitDefEqProofs only
  by_cases hin : k ∈ kept.map (·.1)
  · rw [decide_eq_true hin] at inn
    rw [if_pos (decide_eq_true hin)]
    refine ⟨o7, ?_⟩
    have c2 : ∀ ρ : En, ρ.length = 11 → ρ[3]? = some (vl (.list (kept.map ksD))) → ρ[5]? = some (vi t) → ρ[6]? = some (vl (kyD k)) → eLc [8, 9] (iSeq (eV 3)) (.tp [(.nm 8), (.nm 9)]) (eC (.bool true)) (eTup [(eV 8), (eIf (eOp eqF (eV 8) (eV 6)) (eV 5) (eV 9))]) ρ = .ok (.list ((kept.map fun c => (c.1, if c.1 = k then t else c.2)).map ksD)) := by
      intro ρ hlen e3 e5 e6
      rw [List.map_map]
      refine eLc_mapT kept ksD _ (sq ρ e3) (by omega) fun c _ => ?_
      obtain ⟨ρ2, b, g8, g9, g⟩ := bd ρ c hlen
      refine ⟨ρ2, b, rfl, ?_⟩
      have g5 : ρ2[5]? = _ := (g 5 (by decide) (by decide)).trans e5
      have g6 : ρ2[6]? = _ := (g 6 (by decide) (by decide)).trans e6
      have q := eq_ky c.1 k
      by_cases hc : c.1 = k
      · rw [decide_eq_true hc] at q
        simp -implicitDefEqProofs only [g5, g6, g8, g9, q, evs_, Option.bind_some, List.getElem?_cons_zero, List.getElem?_cons_succ, List.set_cons_zero, List.set_cons_succ, List.map_cons, List.map_nil, List.cons_append, List.nil_append, List.length_cons, List.length_nil, Nat.reduceAdd, Nat.reduceSub, Nat.reduceLeDiff, Nat.reduceLT, Bool.not_true, Bool.not_false, decide_true, decide_false]
        simp -implicitDefEqProofs only [Function.comp, if_pos hc]
        rfl
      · rw [decide_eq_false hc] at q
        simp -implicitDefEqProofs only [g5, g6, g8, g9, q, evs_, Option.bind_some, List.getElem?_cons_zero, List.getElem?_cons_succ, List.set_cons_zero, List.set_cons_succ, List.map_cons, List.map_nil, List.cons_append, List.nil_append, List.length_cons, List.length_nil, Nat.reduceAdd, Nat.reduceSub, Nat.reduceLeDiff, Nat.reduceLT, Bool.not_true, Bool.not_false, decide_true, decide_false]
        simp -implicitDefEqProofs only [Function.comp, if_neg hc]
        rfl
    unfold lp_fetched_of_1 fE
    simp -implicitDefEqProofs only [evs_, Option.bind_some, List.getElem?_cons_zero, List.getElem?_cons_succ, List.set_cons_zero, List.set_cons_succ, List.map_cons, List.map_nil, List.cons_append, List.nil_append, List.length_cons, List.length_nil, Nat.reduceAdd, Nat.reduceSub, Nat.reduceLeDiff, Nat.reduceLT, Bool.not_true, Bool.not_false, decide_true, decide_false]
    rw [c1 _ rfl rfl]
    simp -implicitDefEqProofs only [inn, evs_, Option.bind_some, List.getElem?_cons_zero, List.getElem?_cons_succ, List.set_cons_zero, List.set_cons_succ, List.map_cons, List.map_nil, List.cons_append, List.nil_append, List.length_cons, List.length_nil, Nat.reduceAdd, Nat.reduceSub, Nat.reduceLeDiff, Nat.reduceLT, Bool.not_true, Bool.not_false, decide_true, decide_false]
    rw [c2 _ rfl rfl rfl rfl]
    simp -implicitDefEqProofs only [evs_, Option.bind_some, List.getElem?_cons_zero, List.getElem?_cons_succ, List.set_cons_zero, List.set_cons_succ, List.map_cons, List.map_nil, List.cons_append, List.nil_append, List.length_cons, List.length_nil, Nat.reduceAdd, Nat.reduceSub, Nat.reduceLeDiff, Nat.reduceLT, Bool.not_true, Bool.not_false, decide_true, decide_false]
  · rw [decide_eq_false hin] at inn
    rw [if_neg (by rw [decide_eq_false hin]; decide)]
    have ap : ∀ ρ : En, appO 4 ρ (some (some (.own (.list (found.map kyD))))) (.ok (kyD k)) = .nx (ρ.set 4 (some (.own (.list ((found ++ [k]).map kyD))))) := fun ρ => by
      rw [appO_ok _ _ _ _ (by rw [List.length_map]; omega), List.map_append]
      rfl
    have ln : lenF [.list (kept.map ksD)] = some (.int (kept.length : Int)) := by rw [f_len_l, List.length_map]
    have qi := f_eqI (kept.length : Int) (room : Int)
    have ad : ∀ K : Kept, K.length ≤ 1000000 → addF (.list (K.map ksD)) (.list [.tuple [kyD k, .int (t : Int)]]) = some (.list ((K ++ [(k, t)]).map ksD)) := fun K hK => by
      rw [f_addL' _ _ (by rw [List.length_map]; simp; omega), List.map_append]
      rfl
    by_cases hr : kept.length = room
    · rw [if_pos hr]
      rw [decide_eq_true (by omega)] at qi
      obtain ⟨c, cs, rfl⟩ : ∃ c cs, kept = c :: cs := by
        cases kept with
        | nil => simp at hr; omega
        | cons c cs => exact ⟨c, cs, rfl⟩
      rw [hr] at ln
      have dq : decide ((room : Int) = (room : Int)) = true := decide_eq_true rfl
      have go := gone_eq r keys hl t ht c cs (by rw [List.length_cons] at hk; omega)
      generalize hout : outK r keys t (c :: cs) = out at *
      refine ⟨vl (kyD out), ?_⟩
      have c3 : ∀ ρ : En, ρ.length = 11 → ρ[3]? = some (vl (.list ((c :: cs).map ksD))) → ρ[7]? = some (vl (kyD out)) → eLc [10] (iSeq (eV 3)) (.nm 10) (eOp neF (eOp ixF (eV 10) (eC (.int 0))) (eV 7)) (eV 10) ρ = .ok (.list (((c :: cs).filter fun q => decide (q.1 ≠ out)).map ksD)) := by
        intro ρ hlen e3 e7
        refine eLc_filtT (c :: cs) ksD ksD (fun q => decide (q.1 ≠ out)) (sq ρ e3) (by omega) fun q _ => ⟨(wipeE ρ [10]).set 10 (vl (ksD q)), bT_nm .., ?_, fun _ => ?_⟩
        · have g10 : ((wipeE ρ [10]).set 10 (vl (ksD q)))[10]? = some (vl (ksD q)) := List.getElem?_set_self (by rw [wipeE_length]; omega)
          have g7 : ((wipeE ρ [10]).set 10 (vl (ksD q)))[7]? = some (vl (kyD out)) := by rw [List.getElem?_set_ne (by decide), wipeE_get _ _ _ (by decide), e7]
          have x0 : ixF (ksD q) (.int 0) = some (kyD q.1) := f_ix0 _ _
          generalize (wipeE ρ [10]).set 10 (vl (ksD q)) = ρ2 at g10 g7 ⊢
          simp -implicitDefEqProofs only [g10, g7, x0, ne_ky, evs_, Option.bind_some, List.getElem?_cons_zero, List.getElem?_cons_succ, List.set_cons_zero, List.set_cons_succ, List.map_cons, List.map_nil, List.cons_append, List.nil_append, List.length_cons, List.length_nil, Nat.reduceAdd, Nat.reduceSub, Nat.reduceLeDiff, Nat.reduceLT, Bool.not_true, Bool.not_false, decide_true, decide_false]
        · have g10 : ((wipeE ρ [10]).set 10 (vl (ksD q)))[10]? = some (vl (ksD q)) := List.getElem?_set_self (by rw [wipeE_length]; omega)
          generalize (wipeE ρ [10]).set 10 (vl (ksD q)) = ρ2 at g10 ⊢
          simp -implicitDefEqProofs only [g10, evs_, Option.bind_some, List.getElem?_cons_zero, List.getElem?_cons_succ, List.set_cons_zero, List.set_cons_succ, List.map_cons, List.map_nil, List.cons_append, List.nil_append, List.length_cons, List.length_nil, Nat.reduceAdd, Nat.reduceSub, Nat.reduceLeDiff, Nat.reduceLT, Bool.not_true, Bool.not_false, decide_true, decide_false]
      have ad' := ad ((c :: cs).filter fun q => decide (q.1 ≠ out)) (Nat.le_trans (List.length_filter_le _ _) hk)
      generalize ((c :: cs).filter fun q => decide (q.1 ≠ out)) = K2 at *
      generalize hL : (c :: cs).map ksD = L at *
      generalize (c :: cs).map (·.1) = M at *
      unfold lp_fetched_of_1 fE
      simp -implicitDefEqProofs only [hL, evs_, Option.bind_some, List.getElem?_cons_zero, List.getElem?_cons_succ, List.set_cons_zero, List.set_cons_succ, List.map_cons, List.map_nil, List.cons_append, List.nil_append, List.length_cons, List.length_nil, Nat.reduceAdd, Nat.reduceSub, Nat.reduceLeDiff, Nat.reduceLT, Bool.not_true, Bool.not_false, decide_true, decide_false]
      rw [c1 _ rfl rfl]
      simp -implicitDefEqProofs only [inn, ap, ln, dq, go, evs_, Option.bind_some, List.getElem?_cons_zero, List.getElem?_cons_succ, List.set_cons_zero, List.set_cons_succ, List.map_cons, List.map_nil, List.cons_append, List.nil_append, List.length_cons, List.length_nil, Nat.reduceAdd, Nat.reduceSub, Nat.reduceLeDiff, Nat.reduceLT, Bool.not_true, Bool.not_false, decide_true, decide_false]
      rw [c3 _ rfl rfl rfl]
      simp -implicitDefEqProofs only [ad', evs_, Option.bind_some, List.getElem?_cons_zero, List.getElem?_cons_succ, List.set_cons_zero, List.set_cons_succ, List.map_cons, List.map_nil, List.cons_append, List.nil_append, List.length_cons, List.length_nil, Nat.reduceAdd, Nat.reduceSub, Nat.reduceLeDiff, Nat.reduceLT, Bool.not_true, Bool.not_false, decide_true, decide_false]
    · rw [if_neg hr]
      rw [decide_eq_false (by omega)] at qi
      refine ⟨o7, ?_⟩
      have ad' := ad kept hk
      unfold lp_fetched_of_1 fE
      simp -implicitDefEqProofs only [evs_, Option.bind_some, List.getElem?_cons_zero, List.getElem?_cons_succ, List.set_cons_zero, List.set_cons_succ, List.map_cons, List.map_nil, List.cons_append, List.nil_append, List.length_cons, List.length_nil, Nat.reduceAdd, Nat.reduceSub, Nat.reduceLeDiff, Nat.reduceLT, Bool.not_true, Bool.not_false, decide_true, decide_false]
      rw [c1 _ rfl rfl]
      simp -implicitDefEqProofs only [inn, ap, ln, qi, ad', evs_, Option.bind_some, List.getElem?_cons_zero, List.getElem?_cons_succ, List.set_cons_zero, List.set_cons_succ, List.map_cons, List.map_nil, List.cons_append, List.nil_append, List.length_cons, List.length_nil, Nat.reduceAdd, Nat.reduceSub, Nat.reduceLeDiff, Nat.reduceLT, Bool.not_true, Bool.not_false, decide_true, decide_false]
theorem step_len (s : Fs) (q : Ky × Nat) : (stepF r room keys s q).kept.length ≤ s.kept.length + 1 ∧ (stepF r room keys s q).found.length ≤ s.found.length + 1 := by
  unfold stepF
  split
  · simp
  · refine ⟨?_, by simp⟩
    simp -implicitDefEqProofs only [List.length_append, List.length_singleton]
    split
    · have := List.length_filter_le (fun c : Ky × Nat => decide (c.1 ≠ outK r keys q.2 s.kept)) s.kept
      omega
    · omega
theorem fold_step_len : ∀ (qs : List (Ky × Nat)) (s : Fs), (qs.foldl (stepF r room keys) s).kept.length ≤ s.kept.length + qs.length ∧ (qs.foldl (stepF r room keys) s).found.length ≤ s.found.length + qs.length
  | [], s => ⟨by simp, by simp⟩
  | q :: qs, s => by
    have h1 := fold_step_len qs (stepF r room keys s q)
    have h2 := step_len r room keys s q
    rw [List.foldl_cons, List.length_cons]
    omega
theorem fetched_of_eq (h1 : 1 ≤ room) (hl : keys.length ≤ 1000000) : sem_fetched_of [.list (keys.map kyD), .int (room : Int), .str r.s] = .ok (.list ((fetchK r room keys).map kyD)) := by
  obtain ⟨ρ', e, o5, o6, o7, rfl⟩ := forGo_acc (t := .tp [(.nm 5), (.nm 6)]) (f := lp_fetched_of_1) (fun q : Ky × Nat => PyData.tuple [.int (q.2 : Nat), kyD q.1]) (fun q => [q])
    (fun ac ρ => ∃ o5 o6 o7 : Option Sl, ρ = fE r room keys (ac.foldl (stepF r room keys) ⟨[], []⟩).kept (ac.foldl (stepF r room keys) ⟨[], []⟩).found o5 o6 o7) keys.zipIdx [] (fE r room keys [] [] none none none) ⟨none, none, none, rfl⟩ (by
      rintro pre q post hp ρ ⟨o5, o6, o7, rfl⟩
      rw [flat1 (fun q : Ky × Nat => q), List.map_id'] at *
      have lp := pre_len hp
      rw [List.length_zipIdx] at lp
      have fl := fold_step_len r room keys pre ⟨[], []⟩
      simp -implicitDefEqProofs only [List.length_nil] at fl
      have hq : q.2 ≤ keys.length := by
        have hm : q ∈ keys.zipIdx := by
          rw [List.nil_append] at hp
          rw [hp]
          simp
        have := List.snd_lt_of_mem_zipIdx hm
        omega
      obtain ⟨p7, st⟩ := step1 r room keys h1 hl (pre.foldl (stepF r room keys) ⟨[], []⟩) (by omega) (by omega) q.1 q.2 hq o7
      refine ⟨_, _, rfl, st, vi q.2, vl (kyD q.1), p7, ?_⟩
      rw [List.foldl_append]
      rfl)
  rw [flat1 (fun q : Ky × Nat => q), List.map_id', List.nil_append] at e
  have en := enumD_map kyD keys 0
  have it : (RL.ok [.list (keys.map kyD)]).items enumF = .ok (keys.zipIdx.map fun q : Ky × Nat => PyData.tuple [.int (q.2 : Nat), kyD q.1]) := by
    rw [items_enL, en]
  unfold fE at e
  simp -implicitDefEqProofs only [List.map_nil] at e
  simp -implicitDefEqProofs only [sem_fetched_of, b_fetched_of, ap_iEnum, it, e, evs_, Option.bind_some, List.getElem?_cons_zero, List.getElem?_cons_succ, List.set_cons_zero, List.set_cons_succ, List.map_cons, List.map_nil, List.cons_append, List.nil_append, List.length_cons, List.length_nil, Nat.reduceAdd, Nat.reduceSub, Nat.reduceLeDiff, Nat.reduceLT, Bool.not_true, Bool.not_false, decide_true, decide_false]
  rfl
end
structure Win where
  l : Nat
  x : Nat
  y : Nat
  wd : Nat
  hg : Nat
def Win.d (v : Win) : D := winD v.l v.x v.y v.wd v.hg
structure Win.Ok (v : Win) (t : Nat) : Prop where
  l : v.l ≤ t
  x : v.x ≤ 120
  y : v.y ≤ 120
  w1 : 1 ≤ v.wd
  w2 : v.wd ≤ 16
  g1 : 1 ≤ v.hg
  g2 : v.hg ≤ 16
def needW (p : Pic) (h w side t : Nat) (v : Win) : List Ky := neededL p h w side t v.l v.x v.y v.wd v.hg
def tripK (p : Pic) (h w side t : Nat) (vs : List Win) : List Ky := vs.flatMap (needW p h w side t)
section
variable {p : Pic} {h w : Nat} (P : Pc2 p h w) {side t : Nat} (hs : okSide side) (T : Top h w side t)
include P hs T
theorem needW_len (v : Win) : (needW p h w side t v).length ≤ 1000000 := by
  have b := hs.bd
  have t6 := T.le6 P.h2 P.w2 b.1
  exact Nat.le_trans (List.length_filter_le _ _) (pyK_len6 P (by omega) (by omega))
theorem keys_of_eq (vs : List Win) (hv : ∀ v ∈ vs, v.Ok t) (hk : (tripK p h w side t vs).length ≤ 10000000) : sem_keys_of [pyrZ p h w side t, .list (vs.map Win.d)] = .ok (.list ((tripK p h w side t vs).map kyD)) := by
  have b := hs.bd
  have t6 := T.le6 P.h2 P.w2 b.1
  obtain ⟨ρ', e, o3, rfl⟩ := forGo_acc (t := .nm 3) (f := lp_keys_of_1) Win.d (needW p h w side t) (fun ac ρ => ∃ o3 : Option Sl, ρ = [vl (pyrZ p h w side t), vl (.list (vs.map Win.d)), some (.own (.list (ac.map kyD))), o3]) vs [] [vl (pyrZ p h w side t), vl (.list (vs.map Win.d)), some (.own (.list [])), none] ⟨none, rfl⟩ (by
    rintro pre v post hp ρ ⟨o3, rfl⟩
    have hm : v ∈ vs := by
      rw [List.nil_append] at hp
      rw [hp]
      simp
    have V := hv v hm
    have lv := needW_len P hs T v
    have lpre : (pre.flatMap (needW p h w side t)).length ≤ 10000000 := by
      refine Nat.le_trans ?_ hk
      rw [List.nil_append] at hp
      unfold tripK
      rw [hp, List.flatMap_append, List.length_append]
      omega
    have ne : sem_needed_of [pyrZ p h w side t, v.d] = .ok (.list ((needW p h w side t v).map kyD)) := needed_of_eq P hs v.l v.x v.y v.wd v.hg (by have := V.x; omega) (by have := V.y; omega) (by have := V.w2; omega) (by have := V.g2; omega) (Nat.le_trans (pyK_len6 P (t := t) (side := side) (by omega) (by omega)) (by decide))
    have ex := extO_ok 2 [vl (pyrZ p h w side t), vl (.list (vs.map Win.d)), some (.own (.list ((pre.flatMap (needW p h w side t)).map kyD))), vl v.d] ((pre.flatMap (needW p h w side t)).map kyD) ((needW p h w side t v).map kyD) (by rw [List.length_map, List.length_map]; omega)
    refine ⟨_, [vl (pyrZ p h w side t), vl (.list (vs.map Win.d)), some (.own (.list ((pre.flatMap (needW p h w side t) ++ needW p h w side t v).map kyD))), vl v.d], bT_nm .., ?_, vl v.d, rfl⟩
    rw [List.map_append]
    generalize pyrZ p h w side t = dz at *
    simp -implicitDefEqProofs only [lp_keys_of_1, ne, ex, evs_, Option.bind_some, List.getElem?_cons_zero, List.getElem?_cons_succ, List.set_cons_zero, List.set_cons_succ, List.map_cons, List.map_nil, List.cons_append, List.nil_append, List.length_cons, List.length_nil, Nat.reduceAdd, Nat.reduceSub, Nat.reduceLeDiff, Nat.reduceLT, Bool.not_true, Bool.not_false, decide_true, decide_false])
  rw [List.nil_append] at e
  generalize pyrZ p h w side t = dz at *
  simp -implicitDefEqProofs only [sem_keys_of, b_keys_of, e, evs_, Option.bind_some, List.getElem?_cons_zero, List.getElem?_cons_succ, List.set_cons_zero, List.set_cons_succ, List.map_cons, List.map_nil, List.cons_append, List.nil_append, List.length_cons, List.length_nil, Nat.reduceAdd, Nat.reduceSub, Nat.reduceLeDiff, Nat.reduceLT, Bool.not_true, Bool.not_false, decide_true, decide_false]
  rfl
theorem look_trip_eq (vs : List Win) (hv : ∀ v ∈ vs, v.Ok t) (h12 : vs.length ≤ 12) : sem_look_trip [pyrZ p h w side t, .list (vs.map Win.d)] = .ok .none := by
  have lk := look_pyramids_eq P hs T
  have ln : lenF [.list (vs.map Win.d)] = some (.int (vs.length : Int)) := by rw [f_len_l, List.length_map]
  have gt : decide ((12 : Int) < (vs.length : Int)) = false := decide_eq_false (by omega)
  have lc : ∀ ρ : En, ρ.length = 3 → ρ[0]? = some (vl (pyrZ p h w side t)) → ρ[1]? = some (vl (.list (vs.map Win.d))) → eLc [2] (iSeq (eV 1)) (.nm 2) (gNot (gTru (eCall sem_is_window [(eV 0), (eV 2)]))) (eV 2) ρ = .ok (.list []) := by
    intro ρ hl e0 e1
    refine eLc_noneA vs Win.d (by simp -implicitDefEqProofs only [e1, evs_, Option.bind_some, List.getElem?_cons_zero, List.getElem?_cons_succ, List.set_cons_zero, List.set_cons_succ, List.map_cons, List.map_nil, List.cons_append, List.nil_append, List.length_cons, List.length_nil, Nat.reduceAdd, Nat.reduceSub, Nat.reduceLeDiff, Nat.reduceLT, Bool.not_true, Bool.not_false, decide_true, decide_false]) fun v hm => ?_
    have V := hv v hm
    have iw : sem_is_window [pyrZ p h w side t, v.d] = .ok (.bool true) := is_window_eq P hs T v.l v.x v.y v.wd v.hg V.l V.x V.y V.w1 V.w2 V.g1 V.g2
    have g0 : ((wipeE ρ [2]).set 2 (vl v.d))[0]? = some (vl (pyrZ p h w side t)) := by rw [List.getElem?_set_ne (by decide), wipeE_get _ _ _ (by decide), e0]
    have g2 : ((wipeE ρ [2]).set 2 (vl v.d))[2]? = some (vl v.d) := List.getElem?_set_self (by rw [wipeE_length]; omega)
    generalize (wipeE ρ [2]).set 2 (vl v.d) = ρ2 at g0 g2 ⊢
    simp -implicitDefEqProofs only [g0, g2, iw, evs_, Option.bind_some, List.getElem?_cons_zero, List.getElem?_cons_succ, List.set_cons_zero, List.set_cons_succ, List.map_cons, List.map_nil, List.cons_append, List.nil_append, List.length_cons, List.length_nil, Nat.reduceAdd, Nat.reduceSub, Nat.reduceLeDiff, Nat.reduceLT, Bool.not_true, Bool.not_false, decide_true, decide_false]
  have tr : truR (.list []) = .ok (.bool false) := rfl
  generalize pyrZ p h w side t = dz at *
  simp -implicitDefEqProofs only [sem_look_trip, b_look_trip, lk, ln, gt, evs_, Option.bind_some, List.getElem?_cons_zero, List.getElem?_cons_succ, List.set_cons_zero, List.set_cons_succ, List.map_cons, List.map_nil, List.cons_append, List.nil_append, List.length_cons, List.length_nil, Nat.reduceAdd, Nat.reduceSub, Nat.reduceLeDiff, Nat.reduceLT, Bool.not_true, Bool.not_false, decide_true, decide_false]
  rw [lc _ rfl rfl rfl]
  simp -implicitDefEqProofs only [evs_, Option.bind_some, List.getElem?_cons_zero, List.getElem?_cons_succ, List.set_cons_zero, List.set_cons_succ, List.map_cons, List.map_nil, List.cons_append, List.nil_append, List.length_cons, List.length_nil, Nat.reduceAdd, Nat.reduceSub, Nat.reduceLeDiff, Nat.reduceLT, Bool.not_true, Bool.not_false, decide_true, decide_false]
  rfl
theorem fetched_eq (vs : List Win) (hv : ∀ v ∈ vs, v.Ok t) (h12 : vs.length ≤ 12) (hk : (tripK p h w side t vs).length ≤ 1000000) (r : Rule) (room : Nat) (r1 : 1 ≤ room) (r2 : room ≤ 40) : sem_fetched [pyrZ p h w side t, .list (vs.map Win.d), .int (room : Int), .str r.s] = .ok (.list ((fetchK r room (tripK p h w side t vs)).map kyD)) := by
  have lk := look_trip_eq P hs T vs hv h12
  have wi : sem_is_within [.int (room : Int), .int 1, .int 40] = .ok (.bool true) := by
    rw [is_within_eq]
    simp
    omega
  have ks := keys_of_eq P hs T vs hv (by omega)
  have fo := fetched_of_eq r room (tripK p h w side t vs) r1 hk
  have isS : isiO isStr (.ok (.str r.s)) = .ok (.bool true) := rfl
  have ic : inCF true [.str "old", .str "far", .str "first"] (.str r.s) = some (.bool false) := by cases r <;> kernel_rfl
  generalize pyrZ p h w side t = dz at *
  simp -implicitDefEqProofs only [sem_fetched, b_fetched, lk, wi, isS, ic, ks, fo, evs_, Option.bind_some, List.getElem?_cons_zero, List.getElem?_cons_succ, List.set_cons_zero, List.set_cons_succ, List.map_cons, List.map_nil, List.cons_append, List.nil_append, List.length_cons, List.length_nil, Nat.reduceAdd, Nat.reduceSub, Nat.reduceLeDiff, Nat.reduceLT, Bool.not_true, Bool.not_false, decide_true, decide_false]
end
end VVlaw
namespace VVlaw
open PySem PySem.Spec L2 VV
open PyProof.Rows hiding St
theorem nodup_sub_len {α : Type} [DecidableEq α] : ∀ {xs ys : List α}, xs.Nodup → (∀ x ∈ xs, x ∈ ys) → xs.length ≤ ys.length
  | [], _, _, _ => by simp
  | x :: xs, ys, nd, sub => by
    obtain ⟨nx, nd'⟩ := List.nodup_cons.mp nd
    have hx : x ∈ ys := sub x (by simp)
    have ih := nodup_sub_len (xs := xs) (ys := ys.erase x) nd' fun z hz => by
      have ne : z ≠ x := fun e => nx (e ▸ hz)
      exact (List.mem_erase_of_ne ne).mpr (sub z (by simp [hz]))
    rw [List.length_erase_of_mem hx] at ih
    have : 0 < ys.length := List.length_pos_of_mem hx
    rw [List.length_cons]
    omega
theorem needW_nodup (p : Pic) (h w side t : Nat) (v : Win) : (needW p h w side t v).Nodup := (pyK_nodup p h w side t).sublist List.filter_sublist
theorem needW_few {p : Pic} {h w side t : Nat} {v : Win} (s2 : 2 ≤ side) (hw : v.wd ≤ 4) (hh : v.hg ≤ 3) : (needW p h w side t v).length ≤ 6 := by
  refine nodup_sub_len (ys := [(v.l, v.x / side, v.y / side), (v.l, v.x / side + 1, v.y / side), (v.l, v.x / side + 2, v.y / side), (v.l, v.x / side, v.y / side + 1), (v.l, v.x / side + 1, v.y / side + 1), (v.l, v.x / side + 2, v.y / side + 1)]) (needW_nodup p h w side t v) fun k hk => ?_
  have hk' := (List.mem_filter.mp hk).2
  rw [decide_eq_true_eq, mem_needK] at hk'
  obtain ⟨i, j, hi, hj, rfl⟩ := hk'
  have ex : (v.x + i) / side = v.x / side ∨ (v.x + i) / side = v.x / side + 1 ∨ (v.x + i) / side = v.x / side + 2 := by
    have h1 : v.x / side ≤ (v.x + i) / side := Nat.div_le_div_right (by omega)
    have h2 : (v.x + i) / side ≤ (v.x + 2 * side) / side := by
      have : i ≤ 2 * side - 1 := by omega
      exact Nat.div_le_div_right (by omega)
    rw [Nat.add_mul_div_right _ _ (by omega)] at h2
    omega
  have ey : (v.y + j) / side = v.y / side ∨ (v.y + j) / side = v.y / side + 1 := by
    have h1 : v.y / side ≤ (v.y + j) / side := Nat.div_le_div_right (by omega)
    have h2 : (v.y + j) / side ≤ (v.y + 1 * side) / side := Nat.div_le_div_right (by omega)
    rw [Nat.add_mul_div_right _ _ (by omega)] at h2
    omega
  rcases ex with e | e | e <;> rcases ey with e' | e' <;> rw [e, e'] <;> simp
theorem flat_few {α β : Type} (g : α → List β) (c : Nat) : ∀ xs : List α, (∀ a ∈ xs, (g a).length ≤ c) → (xs.flatMap g).length ≤ xs.length * c
  | [], _ => by simp
  | x :: xs, h => by
    have h1 := h x (by simp)
    have h2 := flat_few g c xs fun a ha => h a (by simp [ha])
    rw [List.flatMap_cons, List.length_append, List.length_cons, Nat.succ_mul]
    omega
structure Win.Sm (v : Win) (t : Nat) : Prop extends v.Ok t where
  w4 : v.wd ≤ 4
  g3 : v.hg ≤ 3
theorem tripK_few {p : Pic} {h w side t : Nat} (s2 : 2 ≤ side) {vs : List Win} (hv : ∀ v ∈ vs, v.Sm t) : (tripK p h w side t vs).length ≤ vs.length * 6 :=
  flat_few _ 6 vs fun v hm => needW_few s2 (hv v hm).w4 (hv v hm).g3
theorem trip_eq {r : List Int} (R : Rw r) (top : Nat) (htop : top ≤ 100) : ∃ vs : List Win, sem__law_trip [.list (r.map PyData.int), .int 1, .int (top : Int)] = .ok (.list (vs.map Win.d)) ∧ vs.length ≤ 7 ∧ ∀ v ∈ vs, v.Sm top := by
  have at_ : ∀ j : Int, 0 ≤ j → j < 60 → ∃ v, ixF (.list (r.map PyData.int)) (.int j) = some (.int v) ∧ 0 ≤ v ∧ v < 1000 := fun j h0 h => ⟨_, R.at j h0 h, R.bdAt _⟩
  obtain ⟨a51, e51, b51⟩ := at_ 51 (by decide) (by decide)
  obtain ⟨a52, e52, b52⟩ := at_ 52 (by decide) (by decide)
  obtain ⟨a53, e53, b53⟩ := at_ 53 (by decide) (by decide)
  obtain ⟨a1, e1, b1⟩ := at_ 1 (by decide) (by decide)
  have m51 : modF (.int (1 + 50)) (.int 60) = some (.int 51) := by kernel_rfl
  have m52 : modF (.int (1 + 51)) (.int 60) = some (.int 52) := by kernel_rfl
  have m53 : modF (.int (1 + 52)) (.int 60) = some (.int 53) := by kernel_rfl
  have m1 : modF (.int 1) (.int 60) = some (.int 1) := by kernel_rfl
  have ml := f_modP a51 ((top : Int) + 1) (by omega)
  have hl0 : 0 ≤ a51 % ((top : Int) + 1) ∧ a51 % ((top : Int) + 1) < (top : Int) + 1 := ⟨Int.emod_nonneg _ (by omega), Int.emod_lt_of_pos _ (by omega)⟩
  have rg := rng1_ok (a1 % 8) (by omega) (by omega)
  obtain ⟨ρ', e, vs, l, x, y, o7, o8, o9, hlen, hv, hl, hx, hy, rfl⟩ := forGo_rng (i := 7) (f := lp__law_trip_1) (lo := 0) (n := (a1 % 8).toNat)
    (fun k ρ => ∃ (vs : List Win) (l x y : Nat) (o7 o8 o9 : Option Sl), vs.length = k ∧ (∀ v ∈ vs, v.Sm top) ∧ l ≤ top ∧ x ≤ 8 + 2 * k ∧ y ≤ 8 + 2 * k ∧ ρ = [vl (.list (r.map PyData.int)), vi 1, vi top, vi l, vi x, vi y, some (.own (.list (vs.map Win.d))), o7, o8, o9])
    (ρ := [vl (.list (r.map PyData.int)), vi 1, vi top, vi (a51 % ((top : Int) + 1)), vi (a52 % 9), vi (a53 % 9), some (.own (.list [])), none, none, none])
    ⟨[], (a51 % ((top : Int) + 1)).toNat, (a52 % 9).toNat, (a53 % 9).toNat, none, none, none, rfl, fun v hv => by simp at hv, by omega, by omega, by omega, by
      rw [Int.toNat_of_nonneg hl0.1, Int.toNat_of_nonneg (by omega), Int.toNat_of_nonneg (by omega)]
      rfl⟩ (by
      rintro k ρ hk ⟨vs, l, x, y, o7, o8, o9, hlen, hv, hl, hx, hy, rfl⟩
      have k7 : k < 7 := by omega
      obtain ⟨c0, f0, g0⟩ := at_ ((2 + 5 * (k : Int)) % 60) (by omega) (by omega)
      obtain ⟨c1, f1, g1⟩ := at_ ((2 + 5 * (k : Int) + 1) % 60) (by omega) (by omega)
      obtain ⟨c2, f2, g2⟩ := at_ ((2 + 5 * (k : Int) + 2) % 60) (by omega) (by omega)
      obtain ⟨c3, f3, g3⟩ := at_ ((2 + 5 * (k : Int) + 3) % 60) (by omega) (by omega)
      obtain ⟨c4, f4, g4⟩ := at_ ((2 + 5 * (k : Int) + 4) % 60) (by omega) (by omega)
      have mu : mulF (.int 5) (.int (0 + (k : Int))) = some (.int (5 * (k : Int))) := by rw [f_mul _ _ (by omega)]; congr 2; omega
      have ad : (1 : Int) + 1 + 5 * (k : Int) = 2 + 5 * (k : Int) := by omega
      have mc := f_modP c1 ((top : Int) + 1) (by omega)
      have q0 := f_eqI (c0 % 5) 0
      obtain ⟨l', hl', st⟩ : ∃ l' : Nat, l' ≤ top ∧ ∀ js : List (Option Sl), ifO (.ok (.bool (decide (c0 % 5 = 0)))) (sSet 3 (eOp modF (eOp ixF (eV 0) (eOp modF (eOp addF (eV 8) (eC (.int 1))) (eC (.int 60)))) (eOp addF (eV 2) (eC (.int 1))))) sNx ([vl (.list (r.map PyData.int)), vi 1, vi top, vi l, vi x, vi y, some (.own (.list (vs.map Win.d))), vi (0 + (k : Int)), vi (2 + 5 * (k : Int))] ++ js) = .nx ([vl (.list (r.map PyData.int)), vi 1, vi top, vi l', vi x, vi y, some (.own (.list (vs.map Win.d))), vi (0 + (k : Int)), vi (2 + 5 * (k : Int))] ++ js) := by
        cases decide (c0 % 5 = 0) with
        | true =>
          have hc : 0 ≤ c1 % ((top : Int) + 1) ∧ c1 % ((top : Int) + 1) < (top : Int) + 1 := ⟨Int.emod_nonneg _ (by omega), Int.emod_lt_of_pos _ (by omega)⟩
          refine ⟨(c1 % ((top : Int) + 1)).toNat, by omega, fun js => ?_⟩
          rw [Int.toNat_of_nonneg hc.1]
          simp -implicitDefEqProofs only [f_modP _ 60 (by decide), f1, mc, evs_, Option.bind_some, List.getElem?_cons_zero, List.getElem?_cons_succ, List.set_cons_zero, List.set_cons_succ, List.map_cons, List.map_nil, List.cons_append, List.nil_append, List.length_cons, List.length_nil, Nat.reduceAdd, Nat.reduceSub, Nat.reduceLeDiff, Nat.reduceLT, Bool.not_true, Bool.not_false, decide_true, decide_false]
        | false => exact ⟨l, hl, fun js => by simp -implicitDefEqProofs only [evs_, Option.bind_some, List.getElem?_cons_zero, List.getElem?_cons_succ, List.set_cons_zero, List.set_cons_succ, List.map_cons, List.map_nil, List.cons_append, List.nil_append, List.length_cons, List.length_nil, Nat.reduceAdd, Nat.reduceSub, Nat.reduceLeDiff, Nat.reduceLT, Bool.not_true, Bool.not_false, decide_true, decide_false]⟩
      have bx : 0 ≤ c2 % 5 ∧ c2 % 5 < 5 := by omega
      have by' : 0 ≤ c3 % 5 ∧ c3 % 5 < 5 := by omega
      have ex : (max 0 ((x : Int) + c2 % 5 - 2)) = (((x : Int) + c2 % 5 - 2).toNat : Int) := by omega
      have ey : (max 0 ((y : Int) + c3 % 5 - 2)) = (((y : Int) + c3 % 5 - 2).toNat : Int) := by omega
      generalize hx' : ((x : Int) + c2 % 5 - 2).toNat = x' at ex
      generalize hy' : ((y : Int) + c3 % 5 - 2).toNat = y' at ey
      have xb : x' ≤ 8 + 2 * (k + 1) := by omega
      have yb : y' ≤ 8 + 2 * (k + 1) := by omega
      have dl : (1 : Int) + (l' : Int) = ((1 + l' : Nat) : Int) := by omega
      have dx : divF (.int (x' : Int)) (.int ((1 + l' : Nat) : Int)) = some (.int ((x' / (1 + l') : Nat) : Int)) := by rw [f_divP _ _ (by omega) (by omega)]; rfl
      have dy : divF (.int (y' : Int)) (.int ((1 + l' : Nat) : Int)) = some (.int ((y' / (1 + l') : Nat) : Int)) := by rw [f_divP _ _ (by omega) (by omega)]; rfl
      have d4 := f_divP c4 4 (by decide) (by decide)
      have xd : x' / (1 + l') ≤ x' := Nat.div_le_self _ _
      have yd : y' / (1 + l') ≤ y' := Nat.div_le_self _ _
      have wb : 0 ≤ c4 % 4 ∧ c4 % 4 < 4 := by omega
      have gb : 0 ≤ c4 / 4 % 3 ∧ c4 / 4 % 3 < 3 := by omega
      have ew : (1 : Int) + c4 % 4 = ((1 + c4 % 4).toNat : Int) := by omega
      have eg : (1 : Int) + c4 / 4 % 3 = ((1 + c4 / 4 % 3).toNat : Int) := by omega
      let v : Win := ⟨l', x' / (1 + l'), y' / (1 + l'), (1 + c4 % 4).toNat, (1 + c4 / 4 % 3).toNat⟩
      have V : v.Sm top := ⟨⟨hl', by show x' / (1 + l') ≤ 120; omega, by show y' / (1 + l') ≤ 120; omega, by show 1 ≤ (1 + c4 % 4).toNat; omega, by show (1 + c4 % 4).toNat ≤ 16; omega, by show 1 ≤ (1 + c4 / 4 % 3).toNat; omega, by show (1 + c4 / 4 % 3).toNat ≤ 16; omega⟩, by show (1 + c4 % 4).toNat ≤ 4; omega, by show (1 + c4 / 4 % 3).toNat ≤ 3; omega⟩
      have ap : ∀ ρ : En, appO 6 ρ (some (some (.own (.list (vs.map Win.d))))) (.ok (.tuple [.int (l' : Int), .int ((x' / (1 + l') : Nat) : Int), .int ((y' / (1 + l') : Nat) : Int), .int (1 + c4 % 4), .int (1 + c4 / 4 % 3)])) = .nx (ρ.set 6 (some (.own (.list ((vs ++ [v]).map Win.d))))) := fun ρ => by
        rw [appO_ok _ _ _ _ (by rw [List.length_map]; omega), List.map_append, ew, eg]
        rfl
      refine ⟨[vl (.list (r.map PyData.int)), vi 1, vi top, vi l', vi x', vi y', some (.own (.list ((vs ++ [v]).map Win.d))), vi (0 + (k : Int)), vi (2 + 5 * (k : Int)), vi c4], ?_, vs ++ [v], l', x', y', _, _, _, by rw [List.length_append, hlen]; rfl, fun u hu => ?_, hl', xb, yb, rfl⟩
      · have st' := st [o9]
        simp -implicitDefEqProofs only [List.cons_append, List.nil_append] at st'
        simp -implicitDefEqProofs only [lp__law_trip_1, mu, ad, f_modP _ 60 (by decide), f_modP _ 5 (by decide), f_modP _ 4 (by decide), f_modP _ 3 (by decide), f0, q0, st', f2, f3, f4, ex, ey, dl, dx, dy, d4, ap, evs_, Option.bind_some, List.getElem?_cons_zero, List.getElem?_cons_succ, List.set_cons_zero, List.set_cons_succ, List.map_cons, List.map_nil, List.cons_append, List.nil_append, List.length_cons, List.length_nil, Nat.reduceAdd, Nat.reduceSub, Nat.reduceLeDiff, Nat.reduceLT, Bool.not_true, Bool.not_false, decide_true, decide_false]
      · rcases List.mem_append.mp hu with hu | hu
        · exact hv u hu
        · simp at hu; subst hu; exact V)
  refine ⟨vs, ?_, by omega, hv⟩
  simp -implicitDefEqProofs only [sem__law_trip, b__law_trip, m51, m52, m53, m1, e51, e52, e53, e1, ml, f_modP _ 9 (by decide), f_modP _ 8 (by decide), rg, e, evs_, Option.bind_some, List.getElem?_cons_zero, List.getElem?_cons_succ, List.set_cons_zero, List.set_cons_succ, List.map_cons, List.map_nil, List.cons_append, List.nil_append, List.length_cons, List.length_nil, Nat.reduceAdd, Nat.reduceSub, Nat.reduceLeDiff, Nat.reduceLT, Bool.not_true, Bool.not_false, decide_true, decide_false]
end VVlaw
namespace VVlaw
open PySem PySem.Spec L2 VV
open PyProof.Rows hiding St
section
variable {α : Type} [DecidableEq α]
inductive Pol (room : Nat) : List α → List α → Nat → Prop where
  | nil (S : List α) (n : Nat) : Pol room S [] n
  | hit {S : List α} {k : α} {ks : List α} {n : Nat} : k ∈ S → Pol room S ks n → Pol room S (k :: ks) n
  | miss {S : List α} {k : α} {ks : List α} {n : Nat} (T : List α) : (∀ x ∈ T, x ∈ S) → T.length < room → Pol room (k :: T) ks n → Pol room S (k :: ks) (n + 1)
variable {room : Nat}
theorem Pol.up {S ks : List α} {n : Nat} (p : Pol room S ks n) : ∀ {m}, n ≤ m → Pol room S ks m := by
  induction p with
  | nil S n => exact fun _ => .nil S _
  | hit hk _ ih => exact fun h => .hit hk (ih h)
  | miss T hT hl _ ih =>
    intro m h
    obtain ⟨m', rfl⟩ : ∃ m', m = m' + 1 := ⟨m - 1, by omega⟩
    exact .miss T hT hl (ih (by omega))
theorem Pol.more {S ks : List α} {n : Nat} (p : Pol room S ks n) : ∀ {A : List α}, (∀ x ∈ S, x ∈ A) → Pol room A ks n := by
  induction p with
  | nil S n => exact fun _ => .nil _ _
  | hit hk _ ih => exact fun h => .hit (h _ hk) (ih h)
  | miss T hT hl p _ => exact fun h => .miss T (fun x hx => h x (hT x hx)) hl p
theorem len_without {T : List α} {y : α} (hy : y ∈ T) : (T.filter fun x => decide (x ≠ y)).length < T.length := by
  have := List.length_filter_lt_length_iff_exists (p := fun x => decide (x ≠ y)) (l := T)
  exact this.mpr ⟨y, hy, by simp⟩
theorem mem_without {T : List α} {y z : α} : z ∈ (T.filter fun x => decide (x ≠ y)) ↔ z ∈ T ∧ z ≠ y := by simp
theorem Pol.drop {A ks : List α} {n : Nat} (p : Pol room A ks n) : ∀ {B : List α} {y : α}, (∀ x ∈ A, x = y ∨ x ∈ B) → B.length < room → Pol room B ks (n + 1) := by
  induction p with
  | nil S n => exact fun _ _ => .nil _ _
  | @hit S k ks n hk p ih =>
    intro B y h hB
    by_cases kb : k ∈ B
    · exact .hit kb (ih h hB)
    · have ky : k = y := (h k hk).resolve_right kb
      subst ky
      exact .miss B (fun x hx => hx) hB (p.more fun x hx => by
        rcases h x hx with rfl | hx
        · simp
        · simp [hx])
  | @miss S k ks n T hT hl p ih =>
    intro B y h hB
    by_cases yT : y ∈ T
    · refine .miss (T.filter fun x => decide (x ≠ y)) (fun x hx => ?_) (by have := len_without yT; omega) (ih (y := y) (fun x hx => ?_) (by have := len_without yT; rw [List.length_cons]; omega))
      · obtain ⟨h1, h2⟩ := mem_without.mp hx
        exact (h x (hT x h1)).resolve_left h2
      · rcases List.mem_cons.mp hx with rfl | hx
        · exact .inr (by simp)
        · by_cases e : x = y
          · exact .inl e
          · exact .inr (List.mem_cons.mpr (.inr (mem_without.mpr ⟨hx, e⟩)))
    · exact (Pol.miss T (fun x hx => (h x (hT x hx)).resolve_left fun e => yT (e ▸ hx)) hl p).up (by omega)
theorem idx_cons_ne {x k : α} (ks : List α) (h : k ≠ x) : (k :: ks).idxOf x = ks.idxOf x + 1 := by
  rw [List.idxOf_cons, beq_false_of_ne h]
  rfl
theorem idx_tail {k x y : α} {ks : List α} (hx : x ≠ k) (hy : y ≠ k) (h : (k :: ks).idxOf x ≤ (k :: ks).idxOf y) : ks.idxOf x ≤ ks.idxOf y := by
  rw [idx_cons_ne _ (fun e => hx e.symm), idx_cons_ne _ (fun e => hy e.symm)] at h
  omega
theorem Pol.swap {A ks : List α} {n : Nat} (p : Pol room A ks n) : ∀ {C : List α} {x y : α}, (∀ z ∈ A, z = y ∨ z ∈ C) → x ∉ C → C.length < room → ks.idxOf x ≤ ks.idxOf y → Pol room (x :: C) ks n := by
  induction p with
  | nil S n => exact fun _ _ _ _ => .nil _ _
  | @hit S k ks n hk p ih =>
    intro C x y h nx hC ix
    by_cases e : x = y
    · subst e
      exact (Pol.hit hk p).more fun z hz => by
        rcases h z hz with rfl | hz
        · simp
        · simp [hz]
    · by_cases ky : k = y
      · subst ky
        rw [List.idxOf_cons_self] at ix
        by_cases kx : x = k
        · exact absurd kx e
        · rw [idx_cons_ne _ (fun z => kx z.symm)] at ix
          omega
      · have kC : k ∈ C := (h k hk).resolve_left ky
        have kx : x ≠ k := fun z => nx (z ▸ kC)
        exact .hit (by simp [kC]) (ih h nx hC (idx_tail kx (fun z => ky z.symm) ix))
  | @miss S k ks n T hT hl p ih =>
    intro C x y h nx hC ix
    by_cases e : x = y
    · subst e
      exact (Pol.miss T hT hl p).more fun z hz => by
        rcases h z hz with rfl | hz
        · simp
        · simp [hz]
    · have ky : y ≠ k := fun z => by
        subst z
        rw [List.idxOf_cons_self, idx_cons_ne _ (fun z => e z.symm)] at ix
        omega
      by_cases yT : y ∈ T
      · have sub : ∀ z ∈ (T.filter fun x => decide (x ≠ y)), z ∈ C := fun z hz => by
          obtain ⟨h1, h2⟩ := mem_without.mp hz
          exact (h z (hT z h1)).resolve_left h2
        have ln := len_without yT
        by_cases kx : x = k
        · subst kx
          refine .hit (by simp) ((p.drop (B := x :: T.filter fun x => decide (x ≠ y)) (y := y) (fun z hz => ?_) (by rw [List.length_cons]; omega)).more fun z hz => ?_)
          · rcases List.mem_cons.mp hz with rfl | hz
            · exact .inr (by simp)
            · by_cases ez : z = y
              · exact .inl ez
              · exact .inr (List.mem_cons.mpr (.inr (mem_without.mpr ⟨hz, ez⟩)))
          · rcases List.mem_cons.mp hz with rfl | hz
            · simp
            · exact List.mem_cons.mpr (.inr (sub z hz))
        · refine .miss (x :: T.filter fun x => decide (x ≠ y)) (fun z hz => ?_) (by rw [List.length_cons]; omega) ((ih (C := k :: T.filter fun x => decide (x ≠ y)) (x := x) (y := y) (fun z hz => ?_) (fun hz => ?_) (by rw [List.length_cons]; omega) (idx_tail kx ky ix)).more fun z hz => ?_)
          · rcases List.mem_cons.mp hz with rfl | hz
            · simp
            · exact List.mem_cons.mpr (.inr (sub z hz))
          · rcases List.mem_cons.mp hz with rfl | hz
            · exact .inr (by simp)
            · by_cases ez : z = y
              · exact .inl ez
              · exact .inr (List.mem_cons.mpr (.inr (mem_without.mpr ⟨hz, ez⟩)))
          · rcases List.mem_cons.mp hz with hz | hz
            · exact kx hz
            · exact nx (sub x hz)
          · simp -implicitDefEqProofs only [List.mem_cons] at hz ⊢
            rcases hz with h | h | h
            · exact .inr (.inl h)
            · exact .inl h
            · exact .inr (.inr h)
      · exact .miss T (fun z hz => List.mem_cons.mpr (.inr ((h z (hT z hz)).resolve_left fun e => yT (e ▸ hz)))) hl p
end
end VVlaw
namespace VVlaw
open PySem PySem.Spec L2 VV
open PyProof.Rows hiding St
theorem ltR_le {a b : Rk} (h : ltR a b = true) : a.1 ≤ b.1 := by
  unfold ltR at h
  simp -implicitDefEqProofs only [Bool.or_eq_true, Bool.and_eq_true, decide_eq_true_eq] at h
  omega
theorem ltR_ge {a b : Rk} (h : ¬ ltR a b = true) : b.1 ≤ a.1 := by
  unfold ltR at h
  simp -implicitDefEqProofs only [Bool.or_eq_true, Bool.and_eq_true, decide_eq_true_eq] at h
  omega
theorem minR_is : ∀ (rs : List Rk) (a : Rk), minR a rs ∈ a :: rs ∧ ∀ r ∈ a :: rs, (minR a rs).1 ≤ r.1
  | [], a => ⟨by simp [minR], fun r hr => by simp at hr; subst hr; exact Int.le_refl _⟩
  | b :: rs, a => by
    have e : minR a (b :: rs) = minR (if ltR b a = true then b else a) rs := rfl
    rw [e]
    by_cases h : ltR b a = true
    · rw [if_pos h]
      obtain ⟨h1, h2⟩ := minR_is rs b
      refine ⟨List.mem_cons.mpr (.inr h1), fun r hr => ?_⟩
      rcases List.mem_cons.mp hr with rfl | hr
      · exact Int.le_trans (h2 b (by simp)) (ltR_le h)
      · exact h2 r hr
    · rw [if_neg h]
      obtain ⟨h1, h2⟩ := minR_is rs a
      refine ⟨?_, fun r hr => ?_⟩
      · rcases List.mem_cons.mp h1 with h1 | h1
        · rw [h1]; simp
        · exact List.mem_cons.mpr (.inr (List.mem_cons.mpr (.inr h1)))
      · rcases List.mem_cons.mp hr with rfl | hr
        · exact h2 r (by simp)
        · rcases List.mem_cons.mp hr with rfl | hr
          · exact Int.le_trans (h2 a (by simp)) (ltR_ge h)
          · exact h2 r (by simp [hr])
abbrev Kept.ks (K : Kept) : List Ky := K.map (·.1)
theorem out_mem (r : Rule) (keys : List Ky) (t : Nat) {K : Kept} (h : 1 ≤ K.length) : ∃ y ∈ K, y.1 = outK r keys t K ∧ (∀ d ∈ K, match r with
    | .first => True
    | .old => y.2 ≤ d.2
    | .far => nextU keys t d.1 ≤ nextU keys t y.1) := by
  cases K with
  | nil => simp at h
  | cons c cs =>
    cases r with
    | first => exact ⟨c, by simp, rfl, fun d hd => trivial⟩
    | old =>
      obtain ⟨h1, h2⟩ := minR_is (cs.map rankO) (rankO c)
      rw [← List.map_cons] at h1 h2
      obtain ⟨y, hy, e⟩ := List.mem_map.mp h1
      refine ⟨y, hy, ?_, fun d hd => ?_⟩
      · show y.1 = (minR (rankO c) (cs.map rankO)).2
        rw [← e]
        rfl
      · have := h2 (rankO d) (List.mem_map.mpr ⟨d, hd, rfl⟩)
        rw [← e] at this
        have h3 : (y.2 : Int) ≤ (d.2 : Int) := this
        show y.2 ≤ d.2
        omega
    | far =>
      obtain ⟨h1, h2⟩ := minR_is (cs.map (rankF keys t)) (rankF keys t c)
      rw [← List.map_cons] at h1 h2
      obtain ⟨y, hy, e⟩ := List.mem_map.mp h1
      refine ⟨y, hy, ?_, fun d hd => ?_⟩
      · show y.1 = (minR (rankF keys t c) (cs.map (rankF keys t))).2
        rw [← e]
        rfl
      · have := h2 (rankF keys t d) (List.mem_map.mpr ⟨d, hd, rfl⟩)
        rw [← e] at this
        have h3 : -(nextU keys t y.1 : Int) ≤ -(nextU keys t d.1 : Int) := this
        show nextU keys t d.1 ≤ nextU keys t y.1
        omega
section
variable (r : Rule) (room : Nat) (keys : List Ky)
def keepN (K : Kept) (k : Ky) (t : Nat) : Kept := (stepF r room keys ⟨K, []⟩ (k, t)).kept
def misN (K : Kept) (k : Ky) : Nat := if k ∈ K.ks then 0 else 1
def goN : Kept → List Ky → Nat → Nat
  | _, [], _ => 0
  | K, k :: ks, t => misN K k + goN (keepN r room keys K k t) ks (t + 1)
theorem step_is (s : Fs) (k : Ky) (t : Nat) : (stepF r room keys s (k, t)).kept = keepN r room keys s.kept k t ∧ (stepF r room keys s (k, t)).found.length = s.found.length + misN s.kept k := by
  unfold keepN stepF misN isK Kept.ks
  simp -implicitDefEqProofs only
  by_cases h : k ∈ s.kept.map (·.1)
  · rw [decide_eq_true h, if_pos rfl, if_pos rfl, if_pos h]
    exact ⟨rfl, rfl⟩
  · rw [decide_eq_false h, if_neg h]
    simp -implicitDefEqProofs only [Bool.false_eq_true, if_false]
    simp
theorem fold_go : ∀ (ks : List Ky) (t : Nat) (s : Fs), ((ks.zipIdx t).foldl (stepF r room keys) s).found.length = s.found.length + goN r room keys s.kept ks t
  | [], t, s => rfl
  | k :: ks, t, s => by
    obtain ⟨e1, e2⟩ := step_is r room keys s k t
    rw [List.zipIdx_cons, List.foldl_cons, fold_go ks (t + 1), e1, e2]
    show _ = _ + (_ + _)
    omega
theorem fetch_len : (fetchK r room keys).length = goN r room keys [] keys 0 := by
  have := fold_go r room keys keys 0 ⟨[], []⟩
  simpa [fetchK] using this
structure Good (K : Kept) : Prop where
  nd : K.ks.Nodup
  le : K.length ≤ room
theorem pair_eq {K : Kept} (nd : K.ks.Nodup) {c d : Ky × Nat} (hc : c ∈ K) (hd : d ∈ K) (e : c.1 = d.1) : c = d := by
  induction K with
  | nil => simp at hc
  | cons b K ih =>
    obtain ⟨n1, n2⟩ := List.nodup_cons.mp (show (b.1 :: Kept.ks K).Nodup from nd)
    rcases List.mem_cons.mp hc with ec | hc' <;> rcases List.mem_cons.mp hd with ed | hd'
    · rw [ec, ed]
    · exact absurd (List.mem_map.mpr ⟨d, hd', by rw [← e, ec]⟩) n1
    · exact absurd (List.mem_map.mpr ⟨c, hc', by rw [e, ed]⟩) n1
    · exact ih n2 hc' hd'
theorem keep_hit {K : Kept} {k : Ky} (h : k ∈ K.ks) (t : Nat) : keepN r room keys K k t = K.map fun c => (c.1, if c.1 = k then t else c.2) := by
  unfold keepN stepF isK
  simp -implicitDefEqProofs only
  rw [decide_eq_true h, if_pos rfl]
theorem keep_hit_ks {K : Kept} {k : Ky} (h : k ∈ K.ks) (t : Nat) : (keepN r room keys K k t).ks = K.ks := by
  rw [keep_hit r room keys h, Kept.ks, List.map_map]
  rfl
theorem keep_room {K : Kept} {k : Ky} (h : k ∉ K.ks) (hr : K.length ≠ room) (t : Nat) : keepN r room keys K k t = K ++ [(k, t)] := by
  unfold keepN stepF isK
  simp -implicitDefEqProofs only
  rw [decide_eq_false h, if_neg (by decide), if_neg hr]
theorem keep_out {K : Kept} {k : Ky} (h : k ∉ K.ks) (hr : K.length = room) (t : Nat) : keepN r room keys K k t = K.filter (fun c => decide (c.1 ≠ outK r keys t K)) ++ [(k, t)] := by
  unfold keepN stepF isK
  simp -implicitDefEqProofs only
  rw [decide_eq_false h, if_neg (by decide), if_pos hr]
theorem out_len (h1 : 1 ≤ room) {K : Kept} (G : Good room K) (hr : K.length = room) (t : Nat) : (K.filter (fun c => decide (c.1 ≠ outK r keys t K))).length + 1 = room := by
  obtain ⟨y, hy, e, _⟩ := out_mem r keys t (K := K) (by omega)
  have e2 : K.filter (fun c => decide (c.1 ≠ outK r keys t K)) = K.filter (fun c => decide (c ≠ y)) := List.filter_congr fun c hc => by
    by_cases hcy : c = y
    · subst hcy
      simp [e]
    · have : c.1 ≠ outK r keys t K := fun z => hcy (pair_eq G.nd hc hy (z.trans e.symm))
      simp [hcy, this]
  have nd : K.Nodup := by
    have := G.nd
    unfold Kept.ks at this
    exact List.Pairwise.of_map (fun c : Ky × Nat => c.1) (fun a b h e => h (congrArg _ e)) this
  have : (K.filter (fun c => decide (c ≠ y))) = K.erase y := by
    rw [List.Nodup.erase_eq_filter nd]
    exact List.filter_congr fun c _ => by by_cases hc : c = y <;> simp [hc]
  rw [e2, this, List.length_erase_of_mem hy]
  omega
theorem keep_good (h1 : 1 ≤ room) {K : Kept} (G : Good room K) (k : Ky) (t : Nat) : Good room (keepN r room keys K k t) := by
  by_cases h : k ∈ K.ks
  · exact ⟨by rw [keep_hit_ks r room keys h]; exact G.nd, by rw [keep_hit r room keys h, List.length_map]; exact G.le⟩
  · by_cases hr : K.length = room
    · rw [keep_out r room keys h hr]
      have l := out_len r room keys h1 G hr t
      refine ⟨?_, by rw [List.length_append]; simp -implicitDefEqProofs only [List.length_singleton]; omega⟩
      rw [Kept.ks, List.map_append]
      refine List.nodup_append.mpr ⟨G.nd.sublist (List.filter_sublist.map _), by simp, ?_⟩
      intro a ha b hb e
      simp at hb
      subst hb e
      obtain ⟨c, hc, e⟩ := List.mem_map.mp ha
      exact h (List.mem_map.mpr ⟨c, (List.mem_filter.mp hc).1, e⟩)
    · rw [keep_room r room keys h hr]
      have l := G.le
      refine ⟨?_, by rw [List.length_append]; simp -implicitDefEqProofs only [List.length_singleton]; omega⟩
      rw [Kept.ks, List.map_append]
      refine List.nodup_append.mpr ⟨G.nd, by simp, ?_⟩
      intro a ha b hb e
      simp at hb
      subst hb e
      exact h ha
end
theorem idx_two {α : Type} (b1 b2 : BEq α) (h : ∀ x y : α, b1.beq x y = b2.beq x y) (x : α) (ks : List α) : @List.idxOf α b1 x ks = @List.idxOf α b2 x ks := by
  have : b1 = b2 := by
    cases b1
    cases b2
    congr
    funext x y
    exact h x y
  rw [this]
theorem idx_same (x : Ky) (ks : List Ky) : @List.idxOf Ky instBEqProd x ks = @List.idxOf Ky instBEqOfDecidableEq x ks :=
  idx_two _ _ (fun a b => by
    by_cases h : a = b
    · subst h
      exact (@beq_self_eq_true Ky instBEqProd _ a).trans (@beq_self_eq_true Ky instBEqOfDecidableEq _ a).symm
    · exact (@beq_false_of_ne Ky instBEqProd _ _ _ h).trans (@beq_false_of_ne Ky instBEqOfDecidableEq _ _ _ h).symm) x ks
theorem far_best {room : Nat} {keys : List Ky} (h1 : 1 ≤ room) : ∀ (ks : List Ky) (t : Nat) (K : Kept) (n : Nat), keys.drop t = ks → Good room K → Pol room K.ks ks n → goN .far room keys K ks t ≤ n
  | [], _, _, _, _, _, _ => Nat.zero_le _
  | k :: ks, t, K, n, hd, G, p => by
    have hd2 : keys.drop (t + 1) = ks := by
      rw [← List.drop_drop, hd]
      rfl
    have ih := fun n => far_best h1 ks (t + 1) (keepN .far room keys K k t) n hd2 (keep_good .far room keys h1 G k t)
    unfold goN misN
    by_cases h : k ∈ K.ks
    · rw [if_pos h, Nat.zero_add]
      rw [keep_hit_ks .far room keys h] at ih
      cases p with
      | hit _ p => exact ih _ p
      | @miss _ _ _ n T hT hl p =>
        have := ih _ (p.more fun x hx => by
          rcases List.mem_cons.mp hx with rfl | hx
          · exact h
          · exact hT x hx)
        omega
    · rw [if_neg h]
      cases p with
      | hit z _ => exact absurd z h
      | @miss _ _ _ n T hT hl p =>
        refine Nat.le_trans (Nat.add_le_add_left (ih n ?_) 1) (by omega)
        by_cases hr : K.length = room
        · have hx : ∃ x ∈ K.ks, x ∉ T := by
            refine Classical.byContradiction fun no => ?_
            have := nodup_sub_len G.nd fun x hx => Classical.byContradiction fun z => no ⟨x, hx, z⟩
            rw [Kept.ks, List.length_map] at this
            omega
          obtain ⟨x, hxK, hxT⟩ := hx
          obtain ⟨y, hy, ey, far⟩ := out_mem .far keys t (K := K) (by omega)
          obtain ⟨d, hdK, ed⟩ := List.mem_map.mp hxK
          have ed' : d.1 = x := ed
          have fx : nextU keys t d.1 ≤ nextU keys t y.1 := far d hdK
          unfold nextU at fx
          rw [hd, ed', ey, idx_same, idx_same] at fx
          have kx : x ≠ k := fun z => h (z ▸ hxK)
          have hyK : outK .far keys t K ∈ K.ks := List.mem_map.mpr ⟨y, hy, ey⟩
          have ky : outK .far keys t K ≠ k := fun z => h (z ▸ hyK)
          have ix := idx_tail kx ky (Nat.le_of_add_le_add_left fx)
          have l := out_len .far room keys h1 G hr t
          have eks : (keepN .far room keys K k t).ks = (K.filter (fun c => decide (c.1 ≠ outK .far keys t K))).map (·.1) ++ [k] := by rw [keep_out .far room keys h hr, Kept.ks, List.map_append]; rfl
          have mem : ∀ z, z ∈ K.ks → z ≠ outK .far keys t K → z ∈ (keepN .far room keys K k t).ks := fun z hz ne => by
            rw [eks]
            obtain ⟨c, hc, e⟩ := List.mem_map.mp hz
            have e' : c.1 = z := e
            exact List.mem_append.mpr (.inl (List.mem_map.mpr ⟨c, List.mem_filter.mpr ⟨hc, by simp [e', ne]⟩, e⟩))
          have memk : k ∈ (keepN .far room keys K k t).ks := by rw [eks]; simp
          generalize outK .far keys t K = out at *
          by_cases ox : out ∈ T
          · have xo : x ≠ out := fun z => hxT (z ▸ ox)
            have ln := len_without ox
            refine (p.swap (C := k :: T.filter fun z => decide (z ≠ out)) (x := x) (y := out) (fun z hz => ?_) (fun hz => ?_) (by rw [List.length_cons]; omega) ix).more fun z hz => ?_
            · rcases List.mem_cons.mp hz with rfl | hz
              · exact .inr (by simp)
              · by_cases e : z = out
                · exact .inl e
                · exact .inr (List.mem_cons.mpr (.inr (mem_without.mpr ⟨hz, e⟩)))
            · rcases List.mem_cons.mp hz with hz | hz
              · exact kx hz
              · exact hxT (mem_without.mp hz).1
            · simp -implicitDefEqProofs only [List.mem_cons] at hz
              rcases hz with rfl | rfl | hz
              · exact mem z hxK xo
              · exact memk
              · obtain ⟨z1, z2⟩ := mem_without.mp hz
                exact mem z (hT z z1) z2
          · refine p.more fun z hz => ?_
            rcases List.mem_cons.mp hz with rfl | hz
            · exact memk
            · exact mem z (hT z hz) fun e => ox (e ▸ hz)
        · rw [keep_room .far room keys h hr, Kept.ks, List.map_append]
          refine p.more fun z hz => ?_
          rcases List.mem_cons.mp hz with rfl | hz
          · simp
          · exact List.mem_append.mpr (.inl (hT z hz))
theorem good0 (room : Nat) : Good room [] := ⟨by simp [Kept.ks], by simp⟩
end VVlaw
namespace VVlaw
open PySem PySem.Spec L2 VV
open PyProof.Rows hiding St
structure Two (R R2 t : Nat) (K K2 : Kept) : Prop where
  g : Good R K
  g2 : Good R2 K2
  sub : ∀ c ∈ K, c ∈ K2
  late : ∀ c ∈ K2, c ∉ K → ∀ d ∈ K, c.2 < d.2
  same : K.length < R → ∀ c ∈ K2, c ∈ K
  bd : ∀ c ∈ K2, c.2 < t
  inj : ∀ c ∈ K2, ∀ d ∈ K2, c.2 = d.2 → c = d
end VVlaw
namespace VVlaw
open PySem PySem.Spec L2 VV
open PyProof.Rows hiding St
abbrev Dp7 := List Ky × Nat
def addM (M : List Dp7) (e : Dp7) : List Dp7 := if (M.any fun x => decide (x.1 = e.1)) = true then M.map (fun x => if x.1 = e.1 then (x.1, min e.2 x.2) else x) else M ++ [e]
def moves7 (much : Nat) (key : Ky) (e : Dp7) : List Dp7 := if key ∈ e.1 then [e] else if e.1.length < much then [(sortK (e.1 ++ [key]), e.2 + 1)] else e.1.map fun out => (sortK (e.1.filter (fun x => decide (x ≠ out)) ++ [key]), e.2 + 1)
def setD7 (S : List Ky) : D := .tuple (S.map kyD)
def sortM (M : List Dp7) : List Dp7 := M.mergeSort fun a b => PySem.W.dataLe false (fun d : D => d) (setD7 a.1) (setD7 b.1)
def stepM (much : Nat) (M : List Dp7) (key : Ky) : List Dp7 := ((sortM M).flatMap (moves7 much key)).foldl addM []
theorem mem_sortM {M : List Dp7} {e : Dp7} : e ∈ sortM M ↔ e ∈ M := List.mem_mergeSort
theorem mem_addM {M : List Dp7} {e x : Dp7} (h : x ∈ addM M e) : x ∈ M ∨ x = e := by
  unfold addM at h
  split at h
  · obtain ⟨y, hy, rfl⟩ := List.mem_map.mp h
    by_cases c : y.1 = e.1
    · rw [if_pos c]
      rcases Nat.le_total e.2 y.2 with q | q
      · exact .inr (Prod.ext c (Nat.min_eq_left q))
      · refine .inl ?_
        rw [Nat.min_eq_right q]
        exact hy
    · rw [if_neg c]
      exact .inl hy
  · rcases List.mem_append.mp h with h | h
    · exact .inl h
    · exact .inr (List.mem_singleton.mp h)
theorem addM_has (M : List Dp7) (e : Dp7) : ∃ c, c ≤ e.2 ∧ (e.1, c) ∈ addM M e := by
  unfold addM
  split
  · rename_i h
    obtain ⟨x, hx, c⟩ := List.any_eq_true.mp h
    have c : x.1 = e.1 := of_decide_eq_true c
    exact ⟨min e.2 x.2, Nat.min_le_left .., List.mem_map.mpr ⟨x, hx, by rw [if_pos c, c]⟩⟩
  · exact ⟨e.2, Nat.le_refl _, List.mem_append.mpr (.inr (List.mem_singleton.mpr rfl))⟩
theorem addM_keep {M : List Dp7} (e : Dp7) {x : Dp7} (h : x ∈ M) : ∃ c, c ≤ x.2 ∧ (x.1, c) ∈ addM M e := by
  unfold addM
  split
  · by_cases c : x.1 = e.1
    · exact ⟨min e.2 x.2, Nat.min_le_right .., List.mem_map.mpr ⟨x, h, by rw [if_pos c]⟩⟩
    · exact ⟨x.2, Nat.le_refl _, List.mem_map.mpr ⟨x, h, by rw [if_neg c]⟩⟩
  · exact ⟨x.2, Nat.le_refl _, List.mem_append.mpr (.inl h)⟩
theorem addM_nd {M : List Dp7} (e : Dp7) (h : (M.map (·.1)).Nodup) : ((addM M e).map (·.1)).Nodup := by
  unfold addM
  split
  · rw [List.map_map]
    have : ((fun x : Dp7 => x.1) ∘ fun x : Dp7 => if x.1 = e.1 then (x.1, min e.2 x.2) else x) = fun x => x.1 := by
      funext x
      show (if x.1 = e.1 then (x.1, min e.2 x.2) else x).1 = x.1
      split <;> rfl
    rw [this]
    exact h
  · rename_i c
    rw [List.map_append, List.nodup_append]
    refine ⟨h, by simp, fun a ha b hb z => c ?_⟩
    obtain ⟨x, hx, rfl⟩ := List.mem_map.mp ha
    simp -implicitDefEqProofs only [List.map_cons, List.map_nil, List.mem_singleton] at hb
    exact List.any_eq_true.mpr ⟨x, hx, decide_eq_true (z.trans hb)⟩
theorem addM_len (M : List Dp7) (e : Dp7) : (addM M e).length ≤ M.length + 1 := by
  unfold addM
  split
  · rw [List.length_map]; omega
  · rw [List.length_append, List.length_singleton]; omega
theorem mem_fold7 : ∀ (es M : List Dp7) {x : Dp7}, x ∈ es.foldl addM M → x ∈ M ∨ x ∈ es
  | [], M, x, h => .inl h
  | e :: es, M, x, h => by
    rcases mem_fold7 es (addM M e) h with h | h
    · rcases mem_addM h with h | rfl
      · exact .inl h
      · exact .inr List.mem_cons_self
    · exact .inr (List.mem_cons_of_mem _ h)
theorem fold_keep7 : ∀ (es M : List Dp7) {x : Dp7}, x ∈ M → ∃ c, c ≤ x.2 ∧ (x.1, c) ∈ es.foldl addM M
  | [], M, x, h => ⟨x.2, Nat.le_refl _, h⟩
  | e :: es, M, x, h => by
    obtain ⟨c, c1, c2⟩ := addM_keep e h
    obtain ⟨d, d1, d2⟩ := fold_keep7 es (addM M e) c2
    exact ⟨d, Nat.le_trans d1 c1, d2⟩
theorem fold_has7 : ∀ (es M : List Dp7) {x : Dp7}, x ∈ es → ∃ c, c ≤ x.2 ∧ (x.1, c) ∈ es.foldl addM M
  | [], M, x, h => by cases h
  | e :: es, M, x, h => by
    rcases List.mem_cons.mp h with rfl | h
    · obtain ⟨c, c1, c2⟩ := addM_has M x
      obtain ⟨d, d1, d2⟩ := fold_keep7 es (addM M x) c2
      exact ⟨d, Nat.le_trans d1 c1, d2⟩
    · exact fold_has7 es (addM M e) h
theorem fold_nd7 : ∀ (es M : List Dp7), (M.map (·.1)).Nodup → ((es.foldl addM M).map (·.1)).Nodup
  | [], M, h => h
  | e :: es, M, h => fold_nd7 es (addM M e) (addM_nd e h)
theorem fold_len7 : ∀ (es M : List Dp7), (es.foldl addM M).length ≤ M.length + es.length
  | [], M => Nat.le_refl _
  | e :: es, M => by
    have h1 := fold_len7 es (addM M e)
    have h2 := addM_len M e
    rw [List.foldl_cons, List.length_cons]
    omega
structure Ok7 (much : Nat) (M : List Dp7) : Prop where
  nd : (M.map (·.1)).Nodup
  st : ∀ e ∈ M, e.1.Nodup ∧ e.1.length ≤ much
theorem sortK_len (K : List Ky) : (sortK K).length = K.length := (sortK_perm K).length_eq
theorem snd_nd {S : List Ky} {key : Ky} (h : S.Nodup) (n : key ∉ S) : (S ++ [key]).Nodup := List.nodup_append.mpr ⟨h, by simp, fun a ha b hb z => n (by rw [List.mem_singleton.mp hb] at z; exact z ▸ ha)⟩
theorem wout_len {S : List Ky} (h : S.Nodup) {y : Ky} (hy : y ∈ S) : (S.filter fun x => decide (x ≠ y)).length + 1 = S.length := by
  induction S with
  | nil => cases hy
  | cons a S ih =>
    rw [List.nodup_cons] at h
    by_cases e : a = y
    · subst e
      rw [List.filter_cons_of_neg (by simp), List.length_cons]
      have : S.filter (fun x => decide (x ≠ a)) = S := List.filter_eq_self.mpr fun x hx => decide_eq_true fun z => h.1 (z ▸ hx)
      rw [this]
    · rw [List.filter_cons_of_pos (by simp [e]), List.length_cons, List.length_cons]
      have hy : y ∈ S := (List.mem_cons.mp hy).resolve_left fun z => e z.symm
      have := ih h.2 hy
      omega
theorem moves_ok {much : Nat} (m1 : 1 ≤ much) {key : Ky} {e x : Dp7} (h : e.1.Nodup ∧ e.1.length ≤ much) (hx : x ∈ moves7 much key e) : x.1.Nodup ∧ x.1.length ≤ much := by
  unfold moves7 at hx
  split at hx
  · rw [List.mem_singleton.mp hx]
    exact h
  · rename_i nk
    split at hx
    · rename_i lt
      rw [List.mem_singleton.mp hx]
      refine ⟨(sortK_perm _).nodup_iff.mpr (snd_nd h.1 nk), ?_⟩
      show (sortK _).length ≤ much
      rw [sortK_len, List.length_append, List.length_singleton]
      omega
    · obtain ⟨y, hy, rfl⟩ := List.mem_map.mp hx
      have l := wout_len h.1 hy
      refine ⟨(sortK_perm _).nodup_iff.mpr (snd_nd (h.1.sublist List.filter_sublist) fun z => nk (List.mem_filter.mp z).1), ?_⟩
      show (sortK _).length ≤ much
      rw [sortK_len, List.length_append, List.length_singleton]
      omega
theorem moves_len {much : Nat} (m1 : 1 ≤ much) (m3 : much ≤ 3) (key : Ky) {e : Dp7} (h : e.1.length ≤ much) : (moves7 much key e).length ≤ 3 := by
  unfold moves7
  split
  · simp
  · split
    · simp
    · rw [List.length_map]; omega
theorem step_mem {much : Nat} {M : List Dp7} {key : Ky} {x : Dp7} (h : x ∈ stepM much M key) : ∃ e ∈ M, x ∈ moves7 much key e := by
  rcases mem_fold7 _ _ h with h | h
  · cases h
  · obtain ⟨e, he, hx⟩ := List.mem_flatMap.mp h
    exact ⟨e, mem_sortM.mp he, hx⟩
theorem step_has {much : Nat} {M : List Dp7} {key : Ky} {e x : Dp7} (he : e ∈ M) (hx : x ∈ moves7 much key e) : ∃ c, c ≤ x.2 ∧ (x.1, c) ∈ stepM much M key := fold_has7 _ [] (List.mem_flatMap.mpr ⟨e, mem_sortM.mpr he, hx⟩)
theorem step_ok {much : Nat} (m1 : 1 ≤ much) {M : List Dp7} (O : Ok7 much M) (key : Ky) : Ok7 much (stepM much M key) := ⟨fold_nd7 _ _ List.nodup_nil, fun x hx => by
  obtain ⟨e, he, hx⟩ := step_mem hx
  exact moves_ok m1 (O.st e he) hx⟩
theorem flat_len7 {α β : Type} (f : α → List β) (B : Nat) : ∀ xs : List α, (∀ x ∈ xs, (f x).length ≤ B) → (xs.flatMap f).length ≤ B * xs.length
  | [], _ => by simp
  | x :: xs, h => by
    have h1 := h x List.mem_cons_self
    have h2 := flat_len7 f B xs fun y hy => h y (List.mem_cons_of_mem _ hy)
    rw [List.flatMap_cons, List.length_append, List.length_cons, Nat.mul_succ]
    omega
theorem step_len7 {much : Nat} (m1 : 1 ≤ much) (m3 : much ≤ 3) {M : List Dp7} (O : Ok7 much M) (key : Ky) : (stepM much M key).length ≤ 3 * M.length := by
  have h1 := fold_len7 ((sortM M).flatMap (moves7 much key)) []
  have h2 := flat_len7 (moves7 much key) 3 (sortM M) fun e he => moves_len m1 m3 key (O.st e (mem_sortM.mp he)).2
  have h3 : (sortM M).length = M.length := List.length_mergeSort _
  unfold stepM
  rw [h3] at h2
  simp -implicitDefEqProofs only [List.length_nil, Nat.zero_add] at h1
  omega
def runM (much : Nat) (M : List Dp7) (ks : List Ky) : List Dp7 := ks.foldl (stepM much) M
theorem sound7 {much : Nat} (m1 : 1 ≤ much) : ∀ (ks : List Ky) (M : List Dp7), Ok7 much M → ∀ e ∈ runM much M ks, ∃ e0 ∈ M, ∃ n, e.2 = e0.2 + n ∧ Pol much e0.1 ks n
  | [], M, _, e, he => ⟨e, he, 0, rfl, .nil _ _⟩
  | k :: ks, M, O, e, he => by
    obtain ⟨e1, h1, n, en, p⟩ := sound7 m1 ks (stepM much M k) (step_ok m1 O k) e he
    obtain ⟨e0, h0, hx⟩ := step_mem h1
    refine ⟨e0, h0, ?_⟩
    have o := O.st e0 h0
    unfold moves7 at hx
    split at hx
    · rename_i hk
      rw [List.mem_singleton.mp hx] at en p
      exact ⟨n, en, .hit hk p⟩
    · rename_i nk
      split at hx
      · rename_i lt
        rw [List.mem_singleton.mp hx] at en p
        refine ⟨n + 1, by dsimp only at en; omega, .miss e0.1 (fun _ z => z) lt (p.more fun x hx => ?_)⟩
        rcases List.mem_append.mp (mem_sortK.mp hx) with hx | hx
        · exact List.mem_cons_of_mem _ hx
        · rw [List.mem_singleton.mp hx]
          exact List.mem_cons_self
      · obtain ⟨y, hy, rfl⟩ := List.mem_map.mp hx
        have l := wout_len o.1 hy
        refine ⟨n + 1, by dsimp only at en; omega, .miss (e0.1.filter fun x => decide (x ≠ y)) (fun _ z => (List.mem_filter.mp z).1) (by omega) (p.more fun x hx => ?_)⟩
        rcases List.mem_append.mp (mem_sortK.mp hx) with hx | hx
        · exact List.mem_cons_of_mem _ hx
        · rw [List.mem_singleton.mp hx]
          exact List.mem_cons_self
theorem ks_len (K : Kept) : K.ks.length = K.length := List.length_map ..
theorem filter_ks (K : Kept) (y : Ky) (x : Ky) : x ∈ Kept.ks (K.filter fun c => decide (c.1 ≠ y)) ↔ x ∈ K.ks ∧ x ≠ y := by
  unfold Kept.ks
  simp -implicitDefEqProofs only [List.mem_map, List.mem_filter, decide_eq_true_eq]
  constructor
  · rintro ⟨c, ⟨h1, h2⟩, rfl⟩
    exact ⟨⟨c, h1, rfl⟩, h2⟩
  · rintro ⟨⟨c, h1, rfl⟩, h2⟩
    exact ⟨c, ⟨h1, h2⟩, rfl⟩
theorem reach7 {r : Rule} {room : Nat} {keys : List Ky} (h1 : 1 ≤ room) : ∀ (ks : List Ky) (t : Nat) (K : Kept) (M : List Dp7) (c : Nat), Good room K → Ok7 room M → (∃ e ∈ M, (∀ x, x ∈ e.1 ↔ x ∈ K.ks) ∧ e.1.length = K.length ∧ e.2 ≤ c) → ∃ e ∈ runM room M ks, e.2 ≤ c + goN r room keys K ks t
  | [], t, K, M, c, _, _, ⟨e, he, _, _, hc⟩ => ⟨e, he, hc⟩
  | k :: ks, t, K, M, c, G, O, ⟨e, he, mem, len, hc⟩ => by
    have o := O.st e he
    have go : goN r room keys K (k :: ks) t = misN K k + goN r room keys (keepN r room keys K k t) ks (t + 1) := rfl
    have ih := reach7 (r := r) (keys := keys) h1 ks (t + 1) (keepN r room keys K k t) (stepM room M k) (c + misN K k) (keep_good r room keys h1 G k t) (step_ok h1 O k)
    rw [go, ← Nat.add_assoc]
    refine ih ?_
    unfold misN
    by_cases hk : k ∈ K.ks
    · rw [if_pos hk]
      obtain ⟨c', c1, c2⟩ := step_has (much := room) (key := k) he (x := e) (by unfold moves7; rw [if_pos ((mem k).mpr hk)]; exact List.mem_singleton.mpr rfl)
      refine ⟨(e.1, c'), c2, fun x => ?_, ?_, by dsimp only; omega⟩
      · rw [keep_hit_ks r room keys hk]
        exact mem x
      · rw [← ks_len, keep_hit_ks r room keys hk, ks_len]
        exact len
    · rw [if_neg hk]
      have nk : k ∉ e.1 := fun z => hk ((mem k).mp z)
      by_cases hr : K.length = room
      · obtain ⟨y, hy, ey, _⟩ := out_mem r keys t (K := K) (by omega)
        have hy' : outK r keys t K ∈ K.ks := ey ▸ List.mem_map_of_mem hy
        have hye := (mem _).mpr hy'
        obtain ⟨c', c1, c2⟩ := step_has (much := room) (key := k) he (x := (sortK (e.1.filter (fun x => decide (x ≠ outK r keys t K)) ++ [k]), e.2 + 1)) (by
          unfold moves7
          rw [if_neg nk, if_neg (by omega)]
          exact List.mem_map.mpr ⟨_, hye, rfl⟩)
        refine ⟨_, c2, fun x => ?_, ?_, by dsimp only at c1 ⊢; omega⟩
        · rw [keep_out r room keys hk hr]
          show x ∈ sortK _ ↔ x ∈ Kept.ks (_ ++ [(k, t)])
          unfold Kept.ks
          rw [mem_sortK, List.map_append, List.mem_append, List.mem_append]
          have f := filter_ks K (outK r keys t K) x
          unfold Kept.ks at f
          rw [f]
          simp -implicitDefEqProofs only [List.mem_filter, decide_eq_true_eq, List.mem_singleton, List.map_cons, List.map_nil]
          rw [mem x]
        · have l1 := wout_len o.1 hye
          have l2 := out_len r room keys h1 G hr t
          rw [keep_out r room keys hk hr]
          show (sortK _).length = _
          rw [sortK_len, List.length_append, List.length_append, List.length_singleton, List.length_singleton]
          omega
      · obtain ⟨c', c1, c2⟩ := step_has (much := room) (key := k) he (x := (sortK (e.1 ++ [k]), e.2 + 1)) (by
          unfold moves7
          rw [if_neg nk, if_pos (by have := G.le; omega)]
          exact List.mem_singleton.mpr rfl)
        refine ⟨_, c2, fun x => ?_, ?_, by dsimp only at c1 ⊢; omega⟩
        · rw [keep_room r room keys hk hr]
          show x ∈ sortK _ ↔ x ∈ Kept.ks (_ ++ [(k, t)])
          unfold Kept.ks
          rw [mem_sortK, List.map_append, List.mem_append, List.mem_append, mem x]
          simp
        · rw [keep_room r room keys hk hr]
          show (sortK _).length = _
          rw [sortK_len, List.length_append, List.length_append, List.length_singleton, List.length_singleton]
          omega
theorem ok7_0 (much : Nat) : Ok7 much [([], 0)] := ⟨by simp, fun e he => by rw [List.mem_singleton.mp he]; simp⟩
theorem least7 (room : Nat) (keys : List Ky) (h1 : 1 ≤ room) : (∃ e ∈ runM room [([], 0)] keys, e.2 = (fetchK .far room keys).length) ∧ ∀ e ∈ runM room [([], 0)] keys, (fetchK .far room keys).length ≤ e.2 := by
  have b : ∀ e ∈ runM room [([], 0)] keys, (fetchK .far room keys).length ≤ e.2 := fun e he => by
    obtain ⟨e0, h0, n, en, p⟩ := sound7 h1 keys _ (ok7_0 room) e he
    rw [List.mem_singleton.mp h0] at en p
    have := far_best (keys := keys) h1 keys 0 [] n rfl (good0 room) p
    rw [fetch_len]
    dsimp only at en
    omega
  obtain ⟨e, he, hc⟩ := reach7 (r := .far) (keys := keys) h1 keys 0 [] [([], 0)] 0 (good0 room) (ok7_0 room) ⟨([], 0), List.mem_singleton.mpr rfl, fun x => by simp [Kept.ks], rfl, Nat.le_refl _⟩
  rw [Nat.zero_add, ← fetch_len] at hc
  exact ⟨⟨e, he, Nat.le_antisymm hc (b e he)⟩, b⟩
theorem run_ok7 {much : Nat} (m1 : 1 ≤ much) : ∀ (ks : List Ky) (M : List Dp7), Ok7 much M → Ok7 much (runM much M ks)
  | [], _, O => O
  | k :: ks, M, O => run_ok7 m1 ks (stepM much M k) (step_ok m1 O k)
theorem run_len7 {much : Nat} (m1 : 1 ≤ much) (m3 : much ≤ 3) : ∀ (ks : List Ky) (M : List Dp7), Ok7 much M → (runM much M ks).length ≤ 3 ^ ks.length * M.length
  | [], M, _ => by simp [runM]
  | k :: ks, M, O => by
    have h1 := run_len7 m1 m3 ks (stepM much M k) (step_ok m1 O k)
    have h2 := step_len7 m1 m3 O k
    refine Nat.le_trans h1 ?_
    rw [List.length_cons, Nat.pow_succ, Nat.mul_assoc]
    exact Nat.mul_le_mul_left _ h2
end VVlaw
set_option maxHeartbeats 4000000
namespace VVlaw
open PySem PySem.Spec L2 VV
open PyProof.Rows hiding St
noncomputable section
end
end VVlaw
namespace VV
open PySem PySem.Spec L2
open PyProof.Rows hiding St
open Classical in
section
variable {K : PySem.W.Frag} {H0 H : Hp} {Lo : Ad} {ρ : En} {α : Nat → Option Addr} {σ : St}
open Classical in
noncomputable def with1 (H0 : Hp) (l : Addr) (o : HO) : Hp := fun a => if a = l then some o else H0 a
theorem with1_same {l : Addr} {o : HO} : with1 H0 l o l = some o := by
  unfold with1
  rw [if_pos rfl]
theorem with1_ne {l a : Addr} {o : HO} (h : a ≠ l) : with1 H0 l o a = H0 a := by
  unfold with1
  rw [if_neg h]
theorem _root_.VV.Same.with1 {G G' : Hp} {l : Addr} {o : HO} (s : Same G G') (hl : G' l = some o) (n : NC l o) : Same (VV.with1 G l o) G' := ⟨fun b u hb nt => by
  by_cases e : b = l
  · subst e; rw [with1_same] at hb; cases hb; exact hl
  · rw [with1_ne e] at hb; exact s.go b u hb nt, fun b hb => by
  have e : b ≠ l := fun z => by subst z; rw [hl] at hb; cases hb
  rw [with1_ne e]; exact s.fre b hb, fun P t => by
  have t2 : LamX.TabS (upd G l o) P lamQ := tabS_off t with1_same n fun b hb => by rw [with1_ne hb, upd_ne hb]
  obtain ⟨ps, h1, h2, h3⟩ := t2
  have nP : P ≠ l := fun z => by subst z; rw [upd_same] at h1; cases h1; exact n
  have t3 : LamX.TabS G P lamQ := ⟨ps, by rw [upd_ne nP] at h1; exact h1, h2, fun pos cv hc => by
    obtain ⟨c, e1, e2⟩ := h3 pos cv hc
    have nc : c ≠ l := fun z => by subst z; rw [upd_same] at e2; cases e2; exact nc_code n
    exact ⟨c, e1, by rw [upd_ne nc] at e2; exact e2⟩⟩
  exact s.tab P t3⟩
theorem RSt.pin {i : Nat} {ds : List D} (h : RSt K H0 Lo ρ α σ H) (hi : ρ[i]? = some (some (.own (.list ds)))) : ∃ l vs, σ[i]? = some (some (.ref l)) ∧ H l = some (.lst vs) ∧ RpL K H (Lv Lo α) ds vs ∧ (H0 l = none ∧ ¬ Lo l) ∧ i < ρ.length ∧
    RSt K (with1 H0 l (.lst vs)) (fun a => Lo a ∨ a = l) (ρ.set i (some (.pin l))) (VV.rms α [i]) σ H ∧ ∀ a, Lv (fun a => Lo a ∨ a = l) (VV.rms α [i]) a → Lv Lo α a := by
  obtain ⟨l, e1, e2, ob⟩ := h.own i _ hi
  have hlt : i < ρ.length := by
    rcases Nat.lt_or_ge i ρ.length with q | q
    · exact q
    · rw [List.getElem?_eq_none q] at hi; cases hi
  cases ob with
  | lst hl rl =>
    rename_i vs
    have h0 := h.new i l e1
    have hLv : ∀ a, Lv (fun a => Lo a ∨ a = l) (VV.rms α [i]) a → Lv Lo α a := fun a z => by
      rcases z with (z | z) | ⟨j, z⟩
      · exact .inl z
      · subst z; exact .inr ⟨i, e1⟩
      · exact .inr ⟨j, (rms_some z).1⟩
    have hL : ∀ z, Lv (fun a => Lo a ∨ a = l) (VV.rms α [i]) z → Lv Lo α z ∨ H z = none := fun z q => .inl (hLv z q)
    have ne : ∀ j a, VV.rms α [i] j = some a → a ≠ l := fun j a q e => by
      subst e
      obtain ⟨z1, z2⟩ := rms_some q
      have ej := h.inj i j a e1 z1
      have := h.sm
      exact z2 ⟨by simp [ej], by omega⟩
    refine ⟨l, vs, e2, hl, rl, ⟨h0, h.nl i l e1⟩, hlt, ⟨⟨⟨fun z q => h.re.lv z (hLv z q), h.re.lv.tb⟩, by simp [h.re.len], fun j x e => ?_⟩, h.same.with1 hl trivial, fun a z => ?_, fun j a e => ?_, fun j k z f1 f2 => h.inj j k z (rms_some f1).1 (rms_some f2).1, fun j d2 e => ?_, by simpa using h.sm, fun j rows e => ?_, fun j a e z => z.elim (h.nl j a (rms_some e).1) (ne j a e), ⟨fun j d e => ?_, (h.pr.set (x := some (.pin l)) (H1 := H) (L1 := Lv Lo α) (by intro _ z; cases z) fun _ _ _ o => o).one⟩⟩, hLv⟩
    · by_cases hj : i = j
      · subst hj
        rw [List.getElem?_set_self hlt] at e
        cases e
        exact ⟨_, e2, rfl⟩
      · rw [List.getElem?_set_ne hj] at e
        obtain ⟨w, f1, r⟩ := h.re.sl j x e
        exact ⟨w, f1, r.lives hL⟩
    · intro za zb na nb
      have h1 : a ≠ l := fun q => by subst q; rw [with1_same] at na; cases na
      have h2 : z ≠ l := fun q => by subst q; rw [with1_same] at nb; cases nb
      rw [with1_ne h1] at na
      rw [with1_ne h2] at nb
      exact h.lo a z (za.resolve_right h1) (zb.resolve_right h2) na nb
    · rw [with1_ne (ne j a e)]
      exact h.new j a (rms_some e).1
    · by_cases hj : i = j
      · subst hj
        rw [List.getElem?_set_self hlt] at e
        cases e
      · rw [List.getElem?_set_ne hj] at e
        obtain ⟨c, g1, g2, g3⟩ := h.own j d2 e
        exact ⟨c, (rms_off (by simp [Ne.symm hj])).trans g1, g2, g3.lives hL⟩
    · by_cases hj : i = j
      · subst hj
        rw [List.getElem?_set_self hlt] at e
        cases e
      · rw [List.getElem?_set_ne hj] at e
        obtain ⟨c, bs, g1, g2, g3, g4⟩ := h.grd j rows e
        exact ⟨c, bs, (rms_off (by simp [Ne.symm hj])).trans g1, g2, fun k b q => rms_far.trans (g3 k b q), g4.lives hL⟩
    · obtain ⟨a, p1, p2, p3, p4⟩ := (h.pr.set (x := some (.pin l)) (H1 := H) (L1 := Lv Lo α) (by intro _ z; cases z) fun _ _ _ o => o).par j d e
      have ha : a ≠ l := fun z => h.nl i l e1 (z ▸ p1)
      exact ⟨a, .inl p1, by rw [with1_ne ha]; exact p2, p3, p4.lives hL⟩
end
section
variable {X : Cx} {W : WX} {body : List Stmt} {f : SF} {pos px : Pos} {x : Str}
theorem rpl_evo {K : PySem.W.Frag} {H H' : Hp} {L L' : Ad} (e : ∀ d v, Rp K H L d v → Rp K H' L' d v) : ∀ {ds : List D} {vs : List V}, RpL K H L ds vs → RpL K H' L' ds vs
  | [], _, h => by
    cases h
    exact .nil
  | d :: ds, _, h => by
    cases h with
    | cons a b => exact .cons (e _ _ a) (rpl_evo e b)
end
end VV
namespace VV
open PySem PySem.Spec L2
open PyProof.Rows hiding St
section
variable {X : Cx} {elt tg iter tg1 iter1 : Expr} {ifs ifs1 : List Expr} {scope : Scope} {own : List (Str × Nat)} {vs1 : List Nat} {pos : Pos} {wi wi1 : TI} {g g1 : TG} {tt tt1 : TT} {te : TE}
end
end VV
namespace VV
open PySem PySem.Spec L2
open PyProof.Rows hiding St
theorem heap_at (a : Addr) (o : Obj) (ho : o.isFreed = false) : ∃ h : Heap, h.get? a = some o := by
  have key : ∀ n : Nat, ∃ h : Heap, h.objs.size = n := fun n => ⟨⟨Array.replicate n o, {}⟩, by simp⟩
  obtain ⟨h, hn⟩ := key a
  exact ⟨h.push o, hn ▸ Heap.get?_push_size h ho⟩
def Sofs (w : World) (H : Hp) (D : Addr) (acc : List Int) : Prop := ∃ (S : Int → Bool) (n : Nat), H D = some (SetO w D S n) ∧ (∀ k, S k = true ↔ k ∈ acc) ∧ n ≤ acc.length
theorem Sofs.mono {w : World} {H H' : Hp} {D : Addr} {acc : List Int} (h : Sofs w H D acc) (s : Same H H') : Sofs w H' D acc :=
  let ⟨S, n, a, b, c⟩ := h
  ⟨S, n, s _ _ a, b, c⟩
section
variable {X : Cx} {W : WX}
variable {elt tg iter tg1 iter1 : Expr} {ifs ifs1 : List Expr} {scope : Scope} {own : List (Str × Nat)} {pos p cpos : Pos} {fi fi1 : IF} {t t1 : Tg} {c c1 e : EF}
end
end VV
namespace VV
open PySem PySem.Spec L2
open PyProof.Rows hiding St
def ltS (a b : Str) : Prop := a.cps.toList < b.cps.toList
instance (a b : Str) : Decidable (ltS a b) := inferInstanceAs (Decidable (a.cps.toList < b.cps.toList))
end VV
namespace VV
open PySem PySem.Spec L2
open PyProof.Rows hiding St
open PySem.Froz (SD sObj TxOk addTx tailTx)
structure TxS (P : Program) (w : World) (h : Heap) (a : Addr) (l : List Str) : Prop where
  ex : ∃ D : SD, h.get? a = some (sObj "set" D) ∧ TxOk P w D l ∧ Ris D.2.2.place.toList ∧ (w.params.followText "set-order" = true ∨ D.2.2.led = true)
  nd : l.Nodup
theorem addTx_walk {w : World} {D : SD} {h : Int} {v : Value} (r : Ris D.2.2.place.toList) (l : w.params.followText "set-order" = true ∨ D.2.2.led = true) : Ris (addTx h v D).2.2.place.toList ∧ (w.params.followText "set-order" = true ∨ (addTx h v D).2.2.led = true) := by
  obtain ⟨es, ep, t⟩ := D
  have r1 := layNew_ris t es h v r
  have l1 := layNew_led t es h v
  unfold addTx tailTx
  generalize layNew t es h v = Z at *
  obtain ⟨es1, t1, dm, gv⟩ := Z
  dsimp only at r1 l1 l ⊢
  have both : ∀ t2 : SetTable, t2.place = t1.place → t2.led = t1.led → Ris (if (!dm && t2.tooFull) = true then ((relayAll t2 es1 (SetTable.grown es1.size)).1, ep + 2, (relayAll t2 es1 (SetTable.grown es1.size)).2.1) else (es1, ep + 1, t2) : SD).2.2.place.toList ∧ (w.params.followText "set-order" = true ∨ (if (!dm && t2.tooFull) = true then ((relayAll t2 es1 (SetTable.grown es1.size)).1, ep + 2, (relayAll t2 es1 (SetTable.grown es1.size)).2.1) else (es1, ep + 1, t2) : SD).2.2.led = true) := fun t2 e1 e2 => by
    have l2 : w.params.followText "set-order" = true ∨ t2.led = true := by rw [e2, l1]; exact l
    split
    · exact ⟨relayAll_ris .., by rw [relayAll_led]; exact l2⟩
    · exact ⟨by rw [e1]; exact r1, l2⟩
  split
  · exact both _ rfl rfl
  · exact both _ rfl rfl
section
variable {P : Program} {w : World} {A : Around} {E : Value → Shared → Prop} {s : Shared}
theorem there_x {a : Addr} {D : SD} {l : List Str} {k : Str} {u : Tok} {Q : Bool → Shared → Prop} (ho : s.heap.get? a = some (sObj "set" D)) (F : TxOk P w D l) (hk : k ∈ l) (hb : l.length < scanBound) (h : Q false s) : wpAny (model P w) A (setAddHashed a (.str k u) (hashStr w k)) Q E s := by
  obtain ⟨es, ep, t⟩ := D
  have few : es.size < scanBound := by have := F.sz; simp only at this; omega
  obtain ⟨e, he, is⟩ := (F.mem k).mp hk
  unfold setAddHashed setAddHashedIn
  apply wpAny_holding
  apply wpAny_bind
  apply wpAny_setState_of ho rfl F.fit
  dsimp only
  rw [byScan_of rfl few F.el]
  simp only [↓reduceIte]
  unfold setAddByScan
  apply wpAny_bind
  apply wpAny_bind
  apply wpAny_rule
  apply wpAny_bind
  refine wpAny_setScan_of (knd := strKind P w) (k := k) (PySem.Froz.is_str k u) ho rfl F.fit F.el ?_
  cases hr : List.findIdx? (fun e => (strKind P w).is k e.2) es.toList with
  | none => exact absurd is (by rw [List.findIdx?_eq_none_iff.mp hr e he]; decide)
  | some j => exact wpAny_pure (wpAny_pure h)
theorem TxS.add {a : Addr} {l : List Str} {k : Str} {u : Tok} {Q : Bool → Shared → Prop} (R : TxS P w s.heap a l) (room : l.length + 1 < scanBound)
    (go : ∀ h' b l', Heap.SameBut a s.heap h' → TxS P w h' a l' → (∀ j, j ∈ l' ↔ j = k ∨ j ∈ l) → l'.length ≤ l.length + 1 → Q b { s with heap := h' }) : wpAny (model P w) A (setAddHashed a (.str k u) (hashStr w k)) Q E s := by
  obtain ⟨D, ho, F, r, ld⟩ := R.ex
  by_cases hk : k ∈ l
  · refine there_x ho F hk (by omega) ?_
    exact go s.heap false l (Heap.SameBut.refl a s.heap) R (fun j => ⟨.inr, fun z => z.elim (fun e => e ▸ hk) id⟩) (by omega)
  · refine PySem.Froz.add_x ho F hk room ?_
    obtain ⟨r', l'⟩ := addTx_walk (w := w) (h := hashStr w k) (v := .str k u) r ld
    refine go _ true (k :: l) (Heap.SameBut.update ..) ⟨⟨_, PySem.Froz.get_upd _ ho rfl, PySem.Froz.add_ok u F, r', l'⟩, List.nodup_cons.mpr ⟨hk, R.nd⟩⟩ (fun j => List.mem_cons) (by rw [List.length_cons]; omega)
end
end VV
namespace VV
open PySem PySem.Spec L2
open PyProof.Rows hiding St
theorem TxS.at {P : Program} {w : World} {h h' : Heap} {a : Addr} {l : List Str} (R : TxS P w h a l) (k : ∀ o, h.get? a = some o → h'.get? a = some o) : TxS P w h' a l :=
  let ⟨⟨D, ho, q⟩, nd⟩ := R
  ⟨⟨D, k _ ho, q⟩, nd⟩
section
variable {P : Program} {w : World} {A : Around}
end
end VV
namespace VV
open PySem PySem.Spec L2
open PyProof.Rows hiding St
section
variable {X : Cx}
end
end VV
namespace VV
open PySem PySem.Spec L2
open PyProof.Rows hiding St
section
variable {X : Cx} {W : WX}
end
end VV
namespace VV
open PySem PySem.Spec L2
open PyProof.Rows hiding St
structure BasK (K : PySem.W.Frag) (mg : Str → Option Value) (b : Str) : Prop where
  g : mg b = some (.ref (He.ga K b))
  rd : PySem.W.readsIn K (He.ga K b) (.type "type") = true
  fc : PySem.W.findCls K (.ref (He.ga K b)) (.type "type") "__init__" = some (.val (.builtin "ValueError.__init__"))
  sp : PySem.W.specialIn K (.ref (He.ga K b)) "__getattribute__" = some (some (.builtin "type.__getattribute__"))
section
variable {X : Cx} {e : Expr} {es : List Expr} {ta : TA} {b : Str} {p1 p2 pos : Pos}
end
def spX (C : Addr) (f : Str) : Sp := fun vs H Q _ => ∃ (a : Addr) (y : V), vs = [.ref a, y] ∧ H a = some (exo a C none) ∧ ∀ dx, H dx = none → dx ≠ a → Q .non (upd (upd H dx (exd dx [(f, y)])) a (exo a C (some dx)))
structure XcK (K : PySem.W.Frag) (mg : Str → Option Value) (x f : Str) : Prop where
  g : mg x = some (.ref (He.ga K x))
  oex : OexC K (He.ga K x)
  ini : PySem.W.findIn K (.ref (He.ga K x)) "__init__" = some (some (.ref (He.ma K (He.ga K x) "__init__")))
  fn : PySem.W.typeIn K (.ref (He.ma K (He.ga K x) "__init__")) = some (.type "function")
  nof : PySem.W.findIn K (.ref (He.ga K x)) f = some none
  xf : XfC K (He.ga K x)
structure XdK (P : Program) (w : World) (K : PySem.W.Frag) (mg : Str → Option Value) (base : Heap) (x f : Str) (k : Nat) : Prop where
  c : XcK K mg x f
  ex : ∃ (fd : FuncData) (ps : List Str), FnOk P w K mg base (L2.CX P w) k (He.ma K (He.ga K x) "__init__") fd ps (spX (He.ga K x) f) ∧ Binds K fd ps []
section
variable {X : Cx} {W : WX} {x f : Str} {e : Expr} {ef : EF} {p q pos : Pos} {fd : FuncData} {ps : List Str} {k : Nat}
end
end VV
namespace VV
open PySem PySem.Spec L2
open PyProof.Rows hiding St
theorem XR.mono {K : PySem.W.Frag} {H H' : Hp} {L : Ad} {fs : List (Str × D)} {x : Option Addr} (h : XR K H L fs x) (s : Same H H') : XR K H' L fs x :=
  h.imp id fun ⟨dd, gs, a1, a2, a3, a4, a5⟩ => ⟨dd, gs, a1, a2, s _ _ a3, a4, a5.mono s⟩
theorem XR.lives {K : PySem.W.Frag} {H : Hp} {L L' : Ad} {fs : List (Str × D)} {x : Option Addr} (h : XR K H L fs x) (s : ∀ a, L' a → L a ∨ H a = none) : XR K H L' fs x :=
  h.imp id fun ⟨dd, gs, a1, a2, a3, a4, a5⟩ => ⟨dd, gs, a1, a2, a3, a4, a5.lives s⟩
def tG (K : PySem.W.Frag) (a : Addr) (i : Nat) (d : Option Addr) (fs : List (Str × D)) (f : EF) : TE := fun σ H Q => σ[i]? = some (some (.ref a)) ∧ ∃ L ρ, RE K H L ρ σ ∧ XR K H L fs d ∧ Post K WF L σ H (f ρ) Q
section
variable {X : Cx} {a : Addr} {i : Nat} {dx : Option Addr} {fs : List (Str × D)} {e b c : Expr} {rest : List Expr} {f g h : EF} {pos : Pos}
end
section
variable {X : Cx} {a : Addr} {i : Nat} {dx : Option Addr} {fs : List (Str × D)} {e : Expr} {f : SF} {ef : EF} {pos : Pos} {sts : List Stmt}
end
structure ClF where
  slot : Option Nat
  sub : Str → Option Bool
  suite : Str → List (Str × D) → SF
def hitF (i : Nat) (f : SF) (ρ : En) : Out := match ρ[i]? with
  | some _ => Out.clr i (f (ρ.set i none))
  | _ => .bad
def ClF.hit (k : ClF) (c : Str) (fs : List (Str × D)) (ρ : En) : Out := match k.slot with
  | none => Out.suf (k.suite c fs ρ)
  | some i => hitF i (k.suite c fs) ρ
section
variable {X : Cx} {W : WX} {x n : Str} {i : Nat} {body suite : List Stmt} {b₀ : Stmt} {np pos pos' : Pos} {fb fh : SF} {gh : Str → List (Str × D) → SF} {sub : Str → Option Bool} {h : ExceptHandler} {hds : List ExceptHandler} {k : ClF} {ks : List ClF}
def FitF (X : Cx) (W : WX) (H0 : Hp) (Lo : Ad) (k : ClF) (q : Tk) : Prop := (∀ c b, k.sub c = some b → PySem.W.exmOne X.K (.ref (He.ga X.K c)) q.1 = some b) ∧
  ∀ (D : Ends) (c : Str) (fs : List (Str × VV.D)) (ρ : En) (α : Nat → Option Addr) (σ : St) (H : Hp) (xo : Option Addr) (a : Addr), k.sub c = some true → RSt X.K H0 Lo ρ α σ H → XR X.K H (Lv Lo α) fs xo → H a = none → PostS X.K H0 Lo W H α (k.hit c fs ρ) D → q.2 a (.ref (He.ga X.K c)) xo D σ H
def SHF (X : Cx) (h : ExceptHandler) (k : ClF) : Prop := ∀ (H0 : Hp) (Lo : Ad), ∃ q : Tk, HdOk X h q.1 q.2 ∧ ∀ W, FitF X W H0 Lo k q
inductive SHFs (X : Cx) : List ExceptHandler → List ClF → Prop
  | nil : SHFs X [] []
  | cons {h : ExceptHandler} {k : ClF} {hds : List ExceptHandler} {ks : List ClF} : SHF X h k → SHFs X hds ks → SHFs X (h :: hds) (k :: ks)
end
end VV
namespace VV
open PySem PySem.Spec L2
open PyProof.Rows hiding St
section
variable {X : Cx} {W : WX} {a b e : Expr} {fa fb ef eg : EF} {pos : Pos}
end
end VV
namespace VV
open PySem PySem.Spec L2
open PyProof.Rows hiding St
def RsOk (K : PySem.W.Frag) (H : Hp) (L : Ad) (r : Rs) (Q : VK) (E : XK) : Prop := match r with
  | .ok d => ∀ H' v, Same H H' → Rp K H' L d v → Q v H'
  | .exc c fs => ∀ H' x, Same H H' → XR K H' L fs x → E (.ref (He.ga K c)) x H'
  | .bad => False
def spC (K : PySem.W.Frag) (g : List D → Rs) : Sp := fun vs H Q E => ∃ (L : Ad) (a : Addr) (d : D), vs = [.ref a] ∧ LvOk K (del H a) L ∧ Ow K H (Lp L a) d a ∧ RsOk K (del H a) L (g [d]) Q E
structure DnC (P : Program) (w : World) (K : PySem.W.Frag) (mg : Str → Option Value) (base : Heap) (x : Str) (k : Nat) (g : List D → Rs) : Prop where
  ex : ∃ (fa : Addr) (fd : FuncData) (ps : List Str), mg x = some (.ref fa) ∧ FnOk P w K mg base (L2.CX P w) k fa fd ps (spC K g) ∧ PySem.W.keepIn K (.ref fa) = true ∧ Binds K fd ps []
theorem tabS_del {H : Hp} {P a : Addr} {q : Str} {u : HO} (t : LamX.TabS H P q) (ha : H a = some u) (n : NC a u) : LamX.TabS (del H a) P q := by
  obtain ⟨ps, h1, h2, h3⟩ := t
  refine ⟨ps, ?_, h2, fun pos cv hc => ?_⟩
  · rw [del_ne]
    · exact h1
    · intro e; subst e; rw [ha] at h1; cases h1; exact n
  · obtain ⟨c, e1, e2⟩ := h3 pos cv hc
    refine ⟨c, e1, ?_⟩
    rw [del_ne]
    · exact e2
    · intro e; subst e; rw [ha] at e2; cases e2; exact nc_code n
theorem TbOk.del {K : PySem.W.Frag} {H : Hp} {a : Addr} {u : HO} (t : TbOk K H) (ha : H a = some u) (n : NC a u) : TbOk K (del H a) := fun e => tabS_del (t e) ha n
theorem Same.delN {H H1 : Hp} {a : Addr} {u : HO} (s : Same H H1) (na : H a = none) (ha : H1 a = some u) (n : NC a u) : Same H (del H1 a) := ⟨fun b x hb nt => by
  rw [del_ne (by intro e; subst e; rw [na] at hb; cases hb)]
  exact s.go b x hb nt, fun b hb => by
  by_cases e : b = a
  · subst e; exact na
  · rw [del_ne e] at hb; exact s.fre b hb, fun P t => tabS_del (s.tab P t) ha n⟩
theorem same_del {H : Hp} {a : Addr} : Same (del H a) H := .of fun b o e => by
  by_cases hb : b = a
  · rw [hb, del_same] at e; cases e
  · rw [del_ne hb] at e; exact e
section
variable {X : Cx} {W : WX} {x : Str} {p pos : Pos} {e : Expr} {ef : EF}
end
end VV
namespace VV
open PySem PySem.Spec L2
open PyProof.Rows hiding St
open Builtin.SmallTypes (nextOf ownedTupleIsFree ownedTupleHandOut)
abbrev zr (f g : Value) (TI TO : Addr) : Obj := { cls := .type "zip", dict := none, data := .fields #[f, g, .bool false, .ref TI, .ref TO], slots := #[] }
def Mine (f : Value) : Prop := f = .none ∨ ∃ T : Addr, f = rawInt T
section
variable {prog : Program} {w : World} {A : Around} {E : Value → Shared → Prop} {s : Shared} {z TI TO i1 i2 l1 l2 : Addr} {f g : Value}
structure Zt (h : Heap) (z TI TO i1 i2 l1 l2 : Addr) (k : Nat) : Prop where
  me : ∃ f b, Mine f ∧ h.get? z = some (zr f (.bool b) TI TO)
  its : IsPair h TI (.ref i1) (.ref i2)
  last : ∃ a b, IsPair h TO a b
  j1 : h.IsTupleIter i1 l1 k
  j2 : h.IsTupleIter i2 l2 k
end
end VV
namespace VV
open PySem PySem.Spec L2
open PyProof.Rows hiding St
section
variable {prog : Program} {w : World} {A : Around} {E : Value → Shared → Prop} {s : Shared}
end
end VV
namespace VV
open PySem PySem.Spec L2
open PyProof.Rows hiding St
section
variable {K : PySem.W.Frag}
end
section
variable {X : Cx} {W : WX} {a b : Expr} {fs : List EF} {p p2 pos pos2 tpos : Pos} {elts : List Expr} {kk : Nat}
end
section
variable {prog : Program} {w : World} {A : Around} {E : Value → Shared → Prop} {s : Shared}
end
section
variable {X : Cx}
end
end VV
namespace VV
open PySem PySem.Spec L2
open PyProof.Rows hiding St
inductive Ms where
  | ok (r d : D)
  | exc (c : Str) (fs : List (Str × D)) (d : D)
  | bad
def prm (ρ : En) (m : Nat) : Option D := match ρ[m]? with
  | some (some (.ownP d)) => some d
  | _ => none
def outM (m : Nat) : Out → Ms
  | .nx ρ => match prm ρ m with
    | some d => .ok .none d
    | none => .bad
  | .rm r ρ => match prm ρ m with
    | some d => .ok r d
    | none => .bad
  | .exc c fs ρ => match prm ρ m with
    | some d => .exc c fs d
    | none => .bad
  | _ => .bad
def vlS (d : D) : Option Sl := some (.val d)
def inM (m : Nat) (ds : List D) (d : D) : En := (ds.take m).map vlS ++ some (.ownP d) :: (ds.drop m).map vlS
def runM (n m N : Nat) (f : SF) (ds : List D) (d : D) : Ms := if ds.length + 1 = n then outM m (f (inM m ds d ++ List.replicate (N - n) none)) else .bad
def MsOk (K : PySem.W.Frag) (H : Hp) (L : Ad) (a : Addr) (r : Ms) (Q : VK) (E : XK) : Prop := match r with
  | .ok r d => ∀ H' v, Same (del H a) H' → (∀ x y, Rp K H (Lp L a) x y → Rp K H' (Lp L a) x y) → Ow K H' (Lp L a) d a → Rp K H' (Lp L a) r v → Q v H'
  | .exc c fs d => ∀ H' x, Same (del H a) H' → (∀ x y, Rp K H (Lp L a) x y → Rp K H' (Lp L a) x y) → Ow K H' (Lp L a) d a → XR K H' (Lp L a) fs x → E (.ref (He.ga K c)) x H'
  | .bad => False
def spM (K : PySem.W.Frag) (n m : Nat) (g : List D → D → Ms) : Sp := fun vs H Q E => ∃ (L : Ad) (a : Addr) (ds : List D) (d : D) (us ws : List V), vs = us ++ .ref a :: ws ∧ ds.length + 1 = n ∧ m < n ∧ LvOk K (del H a) L ∧ Ow K H (Lp L a) d a ∧
  RpL K H (Lp L a) (ds.take m) us ∧ RpL K H (Lp L a) (ds.drop m) ws ∧ MsOk K H L a (g ds d) Q E
structure DnM (P : Program) (w : World) (K : PySem.W.Frag) (mg : Str → Option Value) (base : Heap) (x : Str) (k n m : Nat) (g : List D → D → Ms) : Prop where
  ex : ∃ (fa : Addr) (fd : FuncData) (ps : List Str), mg x = some (.ref fa) ∧ FnOk P w K mg base (L2.CX P w) k fa fd ps (spM K n m g) ∧ PySem.W.keepIn K (.ref fa) = true ∧ Binds K fd ps []
end VV
namespace VV
open PySem PySem.Spec L2
open PyProof.Rows hiding St
def plAt (ρ : En) (i : Nat) : Option D := match ρ[i]? with
  | some (some (.own d)) => some d
  | some (some (.ownP d)) => some d
  | _ => none
def putO (ρ : En) (i : Nat) (d : D) : En := match ρ[i]? with
  | some (some (.own _)) => ρ.set i (some (.own d))
  | some (some (.ownP _)) => ρ.set i (some (.ownP d))
  | some (some (.grid (.stu o _))) => ρ.set i (some (.grid (.stu o d)))
  | _ => ρ
section
variable {K : PySem.W.Frag} {H0 H H' : Hp} {Lo : Ad} {ρ : En} {α : Nat → Option Addr} {σ : St}
theorem Ow.evo {a b : Addr} {e : D} {L L' : Ad} (h : Ow K H L e b) (ne : b ≠ a) (s : Same (del H a) H') (ev : ∀ x y, Rp K H L x y → Rp K H' L' x y) : Ow K H' L' e b := by
  have t : ∀ {o}, H b = some o → (nt : NT o := by exact trivial) → H' b = some o := fun {o} q nt => s.go b o (by rw [del_ne ne]; exact q) nt
  cases h with
  | lst h r => exact .lst (t h) (rpl_evo ev r)
  | dk h z r => exact .dk (t h) z (rpl_evo ev r)
  | dt h z r => exact .dt (t h) z (rpl_evo ev r)
  | ob h z r => exact .ob (t h) z (rpl_evo ev r)
theorem Fl.evo {b : Addr} {bs : List Addr} {ds : List D} {vs : List V} {L L' : Ad} (h : Fl K H L ds vs bs) (t : ∀ c ∈ bs, ∀ o, H c = some o → (nt : NT o) → H' c = some o) (ev : ∀ x y, Rp K H L x y → Rp K H' L' x y) : Fl K H' L' ds vs bs := by
  induction h with
  | nil => exact .nil
  | val r _ ih => exact .val (ev _ _ r) (ih t)
  | inn h r _ ih => exact .inn (t _ (by simp) _ h trivial) (rpl_evo ev r) (ih fun c hc => t c (by simp [hc]))
theorem Ogr.evo {a b : Addr} {bs : List Addr} {rows : List (List D)} {L L' : Ad} (h : Ogr K H L rows b bs) (ne : b ≠ a) (nb : ∀ c ∈ bs, c ≠ a) (s : Same (del H a) H') (ev : ∀ x y, Rp K H L x y → Rp K H' L' x y) : Ogr K H' L' rows b bs :=
  ⟨s b _ (by rw [del_ne ne]; exact h.top), h.len, fun k r c e1 e2 => by
    obtain ⟨us, q, rl⟩ := h.row k r c e1 e2
    exact ⟨us, s c _ (by rw [del_ne (nb c (List.mem_of_getElem? e2))]; exact q), rpl_evo ev rl⟩⟩
theorem Og.evo {a b : Addr} {bs : List Addr} {g : Gr} {L L' : Ad} (h : Og K H L g b bs) (ne : b ≠ a) (nb : ∀ c ∈ bs, c ≠ a) (s : Same (del H a) H') (ev : ∀ x y, Rp K H L x y → Rp K H' L' x y) : Og K H' L' g b bs := by
  cases g with
  | rows rs => exact Ogr.evo h ne nb s ev
  | stu o d =>
    obtain ⟨C, fs, dx, vs, e, h1, h2, h3⟩ := Os.ex h
    exact ⟨Os.at_ h, C, fs, dx, vs, e, s b _ (by rw [del_ne ne]; exact h1), h2, h3.evo (b := b) (fun c hc o q nt => s.go c o (by rw [del_ne (nb c hc)]; exact q) nt) ev⟩
  | gx x => exact x.evo (fun c hc o q nt => s.go c o (by rw [del_ne (hc.elim (fun e => e ▸ ne) (nb c))]; exact q) nt) ev h
theorem RSt.at_ {i : Nat} {d : D} (h : RSt K H0 Lo ρ α σ H) (e : plAt ρ i = some d) : ∃ a, σ[i]? = some (some (.ref a)) ∧ Ow K H (Lv Lo α) d a ∧ Lv Lo α a ∧ H0 a = none := by
  unfold plAt at e
  split at e
  · rename_i q
    cases e
    obtain ⟨a, e1, e2, o⟩ := h.own i d q
    exact ⟨a, e2, o, .inr ⟨i, e1⟩, h.new i a e1⟩
  · rename_i q
    cases e
    obtain ⟨a, e1, e2, e3, o⟩ := h.pr.par i d q
    exact ⟨a, e3, o, .inl e1, e2⟩
  · cases e
theorem RSt.swap {i : Nat} {d d' : D} {a : Addr} (h : RSt K H0 Lo ρ α σ H) (e : plAt ρ i = some d) (ha : σ[i]? = some (some (.ref a))) (s : Same (del H a) H') (ev : ∀ x y, Rp K H (Lv Lo α) x y → Rp K H' (Lv Lo α) x y) (ow : Ow K H' (Lv Lo α) d' a) :
    RSt K H0 Lo (putO ρ i d') α σ H' := by
  obtain ⟨b, hb, _, lb, nb⟩ := h.at_ e
  have eb : b = a := by rw [ha] at hb; cases hb; rfl
  subst eb
  have hlt : i < ρ.length := by
    rcases Nat.lt_or_ge i ρ.length with q | q
    · exact q
    · unfold plAt at e
      rw [List.getElem?_eq_none q] at e
      cases e
  have kind : (ρ[i]? = some (some (.own d)) ∧ putO ρ i d' = ρ.set i (some (.own d')) ∧ α i = some b) ∨ (ρ[i]? = some (some (.ownP d)) ∧ putO ρ i d' = ρ.set i (some (.ownP d')) ∧ Lo b) := by
    unfold plAt at e
    split at e
    · rename_i q
      cases e
      obtain ⟨c, e1, e2, _⟩ := h.own i d q
      rw [ha] at e2
      cases e2
      exact .inl ⟨q, by unfold putO; rw [q], e1⟩
    · rename_i q
      cases e
      obtain ⟨c, e1, _, e2, _⟩ := h.pr.par i d q
      rw [ha] at e2
      cases e2
      exact .inr ⟨q, by unfold putO; rw [q], e1⟩
    · cases e
  have len : (putO ρ i d').length = ρ.length := by rcases kind with ⟨_, q, _⟩ | ⟨_, q, _⟩ <;> rw [q, List.length_set]
  -- a slot of the new frame
  have slot : ∀ {j : Nat} {x : Sl}, (putO ρ i d')[j]? = some (some x) → (j = i ∧ ((x = .own d' ∧ ρ[i]? = some (some (.own d)) ∧ α i = some b) ∨ (x = .ownP d' ∧ ρ[i]? = some (some (.ownP d)) ∧ Lo b))) ∨ (j ≠ i ∧ ρ[j]? = some (some x)) := fun {j x} q => by
    by_cases hj : j = i
    · subst hj
      rcases kind with ⟨k1, k2, k3⟩ | ⟨k1, k2, k3⟩
      · rw [k2, List.getElem?_set_self hlt] at q
        cases q
        exact .inl ⟨rfl, .inl ⟨rfl, k1, k3⟩⟩
      · rw [k2, List.getElem?_set_self hlt] at q
        cases q
        exact .inl ⟨rfl, .inr ⟨rfl, k1, k3⟩⟩
    · right
      refine ⟨hj, ?_⟩
      rcases kind with ⟨_, k2, _⟩ | ⟨_, k2, _⟩ <;> rwa [k2, List.getElem?_set_ne (Ne.symm hj)] at q
  -- where others lie
  have farO : ∀ {j : Nat} {c : Addr} {x : Sl}, j ≠ i → ρ[j]? = some (some x) → α j = some c → c ≠ b := fun {j c x} hj ej q z => by
    subst z
    rcases kind with ⟨_, _, k3⟩ | ⟨_, _, k3⟩
    · exact hj (h.inj _ _ _ q k3)
    · exact h.nl j c q k3
  have farG : ∀ {j : Nat} {bs : List Addr}, (∀ k c, bs[k]? = some c → α (vix j k) = some c) → ∀ c ∈ bs, c ≠ b := fun {j bs} hg c m z => by
    subst z
    obtain ⟨k, hk⟩ := List.mem_iff_getElem?.mp m
    have q := hg k c hk
    rcases kind with ⟨_, _, k3⟩ | ⟨_, _, k3⟩
    · have q1 := h.inj _ _ _ k3 q
      have q2 := vix_ge j k
      have q3 := h.sm
      omega
    · exact h.nl _ c q k3
  have farP : ∀ {j : Nat} {e : D} {c : Addr}, j ≠ i → ρ[j]? = some (some (.ownP e)) → Lo c → H0 c = none → c ≠ b := fun {j e c} hj ej lc nc z => by
    subst z
    rcases kind with ⟨_, _, k3⟩ | ⟨k1, _, _⟩
    · exact h.nl i c k3 lc
    · exact hj (h.pr.one _ _ _ _ ej k1)
  obtain ⟨o0, eo0, nc0⟩ : ∃ o0, H b = some o0 ∧ NC b o0 := (let ⟨c, hc, oc, _, _⟩ := h.at_ e; by
    rw [ha] at hc; cases hc; exact oc.nc)
  refine ⟨⟨⟨fun z q => ?_, (h.re.lv.tb.del eo0 nc0).mono s⟩, by rw [len]; exact h.re.len, fun j x q => ?_⟩, (h.same.delN nb eo0 nc0).trans s, h.lo, h.new, h.inj, fun j e2 q => ?_, by rw [len]; exact h.sm, fun j rows q => ?_, h.nl, ⟨fun j e2 q => ?_, fun j l e2 e3 q1 q2 => ?_⟩⟩
  · by_cases hz : z = b
    · obtain ⟨o, ho, _⟩ := ow.chg
      rw [hz, ho]
      simp
    · intro z0
      have z1 := s.fre z z0
      rw [del_ne hz] at z1
      exact h.re.lv z q z1
  · rcases slot q with ⟨rfl, ⟨rfl, _⟩ | ⟨rfl, _⟩⟩ | ⟨hj, q⟩
    · exact ⟨_, ha, b, rfl, ow⟩
    · exact ⟨_, ha, b, rfl, ow⟩
    · obtain ⟨w, f1, r⟩ := h.re.sl j x q
      refine ⟨w, f1, ?_⟩
      cases x with
      | val d3 => obtain ⟨v, g1, g2⟩ := r; exact ⟨v, g1, ev _ _ g2⟩
      | own d3 =>
        obtain ⟨c, g1, g2, g3⟩ := h.own j d3 q
        rw [f1] at g2
        cases g2
        exact ⟨c, rfl, g3.evo (farO hj q g1) s ev⟩
      | grid rows =>
        obtain ⟨c, bs, g1, g2, g3, g4⟩ := h.grd j rows q
        rw [f1] at g2
        cases g2
        exact ⟨c, bs, rfl, g4.evo (farO hj q g1) (farG g3) s ev⟩
      | pin a => exact r
      | ownP d3 =>
        obtain ⟨c, lc, nc, g2, g3⟩ := h.pr.par j d3 q
        rw [f1] at g2
        cases g2
        exact ⟨c, rfl, g3.evo (farP hj q lc nc) s ev⟩
  · rcases slot q with ⟨rfl, ⟨z, _, k3⟩ | ⟨z, _⟩⟩ | ⟨hj, q⟩
    · cases z
      exact ⟨b, k3, ha, ow⟩
    · cases z
    · obtain ⟨c, g1, g2, g3⟩ := h.own j e2 q
      exact ⟨c, g1, g2, g3.evo (farO hj q g1) s ev⟩
  · rcases slot q with ⟨rfl, ⟨z, _⟩ | ⟨z, _⟩⟩ | ⟨hj, q⟩
    · cases z
    · cases z
    · obtain ⟨c, bs, g1, g2, g3, g4⟩ := h.grd j rows q
      exact ⟨c, bs, g1, g2, g3, g4.evo (farO hj q g1) (farG g3) s ev⟩
  · rcases slot q with ⟨rfl, ⟨z, _⟩ | ⟨z, _, k3⟩⟩ | ⟨hj, q⟩
    · cases z
    · cases z
      exact ⟨b, k3, nb, ha, ow⟩
    · obtain ⟨c, lc, nc, g2, g3⟩ := h.pr.par j e2 q
      exact ⟨c, lc, nc, g2, g3.evo (farP hj q lc nc) s ev⟩
  · have old : ∀ {j : Nat} {e : D}, (putO ρ i d')[j]? = some (some (.ownP e)) → ∃ e', ρ[j]? = some (some (.ownP e')) := fun {j e} q => by
      rcases slot q with ⟨rfl, ⟨z, _⟩ | ⟨_, k1, _⟩⟩ | ⟨_, q⟩
      · cases z
      · exact ⟨_, k1⟩
      · exact ⟨_, q⟩
    obtain ⟨_, o1⟩ := old q1
    obtain ⟨_, o2⟩ := old q2
    exact h.pr.one _ _ _ _ o1 o2
end
end VV
namespace VV
open PySem PySem.Spec L2
open PyProof.Rows hiding St
abbrev EMF := En → Ms
def PostM (K : PySem.W.Frag) (H0 : Hp) (Lo : Ad) (W : WX) (σ : St) (H : Hp) (ρ : En) (α : Nat → Option Addr) (i : Nat) (r : Ms) (Q : VK) : Prop := match r with
  | .ok r d => ∀ α' H' v, RSt K H0 Lo (putO ρ i d) α' σ H' → Evo K Lo H α H' α' → Rp K H' (Lv Lo α') r v → Q v H'
  | .exc c fs d => ∀ α' H' x, RSt K H0 Lo (putO ρ i d) α' σ H' → Evo K Lo H α H' α' → XR K H' (Lv Lo α') fs x → W (.ref (He.ga K c)) x σ H'
  | .bad => False
section
variable {X : Cx} {W : WX} {e : Expr} {es : List Expr} {f : EF} {fs : List EF} {pos : Pos} {x : Str} {p : Pos}
theorem MsOk.of {K : PySem.W.Frag} {H0 H H1 : Hp} {Lo : Ad} {ρ : En} {α : Nat → Option Addr} {σ : St} {i : Nat} {d : D} {a : Addr} {r : Ms} {Q : VK} (rst : RSt K H0 Lo ρ α σ H) (ho : plAt ρ i = some d) (ha : σ[i]? = some (some (.ref a))) (s1 : Same H H1)
    (p : PostM K H0 Lo W σ H ρ α i r Q) : LvOk K (del H1 a) (fun z => Lv Lo α z ∧ z ≠ a) ∧ Ow K H1 (Lp (fun z => Lv Lo α z ∧ z ≠ a) a) d a ∧ (∀ {ds : List D} {vs : List V}, RpL K H1 (Lv Lo α) ds vs → RpL K H1 (Lp (fun z => Lv Lo α z ∧ z ≠ a) a) ds vs) ∧
    MsOk K H1 (fun z => Lv Lo α z ∧ z ≠ a) a r Q (WE W σ) := by
  have rst1 := rst.mono s1
  obtain ⟨b, hb, ow, lb, nb⟩ := rst1.at_ ho
  have eb : b = a := by rw [ha] at hb; cases hb; rfl
  subst eb
  have toL : ∀ z, Lp (fun z => Lv Lo α z ∧ z ≠ b) b z → Lv Lo α z ∨ H1 z = none := fun z q => .inl (q.elim (·.1) fun e => e ▸ lb)
  have ofL : ∀ {G : Hp} z, Lv Lo α z → Lp (fun z => Lv Lo α z ∧ z ≠ b) b z ∨ G z = none := fun {G} z q => .inl (by
    by_cases hz : z = b
    · exact .inr hz
    · exact .inl ⟨q, hz⟩)
  obtain ⟨o0, eo0, nc0⟩ := ow.nc
  refine ⟨⟨fun z q z0 => ?_, rst1.re.lv.tb.del eo0 nc0⟩, ow.lives toL, fun r => r.lives toL, ?_⟩
  · rw [del_ne q.2] at z0
    exact rst1.re.lv z q.1 z0
  · have back : ∀ {H' : Hp} {d' : D}, Same (del H1 b) H' → (∀ x y, Rp K H1 (Lp (fun z => Lv Lo α z ∧ z ≠ b) b) x y → Rp K H' (Lp (fun z => Lv Lo α z ∧ z ≠ b) b) x y) → Ow K H' (Lp (fun z => Lv Lo α z ∧ z ≠ b) b) d' b →
        RSt K H0 Lo (putO ρ i d') α σ H' ∧ Evo K Lo H α H' α := fun {H' d'} s2 ev ow2 => by
      have ev2 : ∀ x y, Rp K H1 (Lv Lo α) x y → Rp K H' (Lv Lo α) x y := fun x y r => (ev x y (r.lives toL)).lives ofL
      exact ⟨rst1.swap ho ha s2 ev2 (ow2.lives ofL), fun x y r => ev2 x y (r.mono s1)⟩
    cases r with
    | bad => exact p
    | ok r d' =>
      intro H' v s2 ev ow2 rv
      obtain ⟨q1, q2⟩ := back s2 ev ow2
      exact p α H' v q1 q2 (rv.lives ofL)
    | exc c fs d' =>
      intro H' x s2 ev ow2 xr
      obtain ⟨q1, q2⟩ := back s2 ev ow2
      exact p α H' x q1 q2 (xr.lives ofL)
def Ms.out (r : Ms) (ρ : En) (i : Nat) (k : D → En → Out) : Out := match r with
  | .ok r d => k r (putO ρ i d)
  | .exc c fs d => .exc c fs (putO ρ i d)
  | .bad => .bad
end
end VV
namespace VV
open PySem PySem.Spec L2
open PyProof.Rows hiding St
section
variable {K : PySem.W.Frag} {H0 H0' H H' : Hp} {Lo Lo' : Ad} {ρ ρ' ρ2 : En} {α α' : Nat → Option Addr} {σ σ' : St} {D : Addr} {o o' : HO}
theorem RSt.map (h : RSt K H0 Lo ρ α σ H) (lv : LvOk K H' (Lv Lo' α)) (tr : ∀ x y, Rp K H (Lv Lo α) x y → Rp K H' (Lv Lo' α) x y)
    (to : ∀ d a, Lv Lo α a → H0 a = none → Ow K H (Lv Lo α) d a → Ow K H' (Lv Lo' α) d a) (tg : ∀ (rows : Gr) a bs, H0 a = none → (∀ b ∈ bs, H0 b = none) → Og K H (Lv Lo α) rows a bs → Og K H' (Lv Lo' α) rows a bs)
    (sm : Same H0' H') (lo : ∀ a b, Lo' a → Lo' b → H0' a = none → H0' b = none → a = b) (new : ∀ i a, α i = some a → H0' a = none) (nl : ∀ i a, α i = some a → ¬ Lo' a) (pr : ∀ a, Lo a → H0 a = none → Lo' a ∧ H0' a = none) : RSt K H0' Lo' ρ α σ H' := by
  have own : ∀ (i : Nat) (d : VV.D), ρ[i]? = some (some (.own d)) → ∃ a, α i = some a ∧ σ[i]? = some (some (.ref a)) ∧ Ow K H' (Lv Lo' α) d a := fun i d e => by
    obtain ⟨a, e1, e2, q⟩ := h.own i d e
    exact ⟨a, e1, e2, to d a (.inr ⟨i, e1⟩) (h.new i a e1) q⟩
  have grd : ∀ (i : Nat) (rows : Gr), ρ[i]? = some (some (.grid rows)) → ∃ a bs, α i = some a ∧ σ[i]? = some (some (.ref a)) ∧ (∀ k b, bs[k]? = some b → α (vix i k) = some b) ∧ Og K H' (Lv Lo' α) rows a bs := fun i rows e => by
    obtain ⟨a, bs, e1, e2, e3, q⟩ := h.grd i rows e
    refine ⟨a, bs, e1, e2, e3, tg rows a bs (h.new i a e1) (fun b hb => ?_) q⟩
    obtain ⟨k, hk⟩ := List.mem_iff_getElem?.mp hb
    exact h.new _ b (e3 k b hk)
  have par : ∀ (i : Nat) (d : VV.D), ρ[i]? = some (some (.ownP d)) → ∃ a, Lo' a ∧ H0' a = none ∧ σ[i]? = some (some (.ref a)) ∧ Ow K H' (Lv Lo' α) d a := fun i d e => by
    obtain ⟨a, e1, e2, e3, q⟩ := h.pr.par i d e
    exact ⟨a, (pr a e1 e2).1, (pr a e1 e2).2, e3, to d a (.inl e1) e2 q⟩
  refine ⟨⟨lv, h.re.len, fun i x e => ?_⟩, sm, lo, new, h.inj, own, h.sm, grd, nl, ⟨par, h.pr.one⟩⟩
  obtain ⟨w, e1, r⟩ := h.re.sl i x e
  refine ⟨w, e1, ?_⟩
  cases x with
  | val d => obtain ⟨v, g1, g2⟩ := r; exact ⟨v, g1, tr _ _ g2⟩
  | own d =>
    obtain ⟨a, _, g1, g2⟩ := own i d e
    rw [e1] at g1
    cases g1
    exact ⟨a, rfl, g2⟩
  | grid rows =>
    obtain ⟨a, bs, _, g1, _, g2⟩ := grd i rows e
    rw [e1] at g1
    cases g1
    exact ⟨a, bs, rfl, g2⟩
  | pin a => exact r
  | ownP d =>
    obtain ⟨a, _, _, g1, g2⟩ := par i d e
    rw [e1] at g1
    cases g1
    exact ⟨a, rfl, g2⟩
end
section
variable {X : Cx} {W : WX}
end
end VV
namespace VV
open PySem PySem.Spec L2
open PyProof.Rows hiding St
def Ms.one (r : Ms) (fn : List D → Option D) : Ms := match r with
  | .ok r d => match fn [r] with
    | some y => .ok y d
    | none => .bad
  | .exc c fs d => .exc c fs d
  | .bad => .bad
section
variable {X : Cx} {W : WX} {x : Str} {p pos : Pos} {e : Expr} {id : String} {fn : List D → Option D} {f : EMF} {i : Nat}
end
end VV
namespace VV
open PySem PySem.Spec L2
open PyProof.Rows hiding St
section
variable {X : Cx}
end
end VV
namespace VV
open PySem PySem.Spec L2
open PyProof.Rows hiding St
section
variable {K : PySem.W.Frag} {H : Hp} {L : Ad} {c : Str} {fs : List (Str × D)}
end
structure FldK (K : PySem.W.Frag) (C f : Str) : Prop where
  cls : Cls K (He.ga K C)
  no : NoAttr K (He.ga K C) f
section
variable {X : Cx} {W : WX} {o e : Expr} {ef eg : EF} {C f x : Str} {pos pos' p : Pos}
end
end VV
namespace VV
open PySem PySem.Spec L2
open PyProof.Rows hiding St
section
variable {X : Cx} {CX : CXT} {k : Nat} {C f : Addr} {m : Str} {fd : FuncData} {ps : List Str} {sp : Sp} {E : St → XK} {o e : Expr} {es : List Expr} {ta : TE} {t : TA} {apos pos : Pos}
end
structure DnO (P : Program) (w : World) (K : PySem.W.Frag) (mg : Str → Option Value) (base : Heap) (C m : Str) (k n : Nat) (g : List D → D → Ms) : Prop where
  ex : ∃ (f : Addr) (fd : FuncData) (ps : List Str), Cls K (He.ga K C) ∧ Meth K (He.ga K C) m f ∧ FnOk P w K mg base (L2.CX P w) k f fd ps (spM K n 0 g) ∧ Binds K fd ps []
section
variable {X : Cx} {W : WX} {e : Expr} {es : List Expr} {fs : List EF} {pos apos px : Pos} {x C m : Str}
end
end VV
namespace VV
open PySem PySem.Spec L2
open PyProof.Rows hiding St
section
variable {X : Cx} {W : WX} {a b c : Expr} {pos p : Pos} {i : Nat} {f h : EF} {mf mg : EMF} {tg : Expr}
theorem PostM.mono {K : PySem.W.Frag} {H0 H H1 : Hp} {Lo : Ad} {σ : St} {ρ : En} {α : Nat → Option Addr} {r : Ms} {Q : VK} (p : PostM K H0 Lo W σ H ρ α i r Q) (s : Same H H1) : PostM K H0 Lo W σ H1 ρ α i r Q := by
  cases r with
  | bad => exact p
  | ok y d => exact fun α2 H2 u r2 e2 ru => p α2 H2 u r2 (Evo.trans (.of_same s) e2) ru
  | exc c xs d => exact fun α2 H2 xo r2 e2 xr => p α2 H2 xo r2 (Evo.trans (.of_same s) e2) xr
end
end VV
namespace VV
open PySem PySem.Spec L2
open PyProof.Rows hiding St
section
variable {X : Cx} {W : WX} {a b e : Expr} {pos p : Pos} {i : Nat} {f : EF} {mf mg : EMF} {tg : Expr}
end
end VV
namespace VV
open PySem PySem.Spec L2
open PyProof.Rows hiding St
section
variable {X : Cx} {W : WX} {e : Expr} {pos : Pos} {i j : Nat} {mf : EMF}
end
end VV
namespace VV
open PySem PySem.Spec L2
open PyProof.Rows hiding St
structure DnK (P : Program) (w : World) (K : PySem.W.Frag) (mg : Str → Option Value) (base : Heap) (C : Str) (k n : Nat) (g : List D → D → Ms) : Prop where
  ex : ∃ (f : Addr) (fd : FuncData) (ps : List Str), mg C = some (.ref (He.ga K C)) ∧ Mk K (He.ga K C) f ∧ FnOk P w K mg base (L2.CX P w) k f fd ps (spM K n 0 g) ∧ Binds K fd ps []
section
variable {X : Cx} {W : WX} {e : Expr} {es : List Expr} {fs : List EF} {pos p : Pos} {C : Str}
end
end VV
namespace VV
open PySem PySem.Spec L2
open PyProof.Rows hiding St
section
variable {X : Cx} {W : WX} {e : Expr} {eg : EF} {C f x : Str} {pos tpos p : Pos}
end
end VV
namespace VV
open PySem PySem.Spec L2
open PyProof.Rows hiding St
structure LamS1 (nm : Str) (outside inside : Scope) : Prop where
  kd : inside.kind = .function ∧ inside.isCoroutine = false ∧ inside.isGenerator = false
  par : inside.names.lookup nm = some .local
  loc : ∀ p ∈ inside.names, p.2 = .local → p.1 = nm
  noc : ∀ p ∈ inside.names, p.2 ≠ .cell
  cap : ∀ p ∈ inside.names, p.2 = .free → p.1 ≠ nm
  out : ∀ p ∈ inside.names, p.2 = .free → outside.names.lookup p.1 = some .cell ∨ outside.names.lookup p.1 = some .free
section
variable {X : Cx} {pins : List (Addr × Obj)} {σ : St} {H : Hp} {s : Shared} {nm : Str} {iM : Nat} {v : V} {u : Value} {inside : Scope}
end
end VV
namespace VV
open PySem PySem.Spec L2
open PyProof.Rows hiding St
section
variable {X : Cx} {pins : List (Addr × Obj)} {σ : St} {H : Hp} {s : Shared} {L : Ad} {K : PySem.W.Frag}
end
end VV
namespace VV
open PySem PySem.Spec L2
open PyProof.Rows hiding St
section
variable {X : Cx} {pins : List (Addr × Obj)} {σ : St} {H : Hp} {s : Shared} {L : Ad}
end
end VV
namespace VV
open PySem PySem.Spec L2
open PyProof.Rows hiding St
structure LamOk (K : PySem.W.Frag) (mg : Str → Option Value) (base : Heap) : Prop where
  on : lamB K = true
  tb : LamX.TabB base mg (He.cT K lamDef).1 (He.cT K lamDef).2
section
variable {X : Cx} {W : WX} {e : Expr} {fl fb : EF} {nm : Str} {p1 pos kpos lpos : Pos} {params : Arguments} {body : Expr} {scope : Scope} {iM k : Nat}
end
structure DvO (P : Program) (w : World) (K : PySem.W.Frag) (mg : Str → Option Value) (base : Heap) (C m : Str) (k n : Nat) (g : List D → Rs) : Prop where
  ex : ∃ (f : Addr) (fd : FuncData) (ps : List Str), Cls K (He.ga K C) ∧ Meth K (He.ga K C) m f ∧ FnOk P w K mg base (L2.CX P w) k f fd ps (spP K n g) ∧ Binds K fd ps []
section
variable {X : Cx} {W : WX} {o e : Expr} {es : List Expr} {fo : EF} {fs : List EF} {pos apos : Pos} {C m : Str}
end
end VV
namespace VV
open PySem PySem.Spec L2
open PyProof.Rows hiding St
def lamHd (K : PySem.W.Frag) : Bool := PySem.W.codeHdIn K (He.cT K lamDef).1 (He.cT K lamDef).2
structure SaysL (fa : List He.Fa) (fn : List He.DefD) (cs : List Chk) (h : Heap) (K : PySem.W.Frag) : Prop where
  d : He.SaysD fa fn K
  chk : ∀ c ∈ cs, c K = true
  hd : lamHd K = true
  out : K.lookup (tabK K) = none
  empty : h.get? (tabK K) = some { cls := .none, data := .fields #[] }
end VV
namespace VV
open PySem PySem.Spec L2
open PyProof.Rows hiding St
section
variable {X : Cx} {W : WX} {a e : Expr} {ek ef : EF} {pos : Pos}
end
end VV
namespace VV
open PySem PySem.Spec L2
open PyProof.Rows hiding St
end VV
namespace VV
open PySem PySem.Spec L2
open PyProof.Rows hiding St
section
variable {K : PySem.W.Frag} {H : Hp} {L : Ad} {b : Addr} {us : List V}
theorem at_del {a : Addr} {o : HO} (hb : H b = some (.lst us)) (h : H a = some o) (no : ∀ ws, o ≠ .lst ws) : del H b a = some o := by
  rw [del_ne]
  · exact h
  · intro e
    subst e
    rw [hb] at h
    cases h
    exact no us rfl
theorem SqG.gone (hb : H b = some (.lst us)) (lb : L b) {a : Addr} {xs : List V} (h : SqG K H L a xs) : SqG K (del H b) L a xs := by
  rcases h with (⟨o, h⟩ | h) | ⟨h, n⟩
  · exact .inl (.inl ⟨o, at_del hb h fun ws => by simp⟩)
  · exact .inl (.inr h)
  · exact .inr ⟨by rw [del_ne (by intro e; subst e; exact n lb)]; exact h, n⟩
mutual
theorem Rp.gone (hb : H b = some (.lst us)) (lb : L b) : ∀ {d : D} {v : V}, Rp K H L d v → Rp K (del H b) L d v
  | _, _, .non => .non
  | _, _, .bl c => .bl c
  | _, _, .int i => .int i
  | _, _, .str x => .str x
  | _, _, .tup h r => .tup (at_del hb h fun ws => by simp) (RpL.gone hb lb r)
  | _, _, .lst h n r => .lst (by rw [del_ne (by intro e; subst e; exact n lb)]; exact h) n (RpL.gone hb lb r)
  | _, _, .rd h => .rd (h.gone hb lb)
  | _, _, .fz h e r => .fz (at_del hb h fun ws => by simp) e (RpL.gone hb lb r)
  | _, _, .fd h e r => .fd (at_del hb h fun ws => by simp) e (RpL.gone hb lb r)
  | _, _, .ob h n e r => .ob (at_del hb h fun ws => by simp) n e (RpL.gone hb lb r)
  | _, _, .dk h n e r => .dk (at_del hb h fun ws => by simp) n e (RpL.gone hb lb r)
  | _, _, .dt h n e r => .dt (at_del hb h fun ws => by simp) n e (RpL.gone hb lb r)
theorem RpL.gone (hb : H b = some (.lst us)) (lb : L b) : ∀ {ds : List D} {vs : List V}, RpL K H L ds vs → RpL K (del H b) L ds vs
  | _, _, .nil => .nil
  | _, _, .cons h r => .cons (Rp.gone hb lb h) (RpL.gone hb lb r)
end
theorem Ow.gone (hb : H b = some (.lst us)) (lb : L b) {d : D} {a : Addr} (ne : a ≠ b) (h : Ow K H L d a) : Ow K (del H b) L d a := by
  cases h with
  | lst h r => exact .lst (by rw [del_ne ne]; exact h) (r.gone hb lb)
  | dk h e r => exact .dk (by rw [del_ne ne]; exact h) e (r.gone hb lb)
  | dt h e r => exact .dt (by rw [del_ne ne]; exact h) e (r.gone hb lb)
  | ob h e r => exact .ob (by rw [del_ne ne]; exact h) e (r.gone hb lb)
end
section
variable {X : Cx} {W : WX} {x : Str} {p pos : Pos}
end
def MsOkQ (K : PySem.W.Frag) (H : Hp) (L : Ad) (a : Addr) (r : Ms) (Q : VK) (E : XK) : Prop := match r with
  | .ok r d => ∀ H' b, Same (del H a) H' → (∀ x y, Rp K H (Lp L a) x y → Rp K H' (Lp (Lp L a) b) x y) → b ≠ a → ¬ L b → H b = none → Ow K H' (Lp (Lp L a) b) d a → Ow K H' (Lp (Lp L a) b) r b → Q (.ref b) H'
  | .exc c fs d => ∀ H' x, Same (del H a) H' → (∀ x y, Rp K H (Lp L a) x y → Rp K H' (Lp L a) x y) → Ow K H' (Lp L a) d a → XR K H' (Lp L a) fs x → E (.ref (He.ga K c)) x H'
  | .bad => False
def spQ (K : PySem.W.Frag) (n m : Nat) (g : List D → D → Ms) : Sp := fun vs H Q E => ∃ (L : Ad) (a : Addr) (ds : List D) (d : D) (us ws : List V), vs = us ++ .ref a :: ws ∧ ds.length + 1 = n ∧ m < n ∧ LvOk K (del H a) L ∧ Ow K H (Lp L a) d a ∧
  RpL K H (Lp L a) (ds.take m) us ∧ RpL K H (Lp L a) (ds.drop m) ws ∧ MsOkQ K H L a (g ds d) Q E
structure DnQ (P : Program) (w : World) (K : PySem.W.Frag) (mg : Str → Option Value) (base : Heap) (C m : Str) (k n : Nat) (g : List D → D → Ms) : Prop where
  ex : ∃ (f : Addr) (fd : FuncData) (ps : List Str), Cls K (He.ga K C) ∧ Meth K (He.ga K C) m f ∧ FnOk P w K mg base (L2.CX P w) k f fd ps (spQ K n 0 g) ∧ Binds K fd ps []
end VV
namespace VV
open PySem PySem.Spec L2
open PyProof.Rows hiding St
def PostQ (K : PySem.W.Frag) (H0 : Hp) (Lo : Ad) (W : WX) (σ : St) (H : Hp) (ρ : En) (α : Nat → Option Addr) (j i : Nat) (r : Ms) (Q : VK) : Prop := match r with
  | .ok (.list ds) d => ∀ H' b, RSt K H0 Lo ((putO ρ i d).set j (some (.own (.list ds)))) (fun l => if l = j then some b else α l) (σ.set j (some (.ref b))) H' → Evo K Lo H α H' (fun l => if l = j then some b else α l) → Q (.ref b) H'
  | .ok _ _ => False
  | .exc c xs d => ∀ H' x, RSt K H0 Lo (putO ρ i d) α σ H' → Evo K Lo H α H' α → XR K H' (Lv Lo α) xs x → W (.ref (He.ga K c)) x σ H'
  | .bad => False
theorem MsOkQ.of {K : PySem.W.Frag} {W : WX} {H0 H H1 : Hp} {Lo : Ad} {ρ : En} {α : Nat → Option Addr} {σ : St} {i j : Nat} {d : D} {a : Addr} {r : Ms} {Q : VK} (hj : j < 1000) (rst : RSt K H0 Lo ρ α σ H) (ho : plAt ρ i = some d) (ha : σ[i]? = some (some (.ref a))) (s1 : Same H H1)
    (p : PostQ K H0 Lo W σ H ρ α j i r Q) : LvOk K (del H1 a) (fun z => Lv Lo α z ∧ z ≠ a) ∧ Ow K H1 (Lp (fun z => Lv Lo α z ∧ z ≠ a) a) d a ∧ (∀ {ds : List D} {vs : List V}, RpL K H1 (Lv Lo α) ds vs → RpL K H1 (Lp (fun z => Lv Lo α z ∧ z ≠ a) a) ds vs) ∧
    MsOkQ K H1 (fun z => Lv Lo α z ∧ z ≠ a) a r Q (WE W σ) := by
  have rst1 := rst.mono s1
  obtain ⟨c, hc, ow, lb, nb⟩ := rst1.at_ ho
  have eb : c = a := by rw [ha] at hc; cases hc; rfl
  subst eb
  have toL : ∀ z, Lp (fun z => Lv Lo α z ∧ z ≠ c) c z → Lv Lo α z ∨ H1 z = none := fun z q => .inl (q.elim (·.1) fun e => e ▸ lb)
  have ofS : ∀ z, Lv Lo α z → Lp (fun z => Lv Lo α z ∧ z ≠ c) c z := fun z q => by
    by_cases hz : z = c
    · exact .inr hz
    · exact .inl ⟨q, hz⟩
  obtain ⟨o0, eo0, nc0⟩ := ow.nc
  refine ⟨⟨fun z q z0 => ?_, rst1.re.lv.tb.del eo0 nc0⟩, ow.lives toL, fun r => r.lives toL, ?_⟩
  · rw [del_ne q.2] at z0
    exact rst1.re.lv z q.1 z0
  · cases r with
    | bad => exact p
    | exc cl fs d' =>
      intro H' x s2 ev ow2 xr
      have ev2 : ∀ x y, Rp K H1 (Lv Lo α) x y → Rp K H' (Lv Lo α) x y := fun x y r => (ev x y (r.lives toL)).lives fun z q => .inl (ofS z q)
      exact p H' x (rst1.swap ho ha s2 ev2 (ow2.lives fun z q => .inl (ofS z q))) (fun x y r => ev2 x y (r.mono s1)) (xr.lives fun z q => .inl (ofS z q))
    | ok r d' =>
      cases r with
      | list ds =>
        intro H' b s2 ev ne nl fb ow2 orr
        obtain ⟨us, hb⟩ : ∃ us, H' b = some (.lst us) := by
          cases orr with
          | lst h _ => exact ⟨_, h⟩
        have sub : ∀ z, Lv Lo α z → Lp (Lp (fun z => Lv Lo α z ∧ z ≠ c) c) b z := fun z q => .inl (ofS z q)
        have s3 : Same (del H1 c) (del H' b) := s2.delN (by rw [del_ne ne]; exact fb) hb trivial
        have evG : ∀ x y, Rp K H1 (Lv Lo α) x y → Rp K (del H' b) (Lv Lo α) x y := fun x y r => ((ev x y (r.lives toL)).gone hb (.inr rfl)).lives fun z q => .inl (sub z q)
        have rstG := rst1.swap ho ha s3 evG ((ow2.gone hb (.inr rfl) (Ne.symm ne)).lives fun z q => .inl (sub z q))
        obtain ⟨r1, r2⟩ := rstG.setOwn (i := j) (d := .list ds) (a := b) hj same_del (del_same ..) (orr.lives fun z q => .inl (q.elim (sub z) fun e => .inr e))
        exact p H' b r1 fun x y r => r2 x y (evG x y (r.mono s1))
      | _ => exact p.elim
section
variable {X : Cx} {W : WX} {e : Expr} {es : List Expr} {fs : List EF} {pos cpos apos px pos' : Pos} {x y C m : Str}
end
end VV
namespace VV
open PySem PySem.Spec L2
open PyProof.Rows hiding St
section
variable {X : Cx} {W : WX} {e a : Expr} {pos : Pos} {i j : Nat} {mf : EMF}
end
end VV
namespace VV
open PySem PySem.Spec L2
open PyProof.Rows hiding St
section
variable {X : Cx}
end
end VV
namespace VV
open PySem PySem.Spec L2
open PyProof.Rows hiding St
section
variable {X : Cx} {W : WX} {x : Str} {pos : Pos}
end
end VV
namespace VV
open PySem PySem.Spec L2
open PyProof.Rows hiding St
section
variable {M : Model} {A : Around} {E : Value → Shared → Prop} {s : Shared}
end
section
variable {X : Cx} {W : WX} {pins pn : List (Addr × Obj)} {σ σ' : St} {H H' : Hp} {s s3 t : Shared} {H3 : Hp} {scope : Scope} {ce : Env} {fp : List Addr} {xe : Value → Shared → Prop}
end
section
variable {X : Cx} {W : WX}
end
end VV
namespace VV
open PySem PySem.Spec L2
open PyProof.Rows hiding St
section
variable {X : Cx} {W : WX} {x : Str} {pos : Pos}
end
end VV
namespace VV
open PySem PySem.Spec L2
open PyProof.Rows hiding St
def delF (H : Hp) (a : Addr) (bs : List Addr) : Hp := fun z => if z = a ∨ z ∈ bs then none else H z
def Lpf (L : Ad) (a : Addr) (bs : List Addr) : Ad := fun z => L z ∨ z = a ∨ z ∈ bs
section
variable {K : PySem.W.Frag} {H0 H H' : Hp} {Lo L L' : Ad} {ρ : En} {α : Nat → Option Addr} {σ : St} {a : Addr} {bs : List Addr}
theorem delF_in {z : Addr} (h : z = a ∨ z ∈ bs) : delF H a bs z = none := if_pos h
theorem delF_out {z : Addr} (h : ¬ (z = a ∨ z ∈ bs)) : delF H a bs z = H z := if_neg h
theorem delF_none {z : Addr} (h : delF H a bs z = none) : z = a ∨ z ∈ bs ∨ H z = none := by
  by_cases q : z = a ∨ z ∈ bs
  · exact q.elim .inl fun q => .inr (.inl q)
  · rw [delF_out q] at h
    exact .inr (.inr h)
theorem delF_some {z : Addr} {o : HO} (h : delF H a bs z = some o) : H z = some o ∧ ¬ (z = a ∨ z ∈ bs) := by
  by_cases q : z = a ∨ z ∈ bs
  · rw [delF_in q] at h; cases h
  · rw [delF_out q] at h
    exact ⟨h, q⟩
theorem Fl.nc {ds : List D} {vs : List V} (h : Fl K H L ds vs bs) : ∀ b ∈ bs, ∃ o, H b = some o ∧ NC b o := by
  induction h with
  | nil => exact fun b hb => by cases hb
  | val _ _ ih => exact ih
  | inn h _ _ ih => exact fun b hb => (List.mem_cons.mp hb).elim (fun e => e ▸ ⟨_, h, trivial⟩) (ih b)
theorem Os.nc {o : Kn} {d : D} (h : Os K H L o d a bs) : ∀ b, b = a ∨ b ∈ bs → ∃ u, H b = some u ∧ NC b u := fun b hb => by
  obtain ⟨C, fs, dx, vs, e, h1, h2, h3⟩ := h.ex
  rcases hb with rfl | hb
  · exact ⟨_, h1, trivial⟩
  · exact h3.nc b hb
theorem tabS_delF {P : Addr} {q : Str} (t : LamX.TabS H P q) (n : ∀ b, b = a ∨ b ∈ bs → ∃ u, H b = some u ∧ NC b u) : LamX.TabS (delF H a bs) P q := by
  obtain ⟨ps, h1, h2, h3⟩ := t
  have off : ∀ {b : Addr} {u : HO}, H b = some u → (∀ w, w = u → ¬ NC b w) → delF H a bs b = some u := fun {b u} e nn => by
    rw [delF_out]
    · exact e
    · intro z
      obtain ⟨w, e2, nw⟩ := n b z
      rw [e] at e2
      cases e2
      exact nn u rfl nw
  refine ⟨ps, off h1 (fun w e nw => by subst e; exact nw), h2, fun pos cv hc => ?_⟩
  obtain ⟨c, e1, e2⟩ := h3 pos cv hc
  exact ⟨c, e1, off e2 fun w e nw => by subst e; exact nc_code nw⟩
theorem TbOk.delF (t : TbOk K H) (n : ∀ b, b = a ∨ b ∈ bs → ∃ u, H b = some u ∧ NC b u) : TbOk K (VV.delF H a bs) := fun e => tabS_delF (t e) n
theorem Same.delFN (s : Same H0 H) (na : ∀ b, b = a ∨ b ∈ bs → H0 b = none) (n : ∀ b, b = a ∨ b ∈ bs → ∃ u, H b = some u ∧ NC b u) : Same H0 (delF H a bs) := ⟨fun b x hb nt => by
  rw [delF_out fun z => by rw [na b z] at hb; cases hb]
  exact s.go b x hb nt, fun b hb => by
  rcases delF_none hb with z | z | z
  · exact na b (.inl z)
  · exact na b (.inr z)
  · exact s.fre b z, fun P t => tabS_delF (s.tab P t) n⟩
theorem Ow.evoT {b : Addr} {e : D} (h : Ow K H L e b) (t : ∀ o, H b = some o → (nt : NT o) → H' b = some o) (ev : ∀ x y, Rp K H L x y → Rp K H' L' x y) : Ow K H' L' e b := by
  cases h with
  | lst h r => exact .lst (t _ h trivial) (rpl_evo ev r)
  | dk h z r => exact .dk (t _ h trivial) z (rpl_evo ev r)
  | dt h z r => exact .dt (t _ h trivial) z (rpl_evo ev r)
  | ob h z r => exact .ob (t _ h trivial) z (rpl_evo ev r)
theorem Og.evoT {b : Addr} {cs : List Addr} {g : Gr} (h : Og K H L g b cs) (t : ∀ c, c = b ∨ c ∈ cs → ∀ o, H c = some o → (nt : NT o) → H' c = some o) (ev : ∀ x y, Rp K H L x y → Rp K H' L' x y) : Og K H' L' g b cs := by
  cases g with
  | rows rs =>
    have h : Ogr K H L rs b cs := h
    exact ⟨t b (.inl rfl) _ h.top trivial, h.len, fun k r c e1 e2 => by
      obtain ⟨us, q, rl⟩ := h.row k r c e1 e2
      exact ⟨us, t c (.inr (List.mem_of_getElem? e2)) _ q trivial, rpl_evo ev rl⟩⟩
  | stu o d =>
    obtain ⟨C, fs, dx, vs, e, h1, h2, h3⟩ := Os.ex h
    exact ⟨Os.at_ h, C, fs, dx, vs, e, t b (.inl rfl) _ h1 trivial, h2, h3.evo (b := b) (fun c hc => t c (.inr hc)) ev⟩
  | gx x => exact x.evo t ev h
theorem RSt.atG {i : Nat} {g : Gr} (h : RSt K H0 Lo ρ α σ H) (e : ρ[i]? = some (some (.grid g))) : ∃ a bs, σ[i]? = some (some (.ref a)) ∧ Og K H (Lv Lo α) g a bs ∧ (a :: bs).Nodup ∧ (∀ z, z = a ∨ z ∈ bs → Lv Lo α z ∧ H0 z = none) ∧ α i = some a ∧ (∀ k b, bs[k]? = some b → α (vix i k) = some b) ∧ i < 1000 := by
  obtain ⟨a, bs, e1, e2, e3, og⟩ := h.grd i _ e
  have lt := slot_lt h e
  refine ⟨a, bs, e2, og, ?_, fun z hz => ?_, e1, e3, lt.2⟩
  · rw [List.nodup_cons]
    refine ⟨fun m => ?_, ?_⟩
    · obtain ⟨k, hk⟩ := List.mem_iff_getElem?.mp m
      have q := h.inj _ _ _ e1 (e3 k a hk)
      have q2 := vix_ge i k
      omega
    · refine List.pairwise_iff_getElem.mpr fun k l hk hl hkl q => ?_
      have e4 := e3 k bs[k] (List.getElem?_eq_getElem hk)
      have e5 := e3 l bs[l] (List.getElem?_eq_getElem hl)
      rw [q] at e4
      have := (vix_inj lt.2 lt.2 (h.inj _ _ _ e4 e5)).2
      omega
  · rcases hz with rfl | hz
    · exact ⟨.inr ⟨i, e1⟩, h.new i _ e1⟩
    · obtain ⟨k, hk⟩ := List.mem_iff_getElem?.mp hz
      exact ⟨.inr ⟨_, e3 k z hk⟩, h.new _ z (e3 k z hk)⟩
theorem RSt.atS {i : Nat} {o : Kn} {d : D} (h : RSt K H0 Lo ρ α σ H) (e : ρ[i]? = some (some (.grid (.stu o d)))) : ∃ a bs, σ[i]? = some (some (.ref a)) ∧ Os K H (Lv Lo α) o d a bs ∧ (a :: bs).Nodup ∧ (∀ z, z = a ∨ z ∈ bs → Lv Lo α z ∧ H0 z = none) ∧ α i = some a ∧ (∀ k b, bs[k]? = some b → α (vix i k) = some b) ∧ i < 1000 := h.atG e
def reG (α : Nat → Option Addr) (i : Nat) (bs : List Addr) : Nat → Option Addr := fun j => if 1000 ≤ j ∧ j % 1000 = i then bs[j / 1000 - 1]? else α j
theorem reG_some {i j : Nat} {z : Addr} (h : reG α i bs j = some z) : (1000 ≤ j ∧ j % 1000 = i ∧ bs[j / 1000 - 1]? = some z) ∨ (¬ (1000 ≤ j ∧ j % 1000 = i) ∧ α j = some z) := by
  unfold reG at h
  split at h
  · rename_i q
    exact .inl ⟨q.1, q.2, h⟩
  · exact .inr ⟨by assumption, h⟩
theorem RSt.swapG {i : Nat} {g0 g1 : Gr} {bs' : List Addr} (h : RSt K H0 Lo ρ α σ H) (e : ρ[i]? = some (some (.grid g0))) (ha : α i = some a) (hs : σ[i]? = some (some (.ref a))) (hb : ∀ k b, bs[k]? = some b → α (vix i k) = some b) (hO : ∀ b, b = a ∨ b ∈ bs → ∃ u, H b = some u ∧ NC b u)
    (s : Same (delF H a bs) H') (ev : ∀ x y, Rp K H (Lv Lo α) x y → Rp K H' (Lv Lo (reG α i bs')) x y) (nd : (a :: bs').Nodup) (fr : ∀ b ∈ bs', b ∈ bs ∨ H b = none) (ow : Og K H' (Lv Lo (reG α i bs')) g1 a bs') :
    RSt K H0 Lo (ρ.set i (some (.grid g1))) (reG α i bs') σ H' ∧ Evo K Lo H α H' (reG α i bs') := by
  obtain ⟨hlt, h1000⟩ := slot_lt h e
  have h0 : ∀ z, z = a ∨ z ∈ bs → H0 z = none := fun z hz => by
    rcases hz with rfl | hz
    · exact h.new i _ ha
    · obtain ⟨k, hk⟩ := List.mem_iff_getElem?.mp hz
      exact h.new _ z (hb k z hk)
  have h0' : ∀ z, z = a ∨ z ∈ bs' → H0 z = none := fun z hz => by
    rcases hz with rfl | hz
    · exact h.new i _ ha
    · exact (fr z hz).elim (fun q => h0 z (.inr q)) fun q => h.same.free q
  have mine : ∀ z, z = a ∨ z ∈ bs → ∃ j, α j = some z ∧ (j = i ∨ (1000 ≤ j ∧ j % 1000 = i)) := fun z hz => by
    rcases hz with rfl | hz
    · exact ⟨i, ha, .inl rfl⟩
    · obtain ⟨k, hk⟩ := List.mem_iff_getElem?.mp hz
      exact ⟨_, hb k z hk, .inr ⟨vix_ge i k, vix_mod h1000⟩⟩
  have apart : ∀ {j : Nat} {z : Addr}, α j = some z → ¬ (j = i ∨ (1000 ≤ j ∧ j % 1000 = i)) → ¬ (z = a ∨ z ∈ bs) := fun {j z} q n m => by
    obtain ⟨l, hl, kl⟩ := mine z m
    rw [h.inj _ _ _ q hl] at n
    exact n kl
  have apartLo : ∀ {z : Addr}, Lo z → ¬ (z = a ∨ z ∈ bs) := fun {z} q m => by
    obtain ⟨l, hl, _⟩ := mine z m
    exact h.nl l z hl q
  have keep : ∀ {z : Addr} {u : HO}, ¬ (z = a ∨ z ∈ bs) → H z = some u → NT u → H' z = some u := fun {z u} n q nt => s.go z u (by rw [delF_out n]; exact q) nt
  have stayI : reG α i bs' i = some a := by
    unfold reG
    rw [if_neg (by omega)]
    exact ha
  have stayV : ∀ k b, bs'[k]? = some b → reG α i bs' (vix i k) = some b := fun k b q => by
    unfold reG
    rw [if_pos ⟨vix_ge i k, vix_mod h1000⟩, vix_div h1000]
    exact q
  have stay : ∀ {j : Nat} {x : Sl}, ρ[j]? = some (some x) → reG α i bs' j = α j := fun {j x} ej => by
    have := (slot_lt h ej).2
    unfold reG
    rw [if_neg (by omega)]
  have stayG : ∀ {j k : Nat} {x : Sl}, ρ[j]? = some (some x) → i ≠ j → reG α i bs' (vix j k) = α (vix j k) := fun {j k x} ej hj => by
    have q := (slot_lt h ej).2
    have q3 := vix_mod (k := k) q
    unfold reG
    rw [if_neg (by omega)]
  have farJ : ∀ {j : Nat} {x : Sl}, ρ[j]? = some (some x) → i ≠ j → ¬ (j = i ∨ (1000 ≤ j ∧ j % 1000 = i)) := fun {j x} ej hj => by
    have := (slot_lt h ej).2
    omega
  have farV : ∀ {j k : Nat} {x : Sl}, ρ[j]? = some (some x) → i ≠ j → ¬ (vix j k = i ∨ (1000 ≤ vix j k ∧ vix j k % 1000 = i)) := fun {j k x} ej hj => by
    have q := (slot_lt h ej).2
    have q2 := vix_ge j k
    have q3 := vix_mod (k := k) q
    omega
  have slot : ∀ {j : Nat} {x : Sl}, (ρ.set i (some (.grid g1)))[j]? = some (some x) → (i = j ∧ x = .grid g1) ∨ (i ≠ j ∧ ρ[j]? = some (some x)) := fun {j x} q => by
    by_cases hj : i = j
    · subst hj
      rw [List.getElem?_set_self hlt] at q
      cases q
      exact .inl ⟨rfl, rfl⟩
    · rw [List.getElem?_set_ne hj] at q
      exact .inr ⟨hj, q⟩
  have tO : ∀ {j : Nat} {c : Addr} {x : Sl} {e2 : D}, ρ[j]? = some (some x) → i ≠ j → α j = some c → Ow K H (Lv Lo α) e2 c → Ow K H' (Lv Lo (reG α i bs')) e2 c := fun {j c x e2} ej hj q r => r.evoT (fun u z nt => keep (apart q (farJ ej hj)) z nt) ev
  have tP : ∀ {c : Addr} {e2 : D}, Lo c → Ow K H (Lv Lo α) e2 c → Ow K H' (Lv Lo (reG α i bs')) e2 c := fun {c e2} q r => r.evoT (fun u z nt => keep (apartLo q) z nt) ev
  have tG : ∀ {j : Nat} {c : Addr} {cs : List Addr} {x : Sl} {g : Gr}, ρ[j]? = some (some x) → i ≠ j → α j = some c → (∀ k b, cs[k]? = some b → α (vix j k) = some b) → Og K H (Lv Lo α) g c cs → Og K H' (Lv Lo (reG α i bs')) g c cs := fun {j c cs x g} ej hj q qs r => r.evoT (fun z hz u zu nt => by
    rcases hz with rfl | hz
    · exact keep (apart q (farJ ej hj)) zu nt
    · obtain ⟨k, hk⟩ := List.mem_iff_getElem?.mp hz
      exact keep (apart (qs k z hk) (farV ej hj)) zu nt) ev
  have tb : TbOk K H' := (h.re.lv.tb.delF hO).mono s
  refine ⟨⟨⟨⟨fun z q => ?_, tb⟩, by rw [List.length_set]; exact h.re.len, fun j x q => ?_⟩, (h.same.delFN h0 hO).trans s, h.lo, fun j z q => ?_, fun j l z f1 f2 => ?_, fun j e2 q => ?_, by rw [List.length_set]; exact h.sm, fun j g q => ?_, fun j z q => ?_, ⟨fun j e2 q => ?_, fun j l e2 e3 q1 q2 => ?_⟩⟩, ev⟩
  · have old : ∀ {z : Addr}, ¬ (z = a ∨ z ∈ bs) → Lv Lo α z → H' z ≠ none := fun {z} n q z0 => by
      have z1 := s.fre z z0
      rw [delF_out n] at z1
      exact h.re.lv z q z1
    rcases q with q | ⟨j, q⟩
    · exact old (apartLo q) (.inl q)
    · rcases reG_some q with ⟨_, _, q2⟩ | ⟨n, q2⟩
      · exact ow.there.2 z (List.mem_of_getElem? q2)
      · by_cases hj : j = i
        · rw [hj, ha] at q2
          cases q2
          exact ow.there.1
        · exact old (apart q2 fun m => m.elim hj n) (.inr ⟨j, q2⟩)
  · rcases slot q with ⟨rfl, rfl⟩ | ⟨hj, q⟩
    · exact ⟨_, hs, a, bs', rfl, ow⟩
    · obtain ⟨w, f1, r⟩ := h.re.sl j x q
      refine ⟨w, f1, ?_⟩
      cases x with
      | val d3 => obtain ⟨v, g1, g2⟩ := r; exact ⟨v, g1, ev _ _ g2⟩
      | own d3 =>
        obtain ⟨c, g1, g2, g3⟩ := h.own j d3 q
        rw [f1] at g2
        cases g2
        exact ⟨c, rfl, tO q hj g1 g3⟩
      | grid g =>
        obtain ⟨c, cs, g1, g2, g3, g4⟩ := h.grd j g q
        rw [f1] at g2
        cases g2
        exact ⟨c, cs, rfl, tG q hj g1 g3 g4⟩
      | pin c => exact r
      | ownP d3 =>
        obtain ⟨c, lc, nc, g2, g3⟩ := h.pr.par j d3 q
        rw [f1] at g2
        cases g2
        exact ⟨c, rfl, tP lc g3⟩
  · rcases reG_some q with ⟨_, _, q⟩ | ⟨_, q⟩
    · exact h0' z (.inr (List.mem_of_getElem? q))
    · exact h.new j z q
  · rw [List.nodup_cons] at nd
    rcases reG_some f1 with ⟨a1, a2, a3⟩ | ⟨a1, a2⟩ <;> rcases reG_some f2 with ⟨b1, b2, b3⟩ | ⟨b1, b2⟩
    · have q := (List.getElem?_inj (List.getElem?_eq_some_iff.mp a3).1 nd.2).mp (a3.trans b3.symm)
      omega
    · have m := List.mem_of_getElem? a3
      exfalso
      by_cases hl : l = i
      · subst hl
        rw [ha] at b2
        cases b2
        exact nd.1 m
      · rcases fr z m with q | q
        · exact apart b2 (fun y => y.elim hl b1) (.inr q)
        · exact h.re.lv z (.inr ⟨l, b2⟩) q
    · have m := List.mem_of_getElem? b3
      exfalso
      by_cases hl : j = i
      · subst hl
        rw [ha] at a2
        cases a2
        exact nd.1 m
      · rcases fr z m with q | q
        · exact apart a2 (fun y => y.elim hl a1) (.inr q)
        · exact h.re.lv z (.inr ⟨j, a2⟩) q
    · exact h.inj j l z a2 b2
  · rcases slot q with ⟨_, z⟩ | ⟨hj, q⟩
    · cases z
    · obtain ⟨c, g1, g2, g3⟩ := h.own j e2 q
      exact ⟨c, (stay q).trans g1, g2, tO q hj g1 g3⟩
  · rcases slot q with ⟨rfl, z⟩ | ⟨hj, q⟩
    · cases z
      exact ⟨a, bs', stayI, hs, stayV, ow⟩
    · obtain ⟨c, cs, g1, g2, g3, g4⟩ := h.grd j g q
      exact ⟨c, cs, (stay q).trans g1, g2, fun k b y => (stayG q hj).trans (g3 k b y), tG q hj g1 g3 g4⟩
  · rcases reG_some q with ⟨_, _, q⟩ | ⟨_, q⟩
    · intro lz
      rcases fr z (List.mem_of_getElem? q) with y | y
      · exact apartLo lz (.inr y)
      · exact h.re.lv z (.inl lz) y
    · exact h.nl j z q
  · rcases slot q with ⟨_, z⟩ | ⟨hj, q⟩
    · cases z
    · obtain ⟨c, lc, nc, g2, g3⟩ := h.pr.par j e2 q
      exact ⟨c, lc, nc, g2, tP lc g3⟩
  · rcases slot q1 with ⟨_, z⟩ | ⟨_, q1⟩
    · cases z
    · rcases slot q2 with ⟨_, z⟩ | ⟨_, q2⟩
      · cases z
      · exact h.pr.one _ _ _ _ q1 q2
theorem RSt.swapS {i : Nat} {o : Kn} {d d' : D} {bs' : List Addr} (h : RSt K H0 Lo ρ α σ H) (e : ρ[i]? = some (some (.grid (.stu o d)))) (ha : α i = some a) (hs : σ[i]? = some (some (.ref a))) (hb : ∀ k b, bs[k]? = some b → α (vix i k) = some b) (hO : Os K H (Lv Lo α) o d a bs)
    (s : Same (delF H a bs) H') (ev : ∀ x y, Rp K H (Lv Lo α) x y → Rp K H' (Lv Lo (reG α i bs')) x y) (nd : (a :: bs').Nodup) (fr : ∀ b ∈ bs', b ∈ bs ∨ H b = none) (ow : Os K H' (Lv Lo (reG α i bs')) o d' a bs') :
    RSt K H0 Lo (putO ρ i d') (reG α i bs') σ H' ∧ Evo K Lo H α H' (reG α i bs') := by
  have hp : putO ρ i d' = ρ.set i (some (.grid (.stu o d'))) := by unfold putO; rw [e]
  rw [hp]
  exact h.swapG e ha hs hb hO.nc s ev nd fr ow
end
end VV
namespace VV
open PySem PySem.Spec L2
open PyProof.Rows hiding St
def MsOkS (K : PySem.W.Frag) (H : Hp) (L : Ad) (a : Addr) (bs : List Addr) (r : Ms) (Q : VK) (E : XK) : Prop := match r with
  | .ok r d => ∀ H' bs' v, Same (delF H a bs) H' → (∀ x y, Rp K H (Lpf L a bs) x y → Rp K H' (Lpf L a bs') x y) → (a :: bs').Nodup → (∀ b ∈ bs', b ∈ bs ∨ H b = none) → Os K H' (Lpf L a bs') none d a bs' → Rp K H' (Lpf L a bs') r v → Q v H'
  | .exc c fs d => ∀ H' bs' x, Same (delF H a bs) H' → (∀ x y, Rp K H (Lpf L a bs) x y → Rp K H' (Lpf L a bs') x y) → (a :: bs').Nodup → (∀ b ∈ bs', b ∈ bs ∨ H b = none) → Os K H' (Lpf L a bs') none d a bs' → XR K H' (Lpf L a bs') fs x → E (.ref (He.ga K c)) x H'
  | .bad => False
def spS (K : PySem.W.Frag) (n m : Nat) (g : List D → D → Ms) : Sp := fun vs H Q E => ∃ (L : Ad) (a : Addr) (bs : List Addr) (ds : List D) (d : D) (us ws : List V), vs = us ++ .ref a :: ws ∧ ds.length + 1 = n ∧ m < n ∧ (a :: bs).Nodup ∧ LvOk K (delF H a bs) L ∧ Os K H (Lpf L a bs) none d a bs ∧
  RpL K H (Lpf L a bs) (ds.take m) us ∧ RpL K H (Lpf L a bs) (ds.drop m) ws ∧ MsOkS K H L a bs (g ds d) Q E
structure DnS (P : Program) (w : World) (K : PySem.W.Frag) (mg : Str → Option Value) (base : Heap) (x : Str) (k n m : Nat) (g : List D → D → Ms) : Prop where
  ex : ∃ (fa : Addr) (fd : FuncData) (ps : List Str), mg x = some (.ref fa) ∧ FnOk P w K mg base (L2.CX P w) k fa fd ps (spS K n m g) ∧ PySem.W.keepIn K (.ref fa) = true ∧ Binds K fd ps []
structure DnT (P : Program) (w : World) (K : PySem.W.Frag) (mg : Str → Option Value) (base : Heap) (C m : Str) (k n : Nat) (g : List D → D → Ms) : Prop where
  ex : ∃ (f : Addr) (fd : FuncData) (ps : List Str), Cls K (He.ga K C) ∧ Meth K (He.ga K C) m f ∧ FnOk P w K mg base (L2.CX P w) k f fd ps (spS K n 0 g) ∧ Binds K fd ps []
end VV
namespace VV
open PySem PySem.Spec L2
open PyProof.Rows hiding St
def freeK : Kn → Bool
  | some (_, some _) => false
  | _ => true
theorem Os.free {K : PySem.W.Frag} {H H' : Hp} {L L' : Ad} {o : Kn} {d d' : D} {a : Addr} {bs bs' : List Addr} (h : Os K H L o d a bs) (f : freeK o = true) (ex : Os K H' L' none d' a bs') : Os K H' L' o d' a bs' := ⟨fun a0 q e => ⟨(h.at_ a0 q e).1, fun cs z => by
  subst e
  subst z
  cases f⟩, ex.ex⟩
theorem MsOkS.of {K : PySem.W.Frag} {W : WX} {H0 H H1 : Hp} {Lo : Ad} {ρ : En} {α : Nat → Option Addr} {σ : St} {i : Nat} {o : Kn} {d : D} {a : Addr} {r : Ms} {Q : VK} (rst : RSt K H0 Lo ρ α σ H) (e : ρ[i]? = some (some (.grid (.stu o d)))) (fk : freeK o = true) (ha : σ[i]? = some (some (.ref a))) (s1 : Same H H1)
    (p : PostM K H0 Lo W σ H ρ α i r Q) : ∃ (Lc : Ad) (bs : List Addr), (a :: bs).Nodup ∧ LvOk K (delF H1 a bs) Lc ∧ Os K H1 (Lpf Lc a bs) none d a bs ∧ (∀ {ds : List D} {vs : List V}, RpL K H1 (Lv Lo α) ds vs → RpL K H1 (Lpf Lc a bs) ds vs) ∧ MsOkS K H1 Lc a bs r Q (WE W σ) := by
  have rst1 := rst.mono s1
  obtain ⟨a', bs, q1, q2, q3, q4, q5, q6, h1000⟩ := rst1.atS e
  have ea : a' = a := by rw [ha] at q1; cases q1; rfl
  subst ea
  have mine : ∀ z, z = a' ∨ z ∈ bs → ∃ j, α j = some z ∧ (j = i ∨ (1000 ≤ j ∧ j % 1000 = i)) := fun z hz => by
    rcases hz with rfl | hz
    · exact ⟨i, q5, .inl rfl⟩
    · obtain ⟨k, hk⟩ := List.mem_iff_getElem?.mp hz
      exact ⟨_, q6 k z hk, .inr ⟨vix_ge i k, vix_mod h1000⟩⟩
  have apart : ∀ {j : Nat} {z : Addr}, α j = some z → ¬ (j = i ∨ (1000 ≤ j ∧ j % 1000 = i)) → ¬ (z = a' ∨ z ∈ bs) := fun {j z} q n m => by
    obtain ⟨l, hl, kl⟩ := mine z m
    rw [rst1.inj _ _ _ q hl] at n
    exact n kl
  have apartLo : ∀ {z : Addr}, Lo z → ¬ (z = a' ∨ z ∈ bs) := fun {z} q m => by
    obtain ⟨l, hl, _⟩ := mine z m
    exact rst1.nl l z hl q
  have toL : ∀ z, Lpf (fun z => Lv Lo α z ∧ ¬ (z = a' ∨ z ∈ bs)) a' bs z → Lv Lo α z ∨ H1 z = none := fun z q => .inl (q.elim (·.1) fun m => (q4 z m).1)
  have ofL : ∀ {bs' : List Addr} {G : Hp} z, Lv Lo (reG α i bs') z → Lpf (fun z => Lv Lo α z ∧ ¬ (z = a' ∨ z ∈ bs)) a' bs' z ∨ G z = none := fun {bs' G} z q => .inl (by
    rcases q with q | ⟨j, q⟩
    · exact .inl ⟨.inl q, apartLo q⟩
    · rcases reG_some q with ⟨_, _, q⟩ | ⟨n, q⟩
      · exact .inr (.inr (List.mem_of_getElem? q))
      · by_cases hj : j = i
        · rw [hj, q5] at q
          cases q
          exact .inr (.inl rfl)
        · exact .inl ⟨.inr ⟨j, q⟩, apart q fun m => m.elim hj n⟩)
  refine ⟨fun z => Lv Lo α z ∧ ¬ (z = a' ∨ z ∈ bs), bs, q3, ⟨fun z q z0 => ?_, rst1.re.lv.tb.delF q2.nc⟩, ⟨(fun _ _ e => nomatch e), (q2.lives toL).ex⟩, fun r => r.lives toL, ?_⟩
  · rw [delF_out q.2] at z0
    exact rst1.re.lv z q.1 z0
  · have back : ∀ {H' : Hp} {bs' : List Addr} {d' : D}, Same (delF H1 a' bs) H' → (∀ x y, Rp K H1 (Lpf (fun z => Lv Lo α z ∧ ¬ (z = a' ∨ z ∈ bs)) a' bs) x y → Rp K H' (Lpf (fun z => Lv Lo α z ∧ ¬ (z = a' ∨ z ∈ bs)) a' bs') x y) → (a' :: bs').Nodup → (∀ b ∈ bs', b ∈ bs ∨ H1 b = none) → Os K H' (Lpf (fun z => Lv Lo α z ∧ ¬ (z = a' ∨ z ∈ bs)) a' bs') none d' a' bs' →
        RSt K H0 Lo (putO ρ i d') (reG α i bs') σ H' ∧ Evo K Lo H α H' (reG α i bs') := fun {H' bs' d'} s2 ev nd fr ow => by
      have ev2 : ∀ x y, Rp K H1 (Lv Lo α) x y → Rp K H' (Lv Lo (reG α i bs')) x y := fun x y r => (ev x y (r.lives toL)).lives ofL
      obtain ⟨w1, w2⟩ := rst1.swapS e q5 q1 q6 q2 s2 ev2 nd fr (q2.free fk (ow.lives ofL))
      exact ⟨w1, fun x y r => w2 x y (r.mono s1)⟩
    cases r with
    | bad => exact p
    | ok r d' =>
      intro H' bs' v s2 ev nd fr ow rv
      obtain ⟨w1, w2⟩ := back s2 ev nd fr ow
      exact p _ H' v w1 w2 (rv.lives ofL)
    | exc c fs d' =>
      intro H' bs' x s2 ev nd fr ow xr
      obtain ⟨w1, w2⟩ := back s2 ev nd fr ow
      exact p _ H' x w1 w2 (xr.lives ofL)
section
variable {X : Cx} {W : WX} {e : Expr} {es : List Expr} {f : EF} {fs : List EF} {pos apos px p : Pos} {x y C m : Str}
end
end VV
namespace VV
open PySem PySem.Spec L2
open PyProof.Rows hiding St
section
variable {X : Cx} {W : WX} {e e1 e2 : Expr} {ef : EF} {pos p p2 : Pos}
end
end VV
namespace VV
open PySem PySem.Spec L2
open PyProof.Rows hiding St
section
variable {X : Cx} {W : WX} {e : Expr} {f : EF} {pos : Pos}
inductive SFs (X : Cx) (W : WX) : List Expr → List EF → Prop where
  | nil : SFs X W [] []
  | cons {e : Expr} {f : EF} {es : List Expr} {fs : List EF} (h : SE X W e f) (r : SFs X W es fs) : SFs X W (e :: es) (f :: fs)
end
end VV
namespace VV
open PySem PySem.Spec L2
open PyProof.Rows hiding St
section
variable {X : Cx} {W : WX} {e b : Expr} {f g : EF} {x : Str} {p px pos apos cpos q : Pos}
end
end VV
namespace VV
open PySem PySem.Spec L2
open PyProof.Rows hiding St
section
variable {X : Cx} {a : Addr} {i : Nat} {dx : Option Addr} {xs : List (Str × D)} {e : Expr} {es : List Expr} {f : EF} {fs : List EF} {pos : Pos}
end
end VV
namespace VV
open PySem PySem.Spec L2
open PyProof.Rows hiding St
section
variable {K : PySem.W.Frag} {H H' : Hp} {L : Ad} {f : Str}
end
section
variable {X : Cx} {W : WX} {o e : Expr} {ef eg : EF} {C f x : Str} {pos pos' p px apos cpos fp : Pos}
theorem same_updF {H : Hp} {a b : Addr} {bs : List Addr} {u : HO} (hb : b = a ∨ b ∈ bs) : Same (delF H a bs) (L2.upd H b u) := .of fun z o e => by
  obtain ⟨e1, n⟩ := delF_some e
  have ne : z ≠ b := fun q => n (q ▸ hb)
  rw [upd_ne ne]
  exact e1
end
end VV
namespace VV
open PySem PySem.Spec L2
open PyProof.Rows hiding St
def MsOkSK (K : PySem.W.Frag) (H : Hp) (L : Ad) (a : Addr) (bs : List Addr) (r : Ms) (Q : VK) (E : XK) : Prop := match r with
  | .ok r d => ∀ H' v, Same (delF H a bs) H' → (∀ x y, Rp K H (Lpf L a bs) x y → Rp K H' (Lpf L a bs) x y) → Os K H' (Lpf L a bs) none d a bs → Rp K H' (Lpf L a bs) r v → Q v H'
  | .exc c fs d => ∀ H' x, Same (delF H a bs) H' → (∀ x y, Rp K H (Lpf L a bs) x y → Rp K H' (Lpf L a bs) x y) → Os K H' (Lpf L a bs) none d a bs → XR K H' (Lpf L a bs) fs x → E (.ref (He.ga K c)) x H'
  | .bad => False
def spSK (K : PySem.W.Frag) (n m : Nat) (g : List D → D → Ms) : Sp := fun vs H Q E => ∃ (L : Ad) (a : Addr) (bs : List Addr) (ds : List D) (d : D) (us ws : List V), vs = us ++ .ref a :: ws ∧ ds.length + 1 = n ∧ m < n ∧ (a :: bs).Nodup ∧ LvOk K (delF H a bs) L ∧ Os K H (Lpf L a bs) none d a bs ∧
  RpL K H (Lpf L a bs) (ds.take m) us ∧ RpL K H (Lpf L a bs) (ds.drop m) ws ∧ MsOkSK K H L a bs (g ds d) Q E
end VV
namespace VV
open PySem PySem.Spec L2
open PyProof.Rows hiding St
structure DnTK (P : Program) (w : World) (K : PySem.W.Frag) (mg : Str → Option Value) (base : Heap) (C m : Str) (k n : Nat) (g : List D → D → Ms) : Prop where
  ex : ∃ (f : Addr) (fd : FuncData) (ps : List Str), Cls K (He.ga K C) ∧ Meth K (He.ga K C) m f ∧ FnOk P w K mg base (L2.CX P w) k f fd ps (spSK K n 0 g) ∧ Binds K fd ps []
theorem MsOkSK.of {K : PySem.W.Frag} {H0 H : Hp} {Lo : Ad} {ρ : En} {α : Nat → Option Addr} {σ : St} {i : Nat} {o : Kn} {d : D} {a : Addr} {bs : List Addr} (rst : RSt K H0 Lo ρ α σ H) (eo : ρ[i]? = some (some (.grid (.stu o d)))) (e2 : σ[i]? = some (some (.ref a))) (q2 : Os K H (Lv Lo α) o d a bs) (nd : (a :: bs).Nodup)
    (q4 : ∀ z, z = a ∨ z ∈ bs → Lv Lo α z ∧ H0 z = none) (q5 : α i = some a) (q6 : ∀ k b, bs[k]? = some b → α (vix i k) = some b) (h1000 : i < 1000) : ∃ Lc : Ad, LvOk K (delF H a bs) Lc ∧ Os K H (Lpf Lc a bs) none d a bs ∧
    ∀ {H' : Hp} {d' : D}, Same (delF H a bs) H' → (∀ x y, Rp K H (Lpf Lc a bs) x y → Rp K H' (Lpf Lc a bs) x y) → Os K H' (Lpf Lc a bs) none d' a bs → RSt K H0 Lo (putO ρ i d') (reG α i bs) σ H' ∧ Evo K Lo H α H' (reG α i bs) ∧ Os K H' (Lv Lo (reG α i bs)) o d' a bs ∧ ∀ z, Lv Lo (reG α i bs) z → Lpf Lc a bs z := by
  have mine : ∀ z, z = a ∨ z ∈ bs → ∃ j, α j = some z ∧ (j = i ∨ (1000 ≤ j ∧ j % 1000 = i)) := fun z hz => by
    rcases hz with rfl | hz
    · exact ⟨i, q5, .inl rfl⟩
    · obtain ⟨k, hk⟩ := List.mem_iff_getElem?.mp hz
      exact ⟨_, q6 k z hk, .inr ⟨vix_ge i k, vix_mod h1000⟩⟩
  have apart : ∀ {j : Nat} {z : Addr}, α j = some z → ¬ (j = i ∨ (1000 ≤ j ∧ j % 1000 = i)) → ¬ (z = a ∨ z ∈ bs) := fun {j z} q n m => by
    obtain ⟨l, hl, kl⟩ := mine z m
    rw [rst.inj _ _ _ q hl] at n
    exact n kl
  have apartLo : ∀ {z : Addr}, Lo z → ¬ (z = a ∨ z ∈ bs) := fun {z} q m => by
    obtain ⟨l, hl, _⟩ := mine z m
    exact rst.nl l z hl q
  have toL : ∀ z, Lpf (fun z => Lv Lo α z ∧ ¬ (z = a ∨ z ∈ bs)) a bs z → Lv Lo α z ∨ H z = none := fun z q => .inl (q.elim (·.1) fun m => (q4 z m).1)
  have ofL : ∀ z, Lv Lo (reG α i bs) z → Lpf (fun z => Lv Lo α z ∧ ¬ (z = a ∨ z ∈ bs)) a bs z := fun z q => by
    rcases q with q | ⟨j, q⟩
    · exact .inl ⟨.inl q, apartLo q⟩
    · rcases reG_some q with ⟨_, _, q⟩ | ⟨n, q⟩
      · exact .inr (.inr (List.mem_of_getElem? q))
      · by_cases hj : j = i
        · rw [hj, q5] at q
          cases q
          exact .inr (.inl rfl)
        · exact .inl ⟨.inr ⟨j, q⟩, apart q fun m => m.elim hj n⟩
  refine ⟨fun z => Lv Lo α z ∧ ¬ (z = a ∨ z ∈ bs), ⟨fun z q z0 => ?_, rst.re.lv.tb.delF q2.nc⟩, ⟨(fun _ _ e => nomatch e), (q2.lives toL).ex⟩, fun {H' d'} s2 ev ow => ?_⟩
  · rw [delF_out q.2] at z0
    exact rst.re.lv z q.1 z0
  · have ev2 : ∀ x y, Rp K H (Lv Lo α) x y → Rp K H' (Lv Lo (reG α i bs)) x y := fun x y r => (ev x y (r.lives toL)).lives fun z q => .inl (ofL z q)
    have ow2 : Os K H' (Lv Lo (reG α i bs)) o d' a bs := ⟨q2.at_, (ow.lives fun z q => .inl (ofL z q)).ex⟩
    obtain ⟨w1, w2⟩ := rst.swapS eo q5 e2 q6 q2 s2 ev2 nd (fun b hb => .inl hb) ow2
    exact ⟨w1, w2, ow2, ofL⟩
section
variable {X : Cx} {W : WX} {C f m x : Str} {pos px px2 apos cpos fp ap cp : Pos}
end
end VV
namespace VV
open PySem PySem.Spec L2
open PyProof.Rows hiding St
structure DnKS (P : Program) (w : World) (K : PySem.W.Frag) (mg : Str → Option Value) (base : Heap) (C : Str) (k n : Nat) (g : List D → D → Ms) : Prop where
  ex : ∃ (f : Addr) (fd : FuncData) (ps : List Str), mg C = some (.ref (He.ga K C)) ∧ Mk K (He.ga K C) f ∧ FnOk P w K mg base (L2.CX P w) k f fd ps (spS K n 0 g) ∧ Binds K fd ps []
section
variable {X : Cx} {W : WX} {e : Expr} {es : List Expr} {fs : List EF} {pos cpos pos' p : Pos} {C x : Str}
end
section
variable {X : Cx} {a : Addr} {i : Nat} {dx : Option Addr} {xs : List (Str × D)} {e : Expr} {es : List Expr} {f : EF} {fs : List EF} {pos : Pos}
end
end VV
namespace VV
open PySem PySem.Spec L2
open PyProof.Rows hiding St
section
variable {X : Cx} {a : Addr} {i j : Nat} {dx : Option Addr} {xs : List (Str × D)} {e c : Expr} {rest : List Stmt} {f : SF} {ef eg cf : EF} {pos pos' rp : Pos} {x : Str}
end
structure FnX (P : Program) (w : World) (K : PySem.W.Frag) (mg : Str → Option Value) (base : Heap) (CX : CXT) (k : Nat) (f : Addr) (fd : FuncData) (ps : List Str) (sp : Addr × Obj → Sp) : Prop where
  few : ∀ p vs H Q E, sp p vs H Q E → vs.length = ps.length
  go : ∀ (A : Around) (out : List Env) (s : Shared) (H : Hp) (args : Args) (us : List Value) (vs : List V) (Q : VK) (E : XK) (p : Addr × Obj), L2H.RoomH k A → L2H.PinOk out H s p → Env0 P w K mg base A out s H → BindsTo s fd args (ps.zip us) → Vals vs us → sp p vs H Q E → codeAny (model P w) A (.call (.ref f) args) (CR CX out P w H s Q E) s
section
variable {X : Cx} {CX : CXT} {k : Nat} {f : Addr} {fd : FuncData} {ps : List Str} {sp : Addr × Obj → Sp} {E : St → XK} {x : Str} {q pos : Pos} {e : Expr} {es : List Expr} {t : TA}
end
def spX1 (K : PySem.W.Frag) (n : Nat) (pc : Str → Bool) (g : List (Str × D) → List D → Rs) : Addr × Obj → Sp := fun p vs H Q E => ∃ (L : Ad) (c : Str) (dx : Option Addr) (fs : List (Str × D)) (ds : List D) (us : List V), vs = us ++ [.ref p.1] ∧ pc c = true ∧ Zc (.ref (He.ga K c)) dx p.2 ∧ (∃ ws, p.2.data = .fields ws) ∧ XR K H L fs dx ∧ LvOk K H L ∧
  ds.length + 1 = n ∧ RpL K H L ds us ∧ (match g fs ds with
    | .ok d => ∀ H' v, Same H H' → Rp K H' L d v → Q v H'
    | _ => False)
structure DnX (P : Program) (w : World) (K : PySem.W.Frag) (mg : Str → Option Value) (base : Heap) (x : Str) (k n : Nat) (pc : Str → Bool) (g : List (Str × D) → List D → Rs) : Prop where
  ex : ∃ (fa : Addr) (fd : FuncData) (ps : List Str), mg x = some (.ref fa) ∧ FnX P w K mg base (L2.CX P w) k fa fd ps (spX1 K n pc g) ∧ PySem.W.keepIn K (.ref fa) = true ∧ Binds K fd ps []
section
variable {X : Cx} {W : WX} {e me : Expr} {es mes : List Expr} {fs ms : List EF} {pos cpos apos p : Pos} {C m : Str}
end
end VV
namespace VV
open PySem PySem.Spec L2
open PyProof.Rows hiding St
def lamHdH (K : PySem.W.Frag) : Bool := PySem.W.codeHdIn K (He.cT K lamDef).1 (He.cT K lamDef).2
structure SaysH (fa : List He.Fa) (fn : List He.DefD) (cs : List (PySem.W.Frag → Bool)) (h : Heap) (K : PySem.W.Frag) : Prop where
  d : He.SaysD fa fn K
  chk : ∀ c ∈ cs, c K = true
  hd : lamHdH K = true
  out : K.lookup (tabK K) = none
  empty : h.get? (tabK K) = some { cls := .none, data := .fields #[] }
end VV
namespace VV
open PySem PySem.Spec L2
open PyProof.Rows hiding St
end VV
namespace VV
open PySem PySem.Spec L2
open PyProof.Rows hiding St
section
variable {X : Cx} {k : Nat} {C f : Addr} {fd : FuncData} {ps : List Str} {sp : Sp} {ok : V → Prop} {m : Str}
end
section
variable {X : Cx} {W : WX} {k i : Nat} {C x : Str} {g : List D → D → Ms} {px p pos : Pos}
end
section
variable {X : Cx} {W : WX} {a b c e : Expr} {rest : List Expr} {pos p : Pos} {i : Nat} {f h : EF} {mf mg : EMF}
end
end VV
namespace VV
open PySem PySem.Spec L2
open PyProof.Rows hiding St
section
variable {X : Cx} {W : WX} {o e : Expr} {ef : EF} {mf : EMF} {C f x : Str} {pos pos' p px apos cpos fp : Pos}
inductive TgS where
  | nm (j : Nat)
  | fld (f : Str)
end
section
variable {X : Cx} {W : WX} {a b e : Expr} {es : List Expr} {ef h : EF} {fs : List EF} {mf : EMF} {x y : Str} {pos p px apos cpos : Pos}
end
end VV
namespace VV
open PySem PySem.Spec L2
open PyProof.Rows hiding St
section
variable {X : Cx} {W : WX} {es : List Expr} {fs : List EF} {t : TA} {pos : Pos}
end
end VV
namespace VV
open PySem PySem.Spec L2
open PyProof.Rows hiding St
section
variable {X : Cx} {W : WX} {tg e : Expr} {i j : Nat} {mf : EMF}
end
end VV
namespace VV
open PySem PySem.Spec L2
open PyProof.Rows hiding St
section
variable {K : PySem.W.Frag} {H H' : Hp} {L : Ad}
end
section
variable {K : PySem.W.Frag} {H : Hp} {L : Ad} {ρ : En} {σ : St} {i : Nat} {ps : List (D × D)} {a : Addr} {kvs : List (List Key × V)}
end
section
variable {X : Cx} {W : WX} {x : Str} {pos : Pos}
end
end VV
namespace VV
open PySem PySem.Spec L2
open PyProof.Rows hiding St
structure FnG (P : Program) (w : World) (K : PySem.W.Frag) (mg : Str → Option Value) (base : Heap) (k : Nat) (f : Addr) (fd : FuncData) (ps : List Str) (sp : Sp) : Prop where
  run : ∀ (A : Around) (st : List Env) (s : Shared) (H : Hp) (gs : Args) (us : List Value) (vs : List V) (Q : VK) (E : XK), A.guards = some [] → Room k A → Env0 P w K mg base A st s H →
    BindsTo s fd gs (ps.zip us) → Vals vs us → sp vs H Q E → codeAny (model P w) A (.call (.ref f) gs) (CR (L2.CX P w) st P w H s Q E) s
section
variable {P : Program} {w : World} {K : PySem.W.Frag} {mg : Str → Option Value} {base : Heap} {x qual : Str} {params : Arguments} {body : List Stmt} {scope : Scope} {dvs : List V} {kws : List (Str × V)} {fa : Addr} {fd : FuncData} {N ps : List Str} {k : Nat} {f : SF}
end
structure DnG (P : Program) (w : World) (K : PySem.W.Frag) (mg : Str → Option Value) (base : Heap) (x : Str) (k n : Nat) (f : List D → Rs) : Prop where
  ex : ∃ (fa : Addr) (fd : FuncData) (ps : List Str), mg x = some (.ref fa) ∧ FnG P w K mg base k fa fd ps (spP K n f) ∧ PySem.W.keepIn K (.ref fa) = true ∧ Binds K fd ps [] ∧ ps.length = n
section
variable {X : Cx} {W : WX} {e : Expr} {es : List Expr} {f : EF} {fs : List EF} {p pos : Pos} {x : Str}
end
section
variable {X : Cx}
end
section
variable {P : Program} {w : World} {K : PySem.W.Frag} {mg mb : Str → Option Value} {k : Nat} {fa a : Addr} {fd : FuncData} {f : List D → Rs} {s : Shared} {vs : List Value} {ns : List Int}
end
section
variable {X : Cx} {W : WX} {a b : Expr} {f g : EF} {pos : Pos}
end
end VV
namespace VV
open PySem PySem.Spec L2
open PyProof.Rows hiding St
mutual
def numK : NestedKey → Bool
  | .num _ => true
  | .tup ks => numKs ks
  | .none => false
  | .text _ => false
def numKs : List NestedKey → Bool
  | [] => true
  | k :: ks => numK k && numKs ks
end
mutual
theorem hash_any (w w' : World) : ∀ k : NestedKey, numK k = true → k.hash w = k.hash w'
  | .num _, _ => rfl
  | .tup ks, h => by simp only [NestedKey.hash]; rw [hashes_any w w' ks h]
  | .none, h => nomatch h
  | .text _, h => nomatch h
theorem hashes_any (w w' : World) : ∀ ks : List NestedKey, numKs ks = true → NestedKey.hashes w ks = NestedKey.hashes w' ks
  | [], _ => rfl
  | k :: ks, h => by
    simp only [numKs, Bool.and_eq_true] at h
    simp only [NestedKey.hashes]
    rw [hash_any w w' k h.1, hashes_any w w' ks h.2]
end
mutual
def nkOf : D → Option NestedKey
  | .int i => some (.num i)
  | .tuple ds => (nkOfs ds).map .tup
  | .none => none
  | .bool _ => none
  | .str _ => none
  | .list _ => none
  | .dict _ => none
def nkOfs : List D → Option (List NestedKey)
  | [] => some []
  | d :: ds => (nkOf d).bind fun k => (nkOfs ds).map (k :: ·)
end
mutual
theorem nkOf_is : ∀ (d : D) (k : NestedKey), nkOf d = some k → k.data = d ∧ numK k = true
  | .int i, k, e => by
    simp only [nkOf, Option.some.injEq] at e
    subst e
    exact ⟨rfl, rfl⟩
  | .tuple ds, k, e => by
    simp only [nkOf] at e
    obtain ⟨ks, e1, rfl⟩ := Option.map_eq_some_iff.mp e
    obtain ⟨a, b⟩ := nkOfs_are ds ks e1
    exact ⟨by simp only [NestedKey.data]; rw [a], b⟩
  | .none, _, e => nomatch e
  | .bool _, _, e => nomatch e
  | .str _, _, e => nomatch e
  | .list _, _, e => nomatch e
  | .dict _, _, e => nomatch e
theorem nkOfs_are : ∀ (ds : List D) (ks : List NestedKey), nkOfs ds = some ks → NestedKey.datas ks = ds ∧ numKs ks = true
  | [], ks, e => by
    simp only [nkOfs, Option.some.injEq] at e
    subst e
    exact ⟨rfl, rfl⟩
  | d :: ds, ks, e => by
    simp only [nkOfs] at e
    obtain ⟨k, e1, e2⟩ := Option.bind_eq_some_iff.mp e
    obtain ⟨ks', e3, rfl⟩ := Option.map_eq_some_iff.mp e2
    obtain ⟨a, b⟩ := nkOf_is d k e1
    obtain ⟨a2, b2⟩ := nkOfs_are ds ks' e3
    exact ⟨by simp only [NestedKey.datas]; rw [a, a2], by simp only [numKs]; rw [b, b2]; rfl⟩
end
section
variable {P : Program} {w : World} {H : Hp} {h : Heap} {K : PySem.W.Frag} {L : Ad}
mutual
theorem nk_is (ok : HOk P w H h) : ∀ (d : D) (k : NestedKey) (v : V) (u : Value), nkOf d = some k → Rp K H L d v → RelV v u → NestedIs h k u
  | .int i, k, v, u, e, r, q => by
    simp only [nkOf, Option.some.injEq] at e
    subst e
    obtain rfl := r.rb.intV
    obtain ⟨t, rfl⟩ := q
    exact .int _ _
  | .tuple ds, k, v, u, e, r, q => by
    simp only [nkOf] at e
    obtain ⟨ks, e1, rfl⟩ := Option.map_eq_some_iff.mp e
    obtain ⟨b, vs, rfl, hb, rl⟩ := r.rb.tupV
    cases (show u = Value.ref b from q)
    obtain ⟨_, its, rel, o, h1, h2, n, h3⟩ := (show ObjOk P w H h b (.tup vs) from ok b _ hb)
    exact .tup h1 h2 h3 (by simpa using nks_are ok ds ks vs its e1 rl rel)
  | .none, _, _, _, e, _, _ => nomatch e
  | .bool _, _, _, _, e, _, _ => nomatch e
  | .str _, _, _, _, e, _, _ => nomatch e
  | .list _, _, _, _, e, _, _ => nomatch e
  | .dict _, _, _, _, e, _, _ => nomatch e
theorem nks_are (ok : HOk P w H h) : ∀ (ds : List D) (ks : List NestedKey) (vs : List V) (us : List Value), nkOfs ds = some ks → RpL K H L ds vs → Vals vs us → NestedAll h ks us
  | [], ks, vs, us, e, r, q => by
    simp only [nkOfs, Option.some.injEq] at e
    subst e
    cases r
    cases q
    exact .nil
  | d :: ds, ks, vs, us, e, r, q => by
    simp only [nkOfs] at e
    obtain ⟨k, e1, e2⟩ := Option.bind_eq_some_iff.mp e
    obtain ⟨ks', e3, rfl⟩ := Option.map_eq_some_iff.mp e2
    cases r with
    | cons r rl =>
      cases q with
      | cons q ql => exact .cons (nk_is ok d k _ _ e1 r q) (nks_are ok ds ks' _ _ e3 rl ql)
end
end
def keyN (d : D) : Option NestedKey := match nkOf d with
  | some (.tup ks) => if (NestedKey.tup ks).depth ≤ 8 then some (.tup ks) else none
  | _ => none
theorem keyN_some {d : D} {k : NestedKey} (e : keyN d = some k) : nkOf d = some k ∧ k.depth ≤ 8 ∧ (∃ ks, k = .tup ks) ∧ k.data = d ∧ numK k = true := by
  unfold keyN at e
  split at e
  · rename_i ks q
    split at e
    · cases e
      obtain ⟨a, b⟩ := nkOf_is _ _ q
      exact ⟨q, by assumption, ⟨_, rfl⟩, a, b⟩
    · cases e
  · cases e
def KeyAt (H : Hp) (k : NestedKey) (b : Addr) : Prop := ∃ (K : PySem.W.Frag) (L : Ad), keyN k.data = some k ∧ Rp K H L k.data (.ref b)
theorem KeyAt.of {K : PySem.W.Frag} {H : Hp} {L : Ad} {d : D} {v : V} {k : NestedKey} (e : keyN d = some k) (r : Rp K H L d v) : ∃ b, v = .ref b ∧ KeyAt H k b := by
  obtain ⟨_, _, ⟨ks, rfl⟩, ed, _⟩ := keyN_some e
  have r2 := r
  rw [← ed] at r2 e
  simp only [NestedKey.data] at r2
  obtain ⟨b, vs, rfl, _, _⟩ := r2.rb.tupV
  exact ⟨b, rfl, K, L, e, by rw [ed]; exact r⟩
theorem KeyAt.is {P : Program} {w : World} {H : Hp} {h : Heap} {k : NestedKey} {b : Addr} (ok : HOk P w H h) (q : KeyAt H k b) : (nestedKind P w).is h k b := by
  obtain ⟨K, L, e, r⟩ := q
  obtain ⟨e1, e2, _, _, _⟩ := keyN_some e
  exact ⟨nk_is ok _ _ _ _ e1 r rfl, e2⟩
theorem KeyAt.num {H : Hp} {k : NestedKey} {b : Addr} (q : KeyAt H k b) : numK k = true := by
  obtain ⟨K, L, e, r⟩ := q
  exact (keyN_some e).2.2.2.2
abbrev NX := List (NestedKey × Addr × Int)
def RelN (x : NestedKey × Addr × Int) (y : NestedKey × Addr × Value) : Prop := x.1 = y.1 ∧ x.2.1 = y.2.1 ∧ RelV (.int x.2.2) y.2.2
def getX (xs : NX) (k : NestedKey) : Option Int := (xs.find? fun x => decide (x.1 = k)).map (·.2.2)
def putX (xs : NX) (k : NestedKey) (b : Addr) (n : Int) : NX := if (getX xs k).isSome then xs.map (fun x => if x.1 = k then (x.1, x.2.1, n) else x) else xs ++ [(k, b, n)]
def RelG (o : Option Int) (p : Option (Addr × Value)) : Prop := match o with
  | some n => ∃ q, p = some q ∧ RelV (.int n) q.2
  | none => p = none
theorem rel_get (k : NestedKey) : ∀ {xs : NX} {vs : List (NestedKey × Addr × Value)}, Paired RelN xs vs → RelG (getX xs k) (atKey vs k)
  | _, _, .nil => rfl
  | _, _, .cons (a := x) (b := y) r rr => by
    obtain ⟨r1, r2, r3⟩ := r
    unfold getX atKey
    rw [List.find?_cons, List.find?_cons, ← r1]
    by_cases e : x.1 = k
    · rw [decide_eq_true e]
      exact ⟨_, rfl, r3⟩
    · rw [decide_eq_false e]
      exact rel_get k rr
theorem relG_some {o : Option Int} {p : Option (Addr × Value)} (r : RelG o p) : o.isSome = p.isSome := by
  cases o with
  | none =>
    rw [show p = none from r]
    rfl
  | some n =>
    obtain ⟨q, rfl, _⟩ := r
    rfl
theorem rel_put (k : NestedKey) (b : Addr) {n : Int} {v : Value} (rv : RelV (.int n) v) {xs : NX} {vs : List (NestedKey × Addr × Value)} (r : Paired RelN xs vs) : Paired RelN (putX xs k b n) (storedH vs k b v) := by
  unfold putX storedH
  rw [relG_some (rel_get k r)]
  by_cases c : (atKey vs k).isSome = true
  · rw [if_pos c, if_pos c]
    clear c
    induction r with
    | nil => exact .nil
    | @cons x y xs vs q _ ih =>
      refine .cons ?_ ih
      obtain ⟨q1, q2, q3⟩ := q
      show RelN (if x.1 = k then (x.1, x.2.1, n) else x) (if y.1 = k then (y.1, y.2.1, v) else y)
      by_cases e : x.1 = k
      · rw [if_pos e, if_pos (by rw [← q1]; exact e)]
        exact ⟨q1, q2, rv⟩
      · rw [if_neg e, if_neg (by rw [← q1]; exact e)]
        exact ⟨q1, q2, q3⟩
  · rw [if_neg c, if_neg c]
    induction r with
    | nil => exact .cons ⟨rfl, rfl, rv⟩ .nil
    | cons q _ ih =>
      refine .cons q (ih ?_)
      intro z
      apply c
      simp only [atKey, List.find?_cons, Option.isSome_map] at z ⊢
      split
      · rfl
      · exact z
theorem putX_len (xs : NX) (k : NestedKey) (b : Addr) (n : Int) : (putX xs k b n).length ≤ xs.length + 1 := by
  unfold putX
  split
  · rw [List.length_map]; omega
  · rw [List.length_append, List.length_singleton]; omega
theorem putX_mem {xs : NX} {k : NestedKey} {b : Addr} {n : Int} {x : NestedKey × Addr × Int} (h : x ∈ putX xs k b n) : (∃ y ∈ xs, y.1 = x.1 ∧ y.2.1 = x.2.1) ∨ (x.1 = k ∧ x.2.1 = b) := by
  unfold putX at h
  split at h
  · obtain ⟨y, hy, rfl⟩ := List.mem_map.mp h
    refine .inl ⟨y, hy, ?_⟩
    split <;> exact ⟨rfl, rfl⟩
  · rcases List.mem_append.mp h with h | h
    · exact .inl ⟨x, h, rfl, rfl⟩
    · rw [List.mem_singleton.mp h]
      exact .inr ⟨rfl, rfl⟩
structure NDict (a : Addr) (xs : NX) (h : Heap) : Prop where
  plain : (a == sysModules) = false
  few : xs.length ≤ sizeLine
  num : ∀ x ∈ xs, numK x.1 = true
  ex : ∃ (vs : List (NestedKey × Addr × Value)) (o : Obj) (es : Array DictEntry) (ep : Nat), Paired RelN xs vs ∧ h.get? a = some o ∧ o.ExactDict ∧ o.data = .dict es ep ∧ (∀ w : World, es.toList = vs.map fun y => (⟨y.1.hash w, .ref y.2.1, y.2.2⟩ : DictEntry)) ∧ (vs.map (·.1)).Nodup
def NDictO (a : Addr) (xs : NX) : HO := .ext fun h => NDict a xs h
theorem rel_keys : ∀ {xs : NX} {vs : List (NestedKey × Addr × Value)}, Paired RelN xs vs → (∀ y ∈ vs, ∃ x ∈ xs, x.1 = y.1 ∧ x.2.1 = y.2.1) ∧ xs.length = vs.length
  | _, _, .nil => ⟨fun y hy => (by cases hy), rfl⟩
  | _, _, .cons r rr => ⟨fun y hy => by
      rcases List.mem_cons.mp hy with rfl | hy
      · exact ⟨_, List.mem_cons_self, r.1, r.2.1⟩
      · obtain ⟨x, hx, e⟩ := (rel_keys rr).1 y hy
        exact ⟨x, List.mem_cons_of_mem _ hx, e⟩, by rw [List.length_cons, List.length_cons, (rel_keys rr).2]⟩
theorem NDict.obj {P : Program} {w : World} {H : Hp} {h : Heap} {a : Addr} {xs : NX} (r : NDict a xs h) : ObjOk P w H h a (NDictO a xs) := by
  obtain ⟨vs, o, es, ep, h1, h2, h3, h4, h5, h6⟩ := r.ex
  refine ⟨r, ⟨o, h2⟩, fun g1 g2 q st => ?_⟩
  obtain ⟨vs, o, es, ep, h1, h2, h3, h4, h5, h6⟩ := q.ex
  exact ⟨q.plain, q.few, q.num, vs, o, es, ep, h1, st o h2, h3, h4, h5, h6⟩
theorem NDict.full {P : Program} {w : World} {h : Heap} {a : Addr} {xs : NX} (r : NDict a xs h) (ks : ∀ x ∈ xs, (nestedKind P w).is h x.1 x.2.1) : ∃ vs, Paired RelN xs vs ∧ h.DictOfH (nestedKind P w) a vs := by
  obtain ⟨vs, o, es, ep, h1, h2, h3, h4, h5, h6⟩ := r.ex
  refine ⟨vs, h1, o, es, ep, h2, h3, h4, h5 w, fun y hy => ?_, h6⟩
  obtain ⟨x, hx, e1, e2⟩ := (rel_keys h1).1 y hy
  have := ks x hx
  rw [e1, e2] at this
  exact this
theorem NDict.of {P : Program} {w : World} {h : Heap} {a : Addr} {xs : NX} {vs : List (NestedKey × Addr × Value)} (plain : (a == sysModules) = false) (few : xs.length ≤ sizeLine) (num : ∀ x ∈ xs, numK x.1 = true) (rel : Paired RelN xs vs) (dd : h.DictOfH (nestedKind P w) a vs) : NDict a xs h := by
  obtain ⟨o, es, ep, h2, h3, h4, h5, _, h6⟩ := dd
  refine ⟨plain, few, num, vs, o, es, ep, rel, h2, h3, h4, fun w' => h5.trans (List.map_congr_left fun y hy => ?_), h6⟩
  obtain ⟨x, hx, e1, _⟩ := (rel_keys rel).1 y hy
  have q := num x hx
  rw [e1] at q
  show (⟨y.1.hash w, .ref y.2.1, y.2.2⟩ : DictEntry) = _
  rw [hash_any w w' y.1 q]
theorem ndict_new {h : Heap} (big : sysModules < h.objs.size) : NDict h.objs.size [] (h.push { cls := .type "dict", data := .dict #[] }) :=
  ⟨beq_eq_false_iff_ne.mpr (Ne.symm (Nat.ne_of_lt big)), Nat.zero_le _, fun x hx => (by cases hx), [], _, #[], 0, .nil, Heap.get?_push_size _ rfl, ⟨rfl, rfl, rfl⟩, rfl, fun _ => rfl, List.nodup_nil⟩
theorem ndict_nc {a : Addr} {xs : NX} : NC a (NDictO a xs) := fun q z => by
  obtain ⟨h, e⟩ := heap_at a { cls := .none, data := .fields #[Value.none, .str q default] } rfl
  unfold LamX.CodeO at z
  injection z with z2
  have z3 := congrFun z2 h
  have c : ∃ (oc : Obj) (vs : Array Value) (t : Tok), h.get? a = some oc ∧ oc.data = .fields vs ∧ vs[1]? = some (.str q t) := ⟨_, _, _, e, rfl, rfl⟩
  rw [← z3] at c
  obtain ⟨_, _, _, vs, o, es, ep, _, ho, _, hd, _⟩ := c
  rw [e] at ho
  cases ho
  cases hd
def NAt (H : Hp) (x : V) (a : Addr) (xs : NX) : Prop := x = .ref a ∧ H a = some (NDictO a xs) ∧ ∀ p ∈ xs, KeyAt H p.1 p.2.1
section
variable {X : Cx} {pins : List (Addr × Obj)} {σ : St} {H : Hp} {s : Shared} {a b : Addr} {xs : NX} {k : NestedKey} {n : Int} {A : Around} {E : Value → Shared → Prop}
theorem n_full (I : Inv X pins σ H s) {x : V} (g : NAt H x a xs) : NDict a xs s.heap ∧ ∃ vs, Paired RelN xs vs ∧ s.heap.DictOfH (nestedKind X.prog X.w) a vs := by
  have nd : NDict a xs s.heap := (show ObjOk X.prog X.w H s.heap a (NDictO a xs) from I.hok a _ g.2.1).1
  exact ⟨nd, nd.full fun p hp => (g.2.2 p hp).is I.hok⟩
theorem n_getItem {x : V} {Q : Value → Shared → Prop} (hu : A.units + 9 < cLine) (I : Inv X pins σ H s) (g : NAt H x a xs) (kb : KeyAt H k b) (l : getX xs k = some n) (h : ∀ w' s', Inv X pins σ H s' → RelV (.int n) w' → Q w' s') : wpAny (model X.prog X.w) A (getItem (.ref a) (.ref b)) Q E s := by
  obtain ⟨_, vs, rel, dd⟩ := n_full I g
  have q := rel_get k rel
  rw [l] at q
  obtain ⟨p, hp, rp⟩ := q
  exact wpAny_getItem_heap (show A.in1.units + 8 < cLine by show A.units + 1 + 8 < cLine; omega) (kb.is I.hok) dd hp (h p.2 _ (I.tok _) rp)
theorem n_get2 {x d : V} {r : Value} {Q : Value → Shared → Prop} (hu : A.units + 9 < cLine) (I : Inv X pins σ H s) (g : NAt H x a xs) (kb : KeyAt H k b) (rd : RelV d r) (h : ∀ w' s', Inv X pins σ H s' → RelV (match getX xs k with | some n => .int n | none => d) w' → Q w' s') : wpAny (model X.prog X.w) A (call (.builtin "dict.get") [.ref a, .ref b, r]) Q E s := by
  obtain ⟨nd, vs, rel, dd⟩ := n_full I g
  refine call_meetsIn PySem.F.slot_dict_get dd.typeIs PySem.F.entry_dict_get (PySem.F.args_dict_get_3 _ _ _) (meetsH_dict_get_default (nestedKind X.prog X.w) a b nd.plain r) ⟨show A.in1.units + 8 < cLine by show A.units + 1 + 8 < cLine; omega, k, vs, kb.is I.hok, dd, h _ _ (I.tok _) ?_⟩
  have q := rel_get k rel
  cases l : getX xs k with
  | some n =>
    rw [l] at q
    obtain ⟨p, hp, rp⟩ := q
    rw [hp]
    exact rp
  | none =>
    rw [l] at q
    rw [show atKey vs k = none from q]
    exact rd
theorem n_setItem {x : V} {r : Value} {Q : Unit → Shared → Prop} (hu : A.units + 9 < cLine) (I : Inv X pins σ H s) (g : NAt H x a xs) (kb : KeyAt H k b) (few : xs.length < sizeLine) (rv : RelV (.int n) r) (h : ∀ s', Inv X pins σ (upd H a (NDictO a (putX xs k b n))) s' → Q () s') : wpAny (model X.prog X.w) A (setItem (.ref a) (.ref b) r) Q E s := by
  obtain ⟨nd, vs, rel, dd⟩ := n_full I g
  refine wpAny_setItem_heap (hsz := by rw [← (rel_keys rel).2]; omega) (show A.in1.units + 8 < cLine by show A.units + 1 + 8 < cLine; omega) (kb.is I.hok) dd fun h' dd' hs => h _ ?_
  have he : ∃ q, h'.get? a = some q := let ⟨q, _, _, hq, _⟩ := dd'; ⟨q, hq⟩
  refine d_write I (by rw [g.2.1]; exact True.intro) hs he (NDict.of nd.plain (by have := putX_len xs k b n; omega) (fun y hy => ?_) (rel_put k b rv rel) dd').obj
  rcases putX_mem hy with ⟨z, hz, e1, _⟩ | ⟨e1, _⟩
  · rw [← e1]
    exact nd.num z hz
  · rw [e1]
    exact kb.num
theorem n_type {x : V} (I : Inv X pins σ H s) (g : NAt H x a xs) : s.TypeIs (.ref a) "dict" ∧ (∀ b, Value.ref a = .ref b → ∃ ob, s.heap.get? b = some ob ∧ ob.dict = none) ∧ (a == sysModules) = false := by
  obtain ⟨nd, vs, rel, dd⟩ := n_full I g
  refine ⟨dd.typeIs, fun b q => ?_, nd.plain⟩
  cases q
  obtain ⟨ob, _, _, h1, h2, _⟩ := dd
  exact ⟨ob, h1, h2.2.1⟩
end
def tNGet (td ty : TE) : TE := fun σ H Q => td σ H fun x H1 => ty σ H1 fun y H2 => ∃ a xs k b n, NAt H2 x a xs ∧ y = .ref b ∧ KeyAt H2 k b ∧ getX xs k = some n ∧ Q (.int n) H2
def tNGet2 (td ty tx : TE) : TE := fun σ H Q => td σ H fun x H1 => (∃ a xs, NAt H1 x a xs) ∧ ty σ H1 fun y H2 => tx σ H2 fun z H3 => ∃ a xs k b, NAt H3 x a xs ∧ y = .ref b ∧ KeyAt H3 k b ∧ Q (match getX xs k with | some n => .int n | none => z) H3
def sNPut (td ty tv : TE) : TS := fun D σ H => tv σ H fun v H1 => td σ H1 fun x H2 => ty σ H2 fun y H3 => ∃ a xs k b n, v = .int n ∧ NAt H3 x a xs ∧ y = .ref b ∧ KeyAt H3 k b ∧ xs.length < sizeLine ∧ D.nx σ (upd H3 a (NDictO a (putX xs k b n)))
def tNNew : TE := fun _ H Q => ∀ p, H p = none → Q (.ref p) (upd H p (NDictO p []))
def tNDisp (tk tv : TE) : TE := fun σ H Q => ∀ p, H p = none → tk σ (upd H p (NDictO p [])) fun x H1 => tv σ H1 fun y H2 => ∃ k b n, H2 p = some (NDictO p []) ∧ x = .ref b ∧ y = .int n ∧ KeyAt H2 k b ∧ Q (.ref p) (upd H2 p (NDictO p [(k, b, n)]))
section
variable {X : Cx} {o i e f value : Expr} {apos cpos pos pos' : Pos} {td ty tv tx tk : TE}
theorem pe_nget (hu : X.A.units + 9 < cLine) (ho : PE X o td) (hi : PE X i ty) (hs : NoSl i) : PE X (.Subscript o i pos) (tNGet td ty) := by
  refine ⟨fun pins s σ H Q I h => ?_⟩
  refine subD_of PySem.F.slot_dict_getitem.lookup hs (thn (ho.run pins s σ H _ I h) fun u s1 ⟨x, H1, I1, rx, q1⟩ => thn (hi.run pins s1 σ H1 _ I1 q1) fun iv s2 ⟨y, H2, I2, ry, a, xs, k, b, n, g, ey, kb, l, q2⟩ => ?_)
  have ex := g.1
  subst ex ey
  obtain rfl : u = Value.ref a := rx
  obtain rfl : iv = Value.ref b := ry
  exact ⟨(n_type I2 g).1, n_getItem hu I2 g kb l fun w' s3 I3 rw' => ⟨.int n, H2, I3, rw', q2⟩⟩
theorem pe_nget2 (hu : X.A.units + 9 < cLine) (ho : PE X o td) (he : PE X e ty) (hf : PE X f tx) (m : M2 X o "get" apos e f cpos) : PE X (.Call (.Attribute o "get" apos) [e, f] [] cpos) (tNGet2 td ty tx) := by
  refine ⟨fun pins s σ H Q I h => ?_⟩
  refine wpAny_Call_method m.base m.few m.line PySem.F.plainAttrs_dict PySem.F.slot_dict_get PySem.F.type_dict_get (thn (ho.run pins s σ H _ I h) fun u s1 ⟨x, H1, I1, rx, ⟨a0, xs0, g0⟩, q1⟩ => ?_)
  have ex := g0.1
  subst ex
  obtain rfl : u = Value.ref a0 := rx
  obtain ⟨t1, t2, _⟩ := n_type I1 g0
  refine ⟨t1, t2, ?_⟩
  rw [m.trees]
  refine Calls.callWith_builtin rfl (Calls.evalArgs_plain (Calls.spliced_cons (thn (he.run pins s1 σ H1 _ I1 q1) fun iv s2 ⟨y, H2, I2, ry, q2⟩ =>
    Calls.spliced_cons (thn (hf.run pins s2 σ H2 _ I2 q2) fun fv s3 ⟨z, H3, I3, rz, a, xs, k, b, g, ey, kb, q3⟩ => Calls.spliced_nil ?_))))
  have ea := g.1
  cases ea
  subst ey
  obtain rfl : iv = Value.ref b := ry
  exact n_get2 hu I3 g kb rz fun w' s4 I4 rw' => ⟨_, H3, I4, rw', q3⟩
theorem ps_nput (hu : X.A.units + 9 < cLine) (ho : PE X o td) (hi : PE X i ty) (hv : PE X value tv) (hs : swapsWith value (some (.Subscript o i pos')) pos.line X.env = pure false) : PS X (.Assign [.Subscript o i pos'] value pos) (sNPut td ty tv) := by
  refine ⟨fun pins s σ H D I h => ?_⟩
  refine wpAny_Assign_Subscript (thn (hv.run pins s σ H _ I h) fun r s1 ⟨v, H1, I1, rv, q1⟩ => thn (ho.run pins s1 σ H1 _ I1 q1) fun u s2 ⟨x, H2, I2, rx, q2⟩ => thn (hi.run pins s2 σ H2 _ I2 q2) fun iv s3 ⟨y, H3, I3, ry, a, xs, k, b, n, ev, g, ey, kb, few, q3⟩ => ?_) hs
  have ex := g.1
  subst ex ey ev
  obtain rfl : u = Value.ref a := rx
  obtain rfl : iv = Value.ref b := ry
  exact n_setItem hu I3 g kb few rv fun s4 I4 => ⟨σ, _, I4, q3⟩
theorem pe_nnew : PE X (.Dict [] [] pos) tNNew := ⟨fun pins s σ H Q I h =>
  wpAny_Dict_empty ⟨.ref s.heap.objs.size, _, I.laid (a := s.heap.objs.size) (o := NDictO s.heap.objs.size []) (t' := s.toks) (fun _ _ q => Heap.get?_push_of_some _ q) (Nat.le_refl _) (ndict_new I.big).obj, rfl, h _ (I.hok.fresh (Nat.le_refl _))⟩⟩
theorem pe_ndisp (hu : X.A.units + 9 < cLine) (hk : PE X e tk) (hv : PE X f tv) : PE X (.Dict [some e] [f] pos) (tNDisp tk tv) := by
  refine ⟨fun pins s σ H Q I q => ?_⟩
  have hn := I.hok.fresh (Nat.le_refl s.heap.objs.size)
  have I1 := I.laid (a := s.heap.objs.size) (o := NDictO s.heap.objs.size []) (h' := s.heap.push { cls := .type "dict", data := .dict #[] }) (t' := s.toks) (fun _ _ q => Heap.get?_push_of_some _ q) (Nat.le_refl _) (ndict_new I.big).obj
  have two : wpAny (model X.prog X.w) X.A (subDict (pairTrees [some e] [f] X.env pos)) (fun d s' => EP X pins σ Q (.ref d) s') X.xe s := by
    refine wpAny_subDictH (knd := nestedKind X.prog X.w) (show X.A.units + 8 < cLine by omega) (by rw [pairTrees_length [some e] [f] X.env pos rfl rfl]; exact (show 1 ≤ 15 by decide)) (pairTrees_cons_walk (thn (hk.run pins _ σ _ _ I1 (q _ hn)) fun u s1 ⟨x, H1, I2, rx, q1⟩ => thn (hv.run pins s1 σ H1 _ I2 q1) fun r s2 ⟨y, H2, I3, ry, k, b, n, e0, ex, ey, kb, q2⟩ => pairTrees_nil_walk ?_))
    subst ex ey
    obtain rfl : u = Value.ref b := rx
    have g : NAt H2 (.ref s.heap.objs.size) s.heap.objs.size [] := ⟨rfl, e0, fun p hp => by cases hp⟩
    obtain ⟨nd, vs, rel, dd⟩ := n_full I3 g
    cases rel
    refine ⟨[(k, b, r)], ⟨rfl, rfl, kb.is I3.hok, trivial⟩, dd, fun h' tk' dd' hs => ⟨.ref s.heap.objs.size, _, ?_, rfl, q2⟩⟩
    have he : ∃ z, h'.get? s.heap.objs.size = some z := let ⟨z, _, _, hz, _⟩ := dd'; ⟨z, hz⟩
    refine d_write I3 (by rw [e0]; exact True.intro) hs he (NDict.of nd.plain (by rw [sizeLine_eq]; exact (show 1 ≤ 16777216 by decide)) (fun y hy => ?_) (.cons ⟨rfl, rfl, ry⟩ .nil) dd').obj
    rw [List.mem_singleton.mp hy]
    exact kb.num
  have hz := zip_pairTrees [some e] [f] X.env pos rfl rfl
  have hl := pairTrees_length [some e] [f] X.env pos rfl rfl
  rw [arm_eval_Dict, hz, dictDisplay_pairs _ (fun z => by rw [z] at hl; cases hl) (by rw [hl]; exact (show 1 < 17 by decide))]
  exact wpAny_bind (wpAny_standAt (wpAny_bind (wpAny_mono two (fun d s' z => wpAny_pure z) fun _ _ z => z)))
end
end VV
namespace VV
open PySem PySem.Spec L2
open PyProof.Rows hiding St
section
variable {K : PySem.W.Frag} {H H' : Hp} {L L' : Ad}
mutual
theorem nk_rp (t : ∀ b vs, H b = some (.tup vs) → H' b = some (.tup vs)) : ∀ (d : D) (k : NestedKey) (v : V), nkOf d = some k → Rp K H L d v → Rp K H' L' d v
  | .int i, _, v, _, r => by
    obtain rfl := r.rb.intV
    exact .int _
  | .tuple ds, k, v, e, r => by
    simp only [nkOf] at e
    obtain ⟨ks, e1, rfl⟩ := Option.map_eq_some_iff.mp e
    obtain ⟨b, vs, rfl, hb, rl⟩ := r.rb.tupV
    exact .tup (t _ _ hb) (nks_rp t ds ks vs e1 rl)
  | .none, _, _, e, _ => nomatch e
  | .bool _, _, _, e, _ => nomatch e
  | .str _, _, _, e, _ => nomatch e
  | .list _, _, _, e, _ => nomatch e
  | .dict _, _, _, e, _ => nomatch e
theorem nks_rp (t : ∀ b vs, H b = some (.tup vs) → H' b = some (.tup vs)) : ∀ (ds : List D) (ks : List NestedKey) (vs : List V), nkOfs ds = some ks → RpL K H L ds vs → RpL K H' L' ds vs
  | [], _, vs, _, r => by
    cases r
    exact .nil
  | d :: ds, ks, vs, e, r => by
    simp only [nkOfs] at e
    obtain ⟨k, e1, e2⟩ := Option.bind_eq_some_iff.mp e
    obtain ⟨ks', e3, rfl⟩ := Option.map_eq_some_iff.mp e2
    cases r with
    | cons r rl => exact .cons (nk_rp t d k _ e1 r) (nks_rp t ds ks' _ e3 rl)
end
theorem key_rp {d : D} {k : NestedKey} {v : V} (e : keyN d = some k) (r : Rp K H L d v) (t : ∀ b vs, H b = some (.tup vs) → H' b = some (.tup vs)) : Rp K H' L' d v := nk_rp t d k v (keyN_some e).1 r
end
theorem upd_tup {H : Hp} {a : Addr} {xs : NX} {o : HO} (ha : H a = some (NDictO a xs)) : ∀ b vs, H b = some (.tup vs) → upd H a o b = some (.tup vs) := fun b vs e => by
  rw [upd_ne (by intro z; subst z; rw [ha] at e; cases e)]
  exact e
abbrev NP := List (D × Int)
def nx2 (x : NestedKey × Addr × Int) : D × Int := (x.1.data, x.2.2)
structure NKs (K : PySem.W.Frag) (H : Hp) (L : Ad) (xs : NX) : Prop where
  key : ∀ x ∈ xs, keyN x.1.data = some x.1
  rp : ∀ x ∈ xs, Rp K H L x.1.data (.ref x.2.1)
def ndR (ps : NP) (K : PySem.W.Frag) (H : Hp) (L : Ad) (a : Addr) (bs : List Addr) : Prop := bs = [] ∧ ∃ xs : NX, H a = some (NDictO a xs) ∧ xs.map nx2 = ps ∧ NKs K H L xs
def ndX (ps : NP) : GrX where
  dat := .list (ps.map fun p => .tuple [p.1, .int p.2])
  R := ndR ps
  evo := fun t ev h => ⟨h.1, let ⟨xs, h1, h2, h3⟩ := h.2; ⟨xs, t _ (.inl rfl) _ h1 trivial, h2, h3.key, fun x hx => ev _ _ (h3.rp x hx)⟩⟩
  there := fun h => ⟨by obtain ⟨_, xs, h1, _⟩ := h; rw [h1]; simp, fun b hb => by rw [h.1] at hb; cases hb⟩
  same := fun h h' _ => by rw [h.1, h'.1]
theorem ndX_inj {ps qs : NP} (h : ndX ps = ndX qs) : ps = qs := by
  have e : PyData.list (ps.map fun p => .tuple [p.1, .int p.2]) = .list (qs.map fun p => .tuple [p.1, .int p.2]) := congrArg GrX.dat h
  injection e with e
  clear h
  induction ps generalizing qs with
  | nil => cases qs with
    | nil => rfl
    | cons _ _ => cases e
  | cons p ps ih => cases qs with
    | nil => cases e
    | cons q qs =>
      simp only [List.map_cons, List.cons.injEq, PyData.tuple.injEq, PyData.int.injEq, and_true] at e
      rw [ih e.2, Prod.ext e.1.1 e.1.2]
open Classical in
noncomputable def getN (x : GrX) : Option NP := if h : ∃ ps, x = ndX ps then some (Classical.choose h) else none
theorem getN_some {x : GrX} {ps : NP} (h : getN x = some ps) : x = ndX ps := by
  unfold getN at h
  split at h
  · rename_i q
    have := Classical.choose_spec q
    cases h
    exact this
  · cases h
theorem getN_nd (ps : NP) : getN (ndX ps) = some ps := by
  unfold getN
  rw [dif_pos ⟨ps, rfl⟩]
  have q : ∃ qs, ndX ps = ndX qs := ⟨ps, rfl⟩
  exact congrArg some (ndX_inj (Classical.choose_spec q)).symm
noncomputable def ndAt (ρ : En) (i : Nat) : Option NP := match ρ[i]? with
  | some (some (.grid (.gx x))) => getN x
  | _ => none
theorem ndAt_some {ρ : En} {i : Nat} {ps : NP} (h : ndAt ρ i = some ps) : ρ[i]? = some (some (.grid (.gx (ndX ps)))) := by
  unfold ndAt at h
  split at h
  · rename_i q
    rw [q, getN_some h]
  · cases h
theorem NKs.at {K : PySem.W.Frag} {H : Hp} {L : Ad} {xs : NX} (h : NKs K H L xs) : ∀ x ∈ xs, KeyAt H x.1 x.2.1 := fun x hx => ⟨K, L, h.key x hx, h.rp x hx⟩
theorem NKs.mono {K : PySem.W.Frag} {H H' : Hp} {L : Ad} {xs : NX} (h : NKs K H L xs) (s : Same H H') : NKs K H' L xs := ⟨h.key, fun x hx => (h.rp x hx).mono s⟩
theorem ndAt_re {K : PySem.W.Frag} {H : Hp} {L : Ad} {ρ : En} {σ : St} {i : Nat} {ps : NP} (re : RE K H L ρ σ) (h : ndAt ρ i = some ps) : ∃ a xs, σ[i]? = some (some (.ref a)) ∧ H a = some (NDictO a xs) ∧ xs.map nx2 = ps ∧ NKs K H L xs := by
  obtain ⟨o, e1, a, bs, e2, og⟩ := re.sl i _ (ndAt_some h)
  obtain ⟨_, xs, h1, h2, h3⟩ := (show ndR ps K H L a bs from og)
  subst e2
  exact ⟨a, xs, e1, h1, h2, h3⟩
def ndGet (ps : NP) (q : NestedKey) : Option Int := (ps.find? fun p => decide (keyN p.1 = some q)).map (·.2)
def ndPut (ps : NP) (q : NestedKey) (n : Int) : NP := if (ndGet ps q).isSome then ps.map (fun p => if keyN p.1 = some q then (p.1, n) else p) else ps ++ [(q.data, n)]
theorem nd_get (q : NestedKey) : ∀ {xs : NX}, (∀ x ∈ xs, keyN x.1.data = some x.1) → ndGet (xs.map nx2) q = getX xs q
  | [], _ => rfl
  | x :: xs, h => by
    have e := h x List.mem_cons_self
    have ih := nd_get q (xs := xs) fun y hy => h y (List.mem_cons_of_mem _ hy)
    unfold ndGet getX at ih ⊢
    rw [List.map_cons, List.find?_cons, List.find?_cons]
    show (match decide (keyN x.1.data = some q) with | true => some (nx2 x) | false => _).map _ = _
    rw [e]
    by_cases c : x.1 = q
    · rw [c, decide_eq_true rfl, decide_eq_true rfl]
      rfl
    · rw [decide_eq_false c, decide_eq_false (fun z => c (Option.some.inj z))]
      exact ih
theorem nd_put (q : NestedKey) (b : Addr) (n : Int) {xs : NX} (h : ∀ x ∈ xs, keyN x.1.data = some x.1) : (putX xs q b n).map nx2 = ndPut (xs.map nx2) q n := by
  unfold putX ndPut
  rw [nd_get q h]
  by_cases c : (getX xs q).isSome = true
  · rw [if_pos c, if_pos c, List.map_map, List.map_map]
    refine List.map_congr_left fun x hx => ?_
    show nx2 (if x.1 = q then (x.1, x.2.1, n) else x) = if keyN x.1.data = some q then (x.1.data, n) else nx2 x
    rw [h x hx]
    by_cases e : x.1 = q
    · rw [if_pos e, if_pos (congrArg some e)]
      rfl
    · rw [if_neg e, if_neg (fun z => e (Option.some.inj z))]
  · rw [if_neg c, if_neg c, List.map_append]
    rfl
noncomputable def eNdGet (i : Nat) (g : EF) : EF := fun ρ => match ndAt ρ i with
  | some ps => (g ρ).bind fun k => match keyN k with
    | some q => (match ndGet ps q with
      | some n => .ok (.int n)
      | none => .bad)
    | none => .bad
  | none => .bad
noncomputable def eNdGet2 (i : Nat) (g f : EF) : EF := fun ρ => match ndAt ρ i with
  | some ps => (g ρ).bind fun k => (f ρ).bind fun v => match keyN k with
    | some q => (match ndGet ps q with
      | some n => .ok (.int n)
      | none => .ok v)
    | none => .bad
  | none => .bad
def notNone : D → Bool
  | .none => false
  | _ => true
def okSort1 (ds : List D) : Bool := okSort ds || (decide (ds.length ≤ 1) && ds.all fun d => PySem.W.alike d d && notNone d && d.canLay0 && decide (d.depth ≤ 50))
noncomputable def eNdKeys (i : Nat) : EF := fun ρ => match ndAt ρ i with
  | some ps => if okSort1 (ps.map (·.1)) = true then .ok (.list (sortD (ps.map (·.1)))) else .bad
  | none => .bad
noncomputable def sNdNew (i : Nat) : SF := fun ρ => .nx (ρ.set i (some (.grid (.gx (ndX [])))))
noncomputable def ndOne (i : Nat) (ρ : En) (k : D) : D → Out
  | .int n => (match keyN k with
    | some q => .nx (ρ.set i (some (.grid (.gx (ndX [(q.data, n)])))))
    | none => .bad)
  | _ => .bad
noncomputable def sNdOne (i : Nat) (f g : EF) : SF := fun ρ => (f ρ).out ρ fun k => (g ρ).out ρ (ndOne i ρ k)
noncomputable def ndSet (i : Nat) (ρ : En) (ps : NP) (v : D) (k : D) : Out := match v with
  | .int n => (match keyN k with
    | some q => if ps.length < sizeLine then .nx (ρ.set i (some (.grid (.gx (ndX (ndPut ps q n)))))) else .bad
    | none => .bad)
  | _ => .bad
noncomputable def sNdPut (i : Nat) (f g : EF) : SF := fun ρ => match ndAt ρ i with
  | some ps => (g ρ).out ρ fun v => (f ρ).out ρ (ndSet i ρ ps v)
  | none => .bad
noncomputable def sNdMv (i j : Nat) : SF := fun ρ => match ndAt ρ j with
  | some ps => if i ≠ j ∧ i < ρ.length then .nx ((ρ.set j none).set i (some (.grid (.gx (ndX ps))))) else .bad
  | none => .bad
theorem PostS.expr0 {K : PySem.W.Frag} {H0 H Hx : Hp} {Lo : Ad} {W : WX} {α : Nat → Option Addr} {ρ : En} {σ : St} {r : Rs} {k : D → Out} {D : Ends} {R : VK} (rst : RSt K H0 Lo ρ α σ H) (s0 : Same H Hx) (h : PostS K H0 Lo W H α (r.out ρ k) D)
    (hk : ∀ d H1 v, Same Hx H1 → Rp K H1 (Lv Lo α) d v → PostS K H0 Lo W H α (k d) D → R v H1) : Post K W (Lv Lo α) σ Hx r R := by
  cases r with
  | ok d => exact fun H1 v s rv => hk d H1 v s rv h
  | exc c fs => exact fun H1 x s xr => h α σ H1 x (rst.mono (s0.trans s)) (.of_same (s0.trans s)) xr
  | bad => exact h
section
variable {X : Cx} {W : WX} {a b e : Expr} {f g : EF} {x : Str} {p px pos apos cpos tp q : Pos} {k : Nat}
theorem se_ndget (i : Nat) (hr : Room k X.A) (hb : SE X W b g) (hN : X.N[i]? = some x := by rfl) (hv : Vis X.env.scope x := by first | exact Or.inl rfl | exact Or.inr (Or.inl rfl) | exact Or.inr (Or.inr rfl)) (hd : (x == ("__debug__" : Str)) = false := by decide)
    (hcd : (x == ("__classdict__" : Str)) = false := by decide) (hs : NoSl b := by intro _ _; rfl) : SE X W (.Subscript (.Name x p) b pos) (eNdGet i g) := (pe_nget (by have := hr.un; omega) (pe_var hN hv hd hcd) hb hs).weak fun σ H Q ⟨L, ρ, re, h⟩ => by
  unfold eNdGet at h
  cases hn : ndAt ρ i with
  | none => rw [hn] at h; exact h.elim
  | some ps =>
    rw [hn] at h
    obtain ⟨a, xs, e1, e2, e3, e4⟩ := ndAt_re re hn
    refine ⟨.ref a, e1, L, ρ, re, Post.stepE h fun dk H1 v s1 rv p1 => ?_⟩
    cases hk : keyN dk with
    | none => simp only [hk] at p1; exact p1.elim
    | some q =>
      simp only [hk] at p1
      obtain ⟨b, rfl, kb⟩ := KeyAt.of hk rv
      cases hg : ndGet ps q with
      | none => simp only [hg] at p1; exact p1.elim
      | some n =>
        simp only [hg] at p1
        rw [← e3, nd_get q e4.key] at hg
        exact ⟨a, xs, q, b, n, ⟨rfl, s1 _ _ e2, (e4.mono s1).at⟩, rfl, kb, hg, p1 H1 _ (Same.refl H1) (.int _)⟩
theorem se_ndget2 (i : Nat) (hr : Room k X.A) (he : SE X W b g) (hf : SE X W e f) (hN : X.N[i]? = some x := by rfl) (hv : Vis X.env.scope x := by first | exact Or.inl rfl | exact Or.inr (Or.inl rfl) | exact Or.inr (Or.inr rfl)) (hd : (x == ("__debug__" : Str)) = false := by decide)
    (hcd : (x == ("__classdict__" : Str)) = false := by decide) (m : M2 X (.Name x p) "get" apos b e cpos := by exact ⟨rfl, rfl, rfl, rfl⟩) : SE X W (.Call (.Attribute (.Name x p) "get" apos) [b, e] [] cpos) (eNdGet2 i g f) := (pe_nget2 (by have := hr.un; omega) (pe_var hN hv hd hcd) he hf m).weak fun σ H Q ⟨L, ρ, re, h⟩ => by
  unfold eNdGet2 at h
  cases hn : ndAt ρ i with
  | none => rw [hn] at h; exact h.elim
  | some ps =>
    rw [hn] at h
    obtain ⟨a, xs, e1, e2, e3, e4⟩ := ndAt_re re hn
    refine ⟨.ref a, e1, ⟨a, xs, rfl, e2, e4.at⟩, L, ρ, re, Post.stepE h fun dk H1 v s1 rv p1 => ⟨L, ρ, re.mono s1, Post.stepE p1 fun dv H2 u s2 ru p2 => ?_⟩⟩
    cases hk : keyN dk with
    | none => simp only [hk] at p2; exact p2.elim
    | some q =>
      simp only [hk] at p2
      obtain ⟨b, rfl, kb⟩ := KeyAt.of hk (rv.mono s2)
      refine ⟨a, xs, q, b, ⟨rfl, s2 _ _ (s1 _ _ e2), (e4.mono (s1.trans s2)).at⟩, rfl, kb, ?_⟩
      cases hg : ndGet ps q with
      | none =>
        simp only [hg] at p2
        rw [← e3, nd_get q e4.key] at hg
        rw [hg]
        exact p2 H2 _ (Same.refl H2) ru
      | some n =>
        simp only [hg] at p2
        rw [← e3, nd_get q e4.key] at hg
        rw [hg]
        exact p2 H2 _ (Same.refl H2) (.int _)
theorem ss_ndnew {i : Nat} {dp pos' : Pos} (hN : X.N.Nodup) (hi : X.N[i]? = some x := by rfl) (hx : Loc X.env.scope x := by first | exact Or.inl rfl | exact Or.inr rfl) (hs : swapsWith (.Dict [] [] dp) (some (.Name x pos')) pos.line X.env = pure false := by rfl) (hf : X.fn x = true ∨ X.env.scope.names.lookup x = some .local := by first | exact .inl rfl | exact .inr rfl) (i1 : i < 1000 := by decide) :
    SS X W (.Assign [.Name x pos'] (.Dict [] [] dp) pos) (sNdNew i) := fun H0 Lo => (ps_set hN hi hx pe_nnew hs hf).weak fun D σ H ⟨ρ, α, rst, p⟩ => by
  intro y hy
  obtain ⟨q1, q2⟩ := rst.setGrid (rows := .gx (ndX [])) (bs := []) i1 (same_upd (o := NDictO y []) hy) (by simp) (fun z hz => by rw [List.mem_singleton.mp hz]; exact hy) (show ndR [] X.K _ _ y [] from ⟨rfl, [], upd_same, rfl, fun x hx => (by cases hx), fun x hx => (by cases hx)⟩)
  exact p _ _ _ q1 q2
theorem ss_ndone {i : Nat} {dp pos' : Pos} (hr : Room k X.A) (hN : X.N.Nodup) (hk : SE X W a f) (hv : SE X W e g) (hi : X.N[i]? = some x := by rfl) (hx : Loc X.env.scope x := by first | exact Or.inl rfl | exact Or.inr rfl) (hs : swapsWith (.Dict [some a] [e] dp) (some (.Name x pos')) pos.line X.env = pure false := by rfl) (hf : X.fn x = true ∨ X.env.scope.names.lookup x = some .local := by first | exact .inl rfl | exact .inr rfl) (i1 : i < 1000 := by decide) :
    SS X W (.Assign [.Name x pos'] (.Dict [some a] [e] dp) pos) (sNdOne i f g) := fun H0 Lo => (ps_set hN hi hx (pe_ndisp (by have := hr.un; omega) hk hv) hs hf).weak fun D σ H ⟨ρ, α, rst, p⟩ => by
  intro y hy
  have s0 := same_upd (o := NDictO y []) hy
  refine ⟨_, ρ, (rst.mono s0).re, PostS.expr0 rst s0 p fun dk H1 v s1 rv p1 => ⟨_, ρ, (rst.mono (s0.trans s1)).re, PostS.expr0 rst (s0.trans s1) p1 fun dn H2 u s2 ru p2 => ?_⟩⟩
  unfold ndOne at p2
  split at p2
  case h_2 => exact p2.elim
  rename_i n
  cases hk : keyN dk with
  | none => simp only [hk] at p2; exact p2.elim
  | some q =>
    simp only [hk] at p2
    obtain ⟨b, rfl, kb⟩ := KeyAt.of hk (rv.mono s2)
    have ed := (keyN_some hk).2.2.2.1
    obtain rfl := ru.rb.intV
    have at2 : H2 y = some (NDictO y []) := s2 _ _ (s1 _ _ upd_same)
    have far : Same H (upd H2 y (NDictO y [(q, b, n)])) := ((s0.trans s1).trans s2).updN hy at2 ndict_nc
    obtain ⟨q1, q2⟩ := rst.setGrid (rows := .gx (ndX [(q.data, n)])) (bs := []) i1 far (by simp) (fun z hz => by rw [List.mem_singleton.mp hz]; exact hy) (show ndR [(q.data, n)] X.K _ _ y [] from ⟨rfl, [(q, b, n)], upd_same, rfl, fun x hx => by
        rw [List.mem_singleton.mp hx]
        show keyN q.data = some q
        rw [ed]
        exact hk, fun x hx => by
        rw [List.mem_singleton.mp hx]
        show Rp _ _ _ q.data _
        rw [ed]
        exact key_rp hk (rv.mono s2) (upd_tup at2)⟩)
    exact ⟨q, b, n, at2, rfl, rfl, kb, p2 _ _ _ q1 q2⟩
theorem ss_ndput (i : Nat) (hr : Room k X.A) (hk : SE X W a f) (he : SE X W e g) (hN : X.N[i]? = some x := by rfl) (hv : Vis X.env.scope x := by first | exact Or.inl rfl | exact Or.inr (Or.inl rfl) | exact Or.inr (Or.inr rfl)) (hd : (x == ("__debug__" : Str)) = false := by decide)
    (hcd : (x == ("__classdict__" : Str)) = false := by decide) (hs : swapsWith e (some (.Subscript (.Name x p) a tp)) pos.line X.env = pure false := by rfl) :
    SS X W (.Assign [.Subscript (.Name x p) a tp] e pos) (sNdPut i f g) := fun H0 Lo => (ps_nput (by have := hr.un; omega) (pe_var hN hv hd hcd) hk he hs).weak fun D σ H ⟨ρ, α, rst, h⟩ => by
  unfold sNdPut at h
  cases hn : ndAt ρ i with
  | none => rw [hn] at h; exact h.elim
  | some ps =>
    rw [hn] at h
    refine ⟨_, ρ, rst.re, PostS.expr rst h fun dv H1 v s r rst1 p1 => ?_⟩
    obtain ⟨c0, bs, e2, og, nd, _, e1, e3, h1000⟩ := rst1.atG (ndAt_some hn)
    have og : ndR ps X.K H1 (Lv Lo α) c0 bs := og
    obtain ⟨rfl, xs, ha, ex, ks⟩ := og
    refine ⟨.ref c0, e2, _, ρ, rst1.re, PostS.expr rst1 p1 fun dk H2 y s2 rk rst2 p2 => ?_⟩
    unfold ndSet at p2
    split at p2
    case h_2 => exact p2.elim
    rename_i n
    obtain rfl := r.rb.intV
    cases hk : keyN dk with
    | none => simp only [hk] at p2; exact p2.elim
    | some q =>
      simp only [hk] at p2
      split at p2
      case isFalse => exact p2.elim
      rename_i few
      obtain ⟨b, rfl, kb⟩ := KeyAt.of hk rk
      have ed := (keyN_some hk).2.2.2.1
      have top := s2 _ _ ha
      have low : ∀ z, Lv Lo (reG α i []) z → Lv Lo α z ∨ H2 z = none := fun z q => by
        rcases q with q | ⟨j, q⟩
        · exact .inl (.inl q)
        · rcases reG_some q with ⟨_, _, q⟩ | ⟨_, q⟩
          · simp at q
          · exact .inl (.inr ⟨j, q⟩)
      have hL : Lv Lo (reG α i []) c0 := .inr ⟨i, by unfold reG; rw [if_neg (by omega)]; exact e1⟩
      obtain ⟨w1, w2⟩ := rst2.swapG (g0 := .gx (ndX ps)) (g1 := .gx (ndX (ndPut ps q n))) (a := c0) (bs := []) (bs' := []) (H' := L2.upd H2 c0 (NDictO c0 (putX xs q b n))) (ndAt_some hn) e1 e2 e3 (fun z hz => by
          rcases hz with rfl | hz
          · exact ⟨_, top, ndict_nc⟩
          · cases hz) (same_updF (.inl rfl)) (fun y v ry => (ry.lives low).upd top trivial hL) (by simp) (fun z hz => by cases hz)
        (show ndR (ndPut ps q n) X.K _ _ c0 [] from ⟨rfl, putX xs q b n, upd_same, by rw [nd_put q b n ks.key, ex], fun x hx => by
          rcases putX_mem hx with ⟨y, hy, e1, _⟩ | ⟨e1, _⟩
          · rw [← e1]
            exact ks.key y hy
          · rw [e1, ed]
            exact hk, fun x hx => by
          rcases putX_mem hx with ⟨y, hy, e1, e2⟩ | ⟨e1, e2⟩
          · rw [← e1, ← e2]
            exact key_rp (ks.key y hy) ((ks.rp y hy).mono s2) (upd_tup top)
          · rw [e1, e2, ed]
            exact key_rp hk rk (upd_tup top)⟩)
      refine ⟨c0, xs, q, b, n, rfl, ⟨rfl, top, (ks.mono s2).at⟩, rfl, kb, ?_, p2 _ _ _ w1 w2⟩
      rw [← ex, List.length_map] at few
      exact few
end
end VV
namespace VV
open PySem PySem.Spec L2
open PyProof.Rows hiding St
section
open PySem.W PyProof.Rows
variable {prog : Program} {w : World} {A : Around} {E : Value → Shared → Prop} {s : Shared} {β : Type} {vs : List Value} {bs : List β} {enc : β → PyData} {R : Value → β → Prop}
structure One1 (ds : List PyData) : Prop where
  few : ds.length ≤ 1
  al : AllAlike ds
  nn : ∀ d ∈ ds, d ≠ .none
theorem sorts_one {us : List Value} {ds : List PyData} (e : EachIs (fun v d => ∃ as, Reads s.heap v d as) us ds) (o : One1 ds) (hu : ∀ d, d ∈ ds → A.units + d.depth < cLine) : SortsAt prog w A s (dataKind s.heap ds) us := by
  refine ⟨fun v hv => ?_, general', fun E x y a b Q ha hb hq => ?_, fun h2 => absurd h2 (by rw [e.length]; have := o.few; omega)⟩
  · obtain ⟨d, hd, as, r⟩ := e.left v hv
    exact ⟨_, dataKind_some o.al hd r⟩
  · obtain ⟨d, as, hd, ra, rfl⟩ := dataKind_inv ha
    obtain ⟨d', as', hd', rb, rfl⟩ := dataKind_inv hb
    show wpAny (model prog w) A (oneLt' false x y) Q E s
    exact oneLt_alike (fun z => nomatch z) ra rb (o.al d hd d' hd') (o.nn d hd) (Nat.lt_of_le_of_lt (Nat.add_le_add_left (Nat.min_le_left _ _) _) (hu d hd)) hq
theorem list_sort_one {a : Addr} {n : Nat} {Q : Value → Shared → Prop} (ho : s.heap.get? a = some (seqObj "list" vs.toArray n)) (e : EachIs R vs bs) (er : EachIs (fun v b => ∃ as, Reads s.heap v (enc b) as ∧ a ∉ as) vs bs) (o : One1 (bs.map enc)) (deep : ∀ b, b ∈ bs → A.units + 1 + (enc b).depth < cLine)
    (h : ∀ out, out.length = bs.length → EachIs R out (bs.mergeSort (dataLe false enc)) → Q .none { s with heap := sortedHeap s.heap a vs out.toArray }) : wpAny (model prog w) A (call (.builtin "list.sort") [.ref a]) Q E s := by
  have few : vs.length ≤ sizeLine := by rw [e.length, sizeLine_eq]; have := o.few; rw [List.length_map] at this; omega
  have er' : EachIs (fun v b => ∃ as, Reads (sortingHeap s.heap a vs) v (enc b) as) vs bs := each_keepBut (fun _ _ hb q => sortingHeap_old hb q) (fun o q => by rw [ho] at q; cases q; rfl) o.al er
  have S := sorts_one (prog := prog) (w := w) (A := A.in1) (s := { s with heap := sortingHeap s.heap a vs }) (each_map (R := fun v d => ∃ as, Reads (sortingHeap s.heap a vs) v d as) enc er') o (bound_map deep)
  refine wpAny_call_entry slot_list_sort ⟨_, ho, rfl⟩ entry_list_sort (list_sort_vals ho S few ⟨.none, rfl, ?_⟩) (args_list_sort _)
  refine h _ ?_ (sortVals_data false e er' o.al)
  rw [sortVals_length false rfl]
  exact e.length
end
section
variable {X : Cx} {K : PySem.W.Frag} {H : Hp} {L : Ad}
theorem sort_new1 {β : Type} {enc : β → D} {R : Value → β → Prop} {us : List Value} {bs : List β} {pn : List (Addr × Obj)} {σ : St} {H : Hp} {s : Shared} {g : Heap} {tk : Nat} {l : Addr} {Q : Value → Shared → Prop} (inv : Inv X pn σ H s)
    (keep : ∀ b u, s.heap.get? b = some u → g.get? b = some u) (high : s.heap.objs.size ≤ l) (ob : g.get? l = some (seqObj "list" us.toArray 0)) (items : PySem.W.EachIs R us bs)
    (reads : PySem.W.EachIs (fun v b => ∃ as, Reads g v (enc b) as ∧ l ∉ as) us bs) (o : One1 (bs.map enc)) (deep : ∀ b, b ∈ bs → X.A.in1.units + 1 + (enc b).depth < cLine)
    (go : ∀ (out : List Value) (g' : Heap), PySem.W.EachIs R out (bs.mergeSort (PySem.W.dataLe false enc)) → (∀ vs, Vals vs out → Inv X pn σ (upd H l (.lst vs)) { s with heap := g', toks := tk }) → Q .none { s with heap := g', toks := tk }) :
    wpAny (model X.prog X.w) X.A.in1 (call (.builtin "list.sort") [.ref l]) Q X.xe { s with heap := g, toks := tk } := by
  apply list_sort_one (s := { s with heap := g, toks := tk }) (R := R) (enc := enc) ob items reads o deep
  intro out many sorted
  have free : H l = none := inv.hok.fresh high
  obtain ⟨n, at_⟩ := PyProof.Rows.sortedHeap_at (vs := us) (out := out.toArray) ob
  refine go out _ sorted fun vs rel => ?_
  have old : ∀ b u, s.heap.get? b = some u → (sortedHeap g l us out.toArray).get? b = some u := fun b u e => (PyProof.Rows.sortedHeap_old (fun z => absurd (Heap.lt_size (z ▸ e)) (Nat.not_lt.mpr high)) (Heap.lt_size (keep b u e))).trans (keep b u e)
  generalize sortedHeap g l us out.toArray = g' at at_ old ⊢
  have fits : vs.length ≤ sizeLine := by rw [rel.length, many, sizeLine_eq]; have := o.few; rw [List.length_map] at this; omega
  exact (inv.kept (t' := tk) old).take (o := .lst vs) (fun _ _ _ e => e) (inv.fpOk high free) ⟨fits, out, n, rel, at_⟩
theorem sorted_dict1 {pn : List (Addr × Obj)} {σ : St} {s : Shared} {a : Addr} {ob : Obj} {es : Array DictEntry} {ep k : Nat} {bs : List VD} {Q : VK} (inv : Inv X pn σ H s) (hr : Room k X.A) (hc : X.calm = true) (plain : (a == sysModules) = false) (got : s.heap.get? a = some ob) (isd : ob.ExactDict)
    (dat : ob.data = .dict es ep) (many : bs.length = es.size) (key : ∀ (j : Nat) (en : DictEntry), es[j]? = some en → ∃ b, bs[j]? = some b ∧ RVD X.K H L en.key b) (o : One1 (bs.map (·.2))) (lay : ∀ d ∈ bs.map (·.2), d.canLay0 = true ∧ d.depth ≤ 50)
    (go : ∀ (H' : Hp) (l : Addr), Same H H' → H l = none → Ow X.K H' (Lp L l) (.list (sortD (bs.map (·.2)))) l → Q (.ref l) H') : wpAny (model X.prog X.w) X.A (call (.builtin "sorted") [.ref a]) (EP X pn σ Q) X.xe s := by
  have few : bs.length ≤ 1 := by have := o.few; rw [List.length_map] at this; exact this
  apply Calls.call_function_entry PyProof.Rows.kind_sorted PyProof.Rows.plain_sorted PyProof.Rows.entry_sorted (PyProof.Rows.args_sorted1 _)
  unfold Builtin.«sorted»
  apply wpAny_bind (m := checkCount "sorted" 1 1 _)
  apply wpAny_pure
  refine wpAny_bind (PySem.W.kdu_collect (A := X.A.in1) (kdl_raw plain isd dat) (inv.ok.hd hc) got (by rw [sizeLine_eq]; omega) ?_)
  intro g tk acc keep it
  have each := keys_each (K := X.K) (H := H) (L := L) rfl it many key
  have la : acc.toList.length = bs.length := by rw [Array.length_toList, it.1, many]
  refine wpAny_bind (wpAny_newList ?_ (by rw [la, sizeLine_eq]; omega))
  have lies : (g.push { cls := .type "list", data := .seq acc.toList.toArray }).get? g.objs.size = some (seqObj "list" acc.toList.toArray 0) := Heap.get?_push_size _ rfl
  have up : ∀ b u, g.get? b = some u → (g.push { cls := .type "list", data := .seq acc.toList.toArray }).get? b = some u := fun b u e => Heap.get?_push_of_some _ e
  have inv1 : Inv X pn σ H { s with heap := g, toks := tk } := inv.kept keep
  generalize g.push { cls := .type "list", data := .seq acc.toList.toArray } = g2 at lies up
  have free : H g.objs.size = none := inv1.hok.fresh (Nat.le_refl _)
  have un := hr.un
  refine wpAny_bind (wpAny_holding (sort_new1 (enc := fun b : VD => b.2) (Q := fun _ s' => _) inv1 up (Nat.le_refl _) lies each ((each_mem each).mono ?_) o ?_ ?_))
  · rintro u b ⟨⟨r1, r2⟩, m⟩
    obtain ⟨as, rd⟩ := Dp.reads inv1 b.2 b.1 u (r2.dp (lay _ (List.mem_map_of_mem m)).1) r1
    exact ⟨as, PyProof.Rows.Reads.keeps up rd, fun z => absurd (reads_lt rd _ z) (Nat.lt_irrefl _)⟩
  · intro b m
    have := (lay b.2 (List.mem_map_of_mem m)).2
    show X.A.units + 1 + 1 + b.2.depth < cLine
    omega
  intro out g' srt lay2
  obtain ⟨v2, r2⟩ := each_back srt
  rw [sort_snd bs] at r2
  have inv2 := lay2 _ v2
  refine wpAny_pure ⟨.ref g.objs.size, rfl, .ref g.objs.size, _, inv2, rfl, go _ _ (same_upd free) free (.lst upd_same ?_)⟩
  exact (r2.lives (Lp_new free)).mono (same_upd free)
end
theorem okSort1_ok {ds : List D} (h : okSort1 ds = true) : OkSort ds ∨ (One1 ds ∧ ∀ d ∈ ds, d.canLay0 = true ∧ d.depth ≤ 50) := by
  unfold okSort1 at h
  rcases Bool.or_eq_true _ _ |>.mp h with h | h
  · exact .inl (okSort_ok h)
  · rw [Bool.and_eq_true, List.all_eq_true] at h
    have few : ds.length ≤ 1 := of_decide_eq_true h.1
    have all := h.2
    simp only [Bool.and_eq_true, decide_eq_true_eq] at all
    refine .inr ⟨⟨few, fun d hd d' hd' => ?_, fun d hd z => ?_⟩, fun d hd => ⟨(all d hd).1.2, (all d hd).2⟩⟩
    · cases ds with
      | nil => cases hd
      | cons a r => cases r with
        | nil =>
          rw [List.mem_singleton.mp hd, List.mem_singleton.mp hd']
          exact (all a (List.mem_singleton.mpr rfl)).1.1.1
        | cons _ _ => simp at few
    · have q := (all d hd).1.1.2
      rw [z] at q
      cases q
def kD (x : NestedKey × Addr × Int) : D := x.1.data
def rNSort (K : PySem.W.Frag) : List V → Hp → VK → Prop := fun vs H Q => ∃ (a : Addr) (xs : NX) (L : Ad), vs = [.ref a] ∧ H a = some (NDictO a xs) ∧ LvOk K H L ∧ NKs K H L xs ∧ okSort1 (xs.map kD) = true ∧ ∀ (H' : Hp) (l : Addr), Same H H' → H l = none → Ow K H' (Lp L l) (.list (sortD (xs.map kD))) l → Q (.ref l) H'
theorem rel_at : ∀ {xs : NX} {vs : List (NestedKey × Addr × Value)}, Paired RelN xs vs → ∀ (j : Nat) (y : NestedKey × Addr × Value), vs[j]? = some y → ∃ x, xs[j]? = some x ∧ RelN x y
  | _, _, .nil, j, y, h => by simp at h
  | _, _, .cons r rr, 0, y, h => by cases h; exact ⟨_, rfl, r⟩
  | _, _, .cons r rr, j + 1, y, h => rel_at rr j y h
section
variable {X : Cx} {W : WX}
theorem cl_nsort {k : Nat} (hr : Room k X.A) (hc : X.calm = true) : CallR X (.builtin "sorted") (rNSort X.K) := by
  rintro pn s σ H vs us Q inv vals ⟨a, xs, L, rfl, ha, lv, ks, O, go⟩
  obtain rfl := Vals.ref1 vals
  obtain ⟨nd, vs', rel, dd⟩ := n_full inv (x := .ref a) ⟨rfl, ha, ks.at⟩
  obtain ⟨ob, es, ep, got, isd, dat, ents, _, _⟩ := dd
  have l1 : es.size = vs'.length := size_of_entries ents
  have l2 := (rel_keys rel).2
  have ek : (xs.map fun x => (V.ref x.2.1, x.1.data)).map (·.2) = xs.map kD := by
    rw [List.map_map]
    rfl
  have key : ∀ (j : Nat) (en : DictEntry), es[j]? = some en → ∃ b, (xs.map fun x => ((V.ref x.2.1, x.1.data) : VD))[j]? = some b ∧ RVD X.K H L en.key b := fun j en hj => by
    have q := entry_at ents j
    rw [hj] at q
    cases hx : vs'[j]? with
    | none => rw [hx] at q; cases q
    | some y =>
      rw [hx] at q
      have e2 : en = entryOfKey (nestedKind X.prog X.w) y := Option.some.inj q
      obtain ⟨x, h3, r1, r2, _⟩ := rel_at rel j y hx
      refine ⟨(V.ref x.2.1, x.1.data), by rw [List.getElem?_map, h3]; rfl, ?_, ks.rp x (List.mem_of_getElem? h3)⟩
      rw [e2]
      show Value.ref y.2.1 = Value.ref x.2.1
      rw [r2]
  rcases okSort1_ok O with O | ⟨O, lay⟩
  · exact sorted_dict inv hr hc lv nd.plain got isd dat (bs := xs.map fun x => (V.ref x.2.1, x.1.data)) (by rw [List.length_map, l1, l2]) (by rw [l1, ← l2]; exact nd.few) key (by rw [ek]; exact O) (by rw [ek]; exact go)
  · exact sorted_dict1 inv hr hc nd.plain got isd dat (bs := xs.map fun x => (V.ref x.2.1, x.1.data)) (by rw [List.length_map, l1, l2]) key (by rw [ek]; exact O) (by rw [ek]; exact lay) (by rw [ek]; exact go)
theorem sn_ndkeys (i : Nat) {k : Nat} {x : Str} {p px pos : Pos} (hr : Room k X.A) (hc : X.calm = true) (hm : X.mg "sorted" = none) (hg : Gl X "sorted" := by rfl) (hN : X.N[i]? = some x := by rfl) (hv : Vis X.env.scope x := by first | exact Or.inl rfl | exact Or.inr (Or.inl rfl) | exact Or.inr (Or.inr rfl)) (hd : (x == ("__debug__" : Str)) = false := by decide)
    (hcd : (x == ("__classdict__" : Str)) = false := by decide) : SN X W (.Call (.Name "sorted" p) [.Name x px] [] pos) (eNdKeys i) := (pe_callB (cl_nsort hr hc) hg hm (by decide +kernel) (pa_cons (pe_var hN hv hd hcd) pa_nil)).weak fun σ H Q ⟨L, ρ, re, h⟩ => by
  unfold eNdKeys at h
  cases hn : ndAt ρ i with
  | none => rw [hn] at h; exact h.elim
  | some ps =>
    rw [hn] at h
    obtain ⟨a, xs, e1, e2, e3, e4⟩ := ndAt_re re hn
    have ek : ps.map (·.1) = xs.map kD := by
      rw [← e3, List.map_map]
      rfl
    dsimp only at h
    rw [ek] at h
    split at h
    · rename_i ok
      exact ⟨.ref a, e1, a, xs, L, rfl, e2, re.lv, e4, ok, h⟩
    · exact h.elim
def sortTF : List D → Option D
  | [.tuple ds] => if okSort ds = true then some (.list (sortD ds)) else none
  | _ => none
theorem cl_sortedT {k : Nat} (hr : Room k X.A) (hc : X.calm = true) : ClN X (.builtin "sorted") sortTF := by
  rintro pn s σ H xs us Q inv vals ⟨L, ds, d, lv, rb, hf, go⟩
  unfold sortTF at hf
  split at hf
  case h_2 => cases hf
  rename_i es
  split at hf
  case isFalse => cases hf
  rename_i hok
  cases hf
  have O := okSort_ok hok
  obtain ⟨v, rfl, rv⟩ := rb.one
  obtain ⟨a, vs, rfl, ha, rl⟩ := rv.tupV
  obtain rfl := Vals.ref1 vals
  obtain ⟨most, its, rel, o, h1, h2, n, h3⟩ := (show ObjOk X.prog X.w H s.heap a (.tup vs) from inv.hok a _ ha)
  have each := each_vd rl rel
  have snd := zip_snd rl
  have many : (vs.zip es).length = es.length := by rw [← congrArg List.length snd, List.length_map]
  have li : its.length = vs.length := rel.length.symm
  have le : vs.length = es.length := rl.length.symm
  have fewI : its.length ≤ sizeLine := by rw [li]; exact most
  apply Calls.call_function_entry PyProof.Rows.kind_sorted PyProof.Rows.plain_sorted PyProof.Rows.entry_sorted (PyProof.Rows.args_sorted1 _)
  unfold Builtin.«sorted»
  apply wpAny_bind (m := checkCount "sorted" 1 1 _)
  apply wpAny_pure
  refine wpAny_bind (wpAny_collect_seq (A := X.A.in1) a (T := "tuple") (.inr rfl) h1 h2 h3 (fun g keep => ?_) (by rw [List.size_toArray]; exact fewI))
  refine wpAny_bind (wpAny_newList ?_ (by simpa using fewI))
  have inv1 : Inv X pn σ H { s with heap := g } := inv.kept (t' := s.toks) keep
  have lies : (g.push { cls := .type "list", data := .seq its.toArray.toList.toArray }).get? g.objs.size = some (seqObj "list" its.toArray.toList.toArray 0) := Heap.get?_push_size _ rfl
  have up : ∀ b u, g.get? b = some u → (g.push { cls := .type "list", data := .seq its.toArray.toList.toArray }).get? b = some u := fun b u e => Heap.get?_push_of_some _ e
  have each : PySem.W.EachIs (RVD X.K H L) its.toArray.toList (vs.zip es) := by simpa using each
  generalize g.push { cls := .type "list", data := .seq its.toArray.toList.toArray } = g2 at lies up
  have free : H g.objs.size = none := inv1.hok.fresh (Nat.le_refl _)
  have un := hr.un
  refine wpAny_bind (wpAny_holding (sort_new (enc := fun b : VD => b.2) (Q := fun _ s' => _) inv1 up (Nat.le_refl _) lies each ((each_mem each).mono ?_) (by rw [snd]; exact O.al) (by rw [snd]; exact O.so) (by rw [many, ← le, ← li]; exact fewI) ?_ ?_))
  · rintro u b ⟨⟨r1, r2⟩, m⟩
    obtain ⟨as, rd⟩ := Dp.reads inv1 b.2 b.1 u (r2.dp (O.lay _ (by rw [← snd]; exact List.mem_map_of_mem m))) r1
    exact ⟨as, PyProof.Rows.Reads.keeps up rd, fun z => absurd (reads_lt rd _ z) (Nat.lt_irrefl _)⟩
  · intro b m
    have := O.deep b.2 (by rw [← snd]; exact List.mem_map_of_mem m)
    show X.A.units + 1 + 1 + b.2.depth < cLine
    omega
  intro out g' srt rest lay
  obtain ⟨v2, r2⟩ := each_back srt
  rw [sort_snd, snd] at r2
  have inv2 := lay _ v2
  refine wpAny_pure ⟨.ref g.objs.size, rfl, .ref g.objs.size, _, inv2, rfl, go _ _ (same_upd free) free (.lst upd_same ?_)⟩
  exact (r2.lives (Lp_new free)).mono (same_upd free)
end
def inTF : D → D → Option D
  | x, .tuple ds => if (SeqAt.shaped x && SeqAt.shaped (.tuple ds)) = true then some (.bool (ds.any fun z => PyData.eqv z x)) else none
  | _, _ => none
theorem inTF_b {x y d : D} (h : inTF x y = some d) : ∃ b, d = .bool b := by
  unfold inTF at h
  split at h
  · split at h
    · cases h; exact ⟨_, rfl⟩
    · cases h
  · cases h
theorem op_inT {X : Cx} {k : Nat} (hr : Room k X.A) : CmD X .In inTF := by
  rintro pn s σ H x y v u Q I rx ry ⟨L, dx, dy, d, lv, bx, by', hf, go⟩
  have un := hr.un
  unfold inTF at hf
  split at hf
  · split at hf
    · rename_i hz
      cases hf
      rw [Bool.and_eq_true] at hz
      obtain ⟨as, r1⟩ := Dp.reads I _ x v (bx.dp (SeqAt.canLay_of_shaped hz.1)) rx
      obtain ⟨bs, r2⟩ := Dp.reads I _ y u (by'.dp (SeqAt.canLay_of_shaped hz.2)) ry
      exact SeqAt.in_tuple_reads r2 r1 (SeqAt.canLay_of_shaped hz.2) (SeqAt.canLay_of_shaped hz.1) (room_in_shaped hz.1 (by omega)) ⟨.bl _, H, I, rfl, go H _ (Same.refl H) (.bl _)⟩
    · cases hf
  · cases hf
section
variable {K : PySem.W.Frag} {H0 H : Hp} {Lo : Ad} {ρ : En} {α : Nat → Option Addr} {σ : St}
def mvA (α : Nat → Option Addr) (i j : Nat) (a : Addr) : Nat → Option Addr := fun k => if k = i then some a else if k = j then none else α k
theorem mvA_some {i j k : Nat} {a z : Addr} (h : mvA α i j a k = some z) : (k = i ∧ z = a) ∨ (k ≠ i ∧ k ≠ j ∧ α k = some z) := by
  unfold mvA at h
  split at h
  · cases h; exact .inl ⟨by assumption, rfl⟩
  · split at h
    · cases h
    · exact .inr ⟨by assumption, by assumption, h⟩
theorem RSt.moveN {i j : Nat} {ps : NP} (h : RSt K H0 Lo ρ α σ H) (hj : ρ[j]? = some (some (.grid (.gx (ndX ps))))) (hi : i < ρ.length) (ne : i ≠ j) : ∃ a, σ[j]? = some (some (.ref a)) ∧ RSt K H0 Lo ((ρ.set j none).set i (some (.grid (.gx (ndX ps))))) (mvA α i j a) (σ.set i (some (.ref a))) H ∧ Evo K Lo H α H (mvA α i j a) := by
  obtain ⟨a, bs, e2, og, nd, _, e1, e3, h1000⟩ := h.atG hj
  have og : ndR ps K H (Lv Lo α) a bs := og
  obtain ⟨rfl, xs, ha, ex, ks⟩ := og
  have hi1000 : i < 1000 := by have := h.sm; omega
  have less : ∀ z, Lv Lo (mvA α i j a) z → Lv Lo α z := fun z q => by
    rcases q with q | ⟨k, q⟩
    · exact .inl q
    · rcases mvA_some q with ⟨_, rfl⟩ | ⟨_, _, q⟩
      · exact .inr ⟨j, e1⟩
      · exact .inr ⟨k, q⟩
  have hL : ∀ z, Lv Lo (mvA α i j a) z → Lv Lo α z ∨ H z = none := fun z q => .inl (less z q)
  have new : ndR ps K H (Lv Lo (mvA α i j a)) a [] := ⟨rfl, xs, ha, ex, ks.key, fun x hx => (ks.rp x hx).lives hL⟩
  have slot : ∀ {k : Nat} {x : Sl}, ((ρ.set j none).set i (some (.grid (.gx (ndX ps)))))[k]? = some (some x) → (k = i ∧ x = .grid (.gx (ndX ps))) ∨ (k ≠ i ∧ k ≠ j ∧ ρ[k]? = some (some x)) := fun {k x} e => by
    by_cases hk : i = k
    · subst hk
      rw [List.getElem?_set_self (by rw [List.length_set]; exact hi)] at e
      cases e
      exact .inl ⟨rfl, rfl⟩
    · rw [List.getElem?_set_ne hk] at e
      by_cases hk2 : j = k
      · subst hk2
        rw [List.getElem?_set_self (List.getElem?_eq_some_iff.mp hj).1] at e
        cases e
      · rw [List.getElem?_set_ne hk2] at e
        exact .inr ⟨Ne.symm hk, Ne.symm hk2, e⟩
  have sig : ∀ {k : Nat}, k ≠ i → (σ.set i (some (.ref a)))[k]? = σ[k]? := fun {k} n => List.getElem?_set_ne (Ne.symm n)
  have sigI : (σ.set i (some (V.ref a)))[i]? = some (some (.ref a)) := List.getElem?_set_self (by rw [← h.re.len]; exact hi)
  have stay : ∀ {k : Nat}, k ≠ i → k ≠ j → mvA α i j a k = α k := fun {k} n1 n2 => by
    unfold mvA
    rw [if_neg n1, if_neg n2]
  have atI : mvA α i j a i = some a := by
    unfold mvA
    rw [if_pos rfl]
  refine ⟨a, e2, ⟨⟨⟨fun z q => h.re.lv z (less z q), h.re.lv.tb⟩, by simp [h.re.len], fun k x e => ?_⟩, h.same, h.lo, fun k z q => ?_, fun k l z q1 q2 => ?_, fun k d e => ?_, by simpa using h.sm, fun k g e => ?_, fun k z q => ?_, ?_⟩, fun d v r => r.lives hL⟩
  · rcases slot e with ⟨rfl, rfl⟩ | ⟨n1, n2, e⟩
    · exact ⟨_, sigI, a, [], rfl, new⟩
    · obtain ⟨w, f1, r⟩ := h.re.sl k x e
      exact ⟨w, (sig n1).trans f1, r.lives hL⟩
  · rcases mvA_some q with ⟨_, rfl⟩ | ⟨_, _, q⟩
    · exact h.new j _ e1
    · exact h.new k z q
  · rcases mvA_some q1 with ⟨k1, z1⟩ | ⟨n1, m1, q1⟩
    · rcases mvA_some q2 with ⟨k2, _⟩ | ⟨n2, m2, q2⟩
      · rw [k1, k2]
      · rw [z1] at q2
        exact absurd (h.inj _ _ _ q2 e1) m2
    · rcases mvA_some q2 with ⟨_, z2⟩ | ⟨n2, m2, q2⟩
      · rw [z2] at q1
        exact absurd (h.inj _ _ _ q1 e1) m1
      · exact h.inj _ _ _ q1 q2
  · rcases slot e with ⟨_, z⟩ | ⟨n1, n2, e⟩
    · cases z
    · obtain ⟨c, g1, g2, g3⟩ := h.own k d e
      exact ⟨c, (stay n1 n2).trans g1, (sig n1).trans g2, g3.lives hL⟩
  · rcases slot e with ⟨rfl, z⟩ | ⟨n1, n2, e⟩
    · cases z
      exact ⟨a, [], atI, sigI, fun m b q => by simp at q, new⟩
    · obtain ⟨c, cs, g1, g2, g3, g4⟩ := h.grd k g e
      have k1000 := (slot_lt h e).2
      refine ⟨c, cs, (stay n1 n2).trans g1, (sig n1).trans g2, fun m b q => ?_, g4.lives hL⟩
      have := vix_ge k m
      rw [stay (by omega) (by omega)]
      exact g3 m b q
  · rcases mvA_some q with ⟨_, rfl⟩ | ⟨_, _, q⟩
    · exact h.nl j _ e1
    · exact h.nl k z q
  · exact (h.pr.set (i := j) (x := none) (by intro _ z; cases z) fun d c _ o => o.lives hL).set2 (by intro _ z; cases z) fun _ _ _ o => o
end
section
variable {X : Cx} {W : WX} {x y : Str} {p pos pos' : Pos}
theorem ss_ndmv {i j : Nat} (hN : X.N.Nodup) (hi : X.N[i]? = some x := by rfl) (hx : Loc X.env.scope x := by first | exact Or.inl rfl | exact Or.inr rfl) (hj : X.N[j]? = some y := by rfl) (hv : Vis X.env.scope y := by first | exact Or.inl rfl | exact Or.inr (Or.inl rfl) | exact Or.inr (Or.inr rfl)) (hd : (y == ("__debug__" : Str)) = false := by decide)
    (hcd : (y == ("__classdict__" : Str)) = false := by decide) (hs : swapsWith (.Name y p) (some (.Name x pos')) pos.line X.env = pure false := by rfl) (hf : X.fn x = true ∨ X.env.scope.names.lookup x = some .local := by first | exact .inl rfl | exact .inr rfl) :
    SS X W (.Assign [.Name x pos'] (.Name y p) pos) (sNdMv i j) := fun H0 Lo => (ps_set hN hi hx (pe_var hj hv hd hcd) hs hf).weak fun D σ H ⟨ρ, α, rst, h⟩ => by
  unfold sNdMv at h
  cases hn : ndAt ρ j with
  | none => rw [hn] at h; exact h.elim
  | some ps =>
    rw [hn] at h
    dsimp only at h
    split at h
    · rename_i ne
      obtain ⟨a, e2, r, ev⟩ := rst.moveN (ndAt_some hn) ne.2 ne.1
      exact ⟨.ref a, e2, h _ _ _ r ev⟩
    · exact h.elim
end
end VV
namespace VVlaw
open PySem PySem.Spec L2 VV
open PyProof.Rows hiding St
noncomputable section
def lp_law_1 : SF := (sSet 4 (eOp addF (eV 4) (eCall sem_needed [(eV 2), (eV 5)])))
def lp_law_2 : SF := (sSeq (sSet 13 (eLc [16] (iSeq (eV 10)) (.nm 16) (eOp neF (eV 16) (eV 12)) (eV 16))) (sApp 11 (eTup [(eCB tupF [(eCB sortF [(eOp addF (eV 13) (eLst [(eV 8)]))])]), (eOp addF (eNdGet 7 (eV 10)) (eC (.int 1)))])))
def lp_law_3 : SF := (sNdPut 9 (eV 14) (eCB min2F [(eV 15), (eNdGet2 9 (eV 14) (eV 15))]))
def lp_law_4 : SF := (sSeq (sIf (eOp inTF (eV 8) (eV 10)) (sOwn 11 (eLst [(eTup [(eV 10), (eNdGet 7 (eV 10))])])) (sIf (eOp ltF (eCB lenF [(eV 10)]) (eV 6)) (sOwn 11 (eLst [(eTup [(eCB tupF [(eCB sortTF [(eOp addF (eV 10) (eTup [(eV 8)]))])]), (eOp addF (eNdGet 7 (eV 10)) (eC (.int 1)))])])) (sSeq (sOwn 11 (eLst [])) (sFor (iSeq (eV 10)) (.nm 12) lp_law_2)))) (sFrz 11 (sFor (iSeq (eV 11)) (.tp [(.nm 14), (.nm 15)]) lp_law_3)))
def lp_law_5 : SF := (sSeq (sNdNew 9) (sSeq (sFor (iSeq (eNdKeys 7)) (.nm 10) lp_law_4) (sNdMv 7 9)))
def b_law : SF := (sSeq (sSet 1 (eCall sem__law_row [(eV 0), (eC (.int 4))])) (sSeq (sSet 2 (eCall sem_built [(eCall sem__law_some_picture [(eV 0), (eC (.int 2))]), (eC (.int 4))])) (sSeq (sSet 3 (eSl (eCall sem__law_trip [(eV 1), (eC (.int 1)), (eOp subF (eCall sem_levels [(eV 2)]) (eC (.int 1)))]) none (some (eC (.int 4))))) (sSeq (sSet 4 (eLst [])) (sSeq (sFor (iSeq (eV 3)) (.nm 5) lp_law_1) (sSeq (sIf (eOp gtF (eCB lenF [(eV 4)]) (eC (.int 12))) (sSeq (sSet 3 (eSl (eV 3) none (some (eC (.int 1))))) (sSet 4 (eCall sem_needed [(eV 2), (eOp ixF (eV 3) (eC (.int 0)))]))) sNx) (sSeq (sSet 6 (eOp addF (eC (.int 1)) (eOp modF (eOp ixF (eV 1) (eC (.int 50))) (eC (.int 3))))) (sSeq (sNdOne 7 (eTup []) (eC (.int 0))) (sSeq (sFor (iSeq (eV 4)) (.nm 8) lp_law_5) (sRet (eOp eqF (eCB lenF [(eCall sem_fetched ([(eV 2), (eV 3)] ++ [(eV 6), (eC (.str "far"))]))]) (eCB (best1F min) [(eLc [10] (iSeq (eNdKeys 7)) (.nm 10) (eC (.bool true)) (eNdGet 7 (eV 10)))]))))))))))))
def sem_law : List D → Rs := runB 1 17 b_law
end
end VVlaw
set_option maxHeartbeats 8000000
namespace VVlaw
open PySem PySem.Spec L2 VV
open PyProof.Rows hiding St
def nkY (k : Ky) : NestedKey := .tup [.num (k.1 : Int), .num (k.2.1 : Int), .num (k.2.2 : Int)]
def nkS (S : List Ky) : NestedKey := .tup (S.map nkY)
theorem nk_ky (k : Ky) : nkOf (kyD k) = some (nkY k) := by simp [kyD, nkOf, nkOfs, nkY]
theorem nk_kys : ∀ S : List Ky, nkOfs (S.map kyD) = some (S.map nkY)
  | [] => rfl
  | k :: S => by simp -implicitDefEqProofs only [List.map_cons, nkOfs, nk_ky, nk_kys S, Option.bind_some, Option.map_some]
theorem depth_kys : ∀ S : List Ky, NestedKey.depthAll (S.map nkY) ≤ 1
  | [] => by simp [NestedKey.depthAll]
  | k :: S => by
    have := depth_kys S
    simp -implicitDefEqProofs only [List.map_cons, NestedKey.depthAll, nkY, NestedKey.depth]
    omega
theorem key_set (S : List Ky) : keyN (setD7 S) = some (nkS S) := by
  have e : nkOf (setD7 S) = some (.tup (S.map nkY)) := by simp -implicitDefEqProofs only [setD7, nkOf, nk_kys, Option.map_some]
  unfold keyN
  rw [e]
  have d := depth_kys S
  show (if (NestedKey.tup (S.map nkY)).depth ≤ 8 then _ else _) = _
  rw [if_pos (by simp -implicitDefEqProofs only [NestedKey.depth]; omega)]
  rfl
theorem nkS_inj {S R : List Ky} (h : nkS S = nkS R) : S = R := by
  unfold nkS at h
  injection h with h
  induction S generalizing R with
  | nil => cases R with
    | nil => rfl
    | cons _ _ => cases h
  | cons a S ih => cases R with
    | nil => cases h
    | cons b R =>
      simp -implicitDefEqProofs only [List.map_cons, List.cons.injEq, nkY, NestedKey.tup.injEq, NestedKey.num.injEq, and_true] at h
      rw [ih h.2, Prod.ext (by omega) (Prod.ext (by omega) (by omega) : a.2 = b.2)]
theorem nkS_data (S : List Ky) : (nkS S).data = setD7 S := (keyN_some (key_set S)).2.2.2.1
def npOf (M : List Dp7) : NP := M.map fun e => (setD7 e.1, (e.2 : Int))
theorem find7 (S : List Ky) : ∀ M : List Dp7, ndGet (npOf M) (nkS S) = (M.find? fun x => decide (x.1 = S)).map fun x => (x.2 : Int)
  | [] => rfl
  | x :: M => by
    have ih := find7 S M
    unfold ndGet npOf at ih ⊢
    rw [List.map_cons, List.find?_cons, List.find?_cons]
    dsimp only
    rw [key_set]
    by_cases c : x.1 = S
    · rw [c, decide_eq_true rfl, decide_eq_true rfl]
      rfl
    · rw [decide_eq_false c, decide_eq_false fun z => c (nkS_inj (Option.some.inj z))]
      exact ih
theorem find_is {M : List Dp7} (nd : (M.map (·.1)).Nodup) {e : Dp7} (he : e ∈ M) : (M.find? fun x => decide (x.1 = e.1)) = some e := by
  induction M with
  | nil => cases he
  | cons x M ih =>
    rw [List.map_cons, List.nodup_cons] at nd
    rw [List.find?_cons]
    rcases List.mem_cons.mp he with rfl | he
    · rw [decide_eq_true rfl]
    · rw [decide_eq_false fun z : x.1 = e.1 => nd.1 (by rw [z]; exact List.mem_map_of_mem he)]
      exact ih nd.2 he
theorem get7 {M : List Dp7} (nd : (M.map (·.1)).Nodup) {e : Dp7} (he : e ∈ M) : ndGet (npOf M) (nkS e.1) = some (e.2 : Int) := by
  rw [find7, find_is nd he]
  rfl
theorem put7 {M : List Dp7} (nd : (M.map (·.1)).Nodup) (e : Dp7) : ndPut (npOf M) (nkS e.1) (min (e.2 : Int) ((ndGet (npOf M) (nkS e.1)).getD (e.2 : Int))) = npOf (addM M e) := by
  have f := find7 e.1 M
  unfold ndPut addM
  by_cases c : (M.any fun x => decide (x.1 = e.1)) = true
  · obtain ⟨x, hx, cx⟩ := List.any_eq_true.mp c
    have cx : x.1 = e.1 := of_decide_eq_true cx
    have fx := find_is nd hx
    rw [cx] at fx
    rw [fx] at f
    rw [f, if_pos c]
    show (if (some (x.2 : Int)).isSome = true then _ else _) = _
    rw [if_pos (show (some (x.2 : Int)).isSome = true from rfl)]
    unfold npOf
    rw [List.map_map, List.map_map]
    refine List.map_congr_left fun y hy => ?_
    show (if keyN (setD7 y.1) = some (nkS e.1) then (setD7 y.1, _) else (setD7 y.1, (y.2 : Int))) = (setD7 (if y.1 = e.1 then (y.1, min e.2 y.2) else y).1, ((if y.1 = e.1 then (y.1, min e.2 y.2) else y).2 : Int))
    rw [key_set]
    by_cases d : y.1 = e.1
    · rw [if_pos (by rw [d]), if_pos d]
      have : y = x := by
        have q := find_is nd hy
        rw [d, fx] at q
        exact (Option.some.inj q).symm
      subst this
      refine Prod.ext rfl ?_
      show min (e.2 : Int) ((some (y.2 : Int)).getD _) = ((min e.2 y.2 : Nat) : Int)
      simp -implicitDefEqProofs only [Option.getD_some]
      omega
    · rw [if_neg (fun z => d (nkS_inj (Option.some.inj z))), if_neg d]
  · have fn : (M.find? fun x => decide (x.1 = e.1)) = none := by
      rw [List.find?_eq_none]
      intro x hx z
      exact c (List.any_eq_true.mpr ⟨x, hx, z⟩)
    rw [fn] at f
    rw [f, if_neg c]
    show (if (none : Option Int).isSome = true then _ else _) = _
    rw [if_neg (by simp)]
    unfold npOf
    rw [List.map_append, nkS_data]
    refine congrArg (fun z => List.map _ M ++ [z]) (Prod.ext rfl ?_)
    show min (e.2 : Int) (e.2 : Int) = (e.2 : Int)
    omega
theorem ndAt_of {ρ : En} {i : Nat} {ps : NP} (h : ρ[i]? = some (some (.grid (.gx (ndX ps))))) : ndAt ρ i = some ps := by
  unfold ndAt
  rw [h]
  exact getN_nd ps
theorem e_get {ρ : En} {i : Nat} {g : EF} {ps : NP} {d : D} {q : NestedKey} {n : Int} (h : ndAt ρ i = some ps) (hg : g ρ = .ok d) (hk : keyN d = some q) (hn : ndGet ps q = some n) : eNdGet i g ρ = .ok (.int n) := by
  unfold eNdGet
  rw [h]
  dsimp only
  rw [hg]
  simp -implicitDefEqProofs only [Rs.bind_ok, hk, hn]
theorem e_get2 {ρ : En} {i : Nat} {g f : EF} {ps : NP} {d : D} {q : NestedKey} {c : Int} (h : ndAt ρ i = some ps) (hg : g ρ = .ok d) (hf : f ρ = .ok (.int c)) (hk : keyN d = some q) : eNdGet2 i g f ρ = .ok (.int ((ndGet ps q).getD c)) := by
  unfold eNdGet2
  rw [h]
  dsimp only
  rw [hg, hf]
  simp -implicitDefEqProofs only [Rs.bind_ok, hk]
  cases ndGet ps q <;> rfl
theorem e_put {ρ : En} {i : Nat} {f g : EF} {ps : NP} {d : D} {q : NestedKey} {n : Int} (h : ndAt ρ i = some ps) (hg : g ρ = .ok (.int n)) (hf : f ρ = .ok d) (hk : keyN d = some q) (few : ps.length < sizeLine) : sNdPut i f g ρ = .nx (ρ.set i (some (.grid (.gx (ndX (ndPut ps q n)))))) := by
  unfold sNdPut
  rw [h]
  dsimp only
  rw [hg, hf]
  show ndSet i ρ ps (.int n) d = _
  unfold ndSet
  simp -implicitDefEqProofs only [hk]
  rw [if_pos few]
theorem forGo_st {α S : Type} {t : Tg} {f : SF} (emb : α → D) (step : S → α → S) (P : S → List α → En → Prop) (hs : ∀ s x r ρ, P s (x :: r) ρ → ∃ ρ1 ρ2, bindT t (emb x) ρ = some ρ1 ∧ f ρ1 = .nx ρ2 ∧ P (step s x) r ρ2) : ∀ (xs : List α) (s : S) (ρ : En), P s xs ρ → ∃ ρ', forGo t f (xs.map emb) ρ = .nx ρ' ∧ P (xs.foldl step s) [] ρ'
  | [], s, ρ, h => ⟨ρ, rfl, h⟩
  | x :: xs, s, ρ, h => by
    obtain ⟨ρ1, ρ2, h1, h2, h3⟩ := hs s x xs ρ h
    rw [List.map_cons, forGo_nxT h1 h2]
    exact forGo_st emb step P hs xs (step s x) ρ2 h3
section
variable (dn dr dz dt dk : D) (o5 : Option Sl) (much : Nat)
abbrev E7 (s7 o8 s9 o10 o11 o12 o13 o14 o15 : Option Sl) : En := [vl dn, vl dr, vl dz, vl dt, vl dk, o5, vi much, s7, o8, s9, o10, o11, o12, o13, o14, o15, none]
def gM (M : List Dp7) : Option Sl := some (.grid (.gx (ndX (npOf M))))
def dpD (e : Dp7) : D := .tuple [setD7 e.1, .int (e.2 : Int)]
theorem lp3 (s7 o8 o10 o11 o12 o13 : Option Sl) (es L : List Dp7) (nd : (L.map (·.1)).Nodup) (few : L.length + es.length ≤ 4000000) (o14 o15 : Option Sl) : ∃ p14 p15 : Option Sl,
    forGo (.tp [(.nm 14), (.nm 15)]) lp_law_3 (es.map dpD) (E7 dn dr dz dt dk o5 much s7 o8 (gM L) o10 o11 o12 o13 o14 o15) = .nx (E7 dn dr dz dt dk o5 much s7 o8 (gM (es.foldl addM L)) o10 o11 o12 o13 p14 p15) := by
  obtain ⟨ρ', e, ⟨_, _⟩, p14, p15, rfl⟩ := forGo_st (t := .tp [(.nm 14), (.nm 15)]) (f := lp_law_3) dpD addM (fun L r ρ => ((L.map (·.1)).Nodup ∧ L.length + r.length ≤ 4000000) ∧ ∃ o14 o15 : Option Sl, ρ = E7 dn dr dz dt dk o5 much s7 o8 (gM L) o10 o11 o12 o13 o14 o15) (by
    rintro L x r ρ ⟨⟨nd, few⟩, o14, o15, rfl⟩
    refine ⟨E7 dn dr dz dt dk o5 much s7 o8 (gM L) o10 o11 o12 o13 (vl (setD7 x.1)) (vi x.2), E7 dn dr dz dt dk o5 much s7 o8 (gM (addM L x)) o10 o11 o12 o13 (vl (setD7 x.1)) (vi x.2), ?_, ?_, ⟨addM_nd x nd, ?_⟩, _, _, rfl⟩
    · unfold dpD
      simp -implicitDefEqProofs only [evs_, Option.bind_some, List.getElem?_cons_zero, List.getElem?_cons_succ, List.set_cons_zero, List.set_cons_succ, List.map_cons, List.map_nil, List.cons_append, List.nil_append, List.length_cons, List.length_nil, Nat.reduceAdd, Nat.reduceSub, Nat.reduceLeDiff, Nat.reduceLT, Bool.not_true, Bool.not_false, decide_true, decide_false]
    · have at9 : ndAt (E7 dn dr dz dt dk o5 much s7 o8 (gM L) o10 o11 o12 o13 (vl (setD7 x.1)) (vi x.2)) 9 = some (npOf L) := ndAt_of rfl
      have g2 : eNdGet2 9 (eV 14) (eV 15) (E7 dn dr dz dt dk o5 much s7 o8 (gM L) o10 o11 o12 o13 (vl (setD7 x.1)) (vi x.2)) = .ok (.int ((ndGet (npOf L) (nkS x.1)).getD (x.2 : Int))) := e_get2 at9 rfl rfl (key_set x.1)
      have v : (eCB min2F [(eV 15), (eNdGet2 9 (eV 14) (eV 15))]) (E7 dn dr dz dt dk o5 much s7 o8 (gM L) o10 o11 o12 o13 (vl (setD7 x.1)) (vi x.2)) = .ok (.int (min (x.2 : Int) ((ndGet (npOf L) (nkS x.1)).getD (x.2 : Int)))) := by
        have m := f_min2 (x.2 : Int) ((ndGet (npOf L) (nkS x.1)).getD (x.2 : Int))
        generalize (ndGet (npOf L) (nkS x.1)).getD (x.2 : Int) = y at g2 m ⊢
        generalize eNdGet2 9 (eV 14) (eV 15) = eg at g2 ⊢
        simp -implicitDefEqProofs only [g2, m, evs_, Option.bind_some, List.getElem?_cons_zero, List.getElem?_cons_succ, List.set_cons_zero, List.set_cons_succ, List.map_cons, List.map_nil, List.cons_append, List.nil_append, List.length_cons, List.length_nil, Nat.reduceAdd, Nat.reduceSub, Nat.reduceLeDiff, Nat.reduceLT, Bool.not_true, Bool.not_false, decide_true, decide_false]
      unfold lp_law_3
      rw [e_put at9 v rfl (key_set x.1) (by unfold npOf; rw [List.length_map, sizeLine_eq]; rw [List.length_cons] at few; omega), put7 nd x]
      rfl
    · have := addM_len L x
      rw [List.length_cons] at few
      omega) es L _ ⟨⟨nd, few⟩, o14, o15, rfl⟩
  exact ⟨p14, p15, e⟩
theorem sortT_ky {K : List Ky} (nd : K.Nodup) : sortTF [.tuple (K.map kyD)] = some (.list ((sortK K).map kyD)) := sort_ky K nd
theorem in_kyT (K : List Ky) (k : Ky) : inTF (kyD k) (.tuple (K.map kyD)) = some (.bool (decide (k ∈ K))) := by
  have l : Ly 2 (.tuple (K.map kyD)) := Ly.tuple (k := 1) fun d hd => by
    obtain ⟨j, _, rfl⟩ := List.mem_map.mp hd
    exact lay_kyD j
  show (if (SeqAt.shaped (kyD k) && SeqAt.shaped (.tuple (K.map kyD))) = true then some (PyData.bool ((K.map kyD).any fun z => PyData.eqv z (kyD k))) else none) = _
  rw [(lay_kyD k).shaped (by decide), l.shaped (by decide)]
  have e : ((K.map kyD).any fun z => PyData.eqv z (kyD k)) = decide (k ∈ K) := by
    rw [List.any_map, Bool.eq_iff_iff, List.any_eq_true, decide_eq_true_eq]
    constructor
    · rintro ⟨j, hj, e⟩
      have e : PyData.eqv (kyD j) (kyD k) = true := e
      rw [ky_eqv, decide_eq_true_eq] at e
      exact e ▸ hj
    · intro hk
      refine ⟨k, hk, ?_⟩
      show PyData.eqv (kyD k) (kyD k) = true
      rw [ky_eqv]
      simp
  rw [e]
  rfl
noncomputable def if7 : SF := (sIf (eOp inTF (eV 8) (eV 10)) (sOwn 11 (eLst [(eTup [(eV 10), (eNdGet 7 (eV 10))])])) (sIf (eOp ltF (eCB lenF [(eV 10)]) (eV 6)) (sOwn 11 (eLst [(eTup [(eCB tupF [(eCB sortTF [(eOp addF (eV 10) (eTup [(eV 8)]))])]), (eOp addF (eNdGet 7 (eV 10)) (eC (.int 1)))])])) (sSeq (sOwn 11 (eLst [])) (sFor (iSeq (eV 10)) (.nm 12) lp_law_2))))
theorem lp4_is : lp_law_4 = sSeq if7 (sFrz 11 (sFor (iSeq (eV 11)) (.tp [(.nm 14), (.nm 15)]) lp_law_3)) := rfl
theorem some7 (m3 : much ≤ 3) {M : List Dp7} (O : Ok7 much M) (key : Ky) {e : Dp7} (he : e ∈ M) (s9 o11 o12 o13 o14 o15 : Option Sl) : ∃ p12 p13 : Option Sl,
    if7 (E7 dn dr dz dt dk o5 much (gM M) (vl (kyD key)) s9 (vl (setD7 e.1)) o11 o12 o13 o14 o15) = .nx (E7 dn dr dz dt dk o5 much (gM M) (vl (kyD key)) s9 (vl (setD7 e.1)) (some (.own (.list ((moves7 much key e).map dpD)))) p12 p13 o14 o15) := by
  obtain ⟨nd, le⟩ := O.st e he
  have gt : ∀ o11 o12 o13 : Option Sl, eNdGet 7 (eV 10) (E7 dn dr dz dt dk o5 much (gM M) (vl (kyD key)) s9 (vl (setD7 e.1)) o11 o12 o13 o14 o15) = .ok (.int (e.2 : Int)) := fun o11 o12 o13 => e_get (ndAt_of rfl) rfl (key_set e.1) (get7 O.nd he)
  have mem : inTF (kyD key) (setD7 e.1) = some (.bool (decide (key ∈ e.1))) := in_kyT e.1 key
  have ln : lenF [setD7 e.1] = some (.int (e.1.length : Int)) := by
    show some (PyData.int _) = _
    simp
  have lt := f_lt (e.1.length : Int) (much : Int)
  have ad := f_add (e.2 : Int) 1
  have ea : (e.2 : Int) + 1 = ((e.2 + 1 : Nat) : Int) := by omega
  rw [ea] at ad
  have tp : ∀ K : List Ky, tupF [.list (K.map kyD)] = some (setD7 K) := fun _ => rfl
  have dp : ∀ (S : List Ky) (c : Nat), (PyData.tuple [setD7 S, .int (c : Int)]) = dpD (S, c) := fun _ _ => rfl
  unfold moves7
  by_cases hk : key ∈ e.1
  · rw [if_pos hk]
    rw [decide_eq_true hk] at mem
    refine ⟨o12, o13, ?_⟩
    have gt := gt o11 o12 o13
    have dp := dp e.1 e.2
    show _ = Out.nx (E7 dn dr dz dt dk o5 much (gM M) (vl (kyD key)) s9 (vl (setD7 e.1)) (some (.own (.list [dpD e]))) o12 o13 o14 o15)
    have dp : (PyData.tuple [setD7 e.1, .int (e.2 : Int)]) = dpD e := dp
    generalize gM M = sM at *
    generalize setD7 e.1 = dS at *
    generalize kyD key = dq at *
    generalize dpD e = dE at *
    unfold if7
    unfold E7 at *
    simp -implicitDefEqProofs only [mem, gt, dp, evs_, Option.bind_some, List.getElem?_cons_zero, List.getElem?_cons_succ, List.set_cons_zero, List.set_cons_succ, List.map_cons, List.map_nil, List.cons_append, List.nil_append, List.length_cons, List.length_nil, Nat.reduceAdd, Nat.reduceSub, Nat.reduceLeDiff, Nat.reduceLT, Bool.not_true, Bool.not_false, decide_true, decide_false]
  · rw [if_neg hk]
    rw [decide_eq_false hk] at mem
    by_cases hl : e.1.length < much
    · rw [if_pos hl]
      rw [decide_eq_true (by omega)] at lt
      refine ⟨o12, o13, ?_⟩
      have gt := gt o11 o12 o13
      have at1 : addF (setD7 e.1) (.tuple [kyD key]) = some (.tuple ((e.1 ++ [key]).map kyD)) := by
        rw [List.map_append]
        exact if_pos (by rw [sizeLine_eq, List.length_map, List.length_singleton]; omega)
      have st := sortT_ky (snd_nd nd hk)
      have tp := tp (sortK (e.1 ++ [key]))
      have dp := dp (sortK (e.1 ++ [key])) (e.2 + 1)
      show _ = Out.nx (E7 dn dr dz dt dk o5 much (gM M) (vl (kyD key)) s9 (vl (setD7 e.1)) (some (.own (.list [dpD (sortK (e.1 ++ [key]), e.2 + 1)]))) o12 o13 o14 o15)
      generalize gM M = sM at *
      generalize PyData.list ((sortK (e.1 ++ [key])).map kyD) = dl at *
      generalize PyData.tuple ((e.1 ++ [key]).map kyD) = du at *
      generalize setD7 (sortK (e.1 ++ [key])) = dS2 at *
      generalize setD7 e.1 = dS at *
      generalize kyD key = dq at *
      generalize dpD (sortK (e.1 ++ [key]), e.2 + 1) = dE at *
      unfold if7
      unfold E7 at *
      simp -implicitDefEqProofs only [mem, ln, lt, gt, at1, st, tp, ad, dp, evs_, Option.bind_some, List.getElem?_cons_zero, List.getElem?_cons_succ, List.set_cons_zero, List.set_cons_succ, List.map_cons, List.map_nil, List.cons_append, List.nil_append, List.length_cons, List.length_nil, Nat.reduceAdd, Nat.reduceSub, Nat.reduceLeDiff, Nat.reduceLT, Bool.not_true, Bool.not_false, decide_true, decide_false]
    · rw [if_neg hl]
      rw [decide_eq_false (by omega)] at lt
      obtain ⟨ρ', eg, p12, p13, rfl⟩ := forGo_acc (t := .nm 12) (f := lp_law_2) kyD (fun out => [(sortK (e.1.filter (fun x => decide (x ≠ out)) ++ [key]), e.2 + 1)]) (fun (ac : List Dp7) ρ => ∃ o12 o13 : Option Sl, ρ = E7 dn dr dz dt dk o5 much (gM M) (vl (kyD key)) s9 (vl (setD7 e.1)) (some (.own (.list (ac.map dpD)))) o12 o13 o14 o15) e.1 [] (E7 dn dr dz dt dk o5 much (gM M) (vl (kyD key)) s9 (vl (setD7 e.1)) (some (.own (.list []))) o12 o13 o14 o15) ⟨o12, o13, rfl⟩ (by
        rintro pre y post hp ρ ⟨o12, o13, rfl⟩
        rw [List.nil_append] at hp
        have lp : pre.length ≤ 3 := by
          have := congrArg List.length hp
          simp -implicitDefEqProofs only [List.length_append, List.length_cons] at this
          omega
        have lc : eLc [16] (iSeq (eV 10)) (.nm 16) (eOp neF (eV 16) (eV 12)) (eV 16) (E7 dn dr dz dt dk o5 much (gM M) (vl (kyD key)) s9 (vl (setD7 e.1)) (some (.own (.list ((pre.flatMap fun out => [((sortK (e.1.filter (fun x => decide (x ≠ out)) ++ [key]), e.2 + 1) : Dp7)]).map dpD)))) (vl (kyD y)) o13 o14 o15) = .ok (.list ((e.1.filter fun x => decide (x ≠ y)).map kyD)) := by
          refine eLc_filtT (vs := [16]) (t := .nm 16) e.1 kyD kyD (fun x => decide (x ≠ y)) rfl (by omega) fun x hx => ⟨_, bT_nm .., ?_, fun _ => ?_⟩
          · have n := ne_ky x y
            generalize gM M = sM at *
            generalize setD7 e.1 = dS at *
            generalize kyD x = dx at *
            generalize kyD y = dy at *
            generalize PyData.list ((pre.flatMap fun out => [((sortK (e.1.filter (fun x => decide (x ≠ out)) ++ [key]), e.2 + 1) : Dp7)]).map dpD) = da at *
            simp -implicitDefEqProofs only [n, evs_, Option.bind_some, List.getElem?_cons_zero, List.getElem?_cons_succ, List.set_cons_zero, List.set_cons_succ, List.map_cons, List.map_nil, List.cons_append, List.nil_append, List.length_cons, List.length_nil, Nat.reduceAdd, Nat.reduceSub, Nat.reduceLeDiff, Nat.reduceLT, Bool.not_true, Bool.not_false, decide_true, decide_false]
          · generalize gM M = sM at *
            generalize setD7 e.1 = dS at *
            generalize kyD x = dx at *
            generalize PyData.list ((pre.flatMap fun out => [((sortK (e.1.filter (fun x => decide (x ≠ out)) ++ [key]), e.2 + 1) : Dp7)]).map dpD) = da at *
            simp -implicitDefEqProofs only [evs_, Option.bind_some, List.getElem?_cons_zero, List.getElem?_cons_succ, List.set_cons_zero, List.set_cons_succ, List.map_cons, List.map_nil, List.cons_append, List.nil_append, List.length_cons, List.length_nil, Nat.reduceAdd, Nat.reduceSub, Nat.reduceLeDiff, Nat.reduceLT, Bool.not_true, Bool.not_false, decide_true, decide_false]
        have lac : (pre.flatMap fun out => [((sortK (e.1.filter (fun x => decide (x ≠ out)) ++ [key]), e.2 + 1) : Dp7)]).length ≤ 3 := by
          have := flat_len7 (fun out => [((sortK (e.1.filter (fun x => decide (x ≠ out)) ++ [key]), e.2 + 1) : Dp7)]) 1 pre fun _ _ => Nat.le_refl _
          omega
        refine ⟨_, E7 dn dr dz dt dk o5 much (gM M) (vl (kyD key)) s9 (vl (setD7 e.1)) (some (.own (.list (((pre.flatMap fun out => [((sortK (e.1.filter (fun x => decide (x ≠ out)) ++ [key]), e.2 + 1) : Dp7)]) ++ [(sortK (e.1.filter (fun x => decide (x ≠ y)) ++ [key]), e.2 + 1)]).map dpD)))) (vl (kyD y)) (vl (.list ((e.1.filter fun x => decide (x ≠ y)).map kyD))) o14 o15, bT_nm .., ?_, _, _, rfl⟩
        generalize (pre.flatMap fun out => [((sortK (e.1.filter (fun x => decide (x ≠ out)) ++ [key]), e.2 + 1) : Dp7)]) = ac at *
        have al : addF (.list ((e.1.filter fun x => decide (x ≠ y)).map kyD)) (.list [kyD key]) = some (.list (((e.1.filter fun x => decide (x ≠ y)) ++ [key]).map kyD)) := by
          rw [List.map_append]
          refine if_pos ?_
          have := List.length_filter_le (fun x => decide (x ≠ y)) e.1
          rw [sizeLine_eq, List.length_map, List.length_singleton]
          omega
        have st := sort_ky _ (snd_nd (key := key) (nd.sublist List.filter_sublist) fun z => hk (List.mem_filter.mp z).1 : ((e.1.filter fun x => decide (x ≠ y)) ++ [key]).Nodup)
        have tp := tp (sortK ((e.1.filter fun x => decide (x ≠ y)) ++ [key]))
        have dp := dp (sortK ((e.1.filter fun x => decide (x ≠ y)) ++ [key])) (e.2 + 1)
        have gt := gt (some (.own (.list (ac.map dpD)))) (vl (kyD y)) (vl (.list ((e.1.filter fun x => decide (x ≠ y)).map kyD)))
        have ap := fun ρ => appO_ok 11 ρ (ac.map dpD) (dpD (sortK ((e.1.filter fun x => decide (x ≠ y)) ++ [key]), e.2 + 1)) (by rw [List.length_map]; omega)
        have am : ac.map dpD ++ [dpD (sortK ((e.1.filter fun x => decide (x ≠ y)) ++ [key]), e.2 + 1)] = (ac ++ [((sortK ((e.1.filter fun x => decide (x ≠ y)) ++ [key]), e.2 + 1) : Dp7)]).map dpD := by rw [List.map_append]; rfl
        rw [am] at ap
        generalize PyData.list ((ac ++ [((sortK ((e.1.filter fun x => decide (x ≠ y)) ++ [key]), e.2 + 1) : Dp7)]).map dpD) = da2 at *
        generalize hda : ac.map dpD = da at *
        generalize gM M = sM at *
        generalize PyData.list ((sortK ((e.1.filter fun x => decide (x ≠ y)) ++ [key])).map kyD) = dl2 at *
        generalize PyData.list (((e.1.filter fun x => decide (x ≠ y)) ++ [key]).map kyD) = dl1 at *
        generalize PyData.list ((e.1.filter fun x => decide (x ≠ y)).map kyD) = dl0 at *
        generalize setD7 (sortK ((e.1.filter fun x => decide (x ≠ y)) ++ [key])) = dS2 at *
        generalize setD7 e.1 = dS at *
        generalize kyD key = dq at *
        generalize kyD y = dy at *
        generalize dpD (sortK ((e.1.filter fun x => decide (x ≠ y)) ++ [key]), e.2 + 1) = dE at *
        unfold E7 at *
        simp -implicitDefEqProofs only [lp_law_2, lc, al, st, tp, gt, ad, dp, ap, evs_, Option.bind_some, List.getElem?_cons_zero, List.getElem?_cons_succ, List.set_cons_zero, List.set_cons_succ, List.map_cons, List.map_nil, List.cons_append, List.nil_append, List.length_cons, List.length_nil, Nat.reduceAdd, Nat.reduceSub, Nat.reduceLeDiff, Nat.reduceLT, Bool.not_true, Bool.not_false, decide_true, decide_false])
      refine ⟨p12, p13, ?_⟩
      have em : ([] ++ e.1).flatMap (fun out => [((sortK (e.1.filter (fun x => decide (x ≠ out)) ++ [key]), e.2 + 1) : Dp7)]) = e.1.map fun out => (sortK (e.1.filter (fun x => decide (x ≠ out)) ++ [key]), e.2 + 1) := by
        rw [List.nil_append]
        exact flat1 _ _
      rw [em] at eg
      have sq : iSeq (eV 10) (E7 dn dr dz dt dk o5 much (gM M) (vl (kyD key)) s9 (vl (setD7 e.1)) (some (.own (.list []))) o12 o13 o14 o15) = .ok (e.1.map kyD) := rfl
      have c1 : (eOp inTF (eV 8) (eV 10)) (E7 dn dr dz dt dk o5 much (gM M) (vl (kyD key)) s9 (vl (setD7 e.1)) o11 o12 o13 o14 o15) = .ok (.bool false) := by
        generalize gM M = sM at *
        generalize setD7 e.1 = dS at *
        generalize kyD key = dq at *
        unfold E7
        simp -implicitDefEqProofs only [mem, evs_, Option.bind_some, List.getElem?_cons_zero, List.getElem?_cons_succ, List.set_cons_zero, List.set_cons_succ, List.map_cons, List.map_nil, List.cons_append, List.nil_append, List.length_cons, List.length_nil, Nat.reduceAdd, Nat.reduceSub, Nat.reduceLeDiff, Nat.reduceLT, Bool.not_true, Bool.not_false, decide_true, decide_false]
      have c2 : (eOp ltF (eCB lenF [(eV 10)]) (eV 6)) (E7 dn dr dz dt dk o5 much (gM M) (vl (kyD key)) s9 (vl (setD7 e.1)) o11 o12 o13 o14 o15) = .ok (.bool false) := by
        generalize gM M = sM at *
        generalize setD7 e.1 = dS at *
        generalize kyD key = dq at *
        unfold E7
        simp -implicitDefEqProofs only [ln, lt, evs_, Option.bind_some, List.getElem?_cons_zero, List.getElem?_cons_succ, List.set_cons_zero, List.set_cons_succ, List.map_cons, List.map_nil, List.cons_append, List.nil_append, List.length_cons, List.length_nil, Nat.reduceAdd, Nat.reduceSub, Nat.reduceLeDiff, Nat.reduceLT, Bool.not_true, Bool.not_false, decide_true, decide_false]
      have so : sOwn 11 (eLst []) (E7 dn dr dz dt dk o5 much (gM M) (vl (kyD key)) s9 (vl (setD7 e.1)) o11 o12 o13 o14 o15) = .nx (E7 dn dr dz dt dk o5 much (gM M) (vl (kyD key)) s9 (vl (setD7 e.1)) (some (.own (.list []))) o12 o13 o14 o15) := by
        generalize gM M = sM at *
        generalize setD7 e.1 = dS at *
        generalize kyD key = dq at *
        unfold E7
        simp -implicitDefEqProofs only [evs_, Option.bind_some, List.getElem?_cons_zero, List.getElem?_cons_succ, List.set_cons_zero, List.set_cons_succ, List.map_cons, List.map_nil, List.cons_append, List.nil_append, List.length_cons, List.length_nil, Nat.reduceAdd, Nat.reduceSub, Nat.reduceLeDiff, Nat.reduceLT, Bool.not_true, Bool.not_false, decide_true, decide_false]
      unfold if7
      rw [ap_sIf, c1, ifO_f, ap_sIf, c2, ifO_f, ap_sSeq, so, seqO_nx, ap_sFor, sq, RL.out_ok]
      exact eg
theorem lp4_eq (m3 : much ≤ 3) {M : List Dp7} (O : Ok7 much M) (key : Ky) {e : Dp7} (he : e ∈ M) (L : List Dp7) (nd : (L.map (·.1)).Nodup) (few : L.length + (moves7 much key e).length ≤ 4000000) (o11 o12 o13 o14 o15 : Option Sl) : ∃ p11 p12 p13 p14 p15 : Option Sl,
    lp_law_4 (E7 dn dr dz dt dk o5 much (gM M) (vl (kyD key)) (gM L) (vl (setD7 e.1)) o11 o12 o13 o14 o15) = .nx (E7 dn dr dz dt dk o5 much (gM M) (vl (kyD key)) (gM ((moves7 much key e).foldl addM L)) (vl (setD7 e.1)) p11 p12 p13 p14 p15) := by
  obtain ⟨p12, p13, e1⟩ := some7 dn dr dz dt dk o5 much m3 O key he (gM L) o11 o12 o13 o14 o15
  obtain ⟨p14, p15, e2⟩ := lp3 dn dr dz dt dk o5 much (gM M) (vl (kyD key)) (vl (setD7 e.1)) (vl (.list ((moves7 much key e).map dpD))) p12 p13 (moves7 much key e) L nd few o14 o15
  refine ⟨vl (.list ((moves7 much key e).map dpD)), p12, p13, p14, p15, ?_⟩
  rw [lp4_is, ap_sSeq, e1, seqO_nx, ap_sFrz]
  show frzO 11 _ _ (some (some (.own (.list ((moves7 much key e).map dpD))))) = _
  rw [frzO_own]
  have sq : iSeq (eV 11) (E7 dn dr dz dt dk o5 much (gM M) (vl (kyD key)) (gM L) (vl (setD7 e.1)) (vl (.list ((moves7 much key e).map dpD))) p12 p13 o14 o15) = .ok ((moves7 much key e).map dpD) := rfl
  show sFor _ _ _ (E7 dn dr dz dt dk o5 much (gM M) (vl (kyD key)) (gM L) (vl (setD7 e.1)) (vl (.list ((moves7 much key e).map dpD))) p12 p13 o14 o15) = _
  rw [ap_sFor, sq, RL.out_ok]
  exact e2
theorem fold_flat {α β S : Type} (g : S → β → S) (f : α → List β) : ∀ (xs : List α) (s : S), xs.foldl (fun s x => (f x).foldl g s) s = (xs.flatMap f).foldl g s
  | [], s => rfl
  | x :: xs, s => by
    rw [List.foldl_cons, List.flatMap_cons, List.foldl_append]
    exact fold_flat g f xs _
theorem alike_kys : ∀ S R : List Ky, PySem.W.alikeAll (S.map kyD) (R.map kyD) = true
  | [], _ => by simp [PySem.W.alikeAll]
  | _ :: _, [] => by simp [PySem.W.alikeAll]
  | a :: S, b :: R => by
    simp -implicitDefEqProofs only [List.map_cons, PySem.W.alikeAll, alike_ky, alike_kys S R, Bool.and_self]
theorem lay_set7 (S : List Ky) : Ly 2 (setD7 S) := Ly.tuple (k := 1) fun d hd => by
  obtain ⟨j, _, rfl⟩ := List.mem_map.mp hd
  exact lay_kyD j
def Srt7 (M : List Dp7) : Prop := M.length ≤ 1 ∨ ∀ e ∈ M, e.1 ≠ []
theorem srt_ok {M : List Dp7} (h : Srt7 M) : okSort1 (M.map fun e => setD7 e.1) = true := by
  unfold okSort1
  rw [Bool.or_eq_true]
  rcases h with h | h
  · refine .inr ?_
    rw [Bool.and_eq_true, List.all_eq_true]
    refine ⟨decide_eq_true (by rw [List.length_map]; exact h), fun d hd => ?_⟩
    obtain ⟨e, _, rfl⟩ := List.mem_map.mp hd
    have l := lay_set7 e.1
    simp -implicitDefEqProofs only [Bool.and_eq_true, decide_eq_true_eq]
    exact ⟨⟨⟨by simp -implicitDefEqProofs only [setD7, PySem.W.alike, alike_kys], rfl⟩, l.1⟩, by have := l.2; omega⟩
  · refine .inl ?_
    unfold okSort
    simp -implicitDefEqProofs only [Bool.and_eq_true, List.all_eq_true, Bool.or_eq_true, decide_eq_true_eq]
    refine ⟨⟨fun d hd d' hd' => ?_, .inl fun d hd => ?_⟩, fun d hd => ?_⟩
    · obtain ⟨e, _, rfl⟩ := List.mem_map.mp hd
      obtain ⟨e', _, rfl⟩ := List.mem_map.mp hd'
      simp -implicitDefEqProofs only [setD7, PySem.W.alike, alike_kys]
    · obtain ⟨e, he, rfl⟩ := List.mem_map.mp hd
      have n := h e he
      obtain ⟨S, c⟩ := e
      cases S with
      | nil => exact absurd rfl n
      | cons _ _ => rfl
    · obtain ⟨e, _, rfl⟩ := List.mem_map.mp hd
      have l := lay_set7 e.1
      exact ⟨l.1, by have := l.2; omega⟩
theorem step_srt {much : Nat} {M : List Dp7} {key : Ky} : Srt7 (stepM much M key) := .inr fun x hx => by
  obtain ⟨e, _, hx⟩ := step_mem hx
  unfold moves7 at hx
  have ne : ∀ S : List Ky, sortK (S ++ [key]) ≠ [] := fun S z => by
    have := congrArg List.length z
    rw [sortK_len, List.length_append, List.length_singleton] at this
    simp at this
  split at hx
  · rename_i hk
    rw [List.mem_singleton.mp hx]
    exact fun z => by rw [z] at hk; cases hk
  · split at hx
    · rw [List.mem_singleton.mp hx]
      exact ne _
    · obtain ⟨y, _, rfl⟩ := List.mem_map.mp hx
      exact ne _
theorem keys7 {M : List Dp7} (hM : Srt7 M) {ρ : En} (h : ndAt ρ 7 = some (npOf M)) : eNdKeys 7 ρ = .ok (.list ((sortM M).map fun e => setD7 e.1)) := by
  have ek : (npOf M).map (·.1) = M.map fun e => setD7 e.1 := by
    unfold npOf
    rw [List.map_map]
    rfl
  have es : sortD (M.map fun e => setD7 e.1) = (sortM M).map fun e => setD7 e.1 := (@List.map_mergeSort Dp7 D (fun a b => PySem.W.dataLe false (fun d : D => d) (setD7 a.1) (setD7 b.1)) (PySem.W.dataLe false fun d : D => d) (fun e => setD7 e.1) M fun _ _ _ _ => rfl).symm
  unfold eNdKeys
  rw [h]
  dsimp only
  rw [ek, if_pos (srt_ok hM), es]
theorem lp5_eq (m1 : 1 ≤ much) (m3 : much ≤ 3) {M : List Dp7} (O : Ok7 much M) (hM : Srt7 M) (few : M.length ≤ 200000) (key : Ky) (s9 o10 o11 o12 o13 o14 o15 : Option Sl) : ∃ p10 p11 p12 p13 p14 p15 : Option Sl,
    lp_law_5 (E7 dn dr dz dt dk o5 much (gM M) (vl (kyD key)) s9 o10 o11 o12 o13 o14 o15) = .nx (E7 dn dr dz dt dk o5 much (gM (stepM much M key)) (vl (kyD key)) none p10 p11 p12 p13 p14 p15) := by
  have l3 : (sortM M).length = M.length := List.length_mergeSort _
  obtain ⟨ρ', e, _, p10, p11, p12, p13, p14, p15, rfl⟩ := forGo_st (t := .nm 10) (f := lp_law_4) (fun e : Dp7 => setD7 e.1) (fun L e => (moves7 much key e).foldl addM L) (fun L r ρ => ((∀ x ∈ r, x ∈ M) ∧ (L.map (·.1)).Nodup ∧ L.length + 3 * r.length ≤ 1000000) ∧ ∃ o10 o11 o12 o13 o14 o15 : Option Sl, ρ = E7 dn dr dz dt dk o5 much (gM M) (vl (kyD key)) (gM L) o10 o11 o12 o13 o14 o15) (by
    rintro L x r ρ ⟨⟨hr, nd, few⟩, o10, o11, o12, o13, o14, o15, rfl⟩
    have hx := hr x List.mem_cons_self
    have ml := moves_len m1 m3 key (O.st x hx).2
    rw [List.length_cons] at few
    obtain ⟨p11, p12, p13, p14, p15, e⟩ := lp4_eq dn dr dz dt dk o5 much m3 O key hx L nd (by omega) o11 o12 o13 o14 o15
    refine ⟨_, _, bT_nm .., e, ⟨fun y hy => hr y (List.mem_cons_of_mem _ hy), fold_nd7 _ _ nd, ?_⟩, _, _, _, _, _, _, rfl⟩
    have := fold_len7 (moves7 much key x) L
    omega) (sortM M) [] (E7 dn dr dz dt dk o5 much (gM M) (vl (kyD key)) (gM []) o10 o11 o12 o13 o14 o15) ⟨⟨fun x hx => mem_sortM.mp hx, List.nodup_nil, by rw [l3]; simp; omega⟩, _, _, _, _, _, _, rfl⟩
  rw [fold_flat] at e
  refine ⟨p10, p11, p12, p13, p14, p15, ?_⟩
  have nw : sNdNew 9 (E7 dn dr dz dt dk o5 much (gM M) (vl (kyD key)) s9 o10 o11 o12 o13 o14 o15) = .nx (E7 dn dr dz dt dk o5 much (gM M) (vl (kyD key)) (gM []) o10 o11 o12 o13 o14 o15) := rfl
  have ks := keys7 hM (ρ := E7 dn dr dz dt dk o5 much (gM M) (vl (kyD key)) (gM []) o10 o11 o12 o13 o14 o15) (ndAt_of rfl)
  have sq : iSeq (eNdKeys 7) (E7 dn dr dz dt dk o5 much (gM M) (vl (kyD key)) (gM []) o10 o11 o12 o13 o14 o15) = .ok ((sortM M).map fun e => setD7 e.1) := by
    have it : (Rs.ok (PyData.list ((sortM M).map fun e => setD7 e.1))).items itF = .ok ((sortM M).map fun e => setD7 e.1) := rfl
    generalize PyData.list ((sortM M).map fun e => setD7 e.1) = dl at *
    simp -implicitDefEqProofs only [ks, it, evs_, Option.bind_some, List.getElem?_cons_zero, List.getElem?_cons_succ, List.set_cons_zero, List.set_cons_succ, List.map_cons, List.map_nil, List.cons_append, List.nil_append, List.length_cons, List.length_nil, Nat.reduceAdd, Nat.reduceSub, Nat.reduceLeDiff, Nat.reduceLT, Bool.not_true, Bool.not_false, decide_true, decide_false]
  have mv : sNdMv 7 9 (E7 dn dr dz dt dk o5 much (gM M) (vl (kyD key)) (gM (stepM much M key)) p10 p11 p12 p13 p14 p15) = .nx (E7 dn dr dz dt dk o5 much (gM (stepM much M key)) (vl (kyD key)) none p10 p11 p12 p13 p14 p15) := by
    unfold sNdMv
    rw [ndAt_of (i := 9) (ps := npOf (stepM much M key)) rfl]
    rfl
  unfold lp_law_5
  rw [ap_sSeq, nw, seqO_nx, ap_sSeq, ap_sFor, sq, RL.out_ok, e, seqO_nx]
  exact mv
theorem run_srt {much : Nat} : ∀ (ks : List Ky) (M : List Dp7), Srt7 M → Srt7 (runM much M ks)
  | [], _, h => h
  | k :: ks, M, _ => run_srt ks (stepM much M k) step_srt
theorem lp_keys (m1 : 1 ≤ much) (m3 : much ≤ 3) (keys : List Ky) (k12 : keys.length ≤ 12) : ∃ p8 p9 p10 p11 p12 p13 p14 p15 : Option Sl,
    forGo (.nm 8) lp_law_5 (keys.map kyD) (E7 dn dr dz dt dk o5 much (gM [([], 0)]) none none none none none none none none) = .nx (E7 dn dr dz dt dk o5 much (gM (runM much [([], 0)] keys)) p8 p9 p10 p11 p12 p13 p14 p15) := by
  obtain ⟨ρ', e, _, p8, p9, p10, p11, p12, p13, p14, p15, rfl⟩ := forGo_st (t := .nm 8) (f := lp_law_5) kyD (stepM much) (fun M r ρ => ((Ok7 much M ∧ Srt7 M) ∧ M.length * 3 ^ r.length ≤ 531441) ∧ ∃ o8 o9 o10 o11 o12 o13 o14 o15 : Option Sl, ρ = E7 dn dr dz dt dk o5 much (gM M) o8 o9 o10 o11 o12 o13 o14 o15) (by
    rintro M x r ρ ⟨⟨⟨O, hM⟩, few⟩, o8, o9, o10, o11, o12, o13, o14, o15, rfl⟩
    rw [List.length_cons, Nat.pow_succ] at few
    have p1 : 1 ≤ 3 ^ r.length := Nat.one_le_pow _ _ (by decide)
    have f3 : M.length * 3 * 3 ^ r.length ≤ 531441 := by
      rw [Nat.mul_assoc, Nat.mul_comm 3]
      exact few
    have f4 : M.length * 3 * 1 ≤ M.length * 3 * 3 ^ r.length := Nat.mul_le_mul_left _ p1
    obtain ⟨p10, p11, p12, p13, p14, p15, e⟩ := lp5_eq dn dr dz dt dk o5 much m1 m3 O hM (by omega) x o9 o10 o11 o12 o13 o14 o15
    refine ⟨_, _, bT_nm .., e, ⟨⟨step_ok m1 O x, step_srt⟩, ?_⟩, _, _, _, _, _, _, _, _, rfl⟩
    have := step_len7 m1 m3 O x
    exact Nat.le_trans (Nat.mul_le_mul_right _ (by omega : (stepM much M x).length ≤ M.length * 3)) f3) keys [([], 0)] _ ⟨⟨⟨ok7_0 much, .inl (Nat.le_refl _)⟩, by
      have : 3 ^ keys.length ≤ 3 ^ 12 := Nat.pow_le_pow_right (by decide) k12
      simp -implicitDefEqProofs only [List.length_singleton, Nat.one_mul]
      exact Nat.le_trans this (by decide)⟩, none, none, none, none, none, none, none, none, rfl⟩
  exact ⟨p8, p9, p10, p11, p12, p13, p14, p15, e⟩
end
theorem fold_min : ∀ (ns : List Int) (n : Int), ns.foldl min n ∈ n :: ns ∧ ∀ x ∈ n :: ns, ns.foldl min n ≤ x
  | [], n => ⟨by simp, fun x hx => by rw [List.mem_singleton.mp hx]; exact Int.le_refl _⟩
  | m :: ns, n => by
    obtain ⟨h1, h2⟩ := fold_min ns (min n m)
    rw [List.foldl_cons]
    have a := h2 (min n m) List.mem_cons_self
    refine ⟨?_, fun x hx => ?_⟩
    · rcases List.mem_cons.mp h1 with h1 | h1
      · rw [h1]
        rcases Int.le_total n m with q | q
        · rw [Int.min_eq_left q]
          exact List.mem_cons_self
        · rw [Int.min_eq_right q]
          exact List.mem_cons_of_mem _ List.mem_cons_self
      · exact List.mem_cons_of_mem _ (List.mem_cons_of_mem _ h1)
    · rcases List.mem_cons.mp hx with rfl | hx
      · omega
      · rcases List.mem_cons.mp hx with rfl | hx
        · omega
        · exact h2 x (List.mem_cons_of_mem _ hx)
theorem min_is7 {ns : List Int} {m : Int} (hm : m ∈ ns) (h : ∀ x ∈ ns, m ≤ x) : best1F min [.list (ns.map PyData.int)] = some (.int m) := by
  cases ns with
  | nil => cases hm
  | cons n ns =>
    rw [f_best_l]
    obtain ⟨h1, h2⟩ := fold_min ns n
    rw [Int.le_antisymm (h2 m hm) (h _ h1)]
end VVlaw
namespace VVlaw
open PySem PySem.Spec L2 VV
open PyProof.Rows hiding St
end VVlaw
namespace VV
open PySem PySem.Spec L2
open PyProof.Rows hiding St
structure KeyE {α : Type} [DecidableEq α] (tk : Bool) (ek : α → D) : Prop where
  eqv : ∀ a b, PyData.eqv (ek a) (ek b) = decide (a = b)
  key : ∀ a, (if tk = true then isKeyT (ek a) else isKeyD (ek a)) = true
section
variable {α β : Type} [DecidableEq α] {tk : Bool} {ek : α → D} {ev : β → D}
def prD (ek : α → D) (ev : β → D) (e : α × β) : D × D := (ek e.1, ev e.2)
end
theorem Ly.str (k : Nat) {x : Str} (h : PyData.strOk x = true) : Ly k (.str x) := ⟨by simp [PyData.canLay0, h], by simp [PyData.depth]⟩
theorem cutT_nat {α : Type} (xs : List α) (b : Nat) : cutL xs none (some (b : Int)) = xs.take b := by
  unfold cutL
  rw [HT.sIx_nat, HT.sIx_none, List.drop_zero, Nat.sub_zero]
  rcases Nat.le_total b xs.length with h | h
  · rw [Nat.min_eq_left h]
  · rw [Nat.min_eq_right h, List.take_of_length_le (Nat.le_refl _), List.take_of_length_le h]
end VV
namespace VVlaw
open PySem PySem.Spec L2 VV
open PyProof.Rows hiding St
theorem needed_win7 {p : Pic} {h w : Nat} (P : Pc2 p h w) {side t : Nat} (hs : okSide side) (T : Top h w side t) (v : Win) (V : v.Ok t) :
    sem_needed [pyrZ p h w side t, v.d] = .ok (.list ((needW p h w side t v).map kyD)) := by
  have b := hs.bd
  have t6 := T.le6 P.h2 P.w2 b.1
  have ln := pyK_len6 P (t := t) (side := side) (by omega) (by omega)
  have iw : sem_is_window [pyrZ p h w side t, v.d] = .ok (.bool true) := is_window_eq P hs T v.l v.x v.y v.wd v.hg V.l V.x V.y V.w1 V.w2 V.g1 V.g2
  have no : sem_needed_of [pyrZ p h w side t, v.d] = .ok (.list ((needW p h w side t v).map kyD)) := needed_of_eq P hs (t := t) v.l v.x v.y v.wd v.hg (by have := V.x; omega) (by have := V.y; omega) (by have := V.w2; omega) (by have := V.g2; omega) (by omega)
  have lk := look_pyramids_eq P hs T
  generalize pyrZ p h w side t = dz at *
  simp -implicitDefEqProofs only [sem_needed, b_needed, sem_look_window, b_look_window, lk, iw, no, evs_, Option.bind_some, List.getElem?_cons_zero, List.getElem?_cons_succ, List.set_cons_zero, List.set_cons_succ, List.map_cons, List.map_nil, List.cons_append, List.nil_append, List.length_cons, List.length_nil, Nat.reduceAdd, Nat.reduceSub, Nat.reduceLeDiff, Nat.reduceLT, Bool.not_true, Bool.not_false, decide_true, decide_false]
abbrev e27 (ns r : List Int) (dz dt : D) (keys : List Ky) (o5 : Option Sl) : En := [vl (rdL ns), vl (.list (r.map PyData.int)), vl dz, vl dt, vl (.list (keys.map kyD)), o5, none, none, none, none, none, none, none, none, none, none, none]
noncomputable def rest27 : SF := (sSeq (sSet 6 (eOp addF (eC (.int 1)) (eOp modF (eOp ixF (eV 1) (eC (.int 50))) (eC (.int 3))))) (sSeq (sNdOne 7 (eTup []) (eC (.int 0))) (sSeq (sFor (iSeq (eV 4)) (.nm 8) lp_law_5) (sRet (eOp eqF (eCB lenF [(eCall sem_fetched ([(eV 2), (eV 3)] ++ [(eV 6), (eC (.str "far"))]))]) (eCB (best1F min) [(eLc [10] (iSeq (eNdKeys 7)) (.nm 10) (eC (.bool true)) (eNdGet 7 (eV 10)))]))))))
noncomputable def cut27 : SF := (sIf (eOp gtF (eCB lenF [(eV 4)]) (eC (.int 12))) (sSeq (sSet 3 (eSl (eV 3) none (some (eC (.int 1))))) (sSet 4 (eCall sem_needed [(eV 2), (eOp ixF (eV 3) (eC (.int 0)))]))) sNx)
theorem law27_is : b_law = (sSeq (sSet 1 (eCall sem__law_row [(eV 0), (eC (.int 4))])) (sSeq (sSet 2 (eCall sem_built [(eCall sem__law_some_picture [(eV 0), (eC (.int 2))]), (eC (.int 4))])) (sSeq (sSet 3 (eSl (eCall sem__law_trip [(eV 1), (eC (.int 1)), (eOp subF (eCall sem_levels [(eV 2)]) (eC (.int 1)))]) none (some (eC (.int 4))))) (sSeq (sSet 4 (eLst [])) (sSeq (sFor (iSeq (eV 3)) (.nm 5) lp_law_1) (sSeq cut27 rest27)))))) := rfl
theorem rest_eq {r : List Int} (R : Rw r) (ns : List Int) (dz dt : D) (keys : List Ky) (k12 : keys.length ≤ 12) (fe : ∀ room : Nat, 1 ≤ room → room ≤ 40 → sem_fetched [dz, dt, .int (room : Int), .str "far"] = .ok (.list ((fetchK .far room keys).map kyD))) (o5 : Option Sl) : rest27 (e27 ns r dz dt keys o5) = .rt (.bool true) := by
  have i50 : ixF (.list (r.map PyData.int)) (.int 50) = some (.int (r.getD 50 0)) := R.at 50 (by decide) (by decide)
  obtain ⟨much, hm, m1, m3⟩ : ∃ much : Nat, 1 + r.getD 50 0 % 3 = (much : Int) ∧ 1 ≤ much ∧ much ≤ 3 := ⟨(1 + r.getD 50 0 % 3).toNat, by omega, by omega, by omega⟩
  have md := f_modP (r.getD 50 0) 3 (by decide)
  have ad := f_add 1 (r.getD 50 0 % 3)
  rw [hm] at ad
  have fe := fe much m1 (by omega)
  obtain ⟨p8, p9, p10, p11, p12, p13, p14, p15, lp⟩ := lp_keys (rdL ns) (.list (r.map PyData.int)) dz dt (.list (keys.map kyD)) o5 much m1 m3 keys k12
  have s6 : sSet 6 (eOp addF (eC (.int 1)) (eOp modF (eOp ixF (eV 1) (eC (.int 50))) (eC (.int 3)))) (e27 ns r dz dt keys o5) = .nx (E7 (rdL ns) (.list (r.map PyData.int)) dz dt (.list (keys.map kyD)) o5 much none none none none none none none none none) := by
    unfold e27 E7
    clear lp
    generalize PyData.list (r.map PyData.int) = dr at *
    generalize PyData.list (keys.map kyD) = dk at *
    simp -implicitDefEqProofs only [i50, md, ad, evs_, Option.bind_some, List.getElem?_cons_zero, List.getElem?_cons_succ, List.set_cons_zero, List.set_cons_succ, List.map_cons, List.map_nil, List.cons_append, List.nil_append, List.length_cons, List.length_nil, Nat.reduceAdd, Nat.reduceSub, Nat.reduceLeDiff, Nat.reduceLT, Bool.not_true, Bool.not_false, decide_true, decide_false]
  have s7 : sNdOne 7 (eTup []) (eC (.int 0)) (E7 (rdL ns) (.list (r.map PyData.int)) dz dt (.list (keys.map kyD)) o5 much none none none none none none none none none) = .nx (E7 (rdL ns) (.list (r.map PyData.int)) dz dt (.list (keys.map kyD)) o5 much (gM [([], 0)]) none none none none none none none none) := by
    show ndOne 7 _ (.tuple []) (.int 0) = _
    have k : keyN (.tuple []) = some (nkS []) := key_set []
    unfold ndOne
    dsimp only
    rw [k]
    dsimp only
    rw [nkS_data]
    rfl
  have sq : iSeq (eV 4) (E7 (rdL ns) (.list (r.map PyData.int)) dz dt (.list (keys.map kyD)) o5 much (gM [([], 0)]) none none none none none none none none) = .ok (keys.map kyD) := rfl
  obtain ⟨⟨e0, h0, e0c⟩, hall⟩ := least7 much keys m1
  have O := run_ok7 m1 keys [([], 0)] (ok7_0 much)
  have len := run_len7 m1 m3 keys [([], 0)] (ok7_0 much)
  have lenM : (runM much [([], 0)] keys).length ≤ 531441 := by
    have : 3 ^ keys.length ≤ 3 ^ 12 := Nat.pow_le_pow_right (by decide) k12
    simp -implicitDefEqProofs only [List.length_singleton, Nat.mul_one] at len
    exact Nat.le_trans len (Nat.le_trans this (by decide))
  have l3 : (sortM (runM much [([], 0)] keys)).length = (runM much [([], 0)] keys).length := List.length_mergeSort _
  have hM : Srt7 (runM much [([], 0)] keys) := run_srt keys _ (.inl (Nat.le_refl _))
  generalize runM much [([], 0)] keys = M at *
  have ks := keys7 hM (ρ := E7 (rdL ns) (.list (r.map PyData.int)) dz dt (.list (keys.map kyD)) o5 much (gM M) p8 p9 p10 p11 p12 p13 p14 p15) (ndAt_of rfl)
  have lc : eLc [10] (iSeq (eNdKeys 7)) (.nm 10) (eC (.bool true)) (eNdGet 7 (eV 10)) (E7 (rdL ns) (.list (r.map PyData.int)) dz dt (.list (keys.map kyD)) o5 much (gM M) p8 p9 p10 p11 p12 p13 p14 p15) = .ok (.list (((sortM M).map fun e => (e.2 : Int)).map PyData.int)) := by
    rw [List.map_map]
    refine eLc_mapA (sortM M) (fun e => setD7 e.1) _ ?_ (by rw [l3]; omega) fun e he => ⟨rfl, ?_⟩
    · have it : (Rs.ok (PyData.list ((sortM M).map fun e => setD7 e.1))).items itF = .ok ((sortM M).map fun e => setD7 e.1) := rfl
      generalize PyData.list ((sortM M).map fun e => setD7 e.1) = dl at *
      simp -implicitDefEqProofs only [ks, it, evs_, Option.bind_some, List.getElem?_cons_zero, List.getElem?_cons_succ, List.set_cons_zero, List.set_cons_succ, List.map_cons, List.map_nil, List.cons_append, List.nil_append, List.length_cons, List.length_nil, Nat.reduceAdd, Nat.reduceSub, Nat.reduceLeDiff, Nat.reduceLT, Bool.not_true, Bool.not_false, decide_true, decide_false]
    · exact e_get (ndAt_of rfl) rfl (key_set e.1) (get7 O.nd (mem_sortM.mp he))
  have mn : best1F min [.list (((sortM M).map fun e => (e.2 : Int)).map PyData.int)] = some (.int ((fetchK .far much keys).length : Int)) := min_is7 (List.mem_map.mpr ⟨e0, mem_sortM.mpr h0, by rw [e0c]⟩) fun x hx => by
    obtain ⟨e, he, rfl⟩ := List.mem_map.mp hx
    have := hall e (mem_sortM.mp he)
    omega
  have ln : lenF [.list ((fetchK .far much keys).map kyD)] = some (.int ((fetchK .far much keys).length : Int)) := by rw [f_len_l, List.length_map]
  have eq : eqF (.int ((fetchK .far much keys).length : Int)) (.int ((fetchK .far much keys).length : Int)) = some (.bool true) := f_eq_self (Ly.int 0 _) (by decide)
  unfold rest27
  rw [ap_sSeq, s6, seqO_nx, ap_sSeq, s7, seqO_nx, ap_sSeq, ap_sFor, sq, RL.out_ok, lp, seqO_nx]
  generalize PyData.list (((sortM M).map fun e => (e.2 : Int)).map PyData.int) = dl at *
  generalize PyData.list (r.map PyData.int) = dr at *
  generalize PyData.list (keys.map kyD) = dk at *
  generalize gM M = sM at *
  generalize PyData.list ((fetchK .far much keys).map kyD) = df at *
  generalize ((fetchK .far much keys).length : Int) = n at *
  generalize eLc [10] (iSeq (eNdKeys 7)) (.nm 10) (eC (.bool true)) (eNdGet 7 (eV 10)) = lcE at *
  unfold E7 at *
  simp -implicitDefEqProofs only [fe, ln, lc, mn, eq, evs_, Option.bind_some, List.getElem?_cons_zero, List.getElem?_cons_succ, List.set_cons_zero, List.set_cons_succ, List.map_cons, List.map_nil, List.cons_append, List.nil_append, List.length_cons, List.length_nil, Nat.reduceAdd, Nat.reduceSub, Nat.reduceLeDiff, Nat.reduceLT, Bool.not_true, Bool.not_false, decide_true, decide_false]
theorem law_true : ∀ ns : List Int, ns.length ≤ 63 → sem_law [rdL ns] = .ok (.bool true) := fun ns _ => by
  obtain ⟨r, er, R⟩ := law_row_eq ns 4 (by decide)
  obtain ⟨p, h, w, ep, P, h11, w11⟩ := some_picture_eq ns 2 (by decide)
  have hs : okSide 4 := .inr (.inl rfl)
  obtain ⟨t, T, ht, eb, _⟩ := built_eq P hs
  have t6 := T.le6 P.h2 P.w2 (by decide)
  have lv := levels_eq P hs T
  have et : (t : Int) + 1 - 1 = (t : Int) := by omega
  obtain ⟨vs0, ev, v7, vS0⟩ := trip_eq R t (by omega)
  have sl4 : slF (.list (vs0.map Win.d)) none (some 4) = some (.list ((vs0.take 4).map Win.d)) := by
    show some (PyData.list (cutL _ none (some ((4 : Nat) : Int)))) = _
    rw [cutT_nat, List.map_take]
  have vS : ∀ v ∈ vs0.take 4, v.Sm t := fun v hv => vS0 v (List.mem_of_mem_take hv)
  have v4 : (vs0.take 4).length ≤ 4 := by rw [List.length_take]; omega
  generalize vs0.take 4 = vs at *
  have vO : ∀ v ∈ vs, v.Ok t := fun v hv => (vS v hv).toOk
  have kf := tripK_few (p := p) (h := h) (w := w) (side := 4) (by decide) vS
  have kl : (tripK p h w 4 t vs).length < 64 := by omega
  obtain ⟨ρ', lp1, o5, rfl⟩ := forGo_acc (t := .nm 5) (f := lp_law_1) Win.d (needW p h w 4 t) (fun ac ρ => ∃ o5 : Option Sl, ρ = e27 ns r (pyrZ p h w 4 t) (.list (vs.map Win.d)) ac o5) vs [] (e27 ns r (pyrZ p h w 4 t) (.list (vs.map Win.d)) [] none) ⟨none, rfl⟩ (by
    rintro pre v post hp ρ ⟨o5, rfl⟩
    rw [List.nil_append] at hp
    have hm : v ∈ vs := by rw [hp]; simp
    have nd := needed_win7 P hs T v (vO v hm)
    have lpre : (pre.flatMap (needW p h w 4 t) ++ needW p h w 4 t v).length < 64 := by
      refine Nat.lt_of_le_of_lt ?_ kl
      unfold tripK
      rw [hp, List.flatMap_append, List.flatMap_cons, ← List.append_assoc, List.length_append (as := _ ++ _)]
      omega
    have ad : addF (.list ((pre.flatMap (needW p h w 4 t)).map kyD)) (.list ((needW p h w 4 t v).map kyD)) = some (.list ((pre.flatMap (needW p h w 4 t) ++ needW p h w 4 t v).map kyD)) := by
      rw [f_addL' _ _ (by rw [List.length_map, List.length_map]; rw [List.length_append] at lpre; omega), List.map_append]
    refine ⟨_, e27 ns r (pyrZ p h w 4 t) (.list (vs.map Win.d)) (pre.flatMap (needW p h w 4 t) ++ needW p h w 4 t v) (vl v.d), bT_nm .., ?_, vl v.d, rfl⟩
    generalize pyrZ p h w 4 t = dz at *
    unfold e27
    simp -implicitDefEqProofs only [lp_law_1, nd, ad, evs_, Option.bind_some, List.getElem?_cons_zero, List.getElem?_cons_succ, List.set_cons_zero, List.set_cons_succ, List.map_cons, List.map_nil, List.cons_append, List.nil_append, List.length_cons, List.length_nil, Nat.reduceAdd, Nat.reduceSub, Nat.reduceLeDiff, Nat.reduceLT, Bool.not_true, Bool.not_false, decide_true, decide_false])
  have lp1 : forGo (.nm 5) lp_law_1 (vs.map Win.d) (e27 ns r (pyrZ p h w 4 t) (.list (vs.map Win.d)) [] none) = .nx (e27 ns r (pyrZ p h w 4 t) (.list (vs.map Win.d)) (tripK p h w 4 t vs) o5) := by
    rw [List.nil_append] at lp1
    exact lp1
  have fe : ∀ us : List Win, us.length ≤ 4 → (∀ v ∈ us, v.Sm t) → ∀ room : Nat, 1 ≤ room → room ≤ 40 → sem_fetched [pyrZ p h w 4 t, .list (us.map Win.d), .int (room : Int), .str "far"] = .ok (.list ((fetchK .far room (tripK p h w 4 t us)).map kyD)) := fun us u4 uS room h1 h2 => by
    have kf := tripK_few (p := p) (h := h) (w := w) (side := 4) (by decide) uS
    exact fetched_eq P hs T us (fun v hv => (uS v hv).toOk) (by omega) (by omega) .far room h1 h2
  -- the trip that is gone, and its keys
  have cut : ∃ (us : List Win), (tripK p h w 4 t us).length ≤ 12 ∧ us.length ≤ 4 ∧ (∀ v ∈ us, v.Sm t) ∧ cut27 (e27 ns r (pyrZ p h w 4 t) (.list (vs.map Win.d)) (tripK p h w 4 t vs) o5) = .nx (e27 ns r (pyrZ p h w 4 t) (.list (us.map Win.d)) (tripK p h w 4 t us) o5) := by
    have ln : lenF [.list ((tripK p h w 4 t vs).map kyD)] = some (.int ((tripK p h w 4 t vs).length : Int)) := by rw [f_len_l, List.length_map]
    have gt := f_gt ((tripK p h w 4 t vs).length : Int) 12
    by_cases c : (tripK p h w 4 t vs).length ≤ 12
    · rw [decide_eq_false (by omega)] at gt
      refine ⟨vs, c, v4, vS, ?_⟩
      clear fe lp1
      unfold e27 cut27
      generalize pyrZ p h w 4 t = dz at *
      generalize PyData.list (vs.map Win.d) = dt at *
      generalize PyData.list ((tripK p h w 4 t vs).map kyD) = dk at *
      generalize PyData.list (r.map PyData.int) = dr at *
      simp -implicitDefEqProofs only [ln, gt, evs_, Option.bind_some, List.getElem?_cons_zero, List.getElem?_cons_succ, List.set_cons_zero, List.set_cons_succ, List.map_cons, List.map_nil, List.cons_append, List.nil_append, List.length_cons, List.length_nil, Nat.reduceAdd, Nat.reduceSub, Nat.reduceLeDiff, Nat.reduceLT, Bool.not_true, Bool.not_false, decide_true, decide_false]
    · rw [decide_eq_true (by omega)] at gt
      cases vs with
      | nil => exact absurd (by simp [tripK]) c
      | cons v vs =>
        have s1 : slF (.list ((v :: vs).map Win.d)) none (some 1) = some (.list ([v].map Win.d)) := by
          show some (PyData.list (cutL _ none (some ((1 : Nat) : Int)))) = _
          rw [cutT_nat]
          rfl
        have x0 : ixF (.list ([v].map Win.d)) (.int 0) = some v.d := f_ix_l _ 0 (by decide) (by simp)
        have nd := needed_win7 P hs T v (vO v List.mem_cons_self)
        have e1 : tripK p h w 4 t [v] = needW p h w 4 t v := by simp [tripK]
        have nf := needW_few (p := p) (h := h) (w := w) (side := 4) (t := t) (by decide) (vS v List.mem_cons_self).w4 (vS v List.mem_cons_self).g3
        refine ⟨[v], by rw [e1]; omega, by simp, fun u hu => by rw [List.mem_singleton.mp hu]; exact vS v List.mem_cons_self, ?_⟩
        rw [e1]
        clear fe lp1
        unfold e27 cut27
        generalize PyData.list (r.map PyData.int) = dr at *
        generalize pyrZ p h w 4 t = dz at *
        generalize PyData.list ((v :: vs).map Win.d) = dt at *
        generalize PyData.list ([v].map Win.d) = dt1 at *
        generalize PyData.list ((tripK p h w 4 t (v :: vs)).map kyD) = dk at *
        generalize PyData.list ((needW p h w 4 t v).map kyD) = dk1 at *
        generalize v.d = dv at *
        simp -implicitDefEqProofs only [ln, gt, s1, x0, nd, evs_, Option.bind_some, List.getElem?_cons_zero, List.getElem?_cons_succ, List.set_cons_zero, List.set_cons_succ, List.map_cons, List.map_nil, List.cons_append, List.nil_append, List.length_cons, List.length_nil, Nat.reduceAdd, Nat.reduceSub, Nat.reduceLeDiff, Nat.reduceLT, Bool.not_true, Bool.not_false, decide_true, decide_false]
  obtain ⟨us, k12, u4, uS, ec⟩ := cut
  have re := rest_eq R ns (pyrZ p h w 4 t) (.list (us.map Win.d)) (tripK p h w 4 t us) k12 (fe us u4 uS) o5
  have sq : (Rs.ok (PyData.list (vs.map Win.d))).items itF = RL.ok (vs.map Win.d) := rfl
  have eb : sem_built [picD p, .int 4] = .ok (pyrZ p h w 4 t) := eb
  have em : (PyData.list (([] : List Ky).map kyD)) = .list [] := rfl
  unfold e27 at *
  rw [em] at lp1
  generalize pyrZ p h w 4 t = dz at *
  generalize PyData.list (vs0.map Win.d) = dt0 at *
  generalize PyData.list ((tripK p h w 4 t vs).map kyD) = dk1 at *
  generalize PyData.list ((tripK p h w 4 t us).map kyD) = dk2 at *
  generalize PyData.list (us.map Win.d) = du at *
  generalize hvs : vs.map Win.d = ds at *
  generalize PyData.list (r.map PyData.int) = dr at *
  generalize picD p = dp at *
  generalize PyData.list ds = dl at *
  simp -implicitDefEqProofs only [sem_law, law27_is, er, ep, eb, lv, et, ev, sl4, sq, lp1, ec, re, evs_, Option.bind_some, List.getElem?_cons_zero, List.getElem?_cons_succ, List.set_cons_zero, List.set_cons_succ, List.map_cons, List.map_nil, List.cons_append, List.nil_append, List.length_cons, List.length_nil, Nat.reduceAdd, Nat.reduceSub, Nat.reduceLeDiff, Nat.reduceLT, Bool.not_true, Bool.not_false, decide_true, decide_false]
end VVlaw
set_option maxHeartbeats 0
namespace VVlaw
open PySem PySem.Spec L2 VV
open PyProof.Rows hiding St
def topS (i : Nat) : Stmt := PySem.Challenge.pw_vastview_k27_whole_the_least_of_all_ways.main.body.getD i (.Pass ⟨0, 0, 0, 0⟩)
abbrev s_is_within : Stmt := topS 9
theorem sc_is_within : FnScope ["thing", "low", "high"] ["thing", "low", "high"] (defScope s_is_within) := ⟨rfl, rfl, rfl, by decide +kernel, rfl, by decide +kernel, by decide +kernel⟩
abbrev s_is_cell : Stmt := topS 13
theorem sc_is_cell : FnScope ["thing"] ["thing"] (defScope s_is_cell) := ⟨rfl, rfl, rfl, by decide +kernel, rfl, by decide +kernel, by decide +kernel⟩
abbrev s_is_picture : Stmt := topS 14
theorem sc_is_picture : FnScope ["thing", "wide", "row", "one"] ["thing"] (defScope s_is_picture) := ⟨rfl, rfl, rfl, by decide +kernel, rfl, by decide +kernel, by decide +kernel⟩
abbrev s_look_pictures : Stmt := topS 15
theorem sc_look_pictures : FnScope ["picture"] ["picture"] (defScope s_look_pictures) := ⟨rfl, rfl, rfl, by decide +kernel, rfl, by decide +kernel, by decide +kernel⟩
abbrev s_pair_at : Stmt := topS 19
theorem sc_pair_at : FnScope ["rows", "x", "y"] ["rows", "x", "y"] (defScope s_pair_at) := ⟨rfl, rfl, rfl, by decide +kernel, rfl, by decide +kernel, by decide +kernel⟩
abbrev s_halved : Stmt := topS 20
theorem sc_halved : FnScope ["rows", "found", "y", "row", "x", "four", "down", "across", "one"] ["rows"] (defScope s_halved) := ⟨rfl, rfl, rfl, by decide +kernel, rfl, by decide +kernel, by decide +kernel⟩
abbrev s_tiles_of : Stmt := topS 21
theorem sc_tiles_of : FnScope ["rows", "side", "level", "found", "down", "across", "tile", "y", "row", "one", "x"] ["rows", "side", "level"] (defScope s_tiles_of) := ⟨rfl, rfl, rfl, by decide +kernel, rfl, by decide +kernel, by decide +kernel⟩
abbrev s_built_of : Stmt := topS 22
theorem sc_built_of : FnScope ["picture", "side", "rows", "wide", "high", "found", "level", "row", "one"] ["picture", "side"] (defScope s_built_of) := ⟨rfl, rfl, rfl, by decide +kernel, rfl, by decide +kernel, by decide +kernel⟩
abbrev s_look_side : Stmt := topS 23
theorem sc_look_side : FnScope ["side"] ["side"] (defScope s_look_side) := ⟨rfl, rfl, rfl, by decide +kernel, rfl, by decide +kernel, by decide +kernel⟩
abbrev s_built : Stmt := topS 24
theorem sc_built : FnScope ["picture", "side"] ["picture", "side"] (defScope s_built) := ⟨rfl, rfl, rfl, by decide +kernel, rfl, by decide +kernel, by decide +kernel⟩
abbrev s_is_pair : Stmt := topS 25
theorem sc_is_pair : FnScope ["thing"] ["thing"] (defScope s_is_pair) := ⟨rfl, rfl, rfl, by decide +kernel, rfl, by decide +kernel, by decide +kernel⟩
abbrev s_is_tile : Stmt := topS 26
theorem sc_is_tile : FnScope ["thing", "side", "row", "one"] ["thing", "side"] (defScope s_is_tile) := ⟨rfl, rfl, rfl, by decide +kernel, rfl, by decide +kernel, by decide +kernel⟩
abbrev s_has_form : Stmt := topS 27
theorem sc_has_form : FnScope ["thing", "one"] ["thing"] (defScope s_has_form) := ⟨rfl, rfl, rfl, by decide +kernel, rfl, by decide +kernel, by decide +kernel⟩
abbrev s_picture_in : Stmt := topS 28
theorem sc_picture_in : FnScope ["pyramid", "side", "wide", "high", "tiles", "rows", "level", "across", "down", "tile", "y", "row", "x", "total", "many", "time"] ["pyramid"] (defScope s_picture_in) := ⟨rfl, rfl, rfl, by decide +kernel, rfl, by decide +kernel, by decide +kernel⟩
abbrev s_is_pyramid : Stmt := topS 29
theorem sc_is_pyramid : FnScope ["thing", "found"] ["thing"] (defScope s_is_pyramid) := ⟨rfl, rfl, rfl, by decide +kernel, rfl, by decide +kernel, by decide +kernel⟩
abbrev s_look_pyramids : Stmt := topS 30
theorem sc_look_pyramids : FnScope ["pyramid"] ["pyramid"] (defScope s_look_pyramids) := ⟨rfl, rfl, rfl, by decide +kernel, rfl, by decide +kernel, by decide +kernel⟩
abbrev s_top_of : Stmt := topS 32
theorem sc_top_of : FnScope ["pyramid", "side", "wide", "high", "tiles", "level"] ["pyramid"] (defScope s_top_of) := ⟨rfl, rfl, rfl, by decide +kernel, rfl, by decide +kernel, by decide +kernel⟩
abbrev s_levels : Stmt := topS 33
theorem sc_levels : FnScope ["pyramid"] ["pyramid"] (defScope s_levels) := ⟨rfl, rfl, rfl, by decide +kernel, rfl, by decide +kernel, by decide +kernel⟩
abbrev s_is_window : Stmt := topS 34
theorem sc_is_window : FnScope ["pyramid", "thing"] ["pyramid", "thing"] (defScope s_is_window) := ⟨rfl, rfl, rfl, by decide +kernel, rfl, by decide +kernel, by decide +kernel⟩
abbrev s_needed_of : Stmt := topS 35
theorem sc_needed_of : FnScope ["pyramid", "window", "side", "level", "x", "y", "wide", "high", "keys", "across", "down", "key", "tile"] ["pyramid", "window"] (defScope s_needed_of) := ⟨rfl, rfl, rfl, by decide +kernel, rfl, by decide +kernel, by decide +kernel⟩
abbrev s_look_window : Stmt := topS 36
theorem sc_look_window : FnScope ["pyramid", "window"] ["pyramid", "window"] (defScope s_look_window) := ⟨rfl, rfl, rfl, by decide +kernel, rfl, by decide +kernel, by decide +kernel⟩
abbrev s_needed : Stmt := topS 37
theorem sc_needed : FnScope ["pyramid", "window"] ["pyramid", "window"] (defScope s_needed) := ⟨rfl, rfl, rfl, by decide +kernel, rfl, by decide +kernel, by decide +kernel⟩
abbrev s_keys_of : Stmt := topS 42
theorem sc_keys_of : FnScope ["pyramid", "trip", "found", "window"] ["pyramid", "trip"] (defScope s_keys_of) := ⟨rfl, rfl, rfl, by decide +kernel, rfl, by decide +kernel, by decide +kernel⟩
abbrev s_next_use : Stmt := topS 43
theorem sc_next_use : FnScope ["keys", "at", "key"] ["keys", "at", "key"] (defScope s_next_use) := ⟨rfl, rfl, rfl, by decide +kernel, rfl, by decide +kernel, by decide +kernel⟩
abbrev s_gone : Stmt := topS 44
theorem sc_gone : FnScope ["keys", "at", "kept", "rule", "key", "used"] ["keys", "at", "kept", "rule"] (defScope s_gone) := ⟨rfl, rfl, rfl, by decide +kernel, rfl, by decide +kernel, by decide +kernel⟩
abbrev s_fetched_of : Stmt := topS 45
theorem sc_fetched_of : FnScope ["keys", "room", "rule", "kept", "found", "at", "key", "out", "one", "used", "row"] ["keys", "room", "rule"] (defScope s_fetched_of) := ⟨rfl, rfl, rfl, by decide +kernel, rfl, by decide +kernel, by decide +kernel⟩
abbrev s_look_trip : Stmt := topS 46
theorem sc_look_trip : FnScope ["pyramid", "trip", "one"] ["pyramid", "trip"] (defScope s_look_trip) := ⟨rfl, rfl, rfl, by decide +kernel, rfl, by decide +kernel, by decide +kernel⟩
abbrev s_fetched : Stmt := topS 47
theorem sc_fetched : FnScope ["pyramid", "trip", "room", "rule"] ["pyramid", "trip", "room", "rule"] (defScope s_fetched) := ⟨rfl, rfl, rfl, by decide +kernel, rfl, by decide +kernel, by decide +kernel⟩
abbrev s__law_cell : Stmt := topS 49
theorem sc__law_cell : FnScope ["script", "k"] ["script", "k"] (defScope s__law_cell) := ⟨rfl, rfl, rfl, by decide +kernel, rfl, by decide +kernel, by decide +kernel⟩
abbrev s__law_row : Stmt := topS 50
theorem sc__law_row : FnScope ["script", "at", "cell", "found", "time"] ["script", "at"] (defScope s__law_row) := ⟨rfl, rfl, rfl, by decide +kernel, rfl, by decide +kernel, by decide +kernel⟩
abbrev s__law_some_picture : Stmt := topS 51
theorem sc__law_some_picture : FnScope ["script", "at", "row", "high", "wide", "way", "found", "y", "line", "x", "one", "level", "other", "hole"] ["script", "at"] (defScope s__law_some_picture) := ⟨rfl, rfl, rfl, by decide +kernel, rfl, by decide +kernel, by decide +kernel⟩
abbrev s__law_trip : Stmt := topS 52
theorem sc__law_trip : FnScope ["row", "at", "top", "level", "x", "y", "found", "time", "spot", "size"] ["row", "at", "top"] (defScope s__law_trip) := ⟨rfl, rfl, rfl, by decide +kernel, rfl, by decide +kernel, by decide +kernel⟩
abbrev s_law : Stmt := topS 53
theorem sc_law : FnScope ["script", "row", "pyramid", "trip", "keys", "window", "much", "states", "key", "later", "kept", "some", "out", "left", "there", "many", "one"] ["script"] (defScope s_law) := ⟨rfl, rfl, rfl, by decide +kernel, rfl, by decide +kernel, by decide +kernel⟩
structure Tx (K : PySem.W.Frag) (mg : Str → Option Value) : Prop where
  free_bool : mg "bool" = none
  free_enumerate : mg "enumerate" = none
  free_int : mg "int" = none
  free_isinstance : mg "isinstance" = none
  free_len : mg "len" = none
  free_list : mg "list" = none
  free_max : mg "max" = none
  free_min : mg "min" = none
  free_range : mg "range" = none
  free_sorted : mg "sorted" = none
  free_str : mg "str" = none
  free_sum : mg "sum" = none
  free_tuple : mg "tuple" = none
  c_MOST_LEVEL : ∃ t, mg "MOST_LEVEL" = some (.int 255 t)
  c_MOST_ROOM : ∃ t, mg "MOST_ROOM" = some (.int 40 t)
  c_MOST_TRIP : ∃ t, mg "MOST_TRIP" = some (.int 12 t)
  c_MOST_WIDE : ∃ t, mg "MOST_WIDE" = some (.int 120 t)
  x_BadCount : ExK K mg "BadCount"
  x_BadPicture : ExK K mg "BadPicture"
  x_BadPyramid : ExK K mg "BadPyramid"
  x_BadSide : ExK K mg "BadSide"
  x_BadTrip : ExK K mg "BadTrip"
  x_BadWindow : ExK K mg "BadWindow"
  t_RULES : TupC K mg "RULES" [.str "old", .str "far", .str "first"]
  t_SIDES : TupC K mg "SIDES" [.int 2, .int 4, .int 8]
  g_is_within : mg "is_within" = some (.ref (He.ga K "is_within"))
  f_is_within : ∃ fd, FunD K "is_within" "is_within" (defArgs s_is_within) (defBody s_is_within) (defScope s_is_within) [] [] (He.ga K "is_within") fd
  g_is_cell : mg "is_cell" = some (.ref (He.ga K "is_cell"))
  f_is_cell : ∃ fd, FunD K "is_cell" "is_cell" (defArgs s_is_cell) (defBody s_is_cell) (defScope s_is_cell) [] [] (He.ga K "is_cell") fd
  g_is_picture : mg "is_picture" = some (.ref (He.ga K "is_picture"))
  f_is_picture : ∃ fd, FunD K "is_picture" "is_picture" (defArgs s_is_picture) (defBody s_is_picture) (defScope s_is_picture) [] [] (He.ga K "is_picture") fd
  g_look_pictures : mg "look_pictures" = some (.ref (He.ga K "look_pictures"))
  f_look_pictures : ∃ fd, FunD K "look" "look" (defArgs s_look_pictures) (defBody s_look_pictures) (defScope s_look_pictures) [] [] (He.ga K "look_pictures") fd
  g_pair_at : mg "pair_at" = some (.ref (He.ga K "pair_at"))
  f_pair_at : ∃ fd, FunD K "pair_at" "pair_at" (defArgs s_pair_at) (defBody s_pair_at) (defScope s_pair_at) [] [] (He.ga K "pair_at") fd
  g_halved : mg "halved" = some (.ref (He.ga K "halved"))
  f_halved : ∃ fd, FunD K "halved" "halved" (defArgs s_halved) (defBody s_halved) (defScope s_halved) [] [] (He.ga K "halved") fd
  g_tiles_of : mg "tiles_of" = some (.ref (He.ga K "tiles_of"))
  f_tiles_of : ∃ fd, FunD K "tiles_of" "tiles_of" (defArgs s_tiles_of) (defBody s_tiles_of) (defScope s_tiles_of) [] [] (He.ga K "tiles_of") fd
  g_built_of : mg "built_of" = some (.ref (He.ga K "built_of"))
  f_built_of : ∃ fd, FunD K "built_of" "built_of" (defArgs s_built_of) (defBody s_built_of) (defScope s_built_of) [] [] (He.ga K "built_of") fd
  g_look_side : mg "look_side" = some (.ref (He.ga K "look_side"))
  f_look_side : ∃ fd, FunD K "look_side" "look_side" (defArgs s_look_side) (defBody s_look_side) (defScope s_look_side) [] [] (He.ga K "look_side") fd
  g_built : mg "built" = some (.ref (He.ga K "built"))
  f_built : ∃ fd, FunD K "built" "built" (defArgs s_built) (defBody s_built) (defScope s_built) [] [] (He.ga K "built") fd
  g_is_pair : mg "is_pair" = some (.ref (He.ga K "is_pair"))
  f_is_pair : ∃ fd, FunD K "is_pair" "is_pair" (defArgs s_is_pair) (defBody s_is_pair) (defScope s_is_pair) [] [] (He.ga K "is_pair") fd
  g_is_tile : mg "is_tile" = some (.ref (He.ga K "is_tile"))
  f_is_tile : ∃ fd, FunD K "is_tile" "is_tile" (defArgs s_is_tile) (defBody s_is_tile) (defScope s_is_tile) [] [] (He.ga K "is_tile") fd
  g_has_form : mg "has_form" = some (.ref (He.ga K "has_form"))
  f_has_form : ∃ fd, FunD K "has_form" "has_form" (defArgs s_has_form) (defBody s_has_form) (defScope s_has_form) [] [] (He.ga K "has_form") fd
  g_picture_in : mg "picture_in" = some (.ref (He.ga K "picture_in"))
  f_picture_in : ∃ fd, FunD K "picture_in" "picture_in" (defArgs s_picture_in) (defBody s_picture_in) (defScope s_picture_in) [] [] (He.ga K "picture_in") fd
  g_is_pyramid : mg "is_pyramid" = some (.ref (He.ga K "is_pyramid"))
  f_is_pyramid : ∃ fd, FunD K "is_pyramid" "is_pyramid" (defArgs s_is_pyramid) (defBody s_is_pyramid) (defScope s_is_pyramid) [] [] (He.ga K "is_pyramid") fd
  g_look_pyramids : mg "look_pyramids" = some (.ref (He.ga K "look_pyramids"))
  f_look_pyramids : ∃ fd, FunD K "look" "look" (defArgs s_look_pyramids) (defBody s_look_pyramids) (defScope s_look_pyramids) [] [] (He.ga K "look_pyramids") fd
  g_top_of : mg "top_of" = some (.ref (He.ga K "top_of"))
  f_top_of : ∃ fd, FunD K "top_of" "top_of" (defArgs s_top_of) (defBody s_top_of) (defScope s_top_of) [] [] (He.ga K "top_of") fd
  g_levels : mg "levels" = some (.ref (He.ga K "levels"))
  f_levels : ∃ fd, FunD K "levels" "levels" (defArgs s_levels) (defBody s_levels) (defScope s_levels) [] [] (He.ga K "levels") fd
  g_is_window : mg "is_window" = some (.ref (He.ga K "is_window"))
  f_is_window : ∃ fd, FunD K "is_window" "is_window" (defArgs s_is_window) (defBody s_is_window) (defScope s_is_window) [] [] (He.ga K "is_window") fd
  g_needed_of : mg "needed_of" = some (.ref (He.ga K "needed_of"))
  f_needed_of : ∃ fd, FunD K "needed_of" "needed_of" (defArgs s_needed_of) (defBody s_needed_of) (defScope s_needed_of) [] [] (He.ga K "needed_of") fd
  g_look_window : mg "look_window" = some (.ref (He.ga K "look_window"))
  f_look_window : ∃ fd, FunD K "look_window" "look_window" (defArgs s_look_window) (defBody s_look_window) (defScope s_look_window) [] [] (He.ga K "look_window") fd
  g_needed : mg "needed" = some (.ref (He.ga K "needed"))
  f_needed : ∃ fd, FunD K "needed" "needed" (defArgs s_needed) (defBody s_needed) (defScope s_needed) [] [] (He.ga K "needed") fd
  g_keys_of : mg "keys_of" = some (.ref (He.ga K "keys_of"))
  f_keys_of : ∃ fd, FunD K "keys_of" "keys_of" (defArgs s_keys_of) (defBody s_keys_of) (defScope s_keys_of) [] [] (He.ga K "keys_of") fd
  g_next_use : mg "next_use" = some (.ref (He.ga K "next_use"))
  f_next_use : ∃ fd, FunD K "next_use" "next_use" (defArgs s_next_use) (defBody s_next_use) (defScope s_next_use) [] [] (He.ga K "next_use") fd
  g_gone : mg "gone" = some (.ref (He.ga K "gone"))
  f_gone : ∃ fd, FunD K "gone" "gone" (defArgs s_gone) (defBody s_gone) (defScope s_gone) [] [] (He.ga K "gone") fd
  g_fetched_of : mg "fetched_of" = some (.ref (He.ga K "fetched_of"))
  f_fetched_of : ∃ fd, FunD K "fetched_of" "fetched_of" (defArgs s_fetched_of) (defBody s_fetched_of) (defScope s_fetched_of) [] [] (He.ga K "fetched_of") fd
  g_look_trip : mg "look_trip" = some (.ref (He.ga K "look_trip"))
  f_look_trip : ∃ fd, FunD K "look_trip" "look_trip" (defArgs s_look_trip) (defBody s_look_trip) (defScope s_look_trip) [] [] (He.ga K "look_trip") fd
  g_fetched : mg "fetched" = some (.ref (He.ga K "fetched"))
  f_fetched : ∃ fd, FunD K "fetched" "fetched" (defArgs s_fetched) (defBody s_fetched) (defScope s_fetched) [] [("room", .int 4), ("rule", .str "old")] (He.ga K "fetched") fd
  g__law_cell : mg "_law_cell" = some (.ref (He.ga K "_law_cell"))
  f__law_cell : ∃ fd, FunD K "_law_cell" "_law_cell" (defArgs s__law_cell) (defBody s__law_cell) (defScope s__law_cell) [] [] (He.ga K "_law_cell") fd
  g__law_row : mg "_law_row" = some (.ref (He.ga K "_law_row"))
  f__law_row : ∃ fd, FunD K "_law_row" "_law_row" (defArgs s__law_row) (defBody s__law_row) (defScope s__law_row) [] [] (He.ga K "_law_row") fd
  g__law_some_picture : mg "_law_some_picture" = some (.ref (He.ga K "_law_some_picture"))
  f__law_some_picture : ∃ fd, FunD K "_law_some_picture" "_law_some_picture" (defArgs s__law_some_picture) (defBody s__law_some_picture) (defScope s__law_some_picture) [] [] (He.ga K "_law_some_picture") fd
  g__law_trip : mg "_law_trip" = some (.ref (He.ga K "_law_trip"))
  f__law_trip : ∃ fd, FunD K "_law_trip" "_law_trip" (defArgs s__law_trip) (defBody s__law_trip) (defScope s__law_trip) [] [] (He.ga K "_law_trip") fd
  g_law : mg "law" = some (.ref (He.ga K "law"))
  f_law : ∃ fd, FunD K "law" "law" (defArgs s_law) (defBody s_law) (defScope s_law) [] [] (He.ga K "law") fd
section
variable {P : Program} {w : World} {K : PySem.W.Frag} {mg : Str → Option Value} {base : Heap}
theorem ok_is_within (T : Tx K mg)  : Dn P w K mg base "is_within" 1 3 sem_is_within := by
  obtain ⟨fd, F⟩ := T.f_is_within
  refine ⟨_, fd, _, T.g_is_within, fn_sem (k := 0) (f := b_is_within) F sc_is_within ?_, F.kp, F.bindsN (ps := ["thing", "low", "high"]) fun _ _ _ _ _ _ us hl => match us, hl with | [_, _, _], _ => rfl⟩
  intro cdv A outer s H E hr tk hp
  exact (ss_one (ss_ret (se_and (se_isi kit_int T.free_isinstance T.free_int (seb (se_v 0))) (se_and (se_not (seb (se_isi kit_bool T.free_isinstance T.free_bool (seb (se_v 0))))) (se_one (se_chain op_leD op_leD (fun _ _ _ => cmpF_b) (seb (se_v 1)) (seb (se_v 0)) (seb (se_v 2))))))))
theorem ok_is_cell (T : Tx K mg) (d_is_within : Dn P w K mg base "is_within" 1 3 sem_is_within) : Dn P w K mg base "is_cell" 2 1 sem_is_cell := by
  obtain ⟨fd, F⟩ := T.f_is_cell
  refine ⟨_, fd, _, T.g_is_cell, fn_sem (k := 1) (f := b_is_cell) F sc_is_cell ?_, F.kp, F.bindsN (ps := ["thing"]) fun _ _ _ _ _ _ us hl => match us, hl with | [_], _ => rfl⟩
  intro cdv A outer s H E hr tk hp
  exact (ss_one (ss_ret (se_or (se_cmp op_isX (seb (se_v 0)) (seb se_non)) (se_one (se_call d_is_within (hr.mono (by decide)) tk (sa_cons (se_v 0) (sa_cons se_int (sa_cons (se_globI T.c_MOST_LEVEL) sa_nil))))))))
theorem ok_is_picture (T : Tx K mg) (d_is_cell : Dn P w K mg base "is_cell" 2 1 sem_is_cell) : Dn P w K mg base "is_picture" 3 1 sem_is_picture := by
  obtain ⟨fd, F⟩ := T.f_is_picture
  refine ⟨_, fd, _, T.g_is_picture, fn_sem (k := 2) (f := b_is_picture) F sc_is_picture ?_, F.kp, F.bindsN (ps := ["thing"]) fun _ _ _ _ _ _ us hl => match us, hl with | [_], _ => rfl⟩
  intro cdv A outer s H E hr tk hp
  exact (ss_cons (ss_if (st_w (sw_or (st_not (st_tru (seb (se_isi kit_tup T.free_isinstance T.free_tuple (seb (se_v 0)))))) (sw_or (st_not (st_chain op_leD op_leD (fun _ _ _ => cmpF_b) (fun _ _ _ => cmpF_b) (seb se_int) (seb (se_cb cl_len T.free_len (sba_cons (seb (se_v 0)) sba_nil))) (seb (se_globI T.c_MOST_WIDE)))) (sw_or1 (st_not (st_tru (seb (se_isi kit_tup T.free_isinstance T.free_tuple (seb (se_ix (seb (se_v 0)) (seb se_int))))))))))) (ss_one (ss_ret se_bl)) ss_nil) (ss_cons (ss_set (i := 1) sc_is_picture.nd (se_cb cl_len T.free_len (sba_cons (seb (se_ix (seb (se_v 0)) (seb se_int))) sba_nil))) (ss_cons (ss_if (st_not (st_chain op_leD op_leD (fun _ _ _ => cmpF_b) (fun _ _ _ => cmpF_b) (seb se_int) (seb (se_v 1)) (seb (se_globI T.c_MOST_WIDE)))) (ss_one (ss_ret se_bl)) ss_nil) (ss_cons (ss_for (f := lp_is_picture_1) hp (sis_seq (se_v 0)) (sg_nm (i := 2) sc_is_picture.nd) (ss_one (ss_if (st_w (sw_or (st_not (st_tru (seb (se_isi kit_tup T.free_isinstance T.free_tuple (seb (se_v 2)))))) (sw_or (st_cmp (op_neX hr) (fun _ _ _ => neF_b) (seb (se_cb cl_len T.free_len (sba_cons (seb (se_v 2)) sba_nil))) (seb (se_v 1))) (sw_or1 (st_tru (snb (sn_lc (own := [("one", 3)]) sc_is_picture.nd (si_seq (seb (se_v 2))) (blkOk_by (own := [("one", 3)]) (by kernel_rfl)) (fun _ _ _ _ _ => (sg_nm (i := 3) sc_is_picture.nd)) (fun _ _ _ _ _ => (sts_one (st_not (st_tru (seb (se_call d_is_cell (hr.mono (by decide)) takes0 (sa_cons (se_v 3) sa_nil))))))) (fun _ _ _ _ _ => (se_v 3))))))))) (ss_one (ss_ret se_bl)) ss_nil))) (ss_one (ss_ret se_bl))))))
theorem ok_look_pictures (T : Tx K mg) (d_is_picture : Dn P w K mg base "is_picture" 3 1 sem_is_picture) : Dn P w K mg base "look_pictures" 4 1 sem_look_pictures := by
  obtain ⟨fd, F⟩ := T.f_look_pictures
  refine ⟨_, fd, _, T.g_look_pictures, fn_sem (k := 3) (f := b_look_pictures) F sc_look_pictures ?_, F.kp, F.bindsN (ps := ["picture"]) fun _ _ _ _ _ _ us hl => match us, hl with | [_], _ => rfl⟩
  intro cdv A outer s H E hr tk hp
  exact (ss_one (ss_if (st_not (st_tru (seb (se_call d_is_picture (hr.mono (by decide)) tk (sa_cons (se_v 0) sa_nil))))) (ss_one (ss_raise tk T.x_BadPicture)) ss_nil))
theorem ok_pair_at (T : Tx K mg)  : Dn P w K mg base "pair_at" 1 3 sem_pair_at := by
  obtain ⟨fd, F⟩ := T.f_pair_at
  refine ⟨_, fd, _, T.g_pair_at, fn_sem (k := 0) (f := b_pair_at) F sc_pair_at ?_, F.kp, F.bindsN (ps := ["rows", "x", "y"]) fun _ _ _ _ _ _ us hl => match us, hl with | [_, _, _], _ => rfl⟩
  intro cdv A outer s H E hr tk hp
  exact (ss_one (ss_ret (se_if (st_w (sw_and (st_cmp op_ltD (fun _ _ _ => cmpF_b) (seb (se_v 2)) (seb (se_cb cl_len T.free_len (sba_cons (seb (se_v 0)) sba_nil)))) (sw_and1 (st_cmp op_ltD (fun _ _ _ => cmpF_b) (seb (se_v 1)) (seb (se_cb cl_len T.free_len (sba_cons (seb (se_ix (seb (se_v 0)) (seb (se_v 2)))) sba_nil))))))) (se_ix (seb (se_ix (seb (se_v 0)) (seb (se_v 2)))) (seb (se_v 1))) (se_tup (sa_cons se_int (sa_cons se_int sa_nil))))))
theorem ok_halved (T : Tx K mg) (d_pair_at : Dn P w K mg base "pair_at" 1 3 sem_pair_at) : Dn P w K mg base "halved" 2 1 sem_halved := by
  obtain ⟨fd, F⟩ := T.f_halved
  refine ⟨_, fd, _, T.g_halved, fn_sem (k := 1) (f := b_halved) F sc_halved ?_, F.kp, F.bindsN (ps := ["rows"]) fun _ _ _ _ _ _ us hl => match us, hl with | [_], _ => rfl⟩
  intro cdv A outer s H E hr tk hp
  exact (ss_cons (ss_own (i := 1) sc_halved.nd (sn_lst sa_nil)) (ss_cons (ss_for (f := lp_halved_2) hp (sis_range3 T.free_range (sba_cons (seb se_int) (sba_cons (seb (se_cb cl_len T.free_len (sba_cons (seb (se_v 0)) sba_nil))) (sba_cons (seb se_int) sba_nil)))) (sg_nm (i := 2) sc_halved.nd) (ss_cons (ss_own (i := 3) sc_halved.nd (sn_lst sa_nil)) (ss_cons (ss_for (f := lp_halved_1) hp (sis_range3 T.free_range (sba_cons (seb se_int) (sba_cons (seb (se_cb cl_len T.free_len (sba_cons (seb (se_ix (seb (se_v 0)) (seb se_int))) sba_nil))) (sba_cons (seb se_int) sba_nil)))) (sg_nm (i := 4) sc_halved.nd) (ss_cons (ss_setLc2 (i := 5) (own := [("down", 6), ("across", 7)]) [7] sc_halved.nd (si_seq (seb (se_tup (sa_cons se_int (sa_cons se_int sa_nil))))) (blkOk_by (own := [("down", 6), ("across", 7)]) (by kernel_rfl)) (fun _ _ _ _ _ => (sg_nm (i := 6) sc_halved.nd)) (fun _ _ _ _ _ => sts_nil) (fun _ _ _ _ _ => (sis_seq (se_tup (sa_cons se_int (sa_cons se_int sa_nil))))) (fun _ _ _ _ _ => (sg_nm (i := 7) sc_halved.nd)) (fun _ _ _ _ _ => sts_nil) (fun _ _ _ _ _ => (se_call d_pair_at (hr.mono (by decide)) takes0 (sa_cons (se_v 0) (sa_cons (se_op op_addD (seb (se_v 4)) (seb (se_v 7))) (sa_cons (se_op op_addD (seb (se_v 2)) (seb (se_v 6))) sa_nil))))) (sw_true rfl rfl rfl (by kernel_rfl))) (ss_one (ss_app 3 (se_tup (sa_cons (se_cb (cl_sum rfl) T.free_sum (sba_cons (snb (sn_lc (own := [("one", 8)]) sc_halved.nd (si_seq (seb (se_v 5))) (blkOk_by (own := [("one", 8)]) (by kernel_rfl)) (fun _ _ _ _ _ => (sg_nm (i := 8) sc_halved.nd)) (fun _ _ _ _ _ => sts_nil) (fun _ _ _ _ _ => (se_ix (seb (se_v 8)) (seb se_int))))) sba_nil)) (sa_cons (se_cb (cl_sum rfl) T.free_sum (sba_cons (snb (sn_lc (own := [("one", 8)]) sc_halved.nd (si_seq (seb (se_v 5))) (blkOk_by (own := [("one", 8)]) (by kernel_rfl)) (fun _ _ _ _ _ => (sg_nm (i := 8) sc_halved.nd)) (fun _ _ _ _ _ => sts_nil) (fun _ _ _ _ _ => (se_ix (seb (se_v 8)) (seb se_int))))) sba_nil)) sa_nil))))))) (ss_frz 3 (ss_one (ss_app 1 (se_v 3))))))) (ss_one (ss_retV 1))))
theorem ok_tiles_of (T : Tx K mg) (d_pair_at : Dn P w K mg base "pair_at" 1 3 sem_pair_at) : DnN P w K mg base "tiles_of" 2 3 sem_tiles_of := by
  obtain ⟨fd, F⟩ := T.f_tiles_of
  refine ⟨_, fd, _, T.g_tiles_of, fn_semN (k := 1) (f := b_tiles_of) F sc_tiles_of ?_, F.kp, F.bindsN (ps := ["rows", "side", "level"]) fun _ _ _ _ _ _ us hl => match us, hl with | [_, _, _], _ => rfl⟩
  intro cdv A outer s H E hr tk hp
  exact (ss_cons (ss_own (i := 3) sc_tiles_of.nd (sn_lst sa_nil)) (ss_cons (ss_for (f := lp_tiles_of_3) hp (sis_range3 T.free_range (sba_cons (seb se_int) (sba_cons (seb (se_cb cl_len T.free_len (sba_cons (seb (se_v 0)) sba_nil))) (sba_cons (seb (se_v 1)) sba_nil)))) (sg_nm (i := 4) sc_tiles_of.nd) (ss_one (ss_for (f := lp_tiles_of_2) hp (sis_range3 T.free_range (sba_cons (seb se_int) (sba_cons (seb (se_cb cl_len T.free_len (sba_cons (seb (se_ix (seb (se_v 0)) (seb se_int))) sba_nil))) (sba_cons (seb (se_v 1)) sba_nil)))) (sg_nm (i := 5) sc_tiles_of.nd) (ss_cons (ss_own (i := 6) sc_tiles_of.nd (sn_lst sa_nil)) (ss_cons (ss_for (f := lp_tiles_of_1) hp (sis_range2 T.free_range (sba_cons (seb (se_v 4)) (sba_cons (seb (se_op op_addD (seb (se_v 4)) (seb (se_v 1)))) sba_nil))) (sg_nm (i := 7) sc_tiles_of.nd) (ss_one (ss_app 6 (se_ct cl_tup T.free_tuple (sba_cons (snb (sn_lc (own := [("x", 10)]) sc_tiles_of.nd (si_range2 T.free_range (sba_cons (seb (se_v 5)) (sba_cons (seb (se_op op_addD (seb (se_v 5)) (seb (se_v 1)))) sba_nil))) (blkOk_by (own := [("x", 10)]) (by kernel_rfl)) (fun _ _ _ _ _ => (sg_nm (i := 10) sc_tiles_of.nd)) (fun _ _ _ _ _ => sts_nil) (fun _ _ _ _ _ => (se_call d_pair_at (hr.mono (by decide)) takes0 (sa_cons (se_v 0) (sa_cons (se_v 10) (sa_cons (se_v 7) sa_nil))))))) sba_nil))))) (ss_one (ss_if (st_tru (snb (sn_lc2 (own := [("row", 8), ("one", 9)]) [9] sc_tiles_of.nd (si_seq (sb_v 6)) (blkOk_by (own := [("row", 8), ("one", 9)]) (by kernel_rfl)) (fun _ _ _ _ _ => (sg_nm (i := 8) sc_tiles_of.nd)) (fun _ _ _ _ _ => sts_nil) (fun _ _ _ _ _ => (sis_seq (se_v 8))) (fun _ _ _ _ _ => (sg_nm (i := 9) sc_tiles_of.nd)) (fun _ _ _ _ _ => (sts_one (st_cmp op_gtD (fun _ _ _ => cmpF_b) (seb (se_ix (seb (se_v 9)) (seb se_int))) (seb se_int)))) (fun _ _ _ _ _ => se_int)))) (ss_one (ss_app 3 (se_tup (sa_cons (se_tup (sa_cons (se_v 2) (sa_cons (se_op op_divD (seb (se_v 5)) (seb (se_v 1))) (sa_cons (se_op op_divD (seb (se_v 4)) (seb (se_v 1))) sa_nil)))) (sa_cons (se_ct cl_tup T.free_tuple (sba_cons (sb_v 6) sba_nil)) sa_nil))))) ss_nil))))))) (ss_one (ss_rn 3))))
theorem ok_built_of (T : Tx K mg) (d_tiles_of : DnN P w K mg base "tiles_of" 2 3 sem_tiles_of) (d_halved : Dn P w K mg base "halved" 2 1 sem_halved) : Dn P w K mg base "built_of" 3 2 sem_built_of := by
  obtain ⟨fd, F⟩ := T.f_built_of
  refine ⟨_, fd, _, T.g_built_of, fn_sem (k := 2) (f := b_built_of) F sc_built_of ?_, F.kp, F.bindsN (ps := ["picture", "side"]) fun _ _ _ _ _ _ us hl => match us, hl with | [_, _], _ => rfl⟩
  intro cdv A outer s H E hr tk hp
  exact (ss_cons (ss_setLc (i := 2) (own := [("row", 7)]) sc_built_of.nd (si_seq (seb (se_v 0))) (blkOk_by (own := [("row", 7)]) (by kernel_rfl)) (fun _ _ _ _ _ => (sg_nm (i := 7) sc_built_of.nd)) (fun _ _ _ _ _ => sts_nil) (fun _ _ _ _ _ => (sne (sn_lc (own := [("one", 8)]) sc_built_of.nd (si_seq (seb (se_v 7))) (blkOk_by (own := [("one", 8)]) (by kernel_rfl)) (fun _ _ _ _ _ => (sg_nm (i := 8) sc_built_of.nd)) (fun _ _ _ _ _ => sts_nil) (fun _ _ _ _ _ => (se_if (st_cmp op_isX (fun _ _ _ => isF_b) (seb (se_v 8)) (seb se_non)) (se_tup (sa_cons se_int (sa_cons se_int sa_nil))) (se_tup (sa_cons (se_v 8) (sa_cons se_int sa_nil)))))))) (sw_true rfl rfl rfl (by kernel_rfl))) (ss_cons (ss_par (i := 3) (j := 4) sc_built_of.nd (by decide) (sa_cons (se_cb cl_len T.free_len (sba_cons (seb (se_ix (seb (se_v 2)) (seb se_int))) sba_nil)) (sa_cons (se_cb cl_len T.free_len (sba_cons (seb (se_v 2)) sba_nil)) sa_nil)) (by rfl)) (ss_cons (ss_own (i := 5) sc_built_of.nd (sn_callN d_tiles_of (hr.mono (by decide)) tk (sa_cons (se_v 2) (sa_cons (se_v 1) (sa_cons se_int sa_nil))))) (ss_cons (ss_set (i := 6) sc_built_of.nd se_int) (ss_cons (ss_while (f := lp_built_of_1) 1000000 hp (st_w (sw_or (st_cmp op_gtD (fun _ _ _ => cmpF_b) (seb (se_cb cl_len T.free_len (sba_cons (seb (se_v 2)) sba_nil))) (seb (se_v 1))) (sw_or1 (st_cmp op_gtD (fun _ _ _ => cmpF_b) (seb (se_cb cl_len T.free_len (sba_cons (seb (se_ix (seb (se_v 2)) (seb se_int))) sba_nil))) (seb (se_v 1)))))) (ss_cons (ss_set (i := 2) sc_built_of.nd (se_call d_halved (hr.mono (by decide)) tk (sa_cons (se_v 2) sa_nil))) (ss_cons (ss_aug (i := 6) ip_add sc_built_of.nd (seb se_int)) (ss_one (ss_ext 5 (snb (sn_callN d_tiles_of (hr.mono (by decide)) tk (sa_cons (se_v 2) (sa_cons (se_v 1) (sa_cons (se_v 6) sa_nil)))))))))) (ss_one (ss_ret (se_tup (sa_cons (se_v 1) (sa_cons (se_v 3) (sa_cons (se_v 4) (sa_cons (se_ct cl_tupZ T.free_tuple (sba_cons (snb (sn_cb (cl_sorted hr rfl) T.free_sorted (sba_cons (sb_v 5) sba_nil))) sba_nil)) sa_nil))))))))))))
theorem ok_look_side (T : Tx K mg) (d_is_within : Dn P w K mg base "is_within" 1 3 sem_is_within) : Dn P w K mg base "look_side" 2 1 sem_look_side := by
  obtain ⟨fd, F⟩ := T.f_look_side
  refine ⟨_, fd, _, T.g_look_side, fn_sem (k := 1) (f := b_look_side) F sc_look_side ?_, F.kp, F.bindsN (ps := ["side"]) fun _ _ _ _ _ _ us hl => match us, hl with | [_], _ => rfl⟩
  intro cdv A outer s H E hr tk hp
  exact (ss_one (ss_if (st_w (sw_or (st_not (st_tru (seb (se_call d_is_within (hr.mono (by decide)) tk (sa_cons (se_v 0) (sa_cons se_int (sa_cons se_int sa_nil))))))) (sw_or1 (st_inCn T.t_SIDES (seb (se_v 0)))))) (ss_one (ss_raise tk T.x_BadSide)) ss_nil))
theorem ok_built (T : Tx K mg) (d_look_pictures : Dn P w K mg base "look_pictures" 4 1 sem_look_pictures) (d_look_side : Dn P w K mg base "look_side" 2 1 sem_look_side) (d_built_of : Dn P w K mg base "built_of" 3 2 sem_built_of) : Dn P w K mg base "built" 5 2 sem_built := by
  obtain ⟨fd, F⟩ := T.f_built
  refine ⟨_, fd, _, T.g_built, fn_sem (k := 4) (f := b_built) F sc_built ?_, F.kp, F.bindsN (ps := ["picture", "side"]) fun _ _ _ _ _ _ us hl => match us, hl with | [_, _], _ => rfl⟩
  intro cdv A outer s H E hr tk hp
  exact (ss_cons (ss_drop (se_call d_look_pictures (hr.mono (by decide)) tk (sa_cons (se_v 0) sa_nil))) (ss_cons (ss_drop (se_call d_look_side (hr.mono (by decide)) tk (sa_cons (se_v 1) sa_nil))) (ss_one (ss_ret (se_call d_built_of (hr.mono (by decide)) tk (sa_cons (se_v 0) (sa_cons (se_v 1) sa_nil)))))))
theorem ok_is_pair (T : Tx K mg) (d_is_within : Dn P w K mg base "is_within" 1 3 sem_is_within) : Dn P w K mg base "is_pair" 2 1 sem_is_pair := by
  obtain ⟨fd, F⟩ := T.f_is_pair
  refine ⟨_, fd, _, T.g_is_pair, fn_sem (k := 1) (f := b_is_pair) F sc_is_pair ?_, F.kp, F.bindsN (ps := ["thing"]) fun _ _ _ _ _ _ us hl => match us, hl with | [_], _ => rfl⟩
  intro cdv A outer s H E hr tk hp
  exact (ss_cons (ss_if (st_w (sw_or (st_not (st_tru (seb (se_isi kit_tup T.free_isinstance T.free_tuple (seb (se_v 0)))))) (sw_or1 (st_cmp (op_neX hr) (fun _ _ _ => neF_b) (seb (se_cb cl_len T.free_len (sba_cons (seb (se_v 0)) sba_nil))) (seb se_int))))) (ss_one (ss_ret se_bl)) ss_nil) (ss_cons (ss_if (st_not (st_tru (seb (se_call d_is_within (hr.mono (by decide)) tk (sa_cons (se_ix (seb (se_v 0)) (seb se_int)) (sa_cons se_int (sa_cons (se_op op_mulD (seb (se_globI T.c_MOST_WIDE)) (seb (se_globI T.c_MOST_WIDE))) sa_nil))))))) (ss_one (ss_ret se_bl)) ss_nil) (ss_one (ss_ret (se_call d_is_within (hr.mono (by decide)) tk (sa_cons (se_ix (seb (se_v 0)) (seb se_int)) (sa_cons se_int (sa_cons (se_op op_mulD (seb se_int) (seb (se_ix (seb (se_v 0)) (seb se_int)))) sa_nil))))))))
theorem ok_is_tile (T : Tx K mg) (d_is_within : Dn P w K mg base "is_within" 1 3 sem_is_within) (d_is_pair : Dn P w K mg base "is_pair" 2 1 sem_is_pair) : Dn P w K mg base "is_tile" 3 2 sem_is_tile := by
  obtain ⟨fd, F⟩ := T.f_is_tile
  refine ⟨_, fd, _, T.g_is_tile, fn_sem (k := 2) (f := b_is_tile) F sc_is_tile ?_, F.kp, F.bindsN (ps := ["thing", "side"]) fun _ _ _ _ _ _ us hl => match us, hl with | [_, _], _ => rfl⟩
  intro cdv A outer s H E hr tk hp
  exact (ss_cons (ss_if (st_w (sw_or (st_not (st_tru (seb (se_isi kit_tup T.free_isinstance T.free_tuple (seb (se_v 0)))))) (sw_or (st_cmp (op_neX hr) (fun _ _ _ => neF_b) (seb (se_cb cl_len T.free_len (sba_cons (seb (se_v 0)) sba_nil))) (seb se_int)) (sw_or (st_not (st_tru (seb (se_isi kit_tup T.free_isinstance T.free_tuple (seb (se_ix (seb (se_v 0)) (seb se_int))))))) (sw_or1 (st_cmp (op_neX hr) (fun _ _ _ => neF_b) (seb (se_cb cl_len T.free_len (sba_cons (seb (se_ix (seb (se_v 0)) (seb se_int))) sba_nil))) (seb se_int))))))) (ss_one (ss_ret se_bl)) ss_nil) (ss_cons (ss_if (st_w (sw_or (st_tru (snb (sn_lc (own := [("one", 3)]) sc_is_tile.nd (si_seq (seb (se_ix (seb (se_v 0)) (seb se_int)))) (blkOk_by (own := [("one", 3)]) (by kernel_rfl)) (fun _ _ _ _ _ => (sg_nm (i := 3) sc_is_tile.nd)) (fun _ _ _ _ _ => (sts_one (st_not (st_tru (seb (se_call d_is_within (hr.mono (by decide)) takes0 (sa_cons (se_v 3) (sa_cons se_int (sa_cons (se_globI T.c_MOST_WIDE) sa_nil))))))))) (fun _ _ _ _ _ => (se_v 3))))) (sw_or1 (st_not (st_tru (seb (se_isi kit_tup T.free_isinstance T.free_tuple (seb (se_ix (seb (se_v 0)) (seb se_int)))))))))) (ss_one (ss_ret se_bl)) ss_nil) (ss_cons (ss_if (st_cmp (op_neX hr) (fun _ _ _ => neF_b) (seb (se_cb cl_len T.free_len (sba_cons (seb (se_ix (seb (se_v 0)) (seb se_int))) sba_nil))) (seb (se_v 1))) (ss_one (ss_ret se_bl)) ss_nil) (ss_cons (ss_for (f := lp_is_tile_1) hp (sis_seq (se_ix (seb (se_v 0)) (seb se_int))) (sg_nm (i := 2) sc_is_tile.nd) (ss_one (ss_if (st_w (sw_or (st_not (st_tru (seb (se_isi kit_tup T.free_isinstance T.free_tuple (seb (se_v 2)))))) (sw_or (st_cmp (op_neX hr) (fun _ _ _ => neF_b) (seb (se_cb cl_len T.free_len (sba_cons (seb (se_v 2)) sba_nil))) (seb (se_v 1))) (sw_or1 (st_tru (snb (sn_lc (own := [("one", 3)]) sc_is_tile.nd (si_seq (seb (se_v 2))) (blkOk_by (own := [("one", 3)]) (by kernel_rfl)) (fun _ _ _ _ _ => (sg_nm (i := 3) sc_is_tile.nd)) (fun _ _ _ _ _ => (sts_one (st_not (st_tru (seb (se_call d_is_pair (hr.mono (by decide)) takes0 (sa_cons (se_v 3) sa_nil))))))) (fun _ _ _ _ _ => (se_v 3))))))))) (ss_one (ss_ret se_bl)) ss_nil))) (ss_one (ss_ret se_bl))))))
theorem ok_has_form (T : Tx K mg) (d_is_within : Dn P w K mg base "is_within" 1 3 sem_is_within) (d_is_tile : Dn P w K mg base "is_tile" 3 2 sem_is_tile) : Dn P w K mg base "has_form" 4 1 sem_has_form := by
  obtain ⟨fd, F⟩ := T.f_has_form
  refine ⟨_, fd, _, T.g_has_form, fn_sem (k := 3) (f := b_has_form) F sc_has_form ?_, F.kp, F.bindsN (ps := ["thing"]) fun _ _ _ _ _ _ us hl => match us, hl with | [_], _ => rfl⟩
  intro cdv A outer s H E hr tk hp
  exact (ss_cons (ss_if (st_w (sw_or (st_not (st_tru (seb (se_isi kit_tup T.free_isinstance T.free_tuple (seb (se_v 0)))))) (sw_or (st_cmp (op_neX hr) (fun _ _ _ => neF_b) (seb (se_cb cl_len T.free_len (sba_cons (seb (se_v 0)) sba_nil))) (seb se_int)) (sw_or (st_not (st_tru (seb (se_call d_is_within (hr.mono (by decide)) tk (sa_cons (se_ix (seb (se_v 0)) (seb se_int)) (sa_cons se_int (sa_cons se_int sa_nil))))))) (sw_or1 (st_inCn T.t_SIDES (seb (se_ix (seb (se_v 0)) (seb se_int))))))))) (ss_one (ss_ret se_bl)) ss_nil) (ss_cons (ss_if (st_w (sw_or (st_not (st_tru (seb (se_call d_is_within (hr.mono (by decide)) tk (sa_cons (se_ix (seb (se_v 0)) (seb se_int)) (sa_cons se_int (sa_cons (se_globI T.c_MOST_WIDE) sa_nil))))))) (sw_or1 (st_not (st_tru (seb (se_call d_is_within (hr.mono (by decide)) tk (sa_cons (se_ix (seb (se_v 0)) (seb se_int)) (sa_cons se_int (sa_cons (se_globI T.c_MOST_WIDE) sa_nil)))))))))) (ss_one (ss_ret se_bl)) ss_nil) (ss_cons (ss_if (st_not (st_tru (seb (se_isi kit_tup T.free_isinstance T.free_tuple (seb (se_ix (seb (se_v 0)) (seb se_int))))))) (ss_one (ss_ret se_bl)) ss_nil) (ss_one (ss_ret (se_not (snb (sn_lc (own := [("one", 1)]) sc_has_form.nd (si_seq (seb (se_ix (seb (se_v 0)) (seb se_int)))) (blkOk_by (own := [("one", 1)]) (by kernel_rfl)) (fun _ _ _ _ _ => (sg_nm (i := 1) sc_has_form.nd)) (fun _ _ _ _ _ => (sts_one (st_not (st_tru (seb (se_call d_is_tile (hr.mono (by decide)) takes0 (sa_cons (se_v 1) (sa_cons (se_ix (seb (se_v 0)) (seb se_int)) sa_nil)))))))) (fun _ _ _ _ _ => (se_v 1))))))))))
theorem ok_picture_in (T : Tx K mg)  : Dn P w K mg base "picture_in" 1 1 sem_picture_in := by
  obtain ⟨fd, F⟩ := T.f_picture_in
  refine ⟨_, fd, _, T.g_picture_in, fn_sem (k := 0) (f := b_picture_in) F sc_picture_in ?_, F.kp, F.bindsN (ps := ["pyramid"]) fun _ _ _ _ _ _ us hl => match us, hl with | [_], _ => rfl⟩
  intro cdv A outer s H E hr tk hp
  exact (ss_cons (ss_asg (se_v 0) (sg_tp (sgs_cons (sg_nm (i := 1) sc_picture_in.nd) (sgs_cons (sg_nm (i := 2) sc_picture_in.nd) (sgs_cons (sg_nm (i := 3) sc_picture_in.nd) (sgs_cons (sg_nm (i := 4) sc_picture_in.nd) sgs_nil)))))) (ss_cons (ss_gridLc (i := 5) (own := [("time", 15)]) sc_picture_in.nd (si_range1 T.free_range (sba_cons (seb (se_v 3)) sba_nil)) (blkOk_by (own := [("time", 15)]) (by kernel_rfl)) (fun _ _ _ _ _ => (sg_nm (i := 15) sc_picture_in.nd)) (fun _ _ _ _ _ => sts_nil) (fun _ _ _ _ _ => (sn_rep (snb (sn_lst (sa_cons se_non sa_nil))) (seb (se_v 2)))) (sw_true rfl rfl rfl (by kernel_rfl))) (ss_cons (ss_for (f := lp_picture_in_3) hp (sis_seq (se_v 4)) (sg_tp (sgs_cons (sg_tp (sgs_cons (sg_nm (i := 6) sc_picture_in.nd) (sgs_cons (sg_nm (i := 7) sc_picture_in.nd) (sgs_cons (sg_nm (i := 8) sc_picture_in.nd) sgs_nil)))) (sgs_cons (sg_nm (i := 9) sc_picture_in.nd) sgs_nil))) (ss_one (ss_if (st_cmp (op_eqX hr) (fun _ _ _ => eqF_b) (seb (se_v 6)) (seb se_int)) (ss_one (ss_for (f := lp_picture_in_2) hp (sis_enum T.free_enumerate (sa_cons (se_v 9) sa_nil)) (sg_tp (sgs_cons (sg_nm (i := 10) sc_picture_in.nd) (sgs_cons (sg_nm (i := 11) sc_picture_in.nd) sgs_nil))) (ss_one (ss_for (f := lp_picture_in_1) hp (sis_enum T.free_enumerate (sa_cons (se_v 11) sa_nil)) (sg_tp (sgs_cons (sg_nm (i := 12) sc_picture_in.nd) (sgs_cons (sg_tp (sgs_cons (sg_nm (i := 13) sc_picture_in.nd) (sgs_cons (sg_nm (i := 14) sc_picture_in.nd) sgs_nil))) sgs_nil))) (ss_one (ss_if (st_cmp op_gtD (fun _ _ _ => cmpF_b) (seb (se_v 14)) (seb se_int)) (ss_cons (ss_if (st_w (sw_or (st_cmp op_gtD (fun _ _ _ => cmpF_b) (seb (se_v 14)) (seb se_int)) (sw_or (st_cmp op_geD (fun _ _ _ => cmpF_b) (seb (se_op op_addD (seb (se_op op_mulD (seb (se_v 7)) (seb (se_v 1)))) (seb (se_v 12)))) (seb (se_v 2))) (sw_or1 (st_cmp op_geD (fun _ _ _ => cmpF_b) (seb (se_op op_addD (seb (se_op op_mulD (seb (se_v 8)) (seb (se_v 1)))) (seb (se_v 10)))) (seb (se_v 3))))))) (ss_one (ss_ret se_non)) ss_nil) (ss_one (ss_putG 5 (seb (se_op op_addD (seb (se_op op_mulD (seb (se_v 8)) (seb (se_v 1)))) (seb (se_v 10)))) (seb (se_op op_addD (seb (se_op op_mulD (seb (se_v 7)) (seb (se_v 1)))) (seb (se_v 12)))) (se_v 13)))) ss_nil)))))) ss_nil))) (ss_frzG 5 (ss_one (ss_ret (se_ct cl_tup T.free_tuple (sba_cons (snb (sn_lc (own := [("row", 11)]) sc_picture_in.nd (si_seq (seb (se_v 5))) (blkOk_by (own := [("row", 11)]) (by kernel_rfl)) (fun _ _ _ _ _ => (sg_nm (i := 11) sc_picture_in.nd)) (fun _ _ _ _ _ => sts_nil) (fun _ _ _ _ _ => (se_ct cl_tup T.free_tuple (sba_cons (seb (se_v 11)) sba_nil))))) sba_nil))))))))
theorem ok_is_pyramid (T : Tx K mg) (d_has_form : Dn P w K mg base "has_form" 4 1 sem_has_form) (d_picture_in : Dn P w K mg base "picture_in" 1 1 sem_picture_in) (d_built_of : Dn P w K mg base "built_of" 3 2 sem_built_of) : Dn P w K mg base "is_pyramid" 5 1 sem_is_pyramid := by
  obtain ⟨fd, F⟩ := T.f_is_pyramid
  refine ⟨_, fd, _, T.g_is_pyramid, fn_sem (k := 4) (f := b_is_pyramid) F sc_is_pyramid ?_, F.kp, F.bindsN (ps := ["thing"]) fun _ _ _ _ _ _ us hl => match us, hl with | [_], _ => rfl⟩
  intro cdv A outer s H E hr tk hp
  exact (ss_cons (ss_if (st_not (st_tru (seb (se_call d_has_form (hr.mono (by decide)) tk (sa_cons (se_v 0) sa_nil))))) (ss_one (ss_ret se_bl)) ss_nil) (ss_cons (ss_set (i := 1) sc_is_pyramid.nd (se_call d_picture_in (hr.mono (by decide)) tk (sa_cons (se_v 0) sa_nil))) (ss_one (ss_ret (se_and (se_cmp op_isNotX (seb (se_v 1)) (seb se_non)) (se_one (se_cmp (op_eqZ hr) (seb (se_call d_built_of (hr.mono (by decide)) tk (sa_cons (se_v 1) (sa_cons (se_ix (seb (se_v 0)) (seb se_int)) sa_nil)))) (seb (se_v 0)))))))))
theorem ok_look_pyramids (T : Tx K mg) (d_is_pyramid : Dn P w K mg base "is_pyramid" 5 1 sem_is_pyramid) : Dn P w K mg base "look_pyramids" 6 1 sem_look_pyramids := by
  obtain ⟨fd, F⟩ := T.f_look_pyramids
  refine ⟨_, fd, _, T.g_look_pyramids, fn_sem (k := 5) (f := b_look_pyramids) F sc_look_pyramids ?_, F.kp, F.bindsN (ps := ["pyramid"]) fun _ _ _ _ _ _ us hl => match us, hl with | [_], _ => rfl⟩
  intro cdv A outer s H E hr tk hp
  exact (ss_one (ss_if (st_not (st_tru (seb (se_call d_is_pyramid (hr.mono (by decide)) tk (sa_cons (se_v 0) sa_nil))))) (ss_one (ss_raise tk T.x_BadPyramid)) ss_nil))
theorem ok_top_of (T : Tx K mg)  : Dn P w K mg base "top_of" 1 1 sem_top_of := by
  obtain ⟨fd, F⟩ := T.f_top_of
  refine ⟨_, fd, _, T.g_top_of, fn_sem (k := 0) (f := b_top_of) F sc_top_of ?_, F.kp, F.bindsN (ps := ["pyramid"]) fun _ _ _ _ _ _ us hl => match us, hl with | [_], _ => rfl⟩
  intro cdv A outer s H E hr tk hp
  exact (ss_cons (ss_asg (se_v 0) (sg_tp (sgs_cons (sg_nm (i := 1) sc_top_of.nd) (sgs_cons (sg_nm (i := 2) sc_top_of.nd) (sgs_cons (sg_nm (i := 3) sc_top_of.nd) (sgs_cons (sg_nm (i := 4) sc_top_of.nd) sgs_nil)))))) (ss_cons (ss_set (i := 5) sc_top_of.nd se_int) (ss_cons (ss_while (f := lp_top_of_1) 1000000 hp (st_w (sw_or (st_cmp op_gtD (fun _ _ _ => cmpF_b) (seb (se_v 2)) (seb (se_v 1))) (sw_or1 (st_cmp op_gtD (fun _ _ _ => cmpF_b) (seb (se_v 3)) (seb (se_v 1)))))) (ss_cons (ss_par (i := 2) (j := 3) sc_top_of.nd (by decide) (sa_cons (se_op op_divD (seb (se_op op_addD (seb (se_v 2)) (seb se_int))) (seb se_int)) (sa_cons (se_op op_divD (seb (se_op op_addD (seb (se_v 3)) (seb se_int))) (seb se_int)) sa_nil)) (by rfl)) (ss_one (ss_aug (i := 5) ip_add sc_top_of.nd (seb se_int))))) (ss_one (ss_ret (se_v 5))))))
theorem ok_levels (T : Tx K mg) (d_look_pyramids : Dn P w K mg base "look_pyramids" 6 1 sem_look_pyramids) (d_top_of : Dn P w K mg base "top_of" 1 1 sem_top_of) : Dn P w K mg base "levels" 7 1 sem_levels := by
  obtain ⟨fd, F⟩ := T.f_levels
  refine ⟨_, fd, _, T.g_levels, fn_sem (k := 6) (f := b_levels) F sc_levels ?_, F.kp, F.bindsN (ps := ["pyramid"]) fun _ _ _ _ _ _ us hl => match us, hl with | [_], _ => rfl⟩
  intro cdv A outer s H E hr tk hp
  exact (ss_cons (ss_drop (se_call d_look_pyramids (hr.mono (by decide)) tk (sa_cons (se_v 0) sa_nil))) (ss_one (ss_ret (se_op op_addD (seb (se_call d_top_of (hr.mono (by decide)) tk (sa_cons (se_v 0) sa_nil))) (seb se_int)))))
theorem ok_is_window (T : Tx K mg) (d_top_of : Dn P w K mg base "top_of" 1 1 sem_top_of) (d_is_within : Dn P w K mg base "is_within" 1 3 sem_is_within) : Dn P w K mg base "is_window" 2 2 sem_is_window := by
  obtain ⟨fd, F⟩ := T.f_is_window
  refine ⟨_, fd, _, T.g_is_window, fn_sem (k := 1) (f := b_is_window) F sc_is_window ?_, F.kp, F.bindsN (ps := ["pyramid", "thing"]) fun _ _ _ _ _ _ us hl => match us, hl with | [_, _], _ => rfl⟩
  intro cdv A outer s H E hr tk hp
  exact (ss_cons (ss_if (st_w (sw_or (st_not (st_tru (seb (se_isi kit_tup T.free_isinstance T.free_tuple (seb (se_v 1)))))) (sw_or (st_cmp (op_neX hr) (fun _ _ _ => neF_b) (seb (se_cb cl_len T.free_len (sba_cons (seb (se_v 1)) sba_nil))) (seb se_int)) (sw_or1 (st_not (st_tru (seb (se_call d_is_within (hr.mono (by decide)) tk (sa_cons (se_ix (seb (se_v 1)) (seb se_int)) (sa_cons se_int (sa_cons (se_call d_top_of (hr.mono (by decide)) tk (sa_cons (se_v 0) sa_nil)) sa_nil))))))))))) (ss_one (ss_ret se_bl)) ss_nil) (ss_cons (ss_if (st_w (sw_or (st_not (st_tru (seb (se_call d_is_within (hr.mono (by decide)) tk (sa_cons (se_ix (seb (se_v 1)) (seb se_int)) (sa_cons se_int (sa_cons (se_globI T.c_MOST_WIDE) sa_nil))))))) (sw_or1 (st_not (st_tru (seb (se_call d_is_within (hr.mono (by decide)) tk (sa_cons (se_ix (seb (se_v 1)) (seb se_int)) (sa_cons se_int (sa_cons (se_globI T.c_MOST_WIDE) sa_nil)))))))))) (ss_one (ss_ret se_bl)) ss_nil) (ss_one (ss_ret (se_and (se_call d_is_within (hr.mono (by decide)) tk (sa_cons (se_ix (seb (se_v 1)) (seb se_int)) (sa_cons se_int (sa_cons se_int sa_nil)))) (se_one (se_call d_is_within (hr.mono (by decide)) tk (sa_cons (se_ix (seb (se_v 1)) (seb se_int)) (sa_cons se_int (sa_cons se_int sa_nil))))))))))
theorem ok_needed_of (T : Tx K mg)  : Dn P w K mg base "needed_of" 1 2 sem_needed_of := by
  obtain ⟨fd, F⟩ := T.f_needed_of
  refine ⟨_, fd, _, T.g_needed_of, fn_sem (k := 0) (f := b_needed_of) F sc_needed_of ?_, F.kp, F.bindsN (ps := ["pyramid", "window"]) fun _ _ _ _ _ _ us hl => match us, hl with | [_, _], _ => rfl⟩
  intro cdv A outer s H E hr tk hp
  exact (ss_cons (ss_set (i := 2) sc_needed_of.nd (se_ix (seb (se_v 0)) (seb se_int))) (ss_cons (ss_asg (se_v 1) (sg_tp (sgs_cons (sg_nm (i := 3) sc_needed_of.nd) (sgs_cons (sg_nm (i := 4) sc_needed_of.nd) (sgs_cons (sg_nm (i := 5) sc_needed_of.nd) (sgs_cons (sg_nm (i := 6) sc_needed_of.nd) (sgs_cons (sg_nm (i := 7) sc_needed_of.nd) sgs_nil))))))) (ss_cons (ss_set (i := 8) sc_needed_of.nd (sne (sn_dc2 (own := [("across", 9), ("down", 10)]) [10] hr sc_needed_of.nd (si_range2 T.free_range (sba_cons (seb (se_v 4)) (sba_cons (seb (se_op op_addD (seb (se_v 4)) (seb (se_v 6)))) sba_nil))) (blkOk_by (own := [("across", 9), ("down", 10)]) (by kernel_rfl)) (fun _ _ _ _ _ => (sg_nm (i := 9) sc_needed_of.nd)) (fun _ _ _ _ _ => sts_nil) (fun _ _ _ _ _ => (sis_range2 T.free_range (sba_cons (seb (se_v 5)) (sba_cons (seb (se_op op_addD (seb (se_v 5)) (seb (se_v 7)))) sba_nil)))) (fun _ _ _ _ _ => (sg_nm (i := 10) sc_needed_of.nd)) (fun _ _ _ _ _ => sts_nil) (fun _ _ _ _ _ => (se_tup (sa_cons (se_v 3) (sa_cons (se_op op_divD (seb (se_v 9)) (seb (se_v 2))) (sa_cons (se_op op_divD (seb (se_v 10)) (seb (se_v 2))) sa_nil))))) (fun _ _ _ _ _ => se_bl)))) (ss_one (ss_ret (sne (sn_lc (own := [("key", 11), ("tile", 12)]) sc_needed_of.nd (si_seq (seb (se_ix (seb (se_v 0)) (seb se_int)))) (blkOk_by (own := [("key", 11), ("tile", 12)]) (by kernel_rfl)) (fun _ _ _ _ _ => (sg_tp (sgs_cons (sg_nm (i := 11) sc_needed_of.nd) (sgs_cons (sg_nm (i := 12) sc_needed_of.nd) sgs_nil)))) (fun _ _ _ _ _ => (sts_one (st_din hr (seb (se_v 11)) (seb (se_v 8))))) (fun _ _ _ _ _ => (se_v 11)))))))))
theorem ok_look_window (T : Tx K mg) (d_look_pyramids : Dn P w K mg base "look_pyramids" 6 1 sem_look_pyramids) (d_is_window : Dn P w K mg base "is_window" 2 2 sem_is_window) : Dn P w K mg base "look_window" 7 2 sem_look_window := by
  obtain ⟨fd, F⟩ := T.f_look_window
  refine ⟨_, fd, _, T.g_look_window, fn_sem (k := 6) (f := b_look_window) F sc_look_window ?_, F.kp, F.bindsN (ps := ["pyramid", "window"]) fun _ _ _ _ _ _ us hl => match us, hl with | [_, _], _ => rfl⟩
  intro cdv A outer s H E hr tk hp
  exact (ss_cons (ss_drop (se_call d_look_pyramids (hr.mono (by decide)) tk (sa_cons (se_v 0) sa_nil))) (ss_one (ss_if (st_not (st_tru (seb (se_call d_is_window (hr.mono (by decide)) tk (sa_cons (se_v 0) (sa_cons (se_v 1) sa_nil)))))) (ss_one (ss_raise tk T.x_BadWindow)) ss_nil)))
theorem ok_needed (T : Tx K mg) (d_look_window : Dn P w K mg base "look_window" 7 2 sem_look_window) (d_needed_of : Dn P w K mg base "needed_of" 1 2 sem_needed_of) : Dn P w K mg base "needed" 8 2 sem_needed := by
  obtain ⟨fd, F⟩ := T.f_needed
  refine ⟨_, fd, _, T.g_needed, fn_sem (k := 7) (f := b_needed) F sc_needed ?_, F.kp, F.bindsN (ps := ["pyramid", "window"]) fun _ _ _ _ _ _ us hl => match us, hl with | [_, _], _ => rfl⟩
  intro cdv A outer s H E hr tk hp
  exact (ss_cons (ss_drop (se_call d_look_window (hr.mono (by decide)) tk (sa_cons (se_v 0) (sa_cons (se_v 1) sa_nil)))) (ss_one (ss_ret (se_call d_needed_of (hr.mono (by decide)) tk (sa_cons (se_v 0) (sa_cons (se_v 1) sa_nil))))))
theorem ok_keys_of (T : Tx K mg) (d_needed_of : Dn P w K mg base "needed_of" 1 2 sem_needed_of) : Dn P w K mg base "keys_of" 2 2 sem_keys_of := by
  obtain ⟨fd, F⟩ := T.f_keys_of
  refine ⟨_, fd, _, T.g_keys_of, fn_sem (k := 1) (f := b_keys_of) F sc_keys_of ?_, F.kp, F.bindsN (ps := ["pyramid", "trip"]) fun _ _ _ _ _ _ us hl => match us, hl with | [_, _], _ => rfl⟩
  intro cdv A outer s H E hr tk hp
  exact (ss_cons (ss_own (i := 2) sc_keys_of.nd (sn_lst sa_nil)) (ss_cons (ss_for (f := lp_keys_of_1) hp (sis_seq (se_v 1)) (sg_nm (i := 3) sc_keys_of.nd) (ss_one (ss_ext 2 (seb (se_call d_needed_of (hr.mono (by decide)) tk (sa_cons (se_v 0) (sa_cons (se_v 3) sa_nil))))))) (ss_one (ss_retV 2))))
theorem ok_next_use (T : Tx K mg)  : Dn P w K mg base "next_use" 1 3 sem_next_use := by
  obtain ⟨fd, F⟩ := T.f_next_use
  refine ⟨_, fd, _, T.g_next_use, fn_sem (k := 0) (f := b_next_use) F sc_next_use ?_, F.kp, F.bindsN (ps := ["keys", "at", "key"]) fun _ _ _ _ _ _ us hl => match us, hl with | [_, _, _], _ => rfl⟩
  intro cdv A outer s H E hr tk hp
  exact (ss_one (ss_ret (se_if (st_cmp (op_inX hr) (fun _ _ _ => inF_b) (seb (se_v 2)) (seb (se_sl (seb (se_v 0)) (so_some (seb (se_v 1))) so_none)) (hm := by rfl)) (se_index3 hr (seb (se_v 0)) (se_v 2) (se_v 1)) (se_cb cl_len T.free_len (sba_cons (seb (se_v 0)) sba_nil)))))
theorem ok_gone (T : Tx K mg) (d_next_use : Dn P w K mg base "next_use" 1 3 sem_next_use) : Dn P w K mg base "gone" 2 4 sem_gone := by
  obtain ⟨fd, F⟩ := T.f_gone
  refine ⟨_, fd, _, T.g_gone, fn_sem (k := 1) (f := b_gone) F sc_gone ?_, F.kp, F.bindsN (ps := ["keys", "at", "kept", "rule"]) fun _ _ _ _ _ _ us hl => match us, hl with | [_, _, _, _], _ => rfl⟩
  intro cdv A outer s H E hr tk hp
  exact (ss_cons (ss_if (st_cmp (op_eqX hr) (fun _ _ _ => eqF_b) (seb (se_v 3)) (seb se_str)) (ss_one (ss_ret (se_ix (seb (se_ix (seb (se_v 2)) (seb se_int))) (seb se_int)))) ss_nil) (ss_cons (ss_if (st_cmp (op_eqX hr) (fun _ _ _ => eqF_b) (seb (se_v 3)) (seb se_str)) (ss_one (ss_ret (se_ix (seb (se_cb (cl_minD hr rfl) T.free_min (sba_cons (snb (sn_lc (own := [("key", 4), ("used", 5)]) sc_gone.nd (si_seq (seb (se_v 2))) (blkOk_by (own := [("key", 4), ("used", 5)]) (by kernel_rfl)) (fun _ _ _ _ _ => (sg_tp (sgs_cons (sg_nm (i := 4) sc_gone.nd) (sgs_cons (sg_nm (i := 5) sc_gone.nd) sgs_nil)))) (fun _ _ _ _ _ => sts_nil) (fun _ _ _ _ _ => (se_tup (sa_cons (se_v 5) (sa_cons (se_v 4) sa_nil)))))) sba_nil))) (seb se_int)))) ss_nil) (ss_one (ss_ret (se_ix (seb (se_cb (cl_minD hr rfl) T.free_min (sba_cons (snb (sn_lc (own := [("key", 4), ("used", 5)]) sc_gone.nd (si_seq (seb (se_v 2))) (blkOk_by (own := [("key", 4), ("used", 5)]) (by kernel_rfl)) (fun _ _ _ _ _ => (sg_tp (sgs_cons (sg_nm (i := 4) sc_gone.nd) (sgs_cons (sg_nm (i := 5) sc_gone.nd) sgs_nil)))) (fun _ _ _ _ _ => sts_nil) (fun _ _ _ _ _ => (se_tup (sa_cons (se_un un_negD (seb (se_call d_next_use (hr.mono (by decide)) takes0 (sa_cons (se_v 0) (sa_cons (se_v 1) (sa_cons (se_v 4) sa_nil)))))) (sa_cons (se_v 4) sa_nil)))))) sba_nil))) (seb se_int))))))
theorem ok_fetched_of (T : Tx K mg) (d_gone : Dn P w K mg base "gone" 2 4 sem_gone) : Dn P w K mg base "fetched_of" 3 3 sem_fetched_of := by
  obtain ⟨fd, F⟩ := T.f_fetched_of
  refine ⟨_, fd, _, T.g_fetched_of, fn_sem (k := 2) (f := b_fetched_of) F sc_fetched_of ?_, F.kp, F.bindsN (ps := ["keys", "room", "rule"]) fun _ _ _ _ _ _ us hl => match us, hl with | [_, _, _], _ => rfl⟩
  intro cdv A outer s H E hr tk hp
  exact (ss_cons (ss_set (i := 3) sc_fetched_of.nd (sne (sn_lst sa_nil))) (ss_cons (ss_own (i := 4) sc_fetched_of.nd (sn_lst sa_nil)) (ss_cons (ss_for (f := lp_fetched_of_1) hp (sis_enum T.free_enumerate (sa_cons (se_v 0) sa_nil)) (sg_tp (sgs_cons (sg_nm (i := 5) sc_fetched_of.nd) (sgs_cons (sg_nm (i := 6) sc_fetched_of.nd) sgs_nil))) (ss_one (ss_if (st_cmp (op_inX hr) (fun _ _ _ => inF_b) (seb (se_v 6)) (snb (sn_lc (own := [("one", 8), ("used", 9)]) sc_fetched_of.nd (si_seq (seb (se_v 3))) (blkOk_by (own := [("one", 8), ("used", 9)]) (by kernel_rfl)) (fun _ _ _ _ _ => (sg_tp (sgs_cons (sg_nm (i := 8) sc_fetched_of.nd) (sgs_cons (sg_nm (i := 9) sc_fetched_of.nd) sgs_nil)))) (fun _ _ _ _ _ => sts_nil) (fun _ _ _ _ _ => (se_v 8)))) (hm := by rfl)) (ss_one (ss_setLc (i := 3) (own := [("one", 8), ("used", 9)]) sc_fetched_of.nd (si_seq (seb (se_v 3))) (blkOk_by (own := [("one", 8), ("used", 9)]) (by kernel_rfl)) (fun _ _ _ _ _ => (sg_tp (sgs_cons (sg_nm (i := 8) sc_fetched_of.nd) (sgs_cons (sg_nm (i := 9) sc_fetched_of.nd) sgs_nil)))) (fun _ _ _ _ _ => sts_nil) (fun _ _ _ _ _ => (se_tup (sa_cons (se_v 8) (sa_cons (se_if (st_cmp (op_eqX hr) (fun _ _ _ => eqF_b) (seb (se_v 8)) (seb (se_v 6))) (se_v 5) (se_v 9)) sa_nil)))) (sw_true rfl rfl rfl (by kernel_rfl)))) (ss_cons (ss_app 4 (se_v 6)) (ss_cons (ss_if (st_cmp (op_eqX hr) (fun _ _ _ => eqF_b) (seb (se_cb cl_len T.free_len (sba_cons (seb (se_v 3)) sba_nil))) (seb (se_v 1))) (ss_cons (ss_set (i := 7) sc_fetched_of.nd (se_call d_gone (hr.mono (by decide)) tk (sa_cons (se_v 0) (sa_cons (se_v 5) (sa_cons (se_v 3) (sa_cons (se_v 2) sa_nil)))))) (ss_one (ss_setLc (i := 3) (own := [("row", 10)]) sc_fetched_of.nd (si_seq (seb (se_v 3))) (blkOk_by (own := [("row", 10)]) (by kernel_rfl)) (fun _ _ _ _ _ => (sg_nm (i := 10) sc_fetched_of.nd)) (fun _ _ _ _ _ => (sts_one (st_cmp (op_neX hr) (fun _ _ _ => neF_b) (seb (se_ix (seb (se_v 10)) (seb se_int))) (seb (se_v 7))))) (fun _ _ _ _ _ => (se_v 10)) (sw_true rfl rfl rfl (by kernel_rfl))))) ss_nil) (ss_one (ss_set (i := 3) sc_fetched_of.nd (se_op op_addD (seb (se_v 3)) (snb (sn_lst (sa_cons (se_tup (sa_cons (se_v 6) (sa_cons (se_v 5) sa_nil))) sa_nil))))))))))) (ss_one (ss_retV 4)))))
theorem ok_look_trip (T : Tx K mg) (d_look_pyramids : Dn P w K mg base "look_pyramids" 6 1 sem_look_pyramids) (d_is_window : Dn P w K mg base "is_window" 2 2 sem_is_window) : Dn P w K mg base "look_trip" 7 2 sem_look_trip := by
  obtain ⟨fd, F⟩ := T.f_look_trip
  refine ⟨_, fd, _, T.g_look_trip, fn_sem (k := 6) (f := b_look_trip) F sc_look_trip ?_, F.kp, F.bindsN (ps := ["pyramid", "trip"]) fun _ _ _ _ _ _ us hl => match us, hl with | [_, _], _ => rfl⟩
  intro cdv A outer s H E hr tk hp
  exact (ss_cons (ss_drop (se_call d_look_pyramids (hr.mono (by decide)) tk (sa_cons (se_v 0) sa_nil))) (ss_one (ss_if (st_w (sw_or (st_not (st_tru (seb (se_isi kit_lst T.free_isinstance T.free_list (seb (se_v 1)))))) (sw_or (st_cmp op_gtD (fun _ _ _ => cmpF_b) (seb (se_cb cl_len T.free_len (sba_cons (seb (se_v 1)) sba_nil))) (seb (se_globI T.c_MOST_TRIP))) (sw_or1 (st_tru (snb (sn_lc (own := [("one", 2)]) sc_look_trip.nd (si_seq (seb (se_v 1))) (blkOk_by (own := [("one", 2)]) (by kernel_rfl)) (fun _ _ _ _ _ => (sg_nm (i := 2) sc_look_trip.nd)) (fun _ _ _ _ _ => (sts_one (st_not (st_tru (seb (se_call d_is_window (hr.mono (by decide)) takes0 (sa_cons (se_v 0) (sa_cons (se_v 2) sa_nil)))))))) (fun _ _ _ _ _ => (se_v 2))))))))) (ss_one (ss_raise tk T.x_BadTrip)) ss_nil)))
theorem ok_fetched (T : Tx K mg) (d_look_trip : Dn P w K mg base "look_trip" 7 2 sem_look_trip) (d_is_within : Dn P w K mg base "is_within" 1 3 sem_is_within) (d_keys_of : Dn P w K mg base "keys_of" 2 2 sem_keys_of) (d_fetched_of : Dn P w K mg base "fetched_of" 3 3 sem_fetched_of) : Dk P w K mg base "fetched" 8 2 ["room", "rule"] sem_fetched := by
  obtain ⟨fd, F⟩ := T.f_fetched
  refine ⟨_, fd, _, T.g_fetched, fn_sem (k := 7) (f := b_fetched) F sc_fetched ?_, F.kp, kbindsN (ps := ["pyramid", "trip", "room", "rule"]) F 2 ["room", "rule"] fun _ _ _ _ _ _ us ws hl hm => match us, ws, hl, hm with | [_, _], [_, _], _, _ => rfl⟩
  intro cdv A outer s H E hr tk hp
  exact (ss_cons (ss_drop (se_call d_look_trip (hr.mono (by decide)) tk (sa_cons (se_v 0) (sa_cons (se_v 1) sa_nil)))) (ss_cons (ss_if (st_w (sw_or (st_not (st_tru (seb (se_call d_is_within (hr.mono (by decide)) tk (sa_cons (se_v 2) (sa_cons se_int (sa_cons (se_globI T.c_MOST_ROOM) sa_nil))))))) (sw_or (st_not (st_tru (seb (se_isi kit_str T.free_isinstance T.free_str (seb (se_v 3)))))) (sw_or1 (st_inCn T.t_RULES (seb (se_v 3))))))) (ss_one (ss_raise tk T.x_BadCount)) ss_nil) (ss_one (ss_ret (se_call d_fetched_of (hr.mono (by decide)) tk (sa_cons (se_call d_keys_of (hr.mono (by decide)) tk (sa_cons (se_v 0) (sa_cons (se_v 1) sa_nil))) (sa_cons (se_v 2) (sa_cons (se_v 3) sa_nil))))))))
theorem ok__law_cell (T : Tx K mg)  : Dn P w K mg base "_law_cell" 1 2 sem__law_cell := by
  obtain ⟨fd, F⟩ := T.f__law_cell
  refine ⟨_, fd, _, T.g__law_cell, fn_sem (k := 0) (f := b__law_cell) F sc__law_cell ?_, F.kp, F.bindsN (ps := ["script", "k"]) fun _ _ _ _ _ _ us hl => match us, hl with | [_, _], _ => rfl⟩
  intro cdv A outer s H E hr tk hp
  exact (ss_cons (ss_if (st_cmp op_ltD (fun _ _ _ => cmpF_b) (seb (se_v 1)) (seb (se_cb cl_len T.free_len (sba_cons (seb (se_v 0)) sba_nil)))) (ss_one (ss_ret (se_ix (seb (se_v 0)) (seb (se_v 1))))) ss_nil) (ss_one (ss_ret se_int)))
theorem ok__law_row (T : Tx K mg) (d__law_cell : Dn P w K mg base "_law_cell" 1 2 sem__law_cell) : Dn P w K mg base "_law_row" 2 2 sem__law_row := by
  obtain ⟨fd, F⟩ := T.f__law_row
  refine ⟨_, fd, _, T.g__law_row, fn_sem (k := 1) (f := b__law_row) F sc__law_row ?_, F.kp, F.bindsN (ps := ["script", "at"]) fun _ _ _ _ _ _ us hl => match us, hl with | [_, _], _ => rfl⟩
  intro cdv A outer s H E hr tk hp
  exact (ss_cons (ss_set (i := 2) sc__law_row.nd (se_call d__law_cell (hr.mono (by decide)) tk (sa_cons (se_v 0) (sa_cons (se_v 1) sa_nil)))) (ss_cons (ss_own (i := 3) sc__law_row.nd (sn_lst sa_nil)) (ss_cons (ss_for (f := lp__law_row_1) hp (sis_range1 T.free_range (sba_cons (seb se_int) sba_nil)) (sg_nm (i := 4) sc__law_row.nd) (ss_one (ss_if (st_cmp op_ltD (fun _ _ _ => cmpF_b) (seb (se_call d__law_cell (hr.mono (by decide)) tk (sa_cons (se_v 0) (sa_cons (se_v 1) sa_nil)))) (seb (se_op op_powD (seb se_int) (seb se_int)))) (ss_cons (ss_set (i := 2) sc__law_row.nd (se_op op_modD (seb (se_op op_addD (seb (se_op op_addD (seb (se_op op_addD (seb (se_op op_mulD (seb (se_v 2)) (seb se_int))) (seb (se_op op_mulD (seb se_int) (seb (se_v 4)))))) (seb se_int))) (seb (se_call d__law_cell (hr.mono (by decide)) tk (sa_cons (se_v 0) (sa_cons (se_op op_modD (seb (se_op op_addD (seb (se_op op_addD (seb (se_v 1)) (seb se_int))) (seb (se_v 4)))) (seb se_int)) sa_nil)))))) (seb se_int))) (ss_one (ss_app 3 (se_op op_modD (seb (se_op op_divD (seb (se_v 2)) (seb se_int))) (seb se_int))))) (ss_cons (ss_app 3 (se_op op_modD (seb (se_v 2)) (seb se_int))) (ss_one (ss_set (i := 2) sc__law_row.nd (se_op op_divD (seb (se_v 2)) (seb se_int)))))))) (ss_one (ss_retV 3)))))
theorem ok__law_some_picture (T : Tx K mg) (d__law_row : Dn P w K mg base "_law_row" 2 2 sem__law_row) : Dn P w K mg base "_law_some_picture" 3 2 sem__law_some_picture := by
  obtain ⟨fd, F⟩ := T.f__law_some_picture
  refine ⟨_, fd, _, T.g__law_some_picture, fn_sem (k := 2) (f := b__law_some_picture) F sc__law_some_picture ?_, F.kp, F.bindsN (ps := ["script", "at"]) fun _ _ _ _ _ _ us hl => match us, hl with | [_, _], _ => rfl⟩
  intro cdv A outer s H E hr tk hp
  exact (ss_cons (ss_set (i := 2) sc__law_some_picture.nd (se_call d__law_row (hr.mono (by decide)) tk (sa_cons (se_v 0) (sa_cons (se_v 1) sa_nil)))) (ss_cons (ss_par (i := 3) (j := 4) sc__law_some_picture.nd (by decide) (sa_cons (se_op op_addD (seb se_int) (seb (se_op op_modD (seb (se_ix (seb (se_v 2)) (seb se_int))) (seb se_int)))) (sa_cons (se_op op_addD (seb se_int) (seb (se_op op_modD (seb (se_ix (seb (se_v 2)) (seb se_int))) (seb se_int)))) sa_nil)) (by rfl)) (ss_cons (ss_set (i := 5) sc__law_some_picture.nd (se_op op_modD (seb (se_ix (seb (se_v 2)) (seb se_int))) (seb se_int))) (ss_cons (ss_own (i := 6) sc__law_some_picture.nd (sn_lst sa_nil)) (ss_cons (ss_for (f := lp__law_some_picture_2) hp (sis_range1 T.free_range (sba_cons (seb (se_v 3)) sba_nil)) (sg_nm (i := 7) sc__law_some_picture.nd) (ss_cons (ss_own (i := 8) sc__law_some_picture.nd (sn_lst sa_nil)) (ss_cons (ss_for (f := lp__law_some_picture_1) hp (sis_range1 T.free_range (sba_cons (seb (se_v 4)) sba_nil)) (sg_nm (i := 9) sc__law_some_picture.nd) (ss_cons (ss_set (i := 10) sc__law_some_picture.nd (se_ix (seb (se_v 2)) (seb (se_op op_modD (seb (se_op op_addD (seb (se_op op_addD (seb (se_op op_mulD (seb se_int) (seb (se_v 7)))) (seb (se_op op_mulD (seb se_int) (seb (se_v 9)))))) (seb se_int))) (seb se_int))))) (ss_cons (ss_set (i := 11) sc__law_some_picture.nd (se_ix (snb (sn_lst (sa_cons (se_op op_modD (seb (se_op op_mulD (seb (se_v 10)) (seb se_int))) (seb se_int)) (sa_cons (se_op op_mulD (seb (se_op op_modD (seb (se_v 10)) (seb se_int))) (seb se_int)) (sa_cons (se_op op_modD (seb (se_ix (seb (se_v 2)) (seb se_int))) (seb se_int)) (sa_cons (se_op op_modD (seb (se_op op_addD (seb (se_op op_mulD (seb (se_v 9)) (seb (se_ix (seb (se_v 2)) (seb se_int))))) (seb (se_op op_mulD (seb (se_v 7)) (seb se_int))))) (seb se_int)) sa_nil)))))) (seb (se_v 5)))) (ss_cons (ss_set (i := 12) sc__law_some_picture.nd (se_ix (seb (se_v 2)) (seb (se_op op_modD (seb (se_op op_addD (seb (se_op op_addD (seb (se_op op_mulD (seb se_int) (seb (se_v 7)))) (seb (se_op op_mulD (seb se_int) (seb (se_v 9)))))) (seb (se_ix (seb (se_v 2)) (seb se_int))))) (seb se_int))))) (ss_cons (ss_set (i := 13) sc__law_some_picture.nd (se_and (se_cmp (op_eqX hr) (seb (se_op op_modD (seb (se_ix (seb (se_v 2)) (seb se_int))) (seb se_int))) (seb se_int)) (se_one (se_cmp (op_eqX hr) (seb (se_op op_modD (seb (se_v 12)) (seb (se_op op_addD (seb se_int) (seb (se_op op_modD (seb (se_ix (seb (se_v 2)) (seb se_int))) (seb se_int))))))) (seb se_int))))) (ss_one (ss_app 8 (se_if (st_tru (seb (se_v 13))) se_non (se_v 11))))))))) (ss_one (ss_app 6 (se_ct cl_tup T.free_tuple (sba_cons (sb_v 8) sba_nil))))))) (ss_one (ss_ret (se_ct cl_tup T.free_tuple (sba_cons (sb_v 6) sba_nil)))))))))
theorem ok__law_trip (T : Tx K mg)  : Dn P w K mg base "_law_trip" 1 3 sem__law_trip := by
  obtain ⟨fd, F⟩ := T.f__law_trip
  refine ⟨_, fd, _, T.g__law_trip, fn_sem (k := 0) (f := b__law_trip) F sc__law_trip ?_, F.kp, F.bindsN (ps := ["row", "at", "top"]) fun _ _ _ _ _ _ us hl => match us, hl with | [_, _, _], _ => rfl⟩
  intro cdv A outer s H E hr tk hp
  exact (ss_cons (ss_set (i := 3) sc__law_trip.nd (se_op op_modD (seb (se_ix (seb (se_v 0)) (seb (se_op op_modD (seb (se_op op_addD (seb (se_v 1)) (seb se_int))) (seb se_int))))) (seb (se_op op_addD (seb (se_v 2)) (seb se_int))))) (ss_cons (ss_par (i := 4) (j := 5) sc__law_trip.nd (by decide) (sa_cons (se_op op_modD (seb (se_ix (seb (se_v 0)) (seb (se_op op_modD (seb (se_op op_addD (seb (se_v 1)) (seb se_int))) (seb se_int))))) (seb se_int)) (sa_cons (se_op op_modD (seb (se_ix (seb (se_v 0)) (seb (se_op op_modD (seb (se_op op_addD (seb (se_v 1)) (seb se_int))) (seb se_int))))) (seb se_int)) sa_nil)) (by rfl)) (ss_cons (ss_own (i := 6) sc__law_trip.nd (sn_lst sa_nil)) (ss_cons (ss_for (f := lp__law_trip_1) hp (sis_range1 T.free_range (sba_cons (seb (se_op op_modD (seb (se_ix (seb (se_v 0)) (seb (se_op op_modD (seb (se_v 1)) (seb se_int))))) (seb se_int))) sba_nil)) (sg_nm (i := 7) sc__law_trip.nd) (ss_cons (ss_set (i := 8) sc__law_trip.nd (se_op op_addD (seb (se_op op_addD (seb (se_v 1)) (seb se_int))) (seb (se_op op_mulD (seb se_int) (seb (se_v 7)))))) (ss_cons (ss_if (st_cmp (op_eqX hr) (fun _ _ _ => eqF_b) (seb (se_op op_modD (seb (se_ix (seb (se_v 0)) (seb (se_op op_modD (seb (se_v 8)) (seb se_int))))) (seb se_int))) (seb se_int)) (ss_one (ss_set (i := 3) sc__law_trip.nd (se_op op_modD (seb (se_ix (seb (se_v 0)) (seb (se_op op_modD (seb (se_op op_addD (seb (se_v 8)) (seb se_int))) (seb se_int))))) (seb (se_op op_addD (seb (se_v 2)) (seb se_int)))))) ss_nil) (ss_cons (ss_set (i := 4) sc__law_trip.nd (se_cb (cl_max2 rfl) T.free_max (sba_cons (seb se_int) (sba_cons (seb (se_op op_subD (seb (se_op op_addD (seb (se_v 4)) (seb (se_op op_modD (seb (se_ix (seb (se_v 0)) (seb (se_op op_modD (seb (se_op op_addD (seb (se_v 8)) (seb se_int))) (seb se_int))))) (seb se_int))))) (seb se_int))) sba_nil)))) (ss_cons (ss_set (i := 5) sc__law_trip.nd (se_cb (cl_max2 rfl) T.free_max (sba_cons (seb se_int) (sba_cons (seb (se_op op_subD (seb (se_op op_addD (seb (se_v 5)) (seb (se_op op_modD (seb (se_ix (seb (se_v 0)) (seb (se_op op_modD (seb (se_op op_addD (seb (se_v 8)) (seb se_int))) (seb se_int))))) (seb se_int))))) (seb se_int))) sba_nil)))) (ss_cons (ss_set (i := 9) sc__law_trip.nd (se_ix (seb (se_v 0)) (seb (se_op op_modD (seb (se_op op_addD (seb (se_v 8)) (seb se_int))) (seb se_int))))) (ss_one (ss_app 6 (se_tup (sa_cons (se_v 3) (sa_cons (se_op op_divD (seb (se_v 4)) (seb (se_op op_addD (seb se_int) (seb (se_v 3))))) (sa_cons (se_op op_divD (seb (se_v 5)) (seb (se_op op_addD (seb se_int) (seb (se_v 3))))) (sa_cons (se_op op_addD (seb se_int) (seb (se_op op_modD (seb (se_v 9)) (seb se_int)))) (sa_cons (se_op op_addD (seb se_int) (seb (se_op op_modD (seb (se_op op_divD (seb (se_v 9)) (seb se_int))) (seb se_int)))) sa_nil)))))))))))))) (ss_one (ss_retV 6))))))
theorem ok_law (T : Tx K mg) {fd : FuncData} (F : FunD K "law" "law" (defArgs s_law) (defBody s_law) (defScope s_law) [] [] (He.ga K "law") fd) (d__law_row : Dn P w K mg base "_law_row" 2 2 sem__law_row) (d__law_some_picture : Dn P w K mg base "_law_some_picture" 3 2 sem__law_some_picture) (d_built : Dn P w K mg base "built" 5 2 sem_built) (d_levels : Dn P w K mg base "levels" 7 1 sem_levels) (d__law_trip : Dn P w K mg base "_law_trip" 1 3 sem__law_trip) (d_needed : Dn P w K mg base "needed" 8 2 sem_needed) (d_fetched : Dk P w K mg base "fetched" 8 2 ["room", "rule"] sem_fetched) : FnOk P w K mg base (L2.CX P w) 9 (He.ga K "law") fd ["script"] (spP K 1 sem_law) := by
  refine fn_sem (k := 8) (f := b_law) F sc_law ?_
  intro cdv A outer s H E hr tk hp
  exact (ss_cons (ss_set (i := 1) sc_law.nd (se_call d__law_row (hr.mono (by decide)) tk (sa_cons (se_v 0) (sa_cons se_int sa_nil)))) (ss_cons (ss_set (i := 2) sc_law.nd (se_call d_built (hr.mono (by decide)) tk (sa_cons (se_call d__law_some_picture (hr.mono (by decide)) tk (sa_cons (se_v 0) (sa_cons se_int sa_nil))) (sa_cons se_int sa_nil)))) (ss_cons (ss_set (i := 3) sc_law.nd (se_sl (seb (se_call d__law_trip (hr.mono (by decide)) tk (sa_cons (se_v 1) (sa_cons se_int (sa_cons (se_op op_subD (seb (se_call d_levels (hr.mono (by decide)) tk (sa_cons (se_v 2) sa_nil))) (seb se_int)) sa_nil))))) so_none (so_some (seb se_int)))) (ss_cons (ss_set (i := 4) sc_law.nd (sne (sn_lst sa_nil))) (ss_cons (ss_for (f := lp_law_1) hp (sis_seq (se_v 3)) (sg_nm (i := 5) sc_law.nd) (ss_one (ss_set (i := 4) sc_law.nd (se_op op_addD (seb (se_v 4)) (seb (se_call d_needed (hr.mono (by decide)) tk (sa_cons (se_v 2) (sa_cons (se_v 5) sa_nil)))))))) (ss_cons (ss_if (st_cmp op_gtD (fun _ _ _ => cmpF_b) (seb (se_cb cl_len T.free_len (sba_cons (seb (se_v 4)) sba_nil))) (seb se_int)) (ss_cons (ss_set (i := 3) sc_law.nd (se_sl (seb (se_v 3)) so_none (so_some (seb se_int)))) (ss_one (ss_set (i := 4) sc_law.nd (se_call d_needed (hr.mono (by decide)) tk (sa_cons (se_v 2) (sa_cons (se_ix (seb (se_v 3)) (seb se_int)) sa_nil)))))) ss_nil) (ss_cons (ss_set (i := 6) sc_law.nd (se_op op_addD (seb se_int) (seb (se_op op_modD (seb (se_ix (seb (se_v 1)) (seb se_int))) (seb se_int))))) (ss_cons (ss_ndone (i := 7) hr sc_law.nd (se_tup sa_nil) se_int) (ss_cons (ss_for (f := lp_law_5) hp (sis_seq (se_v 4)) (sg_nm (i := 8) sc_law.nd) (ss_cons (ss_ndnew (i := 9) sc_law.nd) (ss_cons (ss_for (f := lp_law_4) hp (sis_seq (sne (sn_ndkeys 7 hr rfl T.free_sorted))) (sg_nm (i := 10) sc_law.nd) (ss_cons (ss_if (st_cmp (op_inT hr) (fun _ _ _ => inTF_b) (seb (se_v 8)) (seb (se_v 10)) (hm := by rfl)) (ss_one (ss_own (i := 11) sc_law.nd (sn_lst (sa_cons (se_tup (sa_cons (se_v 10) (sa_cons (se_ndget 7 hr (se_v 10)) sa_nil))) sa_nil)))) (ss_one (ss_if (st_cmp op_ltD (fun _ _ _ => cmpF_b) (seb (se_cb cl_len T.free_len (sba_cons (seb (se_v 10)) sba_nil))) (seb (se_v 6))) (ss_one (ss_own (i := 11) sc_law.nd (sn_lst (sa_cons (se_tup (sa_cons (se_ct cl_tup T.free_tuple (sba_cons (snb (sn_cb (cl_sortedT hr rfl) T.free_sorted (sba_cons (seb (se_op op_addD (seb (se_v 10)) (seb (se_tup (sa_cons (se_v 8) sa_nil))))) sba_nil))) sba_nil)) (sa_cons (se_op op_addD (seb (se_ndget 7 hr (se_v 10))) (seb se_int)) sa_nil))) sa_nil)))) (ss_cons (ss_own (i := 11) sc_law.nd (sn_lst sa_nil)) (ss_one (ss_for (f := lp_law_2) hp (sis_seq (se_v 10)) (sg_nm (i := 12) sc_law.nd) (ss_cons (ss_setLc (i := 13) (own := [("one", 16)]) sc_law.nd (si_seq (seb (se_v 10))) (blkOk_by (own := [("one", 16)]) (by kernel_rfl)) (fun _ _ _ _ _ => (sg_nm (i := 16) sc_law.nd)) (fun _ _ _ _ _ => (sts_one (st_cmp (op_neX hr) (fun _ _ _ => neF_b) (seb (se_v 16)) (seb (se_v 12))))) (fun _ _ _ _ _ => (se_v 16)) (sw_true rfl rfl rfl (by kernel_rfl))) (ss_one (ss_app 11 (se_tup (sa_cons (se_ct cl_tup T.free_tuple (sba_cons (snb (sn_cb (cl_sorted hr rfl) T.free_sorted (sba_cons (seb (se_op op_addD (seb (se_v 13)) (snb (sn_lst (sa_cons (se_v 8) sa_nil))))) sba_nil))) sba_nil)) (sa_cons (se_op op_addD (seb (se_ndget 7 hr (se_v 10))) (seb se_int)) sa_nil)))))))))))) (ss_frz 11 (ss_one (ss_for (f := lp_law_3) hp (sis_seq (se_v 11)) (sg_tp (sgs_cons (sg_nm (i := 14) sc_law.nd) (sgs_cons (sg_nm (i := 15) sc_law.nd) sgs_nil))) (ss_one (ss_ndput 9 hr (se_v 14) (se_cb (cl_min2 rfl) T.free_min (sba_cons (seb (se_v 15)) (sba_cons (seb (se_ndget2 9 hr (se_v 14) (se_v 15))) sba_nil)))))))))) (ss_one (ss_ndmv (i := 7) (j := 9) sc_law.nd))))) (ss_one (ss_ret (se_cmp (op_eqX hr) (seb (se_cb cl_len T.free_len (sba_cons (seb (se_callK d_fetched (hr.mono (by decide)) tk (sa_cons (se_v 2) (sa_cons (se_v 3) sa_nil)) (sk_cons (se_v 6) (sk_cons se_str sk_nil)))) sba_nil))) (seb (se_cb (cl_min1 hr rfl) T.free_min (sba_cons (snb (sn_lc (own := [("kept", 10)]) sc_law.nd (si_seq (snb (sn_ndkeys 7 hr rfl T.free_sorted))) (blkOk_by (own := [("kept", 10)]) (by kernel_rfl)) (fun _ _ _ _ _ => (sg_nm (i := 10) sc_law.nd)) (fun _ _ _ _ _ => sts_nil) (fun _ _ _ _ _ => (se_ndget 7 hr (se_v 10))))) sba_nil)))))))))))))))
end
def dd (i : Nat) (x y : Str) (kw : List (Str × He.Dv) := []) : He.DefD := ⟨(x, none), y, y, defArgs (topS i), defBody (topS i), defScope (topS i), [], kw⟩
def fn : List He.DefD := ([dd 9 "is_within" "is_within", dd 13 "is_cell" "is_cell", dd 14 "is_picture" "is_picture", dd 15 "look_pictures" "look", dd 19 "pair_at" "pair_at", dd 20 "halved" "halved", dd 21 "tiles_of" "tiles_of", dd 22 "built_of" "built_of", dd 23 "look_side" "look_side", dd 24 "built" "built", dd 25 "is_pair" "is_pair", dd 26 "is_tile" "is_tile", dd 27 "has_form" "has_form", dd 28 "picture_in" "picture_in", dd 29 "is_pyramid" "is_pyramid", dd 30 "look_pyramids" "look", dd 32 "top_of" "top_of", dd 33 "levels" "levels", dd 34 "is_window" "is_window", dd 35 "needed_of" "needed_of"] : List He.DefD) ++ ([dd 36 "look_window" "look_window", dd 37 "needed" "needed", dd 42 "keys_of" "keys_of", dd 43 "next_use" "next_use", dd 44 "gone" "gone", dd 45 "fetched_of" "fetched_of", dd 46 "look_trip" "look_trip", dd 47 "fetched" "fetched" [("room", .int 4), ("rule", .str "old")], dd 49 "_law_cell" "_law_cell", dd 50 "_law_row" "_law_row", dd 51 "_law_some_picture" "_law_some_picture", dd 52 "_law_trip" "_law_trip", dd 53 "law" "law"] : List He.DefD)
def fa : List He.Fa := ([.glo "is_within", .glo "is_cell", .glo "is_picture", .glo "look_pictures", .glo "pair_at", .glo "halved", .glo "tiles_of", .glo "built_of", .glo "look_side", .glo "built", .glo "is_pair", .glo "is_tile", .glo "has_form", .glo "picture_in", .glo "is_pyramid", .glo "look_pyramids", .glo "top_of", .glo "levels", .glo "is_window", .glo "needed_of"] : List He.Fa) ++ ([.glo "look_window", .glo "needed", .glo "keys_of", .glo "next_use", .glo "gone", .glo "fetched_of", .glo "look_trip", .glo "fetched", .glo "_law_cell", .glo "_law_row", .glo "_law_some_picture", .glo "_law_trip", .glo "law", .free "bool", .free "enumerate", .free "int", .free "isinstance", .free "len", .free "list", .free "max"] : List He.Fa) ++ ([.free "min", .free "range", .free "sorted", .free "str", .free "sum", .free "tuple", .int "MOST_LEVEL" 255, .int "MOST_ROOM" 40, .int "MOST_TRIP" 12, .int "MOST_WIDE" 120, .glo "BadCount", .exc "BadCount", .glo "BadPicture", .exc "BadPicture", .glo "BadPyramid", .exc "BadPyramid", .glo "BadSide", .exc "BadSide", .glo "BadTrip", .exc "BadTrip"] : List He.Fa) ++ ([.glo "BadWindow", .exc "BadWindow", .glo "RULES", .glo "SIDES"] : List He.Fa)
abbrev R : PySem.W.OpenRow := PySem.W.OpenLaw.row PySem.Challenge.rw_vastview_k27_whole_the_least_of_all_ways
def chks : List VV.Chk := [fun K => He.tupB K "RULES" (([.str "old", .str "far", .str "first"] : List D).map VV.dvD), fun K => He.tupB K "SIDES" (([.int 2, .int 4, .int 8] : List D).map VV.dvD), fun K => !VV.lamB K]
def loose : List Str := (["VastError", "BadCount", "BadPicture", "BadSide", "BadPyramid", "BadWindow", "BadTrip", "is_within", "MOST_LEVEL", "MOST_WIDE", "is_cell", "is_picture", "look", "look_pictures", "SIDES", "pair_at", "halved", "tiles_of", "built_of", "look_side", "built", "is_pair", "is_tile", "has_form", "picture_in", "is_pyramid", "look_pyramids", "top_of", "levels", "is_window"] : List Str) ++ (["needed_of", "look_window", "needed", "MOST_TRIP", "MOST_ROOM", "RULES", "keys_of", "next_use", "gone", "fetched_of", "look_trip", "fetched", "_law_cell", "_law_row", "_law_some_picture", "_law_trip"] : List Str)
abbrev hk : PySem.W.Hook := VV.hookC 5 fa fn chks
def ob (s : PySem.W.SharedT) : AlV := obsC 5 fa fn chks (HandSHeadRun.getT s)
theorem ob_eq (s : PySem.W.SharedT) : ob s = hk.obs s.abs := obsC_eq (HandSHeadRun.getT_eq s)
theorem run (w : World) : HandSHeadRun.RunEq R (PySem.W.view R.prog [53]) hk ob 4000 loose w := by
  intro os
  kernel_rfl
theorem tx {K : PySem.W.Frag} {h : Heap} {mg : Str → Option Value} (X : K.In h) (G : h.Ns mainGlobals mg) (c : He.SaysD fa fn K) (ce : ∀ c ∈ chks, c K = true) : Tx K mg where
  free_bool := He.free_ok X G (c.fact 33 (f := .free "bool") rfl)
  free_enumerate := He.free_ok X G (c.fact 34 (f := .free "enumerate") rfl)
  free_int := He.free_ok X G (c.fact 35 (f := .free "int") rfl)
  free_isinstance := He.free_ok X G (c.fact 36 (f := .free "isinstance") rfl)
  free_len := He.free_ok X G (c.fact 37 (f := .free "len") rfl)
  free_list := He.free_ok X G (c.fact 38 (f := .free "list") rfl)
  free_max := He.free_ok X G (c.fact 39 (f := .free "max") rfl)
  free_min := He.free_ok X G (c.fact 40 (f := .free "min") rfl)
  free_range := He.free_ok X G (c.fact 41 (f := .free "range") rfl)
  free_sorted := He.free_ok X G (c.fact 42 (f := .free "sorted") rfl)
  free_str := He.free_ok X G (c.fact 43 (f := .free "str") rfl)
  free_sum := He.free_ok X G (c.fact 44 (f := .free "sum") rfl)
  free_tuple := He.free_ok X G (c.fact 45 (f := .free "tuple") rfl)
  c_MOST_LEVEL := He.int_ok X G (c.fact 46 (f := .int "MOST_LEVEL" 255) rfl)
  c_MOST_ROOM := He.int_ok X G (c.fact 47 (f := .int "MOST_ROOM" 40) rfl)
  c_MOST_TRIP := He.int_ok X G (c.fact 48 (f := .int "MOST_TRIP" 12) rfl)
  c_MOST_WIDE := He.int_ok X G (c.fact 49 (f := .int "MOST_WIDE" 120) rfl)
  x_BadCount := ⟨He.glo_ok X G (c.fact 50 (f := .glo "BadCount") rfl), c.fact 51 (f := .exc "BadCount") rfl⟩
  x_BadPicture := ⟨He.glo_ok X G (c.fact 52 (f := .glo "BadPicture") rfl), c.fact 53 (f := .exc "BadPicture") rfl⟩
  x_BadPyramid := ⟨He.glo_ok X G (c.fact 54 (f := .glo "BadPyramid") rfl), c.fact 55 (f := .exc "BadPyramid") rfl⟩
  x_BadSide := ⟨He.glo_ok X G (c.fact 56 (f := .glo "BadSide") rfl), c.fact 57 (f := .exc "BadSide") rfl⟩
  x_BadTrip := ⟨He.glo_ok X G (c.fact 58 (f := .glo "BadTrip") rfl), c.fact 59 (f := .exc "BadTrip") rfl⟩
  x_BadWindow := ⟨He.glo_ok X G (c.fact 60 (f := .glo "BadWindow") rfl), c.fact 61 (f := .exc "BadWindow") rfl⟩
  t_RULES := VV.tupC_of (He.glo_ok X G (c.fact 62 (f := .glo "RULES") rfl)) (by rfl) (VV.chk_at ce 0 (c := fun K => He.tupB K "RULES" (([.str "old", .str "far", .str "first"] : List D).map VV.dvD)) rfl)
  t_SIDES := VV.tupC_of (He.glo_ok X G (c.fact 63 (f := .glo "SIDES") rfl)) (by rfl) (VV.chk_at ce 1 (c := fun K => He.tupB K "SIDES" (([.int 2, .int 4, .int 8] : List D).map VV.dvD)) rfl)
  g_is_within := He.glo_ok X G (c.fact 0 (f := .glo "is_within") rfl)
  f_is_within := c.def_ 0 (d := dd 9 "is_within" "is_within") rfl
  g_is_cell := He.glo_ok X G (c.fact 1 (f := .glo "is_cell") rfl)
  f_is_cell := c.def_ 1 (d := dd 13 "is_cell" "is_cell") rfl
  g_is_picture := He.glo_ok X G (c.fact 2 (f := .glo "is_picture") rfl)
  f_is_picture := c.def_ 2 (d := dd 14 "is_picture" "is_picture") rfl
  g_look_pictures := He.glo_ok X G (c.fact 3 (f := .glo "look_pictures") rfl)
  f_look_pictures := c.def_ 3 (d := dd 15 "look_pictures" "look") rfl
  g_pair_at := He.glo_ok X G (c.fact 4 (f := .glo "pair_at") rfl)
  f_pair_at := c.def_ 4 (d := dd 19 "pair_at" "pair_at") rfl
  g_halved := He.glo_ok X G (c.fact 5 (f := .glo "halved") rfl)
  f_halved := c.def_ 5 (d := dd 20 "halved" "halved") rfl
  g_tiles_of := He.glo_ok X G (c.fact 6 (f := .glo "tiles_of") rfl)
  f_tiles_of := c.def_ 6 (d := dd 21 "tiles_of" "tiles_of") rfl
  g_built_of := He.glo_ok X G (c.fact 7 (f := .glo "built_of") rfl)
  f_built_of := c.def_ 7 (d := dd 22 "built_of" "built_of") rfl
  g_look_side := He.glo_ok X G (c.fact 8 (f := .glo "look_side") rfl)
  f_look_side := c.def_ 8 (d := dd 23 "look_side" "look_side") rfl
  g_built := He.glo_ok X G (c.fact 9 (f := .glo "built") rfl)
  f_built := c.def_ 9 (d := dd 24 "built" "built") rfl
  g_is_pair := He.glo_ok X G (c.fact 10 (f := .glo "is_pair") rfl)
  f_is_pair := c.def_ 10 (d := dd 25 "is_pair" "is_pair") rfl
  g_is_tile := He.glo_ok X G (c.fact 11 (f := .glo "is_tile") rfl)
  f_is_tile := c.def_ 11 (d := dd 26 "is_tile" "is_tile") rfl
  g_has_form := He.glo_ok X G (c.fact 12 (f := .glo "has_form") rfl)
  f_has_form := c.def_ 12 (d := dd 27 "has_form" "has_form") rfl
  g_picture_in := He.glo_ok X G (c.fact 13 (f := .glo "picture_in") rfl)
  f_picture_in := c.def_ 13 (d := dd 28 "picture_in" "picture_in") rfl
  g_is_pyramid := He.glo_ok X G (c.fact 14 (f := .glo "is_pyramid") rfl)
  f_is_pyramid := c.def_ 14 (d := dd 29 "is_pyramid" "is_pyramid") rfl
  g_look_pyramids := He.glo_ok X G (c.fact 15 (f := .glo "look_pyramids") rfl)
  f_look_pyramids := c.def_ 15 (d := dd 30 "look_pyramids" "look") rfl
  g_top_of := He.glo_ok X G (c.fact 16 (f := .glo "top_of") rfl)
  f_top_of := c.def_ 16 (d := dd 32 "top_of" "top_of") rfl
  g_levels := He.glo_ok X G (c.fact 17 (f := .glo "levels") rfl)
  f_levels := c.def_ 17 (d := dd 33 "levels" "levels") rfl
  g_is_window := He.glo_ok X G (c.fact 18 (f := .glo "is_window") rfl)
  f_is_window := c.def_ 18 (d := dd 34 "is_window" "is_window") rfl
  g_needed_of := He.glo_ok X G (c.fact 19 (f := .glo "needed_of") rfl)
  f_needed_of := c.def_ 19 (d := dd 35 "needed_of" "needed_of") rfl
  g_look_window := He.glo_ok X G (c.fact 20 (f := .glo "look_window") rfl)
  f_look_window := c.def_ 20 (d := dd 36 "look_window" "look_window") rfl
  g_needed := He.glo_ok X G (c.fact 21 (f := .glo "needed") rfl)
  f_needed := c.def_ 21 (d := dd 37 "needed" "needed") rfl
  g_keys_of := He.glo_ok X G (c.fact 22 (f := .glo "keys_of") rfl)
  f_keys_of := c.def_ 22 (d := dd 42 "keys_of" "keys_of") rfl
  g_next_use := He.glo_ok X G (c.fact 23 (f := .glo "next_use") rfl)
  f_next_use := c.def_ 23 (d := dd 43 "next_use" "next_use") rfl
  g_gone := He.glo_ok X G (c.fact 24 (f := .glo "gone") rfl)
  f_gone := c.def_ 24 (d := dd 44 "gone" "gone") rfl
  g_fetched_of := He.glo_ok X G (c.fact 25 (f := .glo "fetched_of") rfl)
  f_fetched_of := c.def_ 25 (d := dd 45 "fetched_of" "fetched_of") rfl
  g_look_trip := He.glo_ok X G (c.fact 26 (f := .glo "look_trip") rfl)
  f_look_trip := c.def_ 26 (d := dd 46 "look_trip" "look_trip") rfl
  g_fetched := He.glo_ok X G (c.fact 27 (f := .glo "fetched") rfl)
  f_fetched := c.def_ 27 (d := dd 47 "fetched" "fetched" [("room", .int 4), ("rule", .str "old")]) rfl
  g__law_cell := He.glo_ok X G (c.fact 28 (f := .glo "_law_cell") rfl)
  f__law_cell := c.def_ 28 (d := dd 49 "_law_cell" "_law_cell") rfl
  g__law_row := He.glo_ok X G (c.fact 29 (f := .glo "_law_row") rfl)
  f__law_row := c.def_ 29 (d := dd 50 "_law_row" "_law_row") rfl
  g__law_some_picture := He.glo_ok X G (c.fact 30 (f := .glo "_law_some_picture") rfl)
  f__law_some_picture := c.def_ 30 (d := dd 51 "_law_some_picture" "_law_some_picture") rfl
  g__law_trip := He.glo_ok X G (c.fact 31 (f := .glo "_law_trip") rfl)
  f__law_trip := c.def_ 31 (d := dd 52 "_law_trip" "_law_trip") rfl
  g_law := He.glo_ok X G (c.fact 32 (f := .glo "law") rfl)
  f_law := c.def_ 32 (d := dd 53 "law" "law") rfl
theorem facts {P : Program} {w : World} {K : PySem.W.Frag} {h : Heap} {mg : Str → Option Value} {f : Addr} (X : K.In h) (G : h.Ns mainGlobals mg) (hfa : mg ("law" : Str) = some (.ref f)) (c : He.SaysD fa fn K) (ce : ∀ c ∈ chks, c K = true) :
    ∃ fd : FuncData, (∀ (s : Shared) (v : Value), BindsTo s fd ⟨[v], []⟩ [("script", v)]) ∧ ∀ base : Heap, K.In base → base.Ns mainGlobals mg → FnOk P w K mg base (L2.CX P w) 9 f fd ["script"] (spP K 1 sem_law) := by
  have T := tx X G c ce
  obtain ⟨fd, F⟩ := T.f_law
  have e := hfa.symm.trans T.g_law
  cases e
  have b := FunD.bindsA (ps := ["script"]) F fun _ _ _ _ _ _ us hl => match us, hl with | [_], _ => rfl
  refine ⟨fd, fun s v => b s [v] rfl, fun base _ _ => ?_⟩
  have d_is_within := ok_is_within (P := P) (w := w) (base := base) T 
  have d_is_cell := ok_is_cell (P := P) (w := w) (base := base) T d_is_within
  have d_is_picture := ok_is_picture (P := P) (w := w) (base := base) T d_is_cell
  have d_look_pictures := ok_look_pictures (P := P) (w := w) (base := base) T d_is_picture
  have d_pair_at := ok_pair_at (P := P) (w := w) (base := base) T 
  have d_halved := ok_halved (P := P) (w := w) (base := base) T d_pair_at
  have d_tiles_of := ok_tiles_of (P := P) (w := w) (base := base) T d_pair_at
  have d_built_of := ok_built_of (P := P) (w := w) (base := base) T d_tiles_of d_halved
  have d_look_side := ok_look_side (P := P) (w := w) (base := base) T d_is_within
  have d_built := ok_built (P := P) (w := w) (base := base) T d_look_pictures d_look_side d_built_of
  have d_is_pair := ok_is_pair (P := P) (w := w) (base := base) T d_is_within
  have d_is_tile := ok_is_tile (P := P) (w := w) (base := base) T d_is_within d_is_pair
  have d_has_form := ok_has_form (P := P) (w := w) (base := base) T d_is_within d_is_tile
  have d_picture_in := ok_picture_in (P := P) (w := w) (base := base) T 
  have d_is_pyramid := ok_is_pyramid (P := P) (w := w) (base := base) T d_has_form d_picture_in d_built_of
  have d_look_pyramids := ok_look_pyramids (P := P) (w := w) (base := base) T d_is_pyramid
  have d_top_of := ok_top_of (P := P) (w := w) (base := base) T 
  have d_levels := ok_levels (P := P) (w := w) (base := base) T d_look_pyramids d_top_of
  have d_is_window := ok_is_window (P := P) (w := w) (base := base) T d_top_of d_is_within
  have d_needed_of := ok_needed_of (P := P) (w := w) (base := base) T 
  have d_look_window := ok_look_window (P := P) (w := w) (base := base) T d_look_pyramids d_is_window
  have d_needed := ok_needed (P := P) (w := w) (base := base) T d_look_window d_needed_of
  have d_keys_of := ok_keys_of (P := P) (w := w) (base := base) T d_needed_of
  have d_next_use := ok_next_use (P := P) (w := w) (base := base) T 
  have d_gone := ok_gone (P := P) (w := w) (base := base) T d_next_use
  have d_fetched_of := ok_fetched_of (P := P) (w := w) (base := base) T d_gone
  have d_look_trip := ok_look_trip (P := P) (w := w) (base := base) T d_look_pyramids d_is_window
  have d_fetched := ok_fetched (P := P) (w := w) (base := base) T d_look_trip d_is_within d_keys_of d_fetched_of
  have d__law_cell := ok__law_cell (P := P) (w := w) (base := base) T 
  have d__law_row := ok__law_row (P := P) (w := w) (base := base) T d__law_cell
  have d__law_some_picture := ok__law_some_picture (P := P) (w := w) (base := base) T d__law_row
  have d__law_trip := ok__law_trip (P := P) (w := w) (base := base) T 
  exact ok_law T F d__law_row d__law_some_picture d_built d_levels d__law_trip d_needed d_fetched
end VVlaw
open PySem PySem.W PySem.Calls PyProof.Rows
set_option maxRecDepth 100000 in
set_option maxHeartbeats 0 in
theorem PySem.Challenge.cw_vastview_k27_whole_the_least_of_all_ways_holds : PySem.Challenge.rw_vastview_k27_whole_the_least_of_all_ways.Holds := by
  w_on; o_law
  refine HandSHeadRun.head_any (r := OpenLaw.row PySem.Challenge.rw_vastview_k27_whole_the_least_of_all_ways) (q := view (OpenLaw.row PySem.Challenge.rw_vastview_k27_whole_the_least_of_all_ways).prog [53]) (H := VVlaw.hk) (ob := VVlaw.ob) (M := 4000) (loose := VVlaw.loose) (d := HandSHeadRun.topDef (OpenLaw.row PySem.Challenge.rw_vastview_k27_whole_the_least_of_all_ways).prog 53) (kwd := []) VVlaw.ob_eq
    (by kernel_rfl) (fun s => by kernel_rfl) VVlaw.run (by kernel_rfl) (by kernel_rfl) (by kernel_rfl) (by rfl) (by first | assumption | decide +kernel) (by decide +kernel) ⟨rfl, rfl, rfl, rfl, rfl, by decide +kernel⟩ ?hw ?hc
  case hw => w_witness2
  case hc =>
    refine VV.law_end (l := PySem.Challenge.rw_vastview_k27_whole_the_least_of_all_ways) (k := 9) rfl (by kernel_rfl) ⟨rfl, by decide, by decide⟩ VVlaw.law_true ?F
    intro w mg fa h Y G hmg0
    obtain ⟨K, KX, c, ce⟩ := Y
    have hmg : mg ("law" : PySem.Str) = some (.ref fa) := by
      have e : (HandSHeadRun.topDef (OpenLaw.row PySem.Challenge.rw_vastview_k27_whole_the_least_of_all_ways).prog 53).name = ("law" : PySem.Str) := by kernel_rfl
      rw [← e]
      exact hmg0
    obtain ⟨fd, hb, hF⟩ := VVlaw.facts (P := (PySem.Challenge.rw_vastview_k27_whole_the_least_of_all_ways).prog) (w := w) KX G hmg c ce
    have nolam : VV.lamB K = false := by simpa using VV.chk_at ce 2 (c := fun K => !VV.lamB K) rfl
    exact ⟨K, fd, KX, nolam, hb, hF⟩
