import PyProof.Rows.All
import Wide.All
import OpenK.AllK
import Wide.FinOn
import HandS.ForMost
import HandS.Deep
import HandS.Evl
import HandS.Style
import HandS.WordsExc
import HandS.HotCalls
import HandS.IsInst
import HandS.SortInts
import HandS.Strs
import HandS.SetBool
import HandS.ExcIs
import HandS.TryElse
import KE.KExcSuper
import HandS.ExcInit
import HandS.ExcField
import KE.KExcIs
import HandS.RaiseMore
import HandS.StrMore
import HandS.SuiteRaise
import HandS.ExcInitHot
import KE.GoesMore
import KE.GoesEnum
import KE.IntTextText
import HandS.HeadHook3
import HandS.FStr
import HandS.WrittenGet
import HandS.TryOnly
import HandS.SetKeys
import HandS.DictTup
import HandS.WordsDict
import HandS.More
import HandS.Replace
import HandS.DeepEq
import HandS.DictComp
import PySem.Challenge.RW_tribunal_k22_runs_of_programs
set_option Elab.async false
set_option linter.all false
set_option maxRecDepth 100000
set_option maxHeartbeats 4000000
namespace DL
open PySem L2
open Evl (Ex)

/-! ### pure data -/
inductive D where
  | non | bl (b : Bool) | int (i : Int) | str (x : Str) | adr (a : Addr)
  | tup (ds : List D) | lst (ds : List D) | ins (C : Addr) (ks : List Str) (ds : List D)
  | set (S : Int → Bool) (n : Nat) | fz (ds : List D)

mutual
inductive Dn (K : PySem.W.Frag) (G : Hp) : D → V → Prop
  | non : Dn K G .non .non
  | bl (b : Bool) : Dn K G (.bl b) (.bl b)
  | int (i : Int) : Dn K G (.int i) (.int i)
  | str (x : Str) : Dn K G (.str x) (.str x)
  | adr (a : Addr) : Dn K G (.adr a) (.ref a)
  | tup {a : Addr} {xs : List V} {ds : List D} : SqT K G a xs → DnAll K G ds xs → Dn K G (.tup ds) (.ref a)
  | lst {a : Addr} {xs : List V} {ds : List D} : G a = some (.lst xs) → DnAll K G ds xs → Dn K G (.lst ds) (.ref a)
  | fz {a : Addr} {xs : List V} {ds : List D} : SqL K G a xs → DnAll K G ds xs → Dn K G (.fz ds) (.ref a)
  | ins {a C dx : Addr} {fs : List (Str × V)} {ks : List Str} {ds : List D} : G a = some (.ins C dx fs) → fs.map (·.1) = ks → DnAll K G ds (fs.map (·.2)) → Dn K G (.ins C ks ds) (.ref a)
  | set {a : Addr} {S : Int → Bool} {n : Nat} : G a = some (.set S n) → Dn K G (.set S n) (.ref a)
inductive DnAll (K : PySem.W.Frag) (G : Hp) : List D → List V → Prop
  | nil : DnAll K G [] []
  | cons {d : D} {ds : List D} {v : V} {vs : List V} : Dn K G d v → DnAll K G ds vs → DnAll K G (d :: ds) (v :: vs)
end

section
variable {K : PySem.W.Frag} {G G' H : Hp}
mutual
theorem Dn.mono (e : Ex G G') : ∀ {d : D} {v : V}, Dn K G d v → Dn K G' d v
  | _, _, .non => .non
  | _, _, .bl b => .bl b
  | _, _, .int b => .int b
  | _, _, .str b => .str b
  | _, _, .adr b => .adr b
  | _, _, .tup h hs => .tup (Evl.ex_t e h) (DnAll.mono e hs)
  | _, _, .lst h hs => .lst (e _ _ h) (DnAll.mono e hs)
  | _, _, .fz h hs => .fz (Evl.ex_l e h) (DnAll.mono e hs)
  | _, _, .ins h hk hs => .ins (e _ _ h) hk (DnAll.mono e hs)
  | _, _, .set h => .set (e _ _ h)
theorem DnAll.mono (e : Ex G G') : ∀ {ds : List D} {vs : List V}, DnAll K G ds vs → DnAll K G' ds vs
  | _, _, .nil => .nil
  | _, _, .cons h hs => .cons (Dn.mono e h) (DnAll.mono e hs)
end
theorem DnAll.length : ∀ {ds : List D} {vs : List V}, DnAll K G ds vs → ds.length = vs.length
  | _, _, .nil => rfl
  | _, _, .cons _ hs => by simp [DnAll.length hs]
theorem DnAll.append : ∀ {ds es : List D} {vs ws : List V}, DnAll K G ds vs → DnAll K G es ws → DnAll K G (ds ++ es) (vs ++ ws)
  | _, _, _, _, .nil, h => h
  | _, _, _, _, .cons h hs, k => .cons h (DnAll.append hs k)
theorem DnAll.get : ∀ {ds : List D} {vs : List V} {i : Nat} {d : D}, DnAll K G ds vs → ds[i]? = some d → ∃ v, vs[i]? = some v ∧ Dn K G d v
  | _, _, 0, _, .cons h _, e => ⟨_, rfl, by simp at e; subst e; exact h⟩
  | _, _, i + 1, _, .cons _ hs, e => by
    obtain ⟨v, h1, h2⟩ := DnAll.get (i := i) hs (by simpa using e)
    exact ⟨v, by simpa using h1, h2⟩
theorem DnAll.getV : ∀ {ds : List D} {vs : List V} {i : Nat} {v : V}, DnAll K G ds vs → vs[i]? = some v → ∃ d, ds[i]? = some d ∧ Dn K G d v
  | _, _, 0, _, .cons h _, e => ⟨_, rfl, by simp at e; subst e; exact h⟩
  | _, _, i + 1, _, .cons _ hs, e => by
    obtain ⟨v, h1, h2⟩ := DnAll.getV (i := i) hs (by simpa using e)
    exact ⟨v, by simpa using h1, h2⟩
theorem DnAll.take (n : Nat) : ∀ {ds : List D} {vs : List V}, DnAll K G ds vs → DnAll K G (ds.take n) (vs.take n) := by
  induction n with
  | zero => intro ds vs h; exact .nil
  | succ n ih =>
    intro ds vs h
    cases h with
    | nil => exact .nil
    | cons h hs => exact .cons h (ih hs)
theorem DnAll.drop (n : Nat) : ∀ {ds : List D} {vs : List V}, DnAll K G ds vs → DnAll K G (ds.drop n) (vs.drop n) := by
  induction n with
  | zero => intro ds vs h; exact h
  | succ n ih =>
    intro ds vs h
    cases h with
    | nil => exact .nil
    | cons h hs => exact ih hs
theorem DnAll.set {d : D} {v : V} (hd : Dn K G d v) : ∀ {ds : List D} {vs : List V} (i : Nat), DnAll K G ds vs → DnAll K G (ds.set i d) (vs.set i v)
  | _, _, _, .nil => .nil
  | _, _, 0, .cons _ hs => .cons hd hs
  | _, _, i + 1, .cons h hs => .cons h (DnAll.set hd i hs)
theorem DnAll.dropLast {ds : List D} {vs : List V} (h : DnAll K G ds vs) : DnAll K G ds.dropLast vs.dropLast := by
  rw [List.dropLast_eq_take, List.dropLast_eq_take, h.length]
  exact h.take _
theorem DnAll.ints : ∀ {ns : List Int} {vs : List V}, DnAll K G (ns.map D.int) vs → vs = ns.map V.int
  | [], _, .nil => rfl
  | _ :: _, _, .cons (.int _) hs => by rw [DnAll.ints hs]; rfl
theorem DnAll.of_ints : ∀ (ns : List Int), DnAll K G (ns.map D.int) (ns.map V.int)
  | [] => .nil
  | n :: ns => .cons (.int n) (DnAll.of_ints ns)
theorem DnAll.strs : ∀ {ns : List Str} {vs : List V}, DnAll K G (ns.map D.str) vs → vs = ns.map V.str
  | [], _, .nil => rfl
  | _ :: _, _, .cons (.str _) hs => by rw [DnAll.strs hs]; rfl
theorem DnAll.bls : ∀ {ns : List Bool} {vs : List V}, DnAll K G (ns.map D.bl) vs → vs = ns.map V.bl
  | [], _, .nil => rfl
  | _ :: _, _, .cons (.bl _) hs => by rw [DnAll.bls hs]; rfl
end

/-! ### mutable cells -/
inductive MO where
  | lst (ds : List D)
  | dct (kds : List (Key × D))
  | dkl (o : Obj) (kvs : List (Key × V)) (kds : List (Key × D))
  | ins (C : Addr) (ks : List Str) (ds : List D)
abbrev MH := Addr → Option MO
abbrev Frm := List (Option D)
def mup (m : MH) (a : Addr) (o : MO) : MH := fun b => if b = a then some o else m b
theorem mup_same {m : MH} {a : Addr} {o : MO} : mup m a o a = some o := by unfold mup; rw [if_pos rfl]
theorem mup_ne {m : MH} {a b : Addr} {o : MO} (h : b ≠ a) : mup m a o b = m b := by unfold mup; rw [if_neg h]
theorem mup_mup {m : MH} {a : Addr} {o u : MO} : mup (mup m a o) a u = mup m a u := by
  funext b; unfold mup; split <;> rfl
def mdel (m : MH) (a : Addr) : MH := fun b => if b = a then none else m b
theorem mdel_mup {m : MH} {a : Addr} {o : MO} (h : m a = none) : mdel (mup m a o) a = m := by
  funext b; unfold mdel mup
  by_cases e : b = a
  · subst e; simp [h]
  · simp [e]
theorem mdel_same {m : MH} {a : Addr} : mdel m a a = none := by simp [mdel]
theorem mdel_ne {m : MH} {a b : Addr} (h : b ≠ a) : mdel m a b = m b := by simp [mdel, h]
theorem mdel_mup_ne {m : MH} {a b : Addr} {o : MO} (h : a ≠ b) : mdel (mup m a o) b = mup (mdel m b) a o := by
  funext c; unfold mdel mup
  by_cases e : c = b
  · subst e; simp [Ne.symm h]
  · simp [e]
theorem mdel_none {m : MH} {a : Addr} (h : m a = none) : mdel m a = m := by
  funext b; unfold mdel
  by_cases e : b = a
  · subst e; simp [h]
  · simp [e]

inductive MOr (K : PySem.W.Frag) (G : Hp) : MO → HO → Prop
  | lst {ds : List D} {xs : List V} : DnAll K G ds xs → MOr K G (.lst ds) (.lst xs)
  | dct {kds : List (Key × D)} {kvs : List (Key × V)} : kvs.map (·.1) = kds.map (·.1) → DnAll K G (kds.map (·.2)) (kvs.map (·.2)) → MOr K G (.dct kds) (.dK kvs)
  | dkl {o : Obj} {kds : List (Key × D)} {kvs : List (Key × V)} : kvs.map (·.1) = kds.map (·.1) → DnAll K G (kds.map (·.2)) (kvs.map (·.2)) → MOr K G (.dkl o kvs kds) (.frz o (.dK kvs))
  | ins {C dx : Addr} {ks : List Str} {ds : List D} {fs : List (Str × V)} : fs.map (·.1) = ks → DnAll K G ds (fs.map (·.2)) → MOr K G (.ins C ks ds) (.ins C dx fs)
theorem MOr.mono {K : PySem.W.Frag} {G G' : Hp} (e : Ex G G') {o : MO} {h : HO} (r : MOr K G o h) : MOr K G' o h := by
  cases r with
  | lst h => exact .lst (h.mono e)
  | dct h1 h2 => exact .dct h1 (h2.mono e)
  | dkl h1 h2 => exact .dkl h1 (h2.mono e)
  | ins h1 h2 => exact .ins h1 (h2.mono e)

/-- the cells m and the frozen heap G stand in H -/
structure MSt (K : PySem.W.Frag) (G : Hp) (m : MH) (H : Hp) : Prop where
  ex : Ex G H
  mr : ∀ a o, m a = some o → G a = none ∧ ∃ ho, H a = some ho ∧ MOr K G o ho

/-- on the way from one state to another: G grows; what is no cell stays as it is -/
structure Stp (G : Hp) (m : MH) (H : Hp) (G' : Hp) (m' : MH) (H' : Hp) : Prop where
  ex : Ex G G'
  keep : ∀ a o, H a = some o → m a = none → H' a = some o ∧ m' a = none ∧ (G a = none → G' a = none)
theorem Stp.refl {G : Hp} {m : MH} {H : Hp} : Stp G m H G m H := ⟨Ex.refl G, fun _ _ h n => ⟨h, n, fun z => z⟩⟩
theorem Stp.trans {G G1 G2 : Hp} {m m1 m2 : MH} {H H1 H2 : Hp} (a : Stp G m H G1 m1 H1) (b : Stp G1 m1 H1 G2 m2 H2) : Stp G m H G2 m2 H2 :=
  ⟨a.ex.trans b.ex, fun x o h n => by
    obtain ⟨h1, n1, g1⟩ := a.keep x o h n
    obtain ⟨h2, n2, g2⟩ := b.keep x o h1 n1
    exact ⟨h2, n2, fun z => g2 (g1 z)⟩⟩
/-- a state to begin with -/
structure Bs where
  G : Hp
  m : MH
  H : Hp
def Bs.to (B : Bs) (G : Hp) (m : MH) (H : Hp) : Prop := Stp B.G B.m B.H G m H
theorem Bs.to.trans {B : Bs} {G G1 : Hp} {m m1 : MH} {H H1 : Hp} (a : B.to G m H) (b : Stp G m H G1 m1 H1) : B.to G1 m1 H1 := Stp.trans a b
section
variable {K : PySem.W.Frag} {G G' H H' : Hp} {m m' : MH} {a p : Addr}
theorem Stp.new (h : H p = none) {o : HO} : ∀ a u, H a = some u → m a = none → upd H p o a = some u ∧ m a = none ∧ (G a = none → upd G p o a = none) := fun a u e n => by
  have hb : a ≠ p := fun z => by subst z; rw [h] at e; cases e
  exact ⟨by rw [upd_ne hb]; exact e, n, fun z => by rw [upd_ne hb]; exact z⟩
theorem MSt.free (s : MSt K G m H) (h : H p = none) : G p = none ∧ m p = none := by
  constructor
  · exact Evl.fresh_back s.ex h
  · cases q : m p with
    | none => rfl
    | some o =>
      obtain ⟨_, ho, h1, _⟩ := s.mr p o q
      rw [h] at h1; cases h1
/-- a new frozen object -/
theorem MSt.newG (s : MSt K G m H) (h : H p = none) (o : HO) : Stp G m H (upd G p o) m (upd H p o) ∧ MSt K (upd G p o) m (upd H p o) := by
  obtain ⟨hg, hm⟩ := s.free h
  have e : Ex G (upd G p o) := Ex.new hg
  refine ⟨⟨e, Stp.new h⟩, fun b u q => ?_, fun b u q => ?_⟩
  · by_cases hb : b = p
    · subst hb; rw [upd_same] at q ⊢; exact q
    · rw [upd_ne hb] at q ⊢; exact s.ex b u q
  · have hb : b ≠ p := fun z => by subst z; rw [hm] at q; cases q
    obtain ⟨h1, ho, h2, h3⟩ := s.mr b u q
    exact ⟨by rw [upd_ne hb]; exact h1, ho, by rw [upd_ne hb]; exact h2, h3.mono e⟩
/-- a new cell -/
theorem MSt.newM (s : MSt K G m H) (h : H p = none) {o : MO} {ho : HO} (r : MOr K G o ho) : Stp G m H G (mup m p o) (upd H p ho) ∧ MSt K G (mup m p o) (upd H p ho) := by
  obtain ⟨hg, hm⟩ := s.free h
  refine ⟨⟨Ex.refl G, fun a u e n => ?_⟩, fun b u q => ?_, fun b u q => ?_⟩
  · have hb : a ≠ p := fun z => by subst z; rw [h] at e; cases e
    exact ⟨by rw [upd_ne hb]; exact e, by rw [mup_ne hb]; exact n, fun z => z⟩
  · have hb : b ≠ p := fun z => by subst z; rw [hg] at q; cases q
    rw [upd_ne hb]; exact s.ex b u q
  · by_cases hb : b = p
    · subst hb; rw [mup_same] at q; cases q
      exact ⟨hg, ho, upd_same, r⟩
    · rw [mup_ne hb] at q
      obtain ⟨h1, ho', h2, h3⟩ := s.mr b u q
      exact ⟨h1, ho', by rw [upd_ne hb]; exact h2, h3⟩
/-- a cell written -/
theorem MSt.write (s : MSt K G m H) {o0 : MO} (h : m p = some o0) {o : MO} {ho : HO} (r : MOr K G o ho) : Stp G m H G (mup m p o) (upd H p ho) ∧ MSt K G (mup m p o) (upd H p ho) := by
  obtain ⟨hg, _⟩ := s.mr p o0 h
  refine ⟨⟨Ex.refl G, fun a u e n => ?_⟩, fun b u q => ?_, fun b u q => ?_⟩
  · have hb : a ≠ p := fun z => by subst z; rw [h] at n; cases n
    exact ⟨by rw [upd_ne hb]; exact e, by rw [mup_ne hb]; exact n, fun z => z⟩
  · have hb : b ≠ p := fun z => by subst z; rw [hg] at q; cases q
    rw [upd_ne hb]; exact s.ex b u q
  · by_cases hb : b = p
    · subst hb; rw [mup_same] at q; cases q
      exact ⟨hg, ho, upd_same, r⟩
    · rw [mup_ne hb] at q
      obtain ⟨h1, ho', h2, h3⟩ := s.mr b u q
      exact ⟨h1, ho', by rw [upd_ne hb]; exact h2, h3⟩
/-- a cell frozen -/
theorem MSt.freeze (s : MSt K G m H) {o : MO} (h : m p = some o) : ∃ ho, MOr K G o ho ∧ Stp G m H (upd G p ho) (mdel m p) H ∧ MSt K (upd G p ho) (mdel m p) H := by
  obtain ⟨hg, ho, h1, h2⟩ := s.mr p o h
  refine ⟨ho, h2, ⟨Ex.new hg, fun a u e n => ?_⟩, fun b u q => ?_, fun b u q => ?_⟩
  · have z : a ≠ p := fun z => by subst z; rw [h] at n; cases n
    exact ⟨e, by rw [mdel_ne z]; exact n, fun w => by rw [upd_ne z]; exact w⟩
  · by_cases hb : b = p
    · subst hb; rw [upd_same] at q; rw [h1]; exact q
    · rw [upd_ne hb] at q; exact s.ex b u q
  · have hb : b ≠ p := fun z => by subst z; rw [mdel_same] at q; cases q
    rw [mdel_ne hb] at q
    obtain ⟨h1', ho', h2', h3'⟩ := s.mr b u q
    exact ⟨by rw [upd_ne hb]; exact h1', ho', h2', h3'.mono (Ex.new hg)⟩
theorem MSt.dn (s : MSt K G m H) {d : D} {v : V} (h : Dn K G d v) : Dn K H d v := h.mono s.ex
end

/-- the frame -/
def fget : Frm → Nat → Option D
  | [], _ => none
  | x :: _, 0 => x
  | _ :: r, n + 1 => fget r n
def fset : Frm → Nat → D → Frm
  | [], _, _ => []
  | _ :: r, 0, d => some d :: r
  | x :: r, n + 1, d => x :: fset r n d
inductive FrR (K : PySem.W.Frag) (G : Hp) : Frm → L2.St → Prop
  | nil : FrR K G [] []
  | no {ρ : Frm} {σ : L2.St} {x : Option V} : FrR K G ρ σ → FrR K G (none :: ρ) (x :: σ)
  | yes {ρ : Frm} {σ : L2.St} {d : D} {v : V} : Dn K G d v → FrR K G ρ σ → FrR K G (some d :: ρ) (some v :: σ)
section
variable {K : PySem.W.Frag} {G G' H H' : Hp} {m m' : MH}
theorem FrR.mono (e : Ex G G') : ∀ {ρ : Frm} {σ : L2.St}, FrR K G ρ σ → FrR K G' ρ σ
  | _, _, .nil => .nil
  | _, _, .no h => .no (FrR.mono e h)
  | _, _, .yes h hs => .yes (h.mono e) (FrR.mono e hs)
theorem FrR.get : ∀ {ρ : Frm} {σ : L2.St} {i : Nat} {d : D}, FrR K G ρ σ → fget ρ i = some d → ∃ v, σ[i]? = some (some v) ∧ Dn K G d v
  | _, _, 0, _, .no _, h => by cases h
  | _, _, 0, _, .yes h _, e => by
    have e' := Option.some.inj e
    subst e'
    exact ⟨_, rfl, h⟩
  | _, _, i + 1, _, .no hs, e => by
    obtain ⟨v, h1, h2⟩ := FrR.get (i := i) hs e
    exact ⟨v, by simpa using h1, h2⟩
  | _, _, i + 1, _, .yes _ hs, e => by
    obtain ⟨v, h1, h2⟩ := FrR.get (i := i) hs e
    exact ⟨v, by simpa using h1, h2⟩
theorem FrR.set {d : D} {v : V} (hd : Dn K G d v) : ∀ {ρ : Frm} {σ : L2.St} (i : Nat), FrR K G ρ σ → FrR K G (fset ρ i d) (σ.set i (some v))
  | _, _, _, .nil => .nil
  | _, _, 0, .no hs => .yes hd hs
  | _, _, 0, .yes _ hs => .yes hd hs
  | _, _, i + 1, .no hs => .no (FrR.set hd i hs)
  | _, _, i + 1, .yes h hs => .yes h (FrR.set hd i hs)
end
structure Sta (K : PySem.W.Frag) (G : Hp) (ρ : Frm) (σ : L2.St) (m : MH) (H : Hp) : Prop where
  fr : FrR K G ρ σ
  ms : MSt K G m H

/-! ### the judgements -/
abbrev VE := Frm → MH → (D → MH → Prop) → Prop
abbrev VT := Frm → MH → (Bool → MH → Prop) → Prop
abbrev VA := Frm → MH → (List D → MH → Prop) → Prop
/-- exceptions: class, attributes, cells -/
abbrev DX := Addr → List Str → List D → MH → Prop
structure VEnds where
  nx : Frm → MH → Prop
  rt : D → MH → Prop
  bk : Frm → MH → Prop := fun _ _ => False
  ct : Frm → MH → Prop := fun _ _ => False
abbrev VS := VEnds → Frm → MH → Prop

def lowE (K : PySem.W.Frag) (B : Bs) (t : VE) : TE := fun σ H Q => ∃ G ρ m P, B.to G m H ∧ Sta K G ρ σ m H ∧ t ρ m P ∧ ∀ d m' G' v H', P d m' → Stp G m H G' m' H' → MSt K G' m' H' → Dn K G' d v → Q v H'
def lowT (K : PySem.W.Frag) (B : Bs) (t : VT) : TT := fun σ H Q => ∃ G ρ m P, B.to G m H ∧ Sta K G ρ σ m H ∧ t ρ m P ∧ ∀ b m' G' H', P b m' → Stp G m H G' m' H' → MSt K G' m' H' → Q b H'
def lowA (K : PySem.W.Frag) (B : Bs) (t : VA) : TA := fun σ H Q => ∃ G ρ m P, B.to G m H ∧ Sta K G ρ σ m H ∧ t ρ m P ∧ ∀ ds m' G' vs H', P ds m' → Stp G m H G' m' H' → MSt K G' m' H' → DnAll K G' ds vs → Q vs H'
def lowS (K : PySem.W.Frag) (B : Bs) (t : VS) : TS := fun D σ H => ∃ G ρ m E, B.to G m H ∧ Sta K G ρ σ m H ∧ t E ρ m ∧
  (∀ ρ' m' G' σ' H', E.nx ρ' m' → Stp G m H G' m' H' → Sta K G' ρ' σ' m' H' → D.nx σ' H') ∧
  (∀ d m' G' v H', E.rt d m' → Stp G m H G' m' H' → MSt K G' m' H' → Dn K G' d v → D.rt v H') ∧
  (∀ ρ' m' G' σ' H', E.bk ρ' m' → Stp G m H G' m' H' → Sta K G' ρ' σ' m' H' → D.bk σ' H') ∧
  (∀ ρ' m' G' σ' H', E.ct ρ' m' → Stp G m H G' m' H' → Sta K G' ρ' σ' m' H' → D.ct σ' H')
structure UE (X : Cx) (B : Bs) (e : Expr) (t : VE) : Prop where
  pe : PE X e (lowE X.K B t)
structure UT (X : Cx) (B : Bs) (e : Expr) (t : VT) : Prop where
  pt : PT X e (lowT X.K B t)
structure UW (X : Cx) (B : Bs) (e : Expr) (t : VT) : Prop where
  pw : PW X e (lowT X.K B t)
structure UA (X : Cx) (B : Bs) (es : List Expr) (t : VA) : Prop where
  pa : PA X es (lowA X.K B t)
structure US (X : Cx) (B : Bs) (st : Stmt) (t : VS) : Prop where
  ps : PS X st (lowS X.K B t)
structure USs (X : Cx) (B : Bs) (st : List Stmt) (t : VS) : Prop where
  ps : PSs X st (lowS X.K B t)

section
variable {X : Cx} {B : Bs}
theorem _root_.L2.PE.weak {e : Expr} {t t' : TE} (h : PE X e t) (i : ∀ σ H Q, t' σ H Q → t σ H Q) : PE X e t' := ⟨fun pins s σ H Q I q => h.run pins s σ H Q I (i _ _ _ q)⟩
theorem _root_.L2.PT.weak {e : Expr} {t t' : TT} (h : PT X e t) (i : ∀ σ H Q, t' σ H Q → t σ H Q) : PT X e t' := ⟨fun pins s σ H Q I q => h.run pins s σ H Q I (i _ _ _ q)⟩
theorem _root_.L2.PW.weak {e : Expr} {t t' : TT} (h : PW X e t) (i : ∀ σ H Q, t' σ H Q → t σ H Q) : PW X e t' := ⟨fun whole pins s σ H Q I q => h.run whole pins s σ H Q I (i _ _ _ q)⟩
theorem _root_.L2.PA.weak {e : List Expr} {t t' : TA} (h : PA X e t) (i : ∀ σ H Q, t' σ H Q → t σ H Q) : PA X e t' := ⟨fun pos pins s σ H Q I q => h.run pos pins s σ H Q I (i _ _ _ q)⟩
theorem _root_.L2.PS.weak {e : Stmt} {t t' : TS} (h : PS X e t) (i : ∀ D σ H, t' D σ H → t D σ H) : PS X e t' := ⟨fun pins s σ H D I q => h.run pins s σ H D I (i _ _ _ q)⟩
theorem _root_.L2.PSs.weak {e : List Stmt} {t t' : TS} (h : PSs X e t) (i : ∀ D σ H, t' D σ H → t D σ H) : PSs X e t' := ⟨fun pins s σ H D I q => h.run pins s σ H D I (i _ _ _ q)⟩

/-! ### names, constants -/
def vVar (i : Nat) : VE := fun ρ m Q => match fget ρ i with | some d => Q d m | none => False
def vC (d : D) : VE := fun _ m Q => Q d m
theorem fin {K : PySem.W.Frag} {G : Hp} {m : MH} {P : D → MH → Prop} {H : Hp} {Q : VK} {d : D} {v : V} (k : ∀ d m' G' v H', P d m' → Stp G m H G' m' H' → MSt K G' m' H' → Dn K G' d v → Q v H') (q : P d m) (s : MSt K G m H) (h : Dn K G d v) : Q v H :=
  k d m G v H q Stp.refl s h
theorem low_var {K : PySem.W.Frag} {i : Nat} {σ : L2.St} {H : Hp} {Q : VK} (h : lowE K B (vVar i) σ H Q) : tVar i σ H Q := by
  obtain ⟨G, ρ, m, P, e0, s, t, k⟩ := h
  unfold vVar at t
  cases e : fget ρ i with
  | none => rw [e] at t; exact t.elim
  | some d =>
    rw [e] at t
    obtain ⟨v, h1, h2⟩ := s.fr.get e
    exact ⟨v, h1, fin k t s.ms h2⟩
theorem ue_var (i : Nat) {x : Str} {pos : Pos} (hN : X.N[i]? = some x := by rfl) (hv : Vis X.env.scope x := by first | exact Or.inl rfl | exact Or.inr (Or.inl rfl) | exact Or.inr (Or.inr rfl)) (hd : (x == ("__debug__" : Str)) = false := by decide)
    (hcd : (x == ("__classdict__" : Str)) = false := by decide) : UE X B (.Name x pos) (vVar i) := ⟨(pe_var hN hv hd hcd).weak fun _ _ _ h => low_var h⟩
theorem low_c {K : PySem.W.Frag} {d : D} {v : V} (r : ∀ G, Dn K G d v) {σ : L2.St} {H : Hp} {Q : VK} (h : lowE K B (vC d) σ H Q) : tC v σ H Q := by
  obtain ⟨G, ρ, m, P, e0, s, t, k⟩ := h
  exact fin k t s.ms (r G)
theorem ue_int {i j pos} : UE X B (.Constant (.int i) j pos) (vC (.int i)) := ⟨pe_int.weak fun _ _ _ h => low_c (fun _ => .int _) h⟩
theorem ue_bl {b j pos} : UE X B (.Constant (.bool b) j pos) (vC (.bl b)) := ⟨pe_bl.weak fun _ _ _ h => low_c (fun _ => .bl _) h⟩
theorem ue_non {j pos} : UE X B (.Constant .none j pos) (vC .non) := ⟨pe_non.weak fun _ _ _ h => low_c (fun _ => .non) h⟩
theorem ue_str {x j pos} : UE X B (.Constant (.str x) j pos) (vC (.str x)) := ⟨pe_str.weak fun _ _ _ h => low_c (fun _ => .str _) h⟩
theorem ue_glob {x : Str} {d : D} {v : V} {u : Value} {pos : Pos} (hg : Gl X x) (hm : X.mg x = some u) (r : RelV v u) (hd : ∀ G, Dn X.K G d v) (hdb : (x == ("__debug__" : Str)) = false := by decide) : UE X B (.Name x pos) (vC d) :=
  ⟨(pe_glob hg hm r hdb).weak fun _ _ _ h => low_c hd h⟩

/-! ### operators by values -/
/-- of two data and the cells: what it asks, what it gives; m stays, G may grow -/
abbrev VO := D → D → MH → (D → Prop) → Prop
def lowO (K : PySem.W.Frag) (o : VO) : R2 := fun x y H Q => ∃ G m dx dy P, MSt K G m H ∧ Dn K G dx x ∧ Dn K G dy y ∧ o dx dy m P ∧ ∀ d G' v H', P d → Stp G m H G' m H' → MSt K G' m H' → Dn K G' d v → Q v H'
def UO (X : Cx) (f : Value → Value → Sem Value) (o : VO) : Prop := OpR X f (lowO X.K o)
theorem opw {f : Value → Value → Sem Value} {r r' : R2} (h : OpR X f r) (i : ∀ x y H Q, r' x y H Q → r x y H Q) : OpR X f r' := fun pins s σ H x y v u Q I rx ry q => h pins s σ H x y v u Q I rx ry (i _ _ _ _ q)
/-- by two rules -/
theorem opsplit {f : Value → Value → Sem Value} {r r' r'' : R2} (h : OpR X f r) (h' : OpR X f r') (i : ∀ x y H Q, r'' x y H Q → r x y H Q ∨ r' x y H Q) : OpR X f r'' := opw (OpR.or h h') i
def vOp (o : VO) (ta tb : VE) : VE := fun ρ m Q => ta ρ m fun x m1 => tb ρ m1 fun y m2 => o x y m2 fun d => Q d m2
variable {a b c e : Expr} {ta tb tc te : VE} {pos : Pos}
theorem low_op {K : PySem.W.Frag} {o : VO} {σ : L2.St} {H : Hp} {Q : VK} (h : lowE K B (vOp o ta tb) σ H Q) : tOp (lowO K o) (lowE K B ta) (lowE K B tb) σ H Q := by
  obtain ⟨G, ρ, m, P, e0, s, t, k⟩ := h
  refine ⟨G, ρ, m, _, e0, s, t, fun x m1 G1 v1 H1 q1 e1 s1 r1 => ?_⟩
  refine ⟨G1, ρ, m1, _, e0.trans e1, ⟨s.fr.mono e1.ex, s1⟩, q1, fun y m2 G2 v2 H2 q2 e2 s2 r2 => ?_⟩
  exact ⟨G2, m2, x, y, _, s2, r1.mono e2.ex, r2, q2, fun d G3 v H3 q3 e3 s3 r3 => k d m2 G3 v H3 q3 ((e1.trans e2).trans e3) s3 r3⟩
theorem ue_op {op : Operator} {o : VO} (ho : UO X (binaryOp op) o) (ha : UE X B a ta) (hb : UE X B b tb) : UE X B (.BinOp a op b pos) (vOp o ta tb) := ⟨(pe_op ho ha.pe hb.pe).weak fun _ _ _ h => low_op h⟩
theorem ue_cmp {op : CmpOp} {o : VO} (ho : UO X (compareOp op) o) (ha : UE X B a ta) (hb : UE X B b tb) (hm : behindInMarks op b = false) : UE X B (.Compare a [op] [b] pos) (vOp o ta tb) := ⟨(pe_cmpR ho ha.pe hb.pe hm).weak fun _ _ _ h => low_op h⟩

/-- ints -/
def oI (C : Int → Int → Prop) (g : Int → Int → D) : VO := fun x y _ Q => match x, y with
  | .int i, .int j => C i j ∧ Q (g i j)
  | _, _ => False
def oI0 (g : Int → Int → D) : VO := fun x y _ Q => match x, y with
  | .int i, .int j => Q (g i j)
  | _, _ => False
theorem low_oI {K : PySem.W.Frag} {C : Int → Int → Prop} {g : Int → Int → D} {g' : Int → Int → V} (hg : ∀ i j G, Dn K G (g i j) (g' i j)) {x y : V} {H : Hp} {Q : VK} (h : lowO K (oI C g) x y H Q) : rI C g' x y H Q := by
  obtain ⟨G, m, dx, dy, P, s, hx, hy, t, k⟩ := h
  cases hx <;> cases hy <;> first | exact t.elim | skip
  obtain ⟨t1, t2⟩ := t
  exact ⟨_, _, rfl, rfl, t1, k _ G _ H t2 Stp.refl s (hg _ _ G)⟩
theorem low_oI0 {K : PySem.W.Frag} {g : Int → Int → D} {g' : Int → Int → V} (hg : ∀ i j G, Dn K G (g i j) (g' i j)) {x y : V} {H : Hp} {Q : VK} (h : lowO K (oI0 g) x y H Q) : rI0 g' x y H Q := by
  obtain ⟨G, m, dx, dy, P, s, hx, hy, t, k⟩ := h
  cases hx <;> cases hy <;> first | exact t.elim | skip
  exact ⟨_, _, rfl, rfl, k _ G _ H t Stp.refl s (hg _ _ G)⟩
theorem uo_sub : UO X (binaryOp .Sub) (oI0 fun i j => .int (i - j)) := opw op_sub fun _ _ _ _ h => low_oI0 (fun _ _ _ => .int _) h
theorem uo_mul : UO X (binaryOp .Mult) (oI CMul fun i j => .int (i * j)) := opw op_mul fun _ _ _ _ h => low_oI (fun _ _ _ => .int _) h
theorem uo_fdiv : UO X (binaryOp .FloorDiv) (oI CDiv fun i j => .int (i / j)) := opw op_fdiv fun _ _ _ _ h => low_oI (fun _ _ _ => .int _) h
theorem uo_mod : UO X (binaryOp .Mod) (oI (fun _ j => 0 < j) fun i j => .int (i % j)) := opw op_mod fun _ _ _ _ h => low_oI (fun _ _ _ => .int _) h
theorem uo_pow : UO X (binaryOp .Pow) (oI CPow fun i j => .int (i ^ j.toNat)) := opw op_pow fun _ _ _ _ h => low_oI (fun _ _ _ => .int _) h
theorem uo_lt : UO X (compareOp .Lt) (oI0 fun i j => .bl (decide (i < j))) := opw op_lt fun _ _ _ _ h => low_oI0 (fun _ _ _ => .bl _) h
theorem uo_le : UO X (compareOp .LtE) (oI0 fun i j => .bl (decide (i ≤ j))) := opw op_le fun _ _ _ _ h => low_oI0 (fun _ _ _ => .bl _) h
theorem uo_gt : UO X (compareOp .Gt) (oI0 fun i j => .bl (decide (j < i))) := opw op_gt fun _ _ _ _ h => low_oI0 (fun _ _ _ => .bl _) h
theorem uo_ge : UO X (compareOp .GtE) (oI0 fun i j => .bl (decide (j ≤ i))) := opw op_ge fun _ _ _ _ h => low_oI0 (fun _ _ _ => .bl _) h

/-! ### a list, frozen or a cell -/
/-- a list of the run's own -/
def asT (m : MH) : D → Option (List D)
  | .lst ds => some ds
  | .adr a => match m a with
    | some (.lst ds) => some ds
    | _ => none
  | _ => none
/-- any list -/
def asL (m : MH) : D → Option (List D)
  | .fz ds => some ds
  | d => asT m d
theorem asT_adr {m : MH} {a : Addr} {ds : List D} (h : m a = some (.lst ds)) : asT m (.adr a) = some ds := by
  simp only [asT, h]
theorem asL_adr {m : MH} {a : Addr} {ds : List D} (h : m a = some (.lst ds)) : asL m (.adr a) = some ds := by
  simp only [asL, asT, h]
theorem MSt.asT {K : PySem.W.Frag} {G H : Hp} {m : MH} (s : MSt K G m H) {d : D} {v : V} {ds : List D} (r : Dn K G d v) (h : asT m d = some ds) : ∃ a xs, v = .ref a ∧ H a = some (.lst xs) ∧ DnAll K G ds xs := by
  cases r with
  | lst h1 h2 => cases h; exact ⟨_, _, rfl, s.ex _ _ h1, h2⟩
  | adr a =>
    simp only [DL.asT] at h
    cases q : m a with
    | none => rw [q] at h; cases h
    | some o =>
      rw [q] at h
      cases o with
      | lst es =>
        cases h
        obtain ⟨_, ho, h1, h2⟩ := s.mr a _ q
        cases h2 with
        | lst h2 => exact ⟨a, _, rfl, h1, h2⟩
      | dct _ => cases h
      | dkl _ _ _ => cases h
      | ins _ _ _ => cases h
  | _ => cases h
theorem MSt.asL {K : PySem.W.Frag} {G H : Hp} {m : MH} (s : MSt K G m H) {d : D} {v : V} {ds : List D} (r : Dn K G d v) (h : asL m d = some ds) : ∃ a xs, v = .ref a ∧ SqL K H a xs ∧ DnAll K G ds xs := by
  have gen : DL.asT m d = some ds → ∃ a xs, v = .ref a ∧ SqL K H a xs ∧ DnAll K G ds xs := fun h => by
    obtain ⟨a, xs, e, h1, h2⟩ := s.asT r h
    exact ⟨a, xs, e, .of h1, h2⟩
  cases r with
  | fz h1 h2 => cases h; exact ⟨_, _, rfl, Evl.ex_l s.ex h1, h2⟩
  | _ => exact gen h
end
end DL

namespace DL
open PySem L2
open Evl (Ex)

/-! ### data as PyData -/
mutual
def D.py : D → PyData
  | .bl b => .bool b
  | .int i => .int i
  | .str x => .str x
  | .tup ds => .tuple (D.pys ds)
  | .lst ds => .list (D.pys ds)
  | _ => .none
def D.pys : List D → List PyData
  | [] => []
  | d :: ds => d.py :: D.pys ds
end
mutual
/-- data alone, its texts of code points -/
def D.dat : D → Bool
  | .non => true
  | .bl _ => true
  | .int _ => true
  | .str x => PyData.strOk x
  | .tup ds => D.dats ds
  | .lst ds => D.dats ds
  | _ => false
def D.dats : List D → Bool
  | [] => true
  | d :: ds => d.dat && D.dats ds
end
mutual
def D.dep : D → Nat
  | .tup ds => D.deps ds + 1
  | .lst ds => D.deps ds + 1
  | _ => 0
def D.deps : List D → Nat
  | [] => 0
  | d :: ds => max d.dep (D.deps ds)
end
def D.fit (d : D) : Bool := d.dat && decide (d.dep ≤ 64)
mutual
theorem D.lay : ∀ d : D, d.dat = true → d.py.canLay0 = true
  | .non, _ => rfl
  | .bl _, _ => rfl
  | .int _, _ => rfl
  | .str x, h => by simpa [D.py, PyData.canLay0, D.dat] using h
  | .adr _, h => by simp [D.dat] at h
  | .ins _ _ _, h => by simp [D.dat] at h
  | .set _ _, h => by simp [D.dat] at h
  | .fz _, h => by simp [D.dat] at h
  | .tup ds, h => by simp only [D.py, PyData.canLay0]; exact D.lays ds (by simpa [D.dat] using h)
  | .lst ds, h => by simp only [D.py, PyData.canLay0]; exact D.lays ds (by simpa [D.dat] using h)
theorem D.lays : ∀ ds : List D, D.dats ds = true → PyData.canLayAll0 (D.pys ds) = true
  | [], _ => rfl
  | d :: ds, h => by
    simp only [D.dats, Bool.and_eq_true] at h
    simp only [D.pys, PyData.canLayAll0, Bool.and_eq_true]
    exact ⟨D.lay d h.1, D.lays ds h.2⟩
end
mutual
theorem D.depth : ∀ d : D, d.py.depth = d.dep
  | .non => by simp [D.py, PyData.depth, D.dep]
  | .bl _ => by simp [D.py, PyData.depth, D.dep]
  | .int _ => by simp [D.py, PyData.depth, D.dep]
  | .str x => by simp [D.py, PyData.depth, D.dep]
  | .adr _ => by simp [D.py, PyData.depth, D.dep]
  | .ins _ _ _ => by simp [D.py, PyData.depth, D.dep]
  | .set _ _ => by simp [D.py, PyData.depth, D.dep]
  | .fz _ => by simp [D.py, PyData.depth, D.dep]
  | .tup ds => by simp only [D.py, PyData.depth, D.dep, D.depths ds]
  | .lst ds => by simp only [D.py, PyData.depth, D.dep, D.depths ds]
theorem D.depths : ∀ ds : List D, PyData.depthAll (D.pys ds) = D.deps ds
  | [] => by simp [D.pys, PyData.depthAll, D.deps]
  | d :: ds => by simp only [D.pys, PyData.depthAll, D.deps, D.depth d, D.depths ds]
end
theorem D.fit_shaped {d : D} (h : d.fit = true) : SeqAt.shaped d.py = true := by
  simp only [D.fit, Bool.and_eq_true, decide_eq_true_eq] at h
  show (d.py.canLay0 && decide (d.py.depth ≤ 64)) = true
  rw [Bool.and_eq_true, decide_eq_true_eq, D.depth]
  exact ⟨D.lay d h.1, h.2⟩
section
variable {K : PySem.W.Frag} {G H : Hp}
mutual
theorem Dn.dp : ∀ {d : D} {v : V}, Dn K G d v → d.dat = true → Dp K G v d.py
  | _, _, .non, _ => .non
  | _, _, .bl _, _ => .bl _
  | _, _, .int _, _ => .int _
  | _, _, .str _, _ => .str _
  | _, _, .tup h hs, hd => .tup h (DnAll.dp hs (by simpa [D.dat] using hd))
  | _, _, .lst h hs, hd => .lst (.of h) (DnAll.dp hs (by simpa [D.dat] using hd))
  | _, _, .adr _, hd => by simp [D.dat] at hd
  | _, _, .ins _ _ _, hd => by simp [D.dat] at hd
  | _, _, .set _, hd => by simp [D.dat] at hd
  | _, _, .fz _ _, hd => by simp [D.dat] at hd
theorem DnAll.dp : ∀ {ds : List D} {vs : List V}, DnAll K G ds vs → D.dats ds = true → DpAll K G vs (D.pys ds)
  | _, _, .nil, _ => .nil
  | _, _, .cons h hs, hd => by
    simp only [D.dats, Bool.and_eq_true] at hd
    exact .cons (Dn.dp h hd.1) (DnAll.dp hs hd.2)
end
end
/-- == of data -/
def deq (x y : D) : Bool := PyData.eqv x.py y.py
/-! no truth values in it -/
mutual
def D.nob : D → Bool
  | .bl _ => false
  | .tup ds => D.nobs ds
  | .lst ds => D.nobs ds
  | .non => true
  | .int _ => true
  | .str _ => true
  | _ => false
def D.nobs : List D → Bool
  | [] => true
  | d :: ds => d.nob && D.nobs ds
end
mutual
theorem deq_iff : ∀ (x y : D), x.nob = true → y.nob = true → (deq x y = true ↔ x = y)
  | .non, .non, _, _ => by simp [deq, D.py, PyData.eqv]
  | .non, .int _, _, _ => by simp [deq, D.py, PyData.eqv]
  | .non, .str _, _, _ => by simp [deq, D.py, PyData.eqv]
  | .non, .tup _, _, _ => by simp [deq, D.py, PyData.eqv]
  | .non, .lst _, _, _ => by simp [deq, D.py, PyData.eqv]
  | .int _, .non, _, _ => by simp [deq, D.py, PyData.eqv]
  | .int _, .int _, _, _ => by simp [deq, D.py, PyData.eqv]
  | .int _, .str _, _, _ => by simp [deq, D.py, PyData.eqv]
  | .int _, .tup _, _, _ => by simp [deq, D.py, PyData.eqv]
  | .int _, .lst _, _, _ => by simp [deq, D.py, PyData.eqv]
  | .str _, .non, _, _ => by simp [deq, D.py, PyData.eqv]
  | .str _, .int _, _, _ => by simp [deq, D.py, PyData.eqv]
  | .str _, .str _, _, _ => by simp [deq, D.py, PyData.eqv]
  | .str _, .tup _, _, _ => by simp [deq, D.py, PyData.eqv]
  | .str _, .lst _, _, _ => by simp [deq, D.py, PyData.eqv]
  | .tup _, .non, _, _ => by simp [deq, D.py, PyData.eqv]
  | .tup _, .int _, _, _ => by simp [deq, D.py, PyData.eqv]
  | .tup _, .str _, _, _ => by simp [deq, D.py, PyData.eqv]
  | .tup _, .lst _, _, _ => by simp [deq, D.py, PyData.eqv]
  | .lst _, .non, _, _ => by simp [deq, D.py, PyData.eqv]
  | .lst _, .int _, _, _ => by simp [deq, D.py, PyData.eqv]
  | .lst _, .str _, _, _ => by simp [deq, D.py, PyData.eqv]
  | .lst _, .tup _, _, _ => by simp [deq, D.py, PyData.eqv]
  | .tup xs, .tup ys, h, k => by
    have := deqs_iff xs ys (by simpa [D.nob] using h) (by simpa [D.nob] using k)
    simpa [deq, D.py, PyData.eqv] using this
  | .lst xs, .lst ys, h, k => by
    have := deqs_iff xs ys (by simpa [D.nob] using h) (by simpa [D.nob] using k)
    simpa [deq, D.py, PyData.eqv] using this
  | .bl _, _, h, _ => by simp [D.nob] at h
  | .adr _, _, h, _ => by simp [D.nob] at h
  | .ins _ _ _, _, h, _ => by simp [D.nob] at h
  | .set _ _, _, h, _ => by simp [D.nob] at h
  | .fz _, _, h, _ => by simp [D.nob] at h
  | _, .bl _, _, h => by simp [D.nob] at h
  | _, .adr _, _, h => by simp [D.nob] at h
  | _, .ins _ _ _, _, h => by simp [D.nob] at h
  | _, .set _ _, _, h => by simp [D.nob] at h
  | _, .fz _, _, h => by simp [D.nob] at h
theorem deqs_iff : ∀ (xs ys : List D), D.nobs xs = true → D.nobs ys = true → (PyData.eqvAll (D.pys xs) (D.pys ys) = true ↔ xs = ys)
  | [], [], _, _ => by simp [D.pys, PyData.eqvAll]
  | [], _ :: _, _, _ => by simp [D.pys, PyData.eqvAll]
  | _ :: _, [], _, _ => by simp [D.pys, PyData.eqvAll]
  | x :: xs, y :: ys, h, k => by
    simp only [D.nobs, Bool.and_eq_true] at h k
    have e1 := deq_iff x y h.1 k.1
    have e2 := deqs_iff xs ys h.2 k.2
    simp only [D.pys, PyData.eqvAll, Bool.and_eq_true, List.cons.injEq]
    rw [e2]
    constructor
    · intro ⟨p, q⟩; exact ⟨e1.mp p, q⟩
    · intro ⟨p, q⟩; exact ⟨e1.mpr p, q⟩
end

section
variable {X : Cx} {a b c e : Expr} {ta tb tc te : VE} {pos : Pos}
/-- the answer, or its opposite -/
abbrev nb (neg b : Bool) : Bool := match neg with
  | true => !b
  | false => b
/-- scalars -/
def dsc : D → D → Option Bool
  | .non, .non => some true
  | .non, .int _ => some false
  | .int _, .non => some false
  | .non, .bl _ => some false
  | .bl _, .non => some false
  | .non, .str _ => some false
  | .str _, .non => some false
  | .int i, .int j => some (decide (i = j))
  | .bl i, .bl j => some (decide (i = j))
  | .str i, .str j => some (decide (i = j))
  | .int _, .str _ => some false
  | .str _, .int _ => some false
  | .bl _, .str _ => some false
  | .str _, .bl _ => some false
  | _, _ => none
theorem dsc_ok {K : PySem.W.Frag} {G : Hp} {x y : D} {v u : V} {b : Bool} (hx : Dn K G x v) (hy : Dn K G y u) (h : dsc x y = some b) : scal v u = true ∧ b = decide (v = u) := by
  cases hx <;> cases hy <;> simp [dsc] at h <;> (try subst h) <;> simp [scal]
/-- what stands for it as data: a cell's list read -/
def view (m : MH) : D → D
  | .adr a => match m a with
    | some (.lst ds) => .lst ds
    | _ => .adr a
  | .fz ds => .lst ds
  | d => d
theorem view_adr {m : MH} {a : Addr} {ds : List D} (h : m a = some (.lst ds)) : view m (.adr a) = .lst ds := by simp only [view, h]
theorem MSt.vw {K : PySem.W.Frag} {G H : Hp} {m : MH} (s : MSt K G m H) {d : D} {v : V} (r : Dn K G d v) (f : (view m d).dat = true) : Dp K H v (view m d).py := by
  have gen : ∀ d : D, Dn K G d v → d.dat = true → Dp K H v d.py := fun d r f => (r.mono s.ex).dp f
  cases d with
  | adr a =>
    cases r
    simp only [view] at f ⊢
    cases q : m a with
    | none => rw [q] at f; simp [D.dat] at f
    | some o =>
      rw [q] at f
      cases o with
      | lst ds =>
        obtain ⟨_, ho, h1, h2⟩ := s.mr a _ q
        cases h2 with
        | lst h2 => exact .lst (.of h1) ((h2.mono s.ex).dp (by simpa [D.dat] using f))
      | dct _ => simp [D.dat] at f
      | dkl _ _ _ => simp [D.dat] at f
      | ins _ _ _ => simp [D.dat] at f
  | fz ds =>
    cases r with
    | fz h1 h2 => exact .lst (Evl.ex_l s.ex h1) ((h2.mono s.ex).dp (by simpa [view, D.dat] using f))
  | _ => exact gen _ r f
/-- ==, !=: scalars; data -/
inductive EqG (neg : Bool) (x y : D) (m : MH) (Q : D → Prop) : Prop
  | sc {b : Bool} (h : dsc x y = some b) (q : Q (.bl (nb neg b)))
  | dt {x' y' : D} {b : Bool} (hx : view m x = x') (hy : view m y = y') (fx : x'.fit = true) (fy : y'.fit = true) (hb : deq x' y' = b) (q : Q (.bl (nb neg b)))
def oEqG (neg : Bool) : VO := fun x y m Q => EqG neg x y m Q
abbrev oEq : VO := oEqG false
abbrev oNe : VO := oEqG true
theorem fit_dat {d : D} (h : d.fit = true) : d.dat = true := by
  simp only [D.fit, Bool.and_eq_true] at h; exact h.1
theorem uo_eq (hu : X.A.units + 64 < cLine) : UO X (compareOp .Eq) oEq := opsplit op_eq (op_eqD hu) fun x y H Q h => by
  obtain ⟨G, m, dx, dy, P, s, hx, hy, t, k⟩ := h
  replace t : EqG false dx dy m P := t
  cases t with
  | sc q t =>
    obtain ⟨h1, h2⟩ := dsc_ok hx hy q
    refine .inl ⟨h1, ?_⟩
    rw [← h2]
    exact k _ G _ H t Stp.refl s (.bl _)
  | dt e1 e2 f1 f2 hb t =>
    subst e1 e2 hb
    exact .inr ⟨_, _, s.vw hx (fit_dat f1), s.vw hy (fit_dat f2), D.fit_shaped f1, D.fit_shaped f2, k _ G _ H t Stp.refl s (.bl _)⟩
theorem uo_ne (hu : X.A.units + 64 < cLine) : UO X (compareOp .NotEq) oNe := opsplit op_ne (op_neD hu) fun x y H Q h => by
  obtain ⟨G, m, dx, dy, P, s, hx, hy, t, k⟩ := h
  replace t : EqG true dx dy m P := t
  cases t with
  | sc q t =>
    obtain ⟨h1, h2⟩ := dsc_ok hx hy q
    refine .inl ⟨h1, ?_⟩
    rw [← h2]
    exact k _ G _ H t Stp.refl s (.bl _)
  | dt e1 e2 f1 f2 hb t =>
    subst e1 e2 hb
    exact .inr ⟨_, _, s.vw hx (fit_dat f1), s.vw hy (fit_dat f2), D.fit_shaped f1, D.fit_shaped f2, k _ G _ H t Stp.refl s (.bl _)⟩
/-- is None, is a bool -/
def isN : D → Bool
  | .non => true
  | _ => false
def oIsG (neg : Bool) : VO := fun x y _ Q => match y with
  | .non => Q (.bl (nb neg (isN x)))
  | .bl b => match x with
    | .bl a => Q (.bl (nb neg (decide (a = b))))
    | _ => False
  | _ => False
theorem isN_ok {K : PySem.W.Frag} {G : Hp} {x : D} {v : V} (hx : Dn K G x v) : isN x = decide (v = .non) := by
  cases hx <;> simp [isN]
theorem uo_is : UO X (compareOp .Is) (oIsG false) := opsplit op_isN op_isBl fun x y H Q h => by
  obtain ⟨G, m, dx, dy, P, s, hx, hy, t, k⟩ := h
  cases hy with
  | non =>
    refine .inl ⟨rfl, ?_⟩
    rw [← isN_ok hx]
    exact k _ G _ H t Stp.refl s (.bl _)
  | bl b =>
    cases hx with
    | bl a => exact .inr ⟨a, b, rfl, rfl, k _ G _ H t Stp.refl s (.bl _)⟩
    | _ => exact t.elim
  | _ => exact t.elim
theorem uo_isNot : UO X (compareOp .IsNot) (oIsG true) := opsplit op_notN op_notBl fun x y H Q h => by
  obtain ⟨G, m, dx, dy, P, s, hx, hy, t, k⟩ := h
  cases hy with
  | non =>
    refine .inl ⟨rfl, ?_⟩
    rw [← isN_ok hx]
    exact k _ G _ H t Stp.refl s (.bl _)
  | bl b =>
    cases hx with
    | bl a => exact .inr ⟨a, b, rfl, rfl, k _ G _ H t Stp.refl s (.bl _)⟩
    | _ => exact t.elim
  | _ => exact t.elim

/-! ### in -/
/-- any item that is == x -/
def din (x : D) (ds : List D) : Bool := ds.any fun z => deq z x
theorem din_pys {x : D} : ∀ ds : List D, ((D.pys ds).any fun z => PyData.eqv z x.py) = din x ds
  | [] => rfl
  | d :: ds => by
    have := din_pys (x := x) ds
    simp only [D.pys, List.any_cons, this]
    rfl
def D.flat : D → Bool
  | .non => true
  | .bl _ => true
  | .int _ => true
  | .str _ => true
  | _ => false
theorem flat_ok {K : PySem.W.Frag} {G : Hp} {x : D} {v : V} (hx : Dn K G x v) (h : x.flat = true) : flatV v = true := by
  cases hx <;> first | rfl | simp [D.flat] at h
theorem flat_eq {K : PySem.W.Frag} {G : Hp} {x y : D} {v u : V} (hx : Dn K G x v) (hy : Dn K G y u) (fx : x.flat = true) (fy : y.flat = true) : eqV v u = deq x y := by
  cases hx <;> cases hy <;> first | (simp [D.flat] at fx; done) | (simp [D.flat] at fy; done) | (simp [eqV, deq, D.py, PyData.eqv]; done) | rfl
theorem flats_ok {K : PySem.W.Frag} {G : Hp} : ∀ {ds : List D} {vs : List V}, DnAll K G ds vs → ds.all D.flat = true → vs.all flatV = true
  | _, _, .nil, _ => rfl
  | _, _, .cons h hs, f => by
    simp only [List.all_cons, Bool.and_eq_true] at f ⊢
    exact ⟨flat_ok h f.1, flats_ok hs f.2⟩
theorem flats_in {K : PySem.W.Frag} {G : Hp} {x : D} {v : V} (hx : Dn K G x v) (fx : x.flat = true) : ∀ {ds : List D} {vs : List V}, DnAll K G ds vs → ds.all D.flat = true → inV v vs = din x ds
  | _, _, .nil, _ => rfl
  | _, _, .cons h hs, f => by
    simp only [List.all_cons, Bool.and_eq_true] at f
    have := flats_in hx fx hs f.2
    unfold inV din at this ⊢
    rw [List.any_cons, List.any_cons, this, flat_eq h hx f.1 fx]
inductive InG (neg : Bool) (x y : D) (m : MH) (Q : D → Prop) : Prop
  | tup {ds : List D} {b : Bool} (e : y = .tup ds) (fx : x.flat = true) (fd : ds.all D.flat = true) (hb : din x ds = b) (q : Q (.bl (nb neg b)))
  | sg {c : Nat} {z : Str} (e1 : x = .str ⟨#[c]⟩) (e2 : y = .str z) (q : Q (.bl (nb neg (decide (c ∈ z.cps.toList)))))
  | lst {ds : List D} {b : Bool} (e : asL m y = some ds) (fx : x.fit = true) (fd : (D.lst ds).fit = true) (hb : din x ds = b) (q : Q (.bl (nb neg b)))
def oInG (neg : Bool) : VO := fun x y m Q => InG neg x y m Q
theorem asL_view {m : MH} {y : D} {ds : List D} (h : asL m y = some ds) : view m y = .lst ds := by
  cases y with
  | lst es => cases h; rfl
  | fz es => cases h; rfl
  | adr a =>
    simp only [asL, asT] at h
    simp only [view]
    cases q : m a with
    | none => rw [q] at h; cases h
    | some o =>
      rw [q] at h
      cases o with
      | lst es => cases h; rfl
      | dct _ => cases h
      | dkl _ _ _ => cases h
      | ins _ _ _ => cases h
  | _ => cases h
theorem in_list {K : PySem.W.Frag} {G H : Hp} {m : MH} {x y : D} {v u : V} {ds : List D} (s : MSt K G m H) (hx : Dn K G x v) (hy : Dn K G y u) (h : asL m y = some ds) (fx : x.fit = true) (fy : (D.lst ds).fit = true) :
    Dp K H v x.py ∧ Dp K H u (.list (D.pys ds)) ∧ SeqAt.shaped x.py = true ∧ SeqAt.shaped (.list (D.pys ds)) = true := by
  have e := asL_view h
  have q := s.vw hy (by rw [e]; exact fit_dat fy)
  rw [e] at q
  exact ⟨(hx.mono s.ex).dp (fit_dat fx), q, D.fit_shaped fx, D.fit_shaped fy⟩
theorem uo_in (hu : X.A.units + 65 < cLine) : UO X (compareOp .In) (oInG false) := opsplit (opsplit op_in_seq op_in_sign (r'' := fun x y H Q => rIn X.K false x y H Q ∨ ∃ (c : Nat) (z : Str), x = .str ⟨#[c]⟩ ∧ y = .str z ∧ Q (.bl (decide (c ∈ z.cps.toList))) H) fun _ _ _ _ h => h) (op_inD hu) fun x y H Q h => by
  obtain ⟨G, m, dx, dy, P, s, hx, hy, t, k⟩ := h
  replace t : InG false dx dy m P := t
  cases t with
  | tup e f1 f2 hb t =>
    subst e hb
    cases hy with
    | tup h1 h2 =>
      refine .inl (.inl ⟨_, _, rfl, .inr (Evl.ex_t s.ex h1), flat_ok hx f1, flats_ok h2 f2, ?_⟩)
      rw [flats_in hx f1 h2 f2]
      exact k _ G _ H t Stp.refl s (.bl _)
  | sg e1 e2 t =>
    subst e1 e2
    cases hx
    cases hy
    exact .inl (.inr ⟨_, _, rfl, rfl, k _ G _ H t Stp.refl s (.bl _)⟩)
  | lst h1 h2 h3 hb h4 =>
    subst hb
    obtain ⟨q1, q2, q3, q4⟩ := in_list s hx hy h1 h2 h3
    exact .inr ⟨_, _, q1, q2, q3, q4, by rw [din_pys]; exact k _ G _ H h4 Stp.refl s (.bl _)⟩
theorem uo_notIn (hu : X.A.units + 65 < cLine) : UO X (compareOp .NotIn) (oInG true) := opsplit (opsplit op_notIn_seq op_notIn_sign (r'' := fun x y H Q => rIn X.K true x y H Q ∨ ∃ (c : Nat) (z : Str), x = .str ⟨#[c]⟩ ∧ y = .str z ∧ Q (.bl (!decide (c ∈ z.cps.toList))) H) fun _ _ _ _ h => h) (op_notInD hu) fun x y H Q h => by
  obtain ⟨G, m, dx, dy, P, s, hx, hy, t, k⟩ := h
  replace t : InG true dx dy m P := t
  cases t with
  | tup e f1 f2 hb t =>
    subst e hb
    cases hy with
    | tup h1 h2 =>
      refine .inl (.inl ⟨_, _, rfl, .inr (Evl.ex_t s.ex h1), flat_ok hx f1, flats_ok h2 f2, ?_⟩)
      rw [flats_in hx f1 h2 f2]
      exact k _ G _ H t Stp.refl s (.bl _)
  | sg e1 e2 t =>
    subst e1 e2
    cases hx
    cases hy
    exact .inl (.inr ⟨_, _, rfl, rfl, k _ G _ H t Stp.refl s (.bl _)⟩)
  | lst h1 h2 h3 hb h4 =>
    subst hb
    obtain ⟨q1, q2, q3, q4⟩ := in_list s hx hy h1 h2 h3
    exact .inr ⟨_, _, q1, q2, q3, q4, by rw [din_pys]; exact k _ G _ H h4 Stp.refl s (.bl _)⟩
end
end DL

namespace DL
open PySem L2
open Evl (Ex)
section
variable {X : Cx} {B : Bs} {a b c e o : Expr} {es : List Expr} {ta tb tc te to : VE} {va : VA} {pos : Pos}

/-! ### + -/
def oAdd : VO := fun x y m Q => match x, y with
  | .int i, .int j => Q (.int (i + j))
  | .str i, .str j => i.length + j.length ≤ sizeLine ∧ Q (.str (i ++ j))
  | .tup xs, .tup ys => xs ≠ [] ∧ xs.length + ys.length ≤ sizeLine ∧ Q (.tup (xs ++ ys))
  | x, y => ∃ xs ys, asT m x = some xs ∧ asT m y = some ys ∧ xs.length + ys.length ≤ sizeLine ∧ Q (.lst (xs ++ ys))
/-- two lists added, a new list -/
theorem low_cat {K : PySem.W.Frag} {G H : Hp} {m : MH} {dx dy : D} {x y : V} {P : D → Prop} {Q : VK} {xs ys : List D} (s : MSt K G m H) (hx : Dn K G dx x) (hy : Dn K G dy y)
    (k : ∀ d G' v H', P d → Stp G m H G' m H' → MSt K G' m H' → Dn K G' d v → Q v H') (h1 : asT m dx = some xs) (h2 : asT m dy = some ys) (h3 : xs.length + ys.length ≤ sizeLine) (h4 : P (.lst (xs ++ ys))) : rCat x y H Q := by
  obtain ⟨a, us, rfl, ha, ra⟩ := s.asT hx h1
  obtain ⟨b, vs, rfl, hb, rb⟩ := s.asT hy h2
  refine ⟨a, b, us, vs, rfl, rfl, ha, hb, by rw [← ra.length, ← rb.length]; exact h3, fun p hp => ?_⟩
  obtain ⟨e, s'⟩ := s.newG hp (.lst (us ++ vs))
  exact k _ _ _ _ h4 e s' (.lst upd_same ((ra.append rb).mono e.ex))
theorem uo_add : UO X (binaryOp .Add) oAdd := opsplit (opsplit op_add op_add_str (r'' := fun x y H Q => rI0 (fun i j => .int (i + j)) x y H Q ∨ ∃ i j, x = .str i ∧ y = .str j ∧ i.length + j.length ≤ sizeLine ∧ Q (.str (i ++ j)) H) fun _ _ _ _ h => h)
    (opsplit op_catT op_cat (r'' := fun x y H Q => rCatT X.K x y H Q ∨ rCat x y H Q) fun _ _ _ _ h => h) fun x y H Q h => by
  obtain ⟨G, m, dx, dy, P, s, hx, hy, t, k⟩ := h
  unfold oAdd at t
  split at t
  · cases hx; cases hy
    exact .inl (.inl ⟨_, _, rfl, rfl, k _ G _ H t Stp.refl s (.int _)⟩)
  · cases hx; cases hy
    exact .inl (.inr ⟨_, _, rfl, rfl, t.1, k _ G _ H t.2 Stp.refl s (.str _)⟩)
  · cases hx with
    | tup h1 h2 =>
      cases hy with
      | tup h3 h4 =>
        obtain ⟨t1, t2, t3⟩ := t
        refine .inr (.inl ⟨_, _, _, _, rfl, rfl, Evl.ex_t s.ex h1, Evl.ex_t s.ex h3, ?_, by rw [← h2.length, ← h4.length]; exact t2, fun z => ?_, fun z p hp => ?_⟩)
        · intro z
          subst z
          cases h2
          exact t1 rfl
        · subst z
          cases h4
          rw [List.append_nil] at t3
          exact k _ G _ H t3 Stp.refl s (.tup h1 h2)
        · obtain ⟨e, s'⟩ := s.newG hp (.tup _)
          exact k _ _ _ _ t3 e s' (.tup (.of upd_same) ((h2.append h4).mono e.ex))
  · obtain ⟨xs, ys, h1, h2, h3, h4⟩ := t
    exact .inr (.inr (low_cat s hx hy k h1 h2 h3 h4))

/-! ### tests -/
def vTest (t : VE) : VT := fun ρ m Q => t ρ m fun d m' => match d with | .bl b => Q b m' | _ => False
theorem ut_cmp {op : CmpOp} {o : VO} (ho : UO X (compareOp op) o) (ha : UE X B a ta) (hb : UE X B b tb) (hm : behindInMarks op b = false) : UT X B (.Compare a [op] [b] pos) (vTest (vOp o ta tb)) :=
  ⟨(pt_cmpR ho ha.pe hb.pe hm).weak fun σ H Q h => by
    obtain ⟨G, ρ, m, P, e0, s, t, k⟩ := h
    refine low_op ⟨G, ρ, m, _, e0, s, t, fun d m' G' v H' q e1 s1 r1 => ?_⟩
    cases r1 <;> first | exact q.elim | exact ⟨_, rfl, k _ m' G' H' q e1 s1⟩⟩
/-- a chain a < b < c, the value of b held -/
def vChain (o o' : VO) (ta tb tc : VE) : VE := fun ρ m Q => ta ρ m fun x m1 => tb ρ m1 fun y m2 => o x y m2 fun d => match d with
  | .bl b1 => (b1 = true → tc ρ m2 fun z m3 => o' y z m3 fun d' => Q d' m3) ∧ (b1 = false → Q (.bl false) m2)
  | _ => False
theorem low_chain {o o' : VO} {ta tb tc : VE} {σ : L2.St} {H : Hp} {Q : VK} (h : lowE X.K B (vChain o o' ta tb tc) σ H Q) : tChain (lowO X.K o) (lowO X.K o') (lowE X.K B ta) (lowE X.K B tb) (lowE X.K B tc) σ H Q := by
  obtain ⟨G, ρ, m, P, e0, s, t, k⟩ := h
  refine ⟨G, ρ, m, _, e0, s, t, fun x m1 G1 v1 H1 q1 e1 s1 r1 => ?_⟩
  refine ⟨G1, ρ, m1, _, e0.trans e1, ⟨s.fr.mono e1.ex, s1⟩, q1, fun y m2 G2 v2 H2 q2 e2 s2 r2 => ?_⟩
  refine ⟨G2, m2, x, y, _, s2, r1.mono e2.ex, r2, q2, fun d G3 v H3 q3 e3 s3 r3 => ?_⟩
  cases r3 <;> first | exact q3.elim | skip
  rename_i b1
  obtain ⟨q4, q5⟩ := q3
  refine ⟨b1, rfl, ?_⟩
  cases b1 with
  | false =>
    rw [if_neg Bool.false_ne_true]
    exact k _ m2 G3 _ H3 (q5 rfl) ((e1.trans e2).trans e3) s3 (.bl _)
  | true =>
    rw [if_pos rfl]
    refine ⟨G3, ρ, m2, _, ((e0.trans e1).trans e2).trans e3, ⟨s.fr.mono ((e1.trans e2).trans e3).ex, s3⟩, q4 rfl, fun z m3 G4 v4 H4 q6 e4 s4 r4 => ?_⟩
    exact ⟨G4, m3, y, z, _, s4, r2.mono (e3.trans e4).ex, r4, q6, fun d G5 v5 H5 q7 e5 s5 r5 => k _ m3 G5 _ H5 q7 ((((e1.trans e2).trans e3).trans e4).trans e5) s5 r5⟩
theorem ue_chain {op op' : CmpOp} {o o' : VO} (ho : UO X (compareOp op) o) (ho' : UO X (compareOp op') o') (ha : UE X B a ta) (hb : UE X B b tb) (hc : UE X B c tc) (hm : lastMarks [op, op'] [b, c] = false := by rfl) : UE X B (.Compare a [op, op'] [b, c] pos) (vChain o o' ta tb tc) :=
  ⟨(pe_chain ho ho' ha.pe hb.pe hc.pe (hm := hm)).weak fun _ _ _ h => low_chain h⟩
theorem ut_chain {op op' : CmpOp} {o o' : VO} (ho : UO X (compareOp op) o) (ho' : UO X (compareOp op') o') (ha : UE X B a ta) (hb : UE X B b tb) (hc : UE X B c tc) (hm : lastMarks [op, op'] [b, c] = false := by rfl) : UT X B (.Compare a [op, op'] [b, c] pos) (vTest (vChain o o' ta tb tc)) :=
  ⟨(pt_chain ho ho' ha.pe hb.pe hc.pe (hm := hm)).weak fun σ H Q h => by
    obtain ⟨G, ρ, m, P, e0, s, t, k⟩ := h
    refine low_chain ⟨G, ρ, m, _, e0, s, t, fun d m' G' v H' q e1 s1 r1 => ?_⟩
    cases r1 <;> first | exact q.elim | exact ⟨_, rfl, k _ m' G' H' q e1 s1⟩⟩
/-- truth of a value -/
inductive TruG (m : MH) (d : D) (Q : Bool → Prop) : Prop
  | non (e : d = .non) (q : Q false)
  | bl {b : Bool} (e : d = .bl b) (q : Q b)
  | int {i : Int} (e : d = .int i) (q : Q (i != 0))
  | str {z : Str} (e : d = .str z) (l : z.length ≤ sizeLine) (q : Q ((z.length : Int) != 0))
  | tup {ds : List D} (e : d = .tup ds) (q : Q (!ds.isEmpty))
  | dct {a : Addr} {kds : List (Key × D)} (e : d = .adr a) (h : m a = some (.dct kds)) (q : Q (!kds.isEmpty))
  | lst {ds : List D} (e : asL m d = some ds) (q : Q (!ds.isEmpty))
def dTru (m : MH) (d : D) (Q : Bool → Prop) : Prop := TruG m d Q
def vTru (t : VE) : VT := fun ρ m Q => t ρ m fun d m' => dTru m' d fun b => Q b m'
theorem DnAll.isEmpty {K : PySem.W.Frag} {G : Hp} {ds : List D} {vs : List V} (h : DnAll K G ds vs) : vs.isEmpty = ds.isEmpty := by
  cases h <;> rfl
theorem MSt.tru {K : PySem.W.Frag} {G H : Hp} {m : MH} (s : MSt K G m H) {d : D} {v : V} (r : Dn K G d v) {Q : Bool → Prop} (h : dTru m d Q) : ∃ k, TruV K v H k ∧ Q k := by
  replace h : TruG m d Q := h
  cases h with
  | non e q => subst e; cases r; exact ⟨_, rfl, q⟩
  | bl e q => subst e; cases r; exact ⟨_, rfl, q⟩
  | int e q => subst e; cases r; exact ⟨_, rfl, q⟩
  | str e l q => subst e; cases r; exact ⟨_, ⟨l, rfl⟩, q⟩
  | tup e q =>
    subst e
    cases r with
    | tup h1 h2 => exact ⟨_, .inr (.inl ⟨_, Evl.ex_t s.ex h1, rfl⟩), by rw [h2.isEmpty]; exact q⟩
  | dct e h1 q =>
    subst e
    cases r
    obtain ⟨_, ho, h3, h4⟩ := s.mr _ _ h1
    cases h4 with
    | dct e1 h4 =>
      rename_i kvs
      refine ⟨_, .inr (.inr ⟨_, h3, rfl⟩), ?_⟩
      have e2 := congrArg List.length e1
      rw [List.length_map, List.length_map] at e2
      rename_i kds _
      have e3 : kvs.isEmpty = kds.isEmpty := by cases kvs <;> cases kds <;> first | rfl | cases e2
      rw [e3]
      exact q
  | lst h1 q =>
    obtain ⟨a, xs, rfl, h3, h4⟩ := s.asL r h1
    exact ⟨_, .inl ⟨_, h3, rfl⟩, by rw [h4.isEmpty]; exact q⟩
theorem ut_tru (ha : UE X B a ta) (he : ∀ whole, isTrue a X.env whole = (do let v ← whole; standAt a.pos; holding [v] (truthy v)) := by intro _; rfl) : UT X B a (vTru ta) :=
  ⟨(pt_truth ha.pe he).weak fun σ H Q h => by
    obtain ⟨G, ρ, m, P, e0, s, t, k⟩ := h
    refine ⟨G, ρ, m, _, e0, s, t, fun d m' G' v H' q e1 s1 r1 => ?_⟩
    obtain ⟨b, h1, h2⟩ := s1.tru r1 q
    exact ⟨b, h1, k b m' G' H' h2 e1 s1⟩⟩
variable {t u : VT}
/-- and, or of tests, way by way -/
def vAnd (t u : VT) : VT := fun ρ m Q => t ρ m fun b1 m1 => (b1 = true → u ρ m1 Q) ∧ (b1 = false → Q false m1)
def vOr (t u : VT) : VT := fun ρ m Q => t ρ m fun b1 m1 => (b1 = true → Q true m1) ∧ (b1 = false → u ρ m1 Q)
def vNot (t : VT) : VT := fun ρ m Q => t ρ m fun b m1 => Q (!b) m1
theorem low_and {K : PySem.W.Frag} {σ : L2.St} {H : Hp} {Q : Bool → Hp → Prop} (h : lowT K B (vAnd t u) σ H Q) : tAnd (lowT K B t) (lowT K B u) σ H Q := by
  obtain ⟨G, ρ, m, P, e0, s, t, k⟩ := h
  refine ⟨G, ρ, m, _, e0, s, t, fun b1 m1 G1 H1 q1 e1 s1 => ?_⟩
  cases b1 with
  | false => rw [if_neg Bool.false_ne_true]; exact k _ m1 G1 H1 (q1.2 rfl) e1 s1
  | true =>
    rw [if_pos rfl]
    exact ⟨G1, ρ, m1, _, e0.trans e1, ⟨s.fr.mono e1.ex, s1⟩, q1.1 rfl, fun c m2 G2 H2 q4 e2 s2 => k _ m2 G2 H2 q4 (e1.trans e2) s2⟩
theorem low_or {K : PySem.W.Frag} {σ : L2.St} {H : Hp} {Q : Bool → Hp → Prop} (h : lowT K B (vOr t u) σ H Q) : tOr (lowT K B t) (lowT K B u) σ H Q := by
  obtain ⟨G, ρ, m, P, e0, s, t, k⟩ := h
  refine ⟨G, ρ, m, _, e0, s, t, fun b1 m1 G1 H1 q1 e1 s1 => ?_⟩
  cases b1 with
  | true => rw [if_pos rfl]; exact k _ m1 G1 H1 (q1.1 rfl) e1 s1
  | false =>
    rw [if_neg Bool.false_ne_true]
    exact ⟨G1, ρ, m1, _, e0.trans e1, ⟨s.fr.mono e1.ex, s1⟩, q1.2 rfl, fun c m2 G2 H2 q4 e2 s2 => k _ m2 G2 H2 q4 (e1.trans e2) s2⟩
theorem UW.ut {e : Expr} (h : UW X B e t) : UT X B e t := ⟨h.pw.pt⟩
theorem uw_and1 (ha : UT X B a t) : UW X B (.BoolOp .And [a] pos) t := ⟨pw_and1 ha.pt⟩
theorem uw_or1 (ha : UT X B a t) : UW X B (.BoolOp .Or [a] pos) t := ⟨pw_or1 ha.pt⟩
theorem uw_and {rest : List Expr} (ha : UT X B a t) (hb : UW X B (.BoolOp .And (b :: rest) pos) u) : UW X B (.BoolOp .And (a :: b :: rest) pos) (vAnd t u) := ⟨(pw_and ha.pt hb.pw).weak fun _ _ _ h => low_and h⟩
theorem uw_or {rest : List Expr} (ha : UT X B a t) (hb : UW X B (.BoolOp .Or (b :: rest) pos) u) : UW X B (.BoolOp .Or (a :: b :: rest) pos) (vOr t u) := ⟨(pw_or ha.pt hb.pw).weak fun _ _ _ h => low_or h⟩
theorem ut_not (ha : UT X B a t) : UT X B (.UnaryOp .Not a pos) (vNot t) := ⟨(pt_not ha.pt).weak fun σ H Q h => by
  obtain ⟨G, ρ, m, P, e0, s, t, k⟩ := h
  exact ⟨G, ρ, m, _, e0, s, t, fun b m' G' H' q e1 s1 => k _ m' G' H' q e1 s1⟩⟩
/-- as values, of truth values -/
def vAndV (ta tb : VE) : VE := fun ρ m Q => ta ρ m fun x m1 => match x with
  | .bl b1 => (b1 = true → tb ρ m1 Q) ∧ (b1 = false → Q (.bl false) m1)
  | _ => False
def vOrV (ta tb : VE) : VE := fun ρ m Q => ta ρ m fun x m1 => match x with
  | .bl b1 => (b1 = true → Q (.bl true) m1) ∧ (b1 = false → tb ρ m1 Q)
  | _ => False
def vNotV (ta : VE) : VE := fun ρ m Q => ta ρ m fun x m1 => match x with | .bl b => Q (.bl (!b)) m1 | _ => False
theorem ue_one {op} (h : UE X B a ta) : UE X B (.BoolOp op [a] pos) ta := ⟨pe_one h.pe⟩
theorem ue_and {rest : List Expr} (ha : UE X B a ta) (hb : UE X B (.BoolOp .And (b :: rest) pos) tb) : UE X B (.BoolOp .And (a :: b :: rest) pos) (vAndV ta tb) := ⟨(pe_and ha.pe hb.pe).weak fun σ H Q h => by
  obtain ⟨G, ρ, m, P, e0, s, t, k⟩ := h
  refine ⟨G, ρ, m, _, e0, s, t, fun x m1 G1 v1 H1 q1 e1 s1 r1 => ?_⟩
  cases r1 <;> first | exact q1.elim | skip
  rename_i b1
  refine ⟨b1, rfl, ?_⟩
  cases b1 with
  | false => rw [if_neg Bool.false_ne_true]; exact k _ m1 G1 _ H1 (q1.2 rfl) e1 s1 (.bl _)
  | true =>
    rw [if_pos rfl]
    exact ⟨G1, ρ, m1, _, e0.trans e1, ⟨s.fr.mono e1.ex, s1⟩, q1.1 rfl, fun y m2 G2 v2 H2 q4 e2 s2 r2 => k _ m2 G2 _ H2 q4 (e1.trans e2) s2 r2⟩⟩
theorem ue_or {rest : List Expr} (ha : UE X B a ta) (hb : UE X B (.BoolOp .Or (b :: rest) pos) tb) : UE X B (.BoolOp .Or (a :: b :: rest) pos) (vOrV ta tb) := ⟨(pe_or ha.pe hb.pe).weak fun σ H Q h => by
  obtain ⟨G, ρ, m, P, e0, s, t, k⟩ := h
  refine ⟨G, ρ, m, _, e0, s, t, fun x m1 G1 v1 H1 q1 e1 s1 r1 => ?_⟩
  cases r1 <;> first | exact q1.elim | skip
  rename_i b1
  refine ⟨b1, rfl, ?_⟩
  cases b1 with
  | true => rw [if_pos rfl]; exact k _ m1 G1 _ H1 (q1.1 rfl) e1 s1 (.bl _)
  | false =>
    rw [if_neg Bool.false_ne_true]
    exact ⟨G1, ρ, m1, _, e0.trans e1, ⟨s.fr.mono e1.ex, s1⟩, q1.2 rfl, fun y m2 G2 v2 H2 q4 e2 s2 r2 => k _ m2 G2 _ H2 q4 (e1.trans e2) s2 r2⟩⟩
theorem ue_not (ha : UE X B a ta) : UE X B (.UnaryOp .Not a pos) (vNotV ta) := ⟨(pe_not ha.pe).weak fun σ H Q h => by
  obtain ⟨G, ρ, m, P, e0, s, t, k⟩ := h
  refine ⟨G, ρ, m, _, e0, s, t, fun x m1 G1 v1 H1 q1 e1 s1 r1 => ?_⟩
  cases r1 <;> first | exact q1.elim | skip
  exact ⟨_, rfl, k _ m1 G1 _ H1 q1 e1 s1 (.bl _)⟩⟩
def vIf (t : VT) (ta tb : VE) : VE := fun ρ m Q => t ρ m fun b m1 => (b = true → ta ρ m1 Q) ∧ (b = false → tb ρ m1 Q)
theorem ue_if (hc : UT X B c t) (ha : UE X B a ta) (hb : UE X B b tb) : UE X B (.IfExp c a b pos) (vIf t ta tb) := ⟨(pe_ifExp hc.pt ha.pe hb.pe).weak fun σ H Q h => by
  obtain ⟨G, ρ, m, P, e0, s, t, k⟩ := h
  refine ⟨G, ρ, m, _, e0, s, t, fun b1 m1 G1 H1 q1 e1 s1 => ?_⟩
  obtain ⟨q2, q3⟩ := q1
  cases b1 with
  | true => rw [if_pos rfl]; exact ⟨G1, ρ, m1, _, e0.trans e1, ⟨s.fr.mono e1.ex, s1⟩, q2 rfl, fun d m2 G2 v2 H2 q4 e2 => k d m2 G2 v2 H2 q4 (e1.trans e2)⟩
  | false => rw [if_neg Bool.false_ne_true]; exact ⟨G1, ρ, m1, _, e0.trans e1, ⟨s.fr.mono e1.ex, s1⟩, q3 rfl, fun d m2 G2 v2 H2 q4 e2 => k d m2 G2 v2 H2 q4 (e1.trans e2)⟩⟩
/-- -x -/
def vNeg (ta : VE) : VE := fun ρ m Q => ta ρ m fun x m1 => match x with | .int i => Q (.int (-i)) m1 | _ => False
theorem ue_neg (ha : UE X B a ta) : UE X B (.UnaryOp .USub a pos) (vNeg ta) := ⟨(pe_un un_neg ha.pe).weak fun σ H Q h => by
  obtain ⟨G, ρ, m, P, e0, s, t, k⟩ := h
  refine ⟨G, ρ, m, _, e0, s, t, fun x m1 G1 v1 H1 q1 e1 s1 r1 => ?_⟩
  cases r1 <;> first | exact q1.elim | exact ⟨_, rfl, k _ m1 G1 _ H1 q1 e1 s1 (.int _)⟩⟩

/-! ### subscripts -/
inductive IxG (x y : D) (m : MH) (Q : D → Prop) : Prop
  | tup {ds : List D} {i : Int} {d : D} (ey : y = .int i) (e : x = .tup ds) (h : atI ds i = some d) (q : Q d)
  | str {z : Str} {i : Int} {c : Nat} (ey : y = .int i) (e : x = .str z) (l : z.length ≤ sizeLine) (h : atI z.cps.toList i = some c) (q : Q (.str ⟨#[c]⟩))
  | lst {ds : List D} {i : Int} {d : D} (ey : y = .int i) (e : asL m x = some ds) (h : atI ds i = some d) (q : Q d)
def oIx : VO := fun x y m Q => IxG x y m Q
theorem DnAll.atI {K : PySem.W.Frag} {G : Hp} {ds : List D} {vs : List V} {i : Int} {d : D} (h : DnAll K G ds vs) (e : atI ds i = some d) : ∃ v, L2.atI vs i = some v ∧ Dn K G d v := by
  unfold L2.atI at e ⊢
  rw [← h.length]
  cases q : ixN ds.length i with
  | none => rw [q] at e; cases e
  | some j =>
    rw [q] at e
    exact h.get (show ds[j]? = some d from e)
theorem ux_low {x y : V} {H : Hp} {Q : VK} (h : lowO X.K oIx x y H Q) : rIx X.K x y H Q := by
  obtain ⟨G, m, dx, dy, P, s, hx, hy, t, k⟩ := h
  replace t : IxG dx dy m P := t
  cases t with
  | tup ey e h3 h4 =>
    subst ey e
    cases hy
    cases hx with
    | tup h1 h2 =>
      obtain ⟨v, h6, h7⟩ := h2.atI h3
      exact .inr (.inl ⟨_, _, _, v, rfl, rfl, Evl.ex_t s.ex h1, h6, k _ G _ H h4 Stp.refl s h7⟩)
  | str ey e h1 h2 h3 =>
    subst ey e
    cases hy
    cases hx
    exact .inr (.inr ⟨_, _, _, rfl, rfl, h1, h2, k _ G _ H h3 Stp.refl s (.str _)⟩)
  | lst ey h1 h2 h3 =>
    subst ey
    cases hy
    obtain ⟨p, xs, rfl, h4, h5⟩ := s.asL hx h1
    obtain ⟨v, h6, h7⟩ := h5.atI h2
    exact .inl ⟨p, xs, _, v, rfl, rfl, h4, h6, k _ G _ H h3 Stp.refl s h7⟩
theorem ue_ix (ha : UE X B a ta) (hb : UE X B b tb) (hs : PlainIx b := by exact fun _ _ => rfl) : UE X B (.Subscript a b pos) (vOp oIx ta tb) := by
  have hr : IxR X (lowO X.K oIx) := fun value slice pins s σ H x y v u Q I rx ry q hs => ix_seq value slice pins s σ H x y v u Q I rx ry (ux_low q) hs
  exact ⟨(pe_ix hr ha.pe hb.pe hs).weak fun _ _ _ h => low_op h⟩
/-- o[lo:hi] -/
abbrev VO3 := Frm → MH → (Option Int → MH → Prop) → Prop
def lowP (K : PySem.W.Frag) (B : Bs) (t : VO3) : TO := fun σ H Q => ∃ G ρ m P, B.to G m H ∧ Sta K G ρ σ m H ∧ t ρ m P ∧ ∀ i m' G' H', P i m' → Stp G m H G' m' H' → MSt K G' m' H' → Q i H'
structure UP (X : Cx) (B : Bs) (e : Option Expr) (t : VO3) : Prop where
  po : PO X e (lowP X.K B t)
def vNoP : VO3 := fun _ m Q => Q none m
def vPart (t : VE) : VO3 := fun ρ m Q => t ρ m fun d m1 => match d with | .int i => Q (some i) m1 | _ => False
theorem _root_.L2.PO.weak {e : Option Expr} {t t' : TO} (h : PO X e t) (i : ∀ σ H Q, t' σ H Q → t σ H Q) : PO X e t' := ⟨fun pins s σ H Q I q => h.run pins s σ H Q I (i _ _ _ q)⟩
theorem up_none : UP X B none vNoP := ⟨po_none.weak fun σ H Q h => by
  obtain ⟨G, ρ, m, P, e0, s, t, k⟩ := h
  exact k _ m G H t Stp.refl s.ms⟩
theorem up_some (h : UE X B e te) : UP X B (some e) (vPart te) := ⟨(po_some h.pe).weak fun σ H Q h => by
  obtain ⟨G, ρ, m, P, e0, s, t, k⟩ := h
  refine ⟨G, ρ, m, _, e0, s, t, fun x m1 G1 v1 H1 q1 e1 s1 r1 => ?_⟩
  cases r1 <;> first | exact q1.elim | exact ⟨_, rfl, k _ m1 G1 H1 q1 e1 s1⟩⟩
def cutD (xs : List D) (lo hi : Option Int) : List D := (xs.drop (HT.sIx xs.length 0 lo)).take (HT.sIx xs.length xs.length hi - HT.sIx xs.length 0 lo)
theorem DnAll.cut {K : PySem.W.Frag} {G : Hp} {ds : List D} {vs : List V} (h : DnAll K G ds vs) (lo hi : Option Int) : DnAll K G (cutD ds lo hi) (cutV vs lo hi) := by
  unfold cutD cutV
  rw [← h.length]
  exact (h.drop _).take _
abbrev VO4 := D → Option Int → Option Int → MH → (D → Prop) → Prop
def oSl : VO4 := fun x lo hi m Q => match x with
  | .str z => z.length ≤ sizeLine ∧ Q (.str (cutS z lo hi))
  | .tup ds => ¬ (HT.sIx ds.length 0 lo = 0 ∧ HT.sIx ds.length ds.length hi = ds.length) ∧ Q (.tup (cutD ds lo hi))
  | x => ∃ ds, asL m x = some ds ∧ Q (.lst (cutD ds lo hi))
def lowSl (K : PySem.W.Frag) (o : VO4) : V → Option Int → Option Int → Hp → VK → Prop := fun x lo hi H Q => ∃ G m dx P, MSt K G m H ∧ Dn K G dx x ∧ o dx lo hi m P ∧ ∀ d G' v H', P d → Stp G m H G' m H' → MSt K G' m H' → Dn K G' d v → Q v H'
theorem usl_low {x : V} {lo hi : Option Int} {H : Hp} {Q : VK} (h : lowSl X.K oSl x lo hi H Q) : rSlS x lo hi H Q ∨ (rSlT X.K x lo hi H Q ∨ rSlL X.K x lo hi H Q) := by
  obtain ⟨G, m, dx, P, s, hx, t, k⟩ := h
  have lst : ∀ ds, asL m dx = some ds → P (.lst (cutD ds lo hi)) → rSlL X.K x lo hi H Q := fun ds h1 h2 => by
    obtain ⟨p, xs, rfl, h4, h5⟩ := s.asL hx h1
    refine ⟨p, xs, rfl, h4, fun l hl => ?_⟩
    obtain ⟨e, s'⟩ := s.newG hl (.lst (cutV xs lo hi))
    exact k _ _ _ _ h2 e s' (.lst upd_same ((h5.cut lo hi).mono e.ex))
  cases hx with
  | str z => exact .inl ⟨z, rfl, t.1, k _ G _ H t.2 Stp.refl s (.str _)⟩
  | tup h1 h2 =>
    obtain ⟨t1, t2⟩ := t
    refine .inr (.inl ⟨_, _, rfl, Evl.ex_t s.ex h1, by rw [← h2.length]; exact t1, fun l hl => ?_⟩)
    obtain ⟨e, s'⟩ := s.newG hl (.tup _)
    exact k _ _ _ _ t2 e s' (.tup (.of upd_same) ((h2.cut lo hi).mono e.ex))
  | _ => obtain ⟨ds, h1, h2⟩ := t; exact .inr (.inr (lst ds h1 h2))
def vSl (o : VO4) (te : VE) (tl th : VO3) : VE := fun ρ m Q => te ρ m fun x m1 => tl ρ m1 fun lo m2 => th ρ m2 fun hi m3 => o x lo hi m3 fun d => Q d m3
theorem ue_slice {lo hi : Option Expr} {tl th : VO3} {p2 : Pos} (he : UE X B e te) (hl : UP X B lo tl) (hh : UP X B hi th) : UE X B (.Subscript e (.Slice lo hi none p2) pos) (vSl oSl te tl th) := by
  have hr : SlR X (lowSl X.K oSl) := fun pins s σ H x v vl vu lo hi sl Q I rx hs pl pu q => (sl_str.or (sl_tup.or sl_list)) pins s σ H x v vl vu lo hi sl Q I rx hs pl pu (usl_low q)
  exact ⟨(pe_slice hr he.pe hl.po hh.po).weak fun σ H Q h => by
    obtain ⟨G, ρ, m, P, e0, s, t, k⟩ := h
    refine ⟨G, ρ, m, _, e0, s, t, fun x m1 G1 v1 H1 q1 e1 s1 r1 => ?_⟩
    refine ⟨G1, ρ, m1, _, e0.trans e1, ⟨s.fr.mono e1.ex, s1⟩, q1, fun l m2 G2 H2 q2 e2 s2 => ?_⟩
    refine ⟨G2, ρ, m2, _, (e0.trans e1).trans e2, ⟨s.fr.mono (e1.trans e2).ex, s2⟩, q2, fun u m3 G3 H3 q3 e3 s3 => ?_⟩
    exact ⟨G3, m3, x, _, s3, r1.mono (e2.trans e3).ex, q3, fun d G4 v H4 q4 e4 s4 r4 => k d m3 G4 v H4 q4 (((e1.trans e2).trans e3).trans e4) s4 r4⟩⟩

/-! ### displays -/
def aNil : VA := fun _ m Q => Q [] m
def aCons (t : VE) (u : VA) : VA := fun ρ m Q => t ρ m fun d m1 => u ρ m1 fun ds m2 => Q (d :: ds) m2
theorem ua_nil : UA X B [] aNil := ⟨pa_nil.weak fun σ H Q h => by
  obtain ⟨G, ρ, m, P, e0, s, t, k⟩ := h
  exact k _ m G _ H t Stp.refl s.ms .nil⟩
theorem ua_cons {u : VA} (ha : UE X B e te) (hr : UA X B es u) (hs : starEach (e :: es) X.env = (false, eval e X.env) :: starEach es X.env := by rfl) : UA X B (e :: es) (aCons te u) := ⟨(pa_cons ha.pe hr.pa hs).weak fun σ H Q h => by
  obtain ⟨G, ρ, m, P, e0, s, t, k⟩ := h
  refine ⟨G, ρ, m, _, e0, s, t, fun x m1 G1 v1 H1 q1 e1 s1 r1 => ?_⟩
  refine ⟨G1, ρ, m1, _, e0.trans e1, ⟨s.fr.mono e1.ex, s1⟩, q1, fun ds m2 G2 vs H2 q2 e2 s2 r2 => ?_⟩
  exact k _ m2 G2 _ H2 q2 (e1.trans e2) s2 (.cons (r1.mono e2.ex) r2)⟩
def vTup (va : VA) : VE := fun ρ m Q => va ρ m fun ds m1 => ds.length ≤ sizeLine ∧ Q (.tup ds) m1
/-- a list that stays as it is -/
def vLst (va : VA) : VE := fun ρ m Q => va ρ m fun ds m1 => ds.length ≤ sizeLine ∧ Q (.lst ds) m1
/-- a list that will change -/
def vLstM (va : VA) : VE := fun ρ m Q => va ρ m fun ds m1 => ds.length ≤ sizeLine ∧ ∀ p, m1 p = none → Q (.adr p) (mup m1 p (.lst ds))
theorem ue_tup {x1} (h : UA X B es va) : UE X B (.Tuple es x1 pos) (vTup va) := ⟨(pe_tup h.pa).weak fun σ H Q h => by
  obtain ⟨G, ρ, m, P, e0, s, t, k⟩ := h
  refine ⟨G, ρ, m, _, e0, s, t, fun ds m1 G1 vs H1 q1 e1 s1 r1 => ⟨by rw [← r1.length]; exact q1.1, fun p hp => ?_⟩⟩
  obtain ⟨e2, s2⟩ := s1.newG hp (.tup vs)
  exact k _ m1 _ _ _ q1.2 (e1.trans e2) s2 (.tup (.of upd_same) (r1.mono e2.ex))⟩
theorem ue_lst (h : UA X B es va) : UE X B (.List es pos) (vLst va) := ⟨(pe_lst h.pa).weak fun σ H Q h => by
  obtain ⟨G, ρ, m, P, e0, s, t, k⟩ := h
  refine ⟨G, ρ, m, _, e0, s, t, fun ds m1 G1 vs H1 q1 e1 s1 r1 => ⟨by rw [← r1.length]; exact q1.1, fun p hp => ?_⟩⟩
  obtain ⟨e2, s2⟩ := s1.newG hp (.lst vs)
  exact k _ m1 _ _ _ q1.2 (e1.trans e2) s2 (.lst upd_same (r1.mono e2.ex))⟩
theorem ue_lstM (h : UA X B es va) : UE X B (.List es pos) (vLstM va) := ⟨(pe_lst h.pa).weak fun σ H Q h => by
  obtain ⟨G, ρ, m, P, e0, s, t, k⟩ := h
  refine ⟨G, ρ, m, _, e0, s, t, fun ds m1 G1 vs H1 q1 e1 s1 r1 => ⟨by rw [← r1.length]; exact q1.1, fun p hp => ?_⟩⟩
  exact k _ _ G1 _ _ (q1.2 p (s1.free hp).2) (e1.trans (s1.newM hp (.lst r1)).1) (s1.newM hp (.lst r1)).2 (.adr p)⟩

/-! ### a fresh value made a cell, a cell frozen (the value of an expression) -/
/-- a new list (a comprehension, a slice, a call's result ..) that will change: only where it is new -/
def vFrz (t : VE) : VE := fun ρ m Q => t ρ m fun d m1 => match d with
  | .adr a => (∃ ds, m1 a = some (.lst ds) ∧ Q (.lst ds) (mdel m1 a)) ∨ ∃ C ks ds, m1 a = some (.ins C ks ds) ∧ Q (.ins C ks ds) (mdel m1 a)
  | _ => False
theorem UE.weak {t t' : VE} (h : UE X B e t) (i : ∀ σ H Q, lowE X.K B t' σ H Q → lowE X.K B t σ H Q) : UE X B e t' := ⟨h.pe.weak i⟩
theorem ue_frz (h : UE X B e te) : UE X B e (vFrz te) := h.weak fun σ H Q h => by
  obtain ⟨G, ρ, m, P, e0, s, t, k⟩ := h
  refine ⟨G, ρ, m, _, e0, s, t, fun d m1 G1 v1 H1 q1 e1 s1 r1 => ?_⟩
  cases r1 <;> first | exact q1.elim | skip
  rename_i a
  rcases q1 with ⟨ds, h1, h2⟩ | ⟨C, ks, ds, h1, h2⟩
  · obtain ⟨ho, r, e2, s2⟩ := s1.freeze h1
    cases r with
    | lst r => exact k _ _ _ _ H1 h2 (e1.trans e2) s2 (.lst upd_same (r.mono e2.ex))
  · obtain ⟨ho, r, e2, s2⟩ := s1.freeze h1
    cases r with
    | ins hk r => exact k _ _ _ _ H1 h2 (e1.trans e2) s2 (.ins upd_same hk (r.mono e2.ex))

/-! ### instances -/
def insK (m : MH) : D → Option (Addr × List Str × List D)
  | .ins C ks ds => some (C, ks, ds)
  | .adr a => match m a with
    | some (.ins C ks ds) => some (C, ks, ds)
    | _ => none
  | _ => none
theorem insK_adr {m : MH} {a C : Addr} {ks : List Str} {ds : List D} (h : m a = some (.ins C ks ds)) : insK m (.adr a) = some (C, ks, ds) := by simp only [insK, h]
theorem MSt.insK {K : PySem.W.Frag} {G H : Hp} {m : MH} (s : MSt K G m H) {d : D} {v : V} {C : Addr} {ks : List Str} {ds : List D} (r : Dn K G d v) (h : insK m d = some (C, ks, ds)) :
    ∃ a dx fs, v = .ref a ∧ H a = some (.ins C dx fs) ∧ fs.map (·.1) = ks ∧ DnAll K G ds (fs.map (·.2)) := by
  cases r with
  | ins h1 h2 h3 => cases h; exact ⟨_, _, _, rfl, s.ex _ _ h1, h2, h3⟩
  | adr a =>
    simp only [DL.insK] at h
    cases q : m a with
    | none => rw [q] at h; cases h
    | some o =>
      rw [q] at h
      cases o with
      | ins C' ks' ds' =>
        cases h
        obtain ⟨_, ho, h1, h2⟩ := s.mr a _ q
        cases h2 with
        | ins h2 h3 => exact ⟨a, _, _, rfl, h1, h2, h3⟩
      | dct _ => cases h
      | dkl _ _ _ => cases h
      | lst _ => cases h
  | _ => cases h
theorem look_at {f : Str} : ∀ {fs : List (Str × V)} {i : Nat} {v : V}, (fs.map (·.1)).idxOf? f = some i → (fs.map (·.2))[i]? = some v → fs.lookup f = some v
  | [], _, _, h, _ => by simp at h
  | (k, x) :: r, i, v, h, hv => by
    rw [List.map_cons, List.idxOf?_cons] at h
    by_cases e : k = f
    · subst e
      simp at h
      subst h
      simp at hv
      subst hv
      simp [List.lookup]
    · have hb : (k == f) = false := beq_eq_false_iff_ne.mpr e
      have hb2 : (f == k) = false := beq_eq_false_iff_ne.mpr (Ne.symm e)
      simp only [hb] at h
      cases q : (r.map (·.1)).idxOf? f with
      | none => rw [q] at h; simp at h
      | some j =>
        rw [q] at h
        simp at h
        subst h
        simp only [List.lookup, hb2]
        exact look_at q (by simpa using hv)
theorem look_no {f : Str} : ∀ {fs : List (Str × V)}, f ∉ fs.map (·.1) → fs.lookup f = none
  | [], _ => rfl
  | (k, x) :: r, h => by
    rw [List.map_cons, List.mem_cons] at h
    have hb2 : (f == k) = false := beq_eq_false_iff_ne.mpr fun e => h (.inl e)
    simp only [List.lookup, hb2]
    exact look_no fun z => h (.inr z)
theorem put_no {f : Str} {v : V} : ∀ {fs : List (Str × V)}, f ∉ fs.map (·.1) → putF f v fs = fs ++ [(f, v)]
  | [], _ => rfl
  | (k, x) :: r, h => by
    rw [List.map_cons, List.mem_cons] at h
    rw [show putF f v ((k, x) :: r) = (if k = f then (k, v) :: r else (k, x) :: putF f v r) from rfl, if_neg fun e => h (.inl e.symm), put_no fun z => h (.inr z)]
    rfl
theorem put_at {f : Str} {v : V} : ∀ {fs : List (Str × V)} {i : Nat}, (fs.map (·.1)).idxOf? f = some i → (putF f v fs).map (·.1) = fs.map (·.1) ∧ (putF f v fs).map (·.2) = (fs.map (·.2)).set i v
  | [], _, h => by simp at h
  | (k, x) :: r, i, h => by
    rw [show putF f v ((k, x) :: r) = (if k = f then (k, v) :: r else (k, x) :: putF f v r) from rfl]
    rw [List.map_cons, List.idxOf?_cons] at h
    by_cases e : k = f
    · subst e
      simp at h
      subst h
      rw [if_pos rfl]
      exact ⟨rfl, rfl⟩
    · have hb : (k == f) = false := beq_eq_false_iff_ne.mpr e
      simp only [hb] at h
      rw [if_neg e]
      cases q : (r.map (·.1)).idxOf? f with
      | none => rw [q] at h; simp at h
      | some j =>
        rw [q] at h
        simp at h
        subst h
        obtain ⟨i1, i2⟩ := put_at (v := v) q
        refine ⟨by rw [List.map_cons, i1]; rfl, ?_⟩
        show x :: (putF f v r).map (·.2) = x :: (r.map (·.2)).set j v
        rw [i2]
/-- o.f: C the class, ks its instances' attributes in order, i the place of f -/
def vFld (C : Addr) (ks : List Str) (i : Nat) (to : VE) : VE := fun ρ m Q => to ρ m fun d m1 => ∃ ds x, insK m1 d = some (C, ks, ds) ∧ ds[i]? = some x ∧ Q x m1
theorem ue_fld {C : Addr} {ks : List Str} {i : Nat} {f : Str} (ho : UE X B o to) (hc : Cls X.K C) (hn : NoAttr X.K C f) (hi : ks.idxOf? f = some i) (hb : attributeBase o f X.env (eval o X.env) = eval o X.env := by rfl) :
    UE X B (.Attribute o f pos) (vFld C ks i to) := ⟨(pe_fld ho.pe hb).weak fun σ H Q h => by
  obtain ⟨G, ρ, m, P, e0, s, t, k⟩ := h
  refine ⟨G, ρ, m, _, e0, s, t, fun d m1 G1 v1 H1 q1 e1 s1 r1 => ?_⟩
  obtain ⟨ds, x, h1, h2, h3⟩ := q1
  obtain ⟨a, dx, fs, rfl, h4, h5, h6⟩ := s1.insK r1 h1
  obtain ⟨v, h7, h8⟩ := h6.get h2
  exact ⟨a, C, dx, fs, v, rfl, h4, hc, hn, look_at (by rw [h5]; exact hi) h7, k _ m1 G1 v H1 h3 e1 s1 h8⟩⟩
end
end DL

namespace DL
open PySem L2
open Evl (Ex)

/-! ### what a def promises, by values -/
abbrev VSp := List D → MH → (D → MH → Prop) → DX → Prop
/-- an exception's own attributes -/
def XR (K : PySem.W.Frag) (G : Hp) (ks : List Str) (ds : List D) (ox : Option Addr) : Prop :=
  (ks = [] ∧ ds = [] ∧ ox = none) ∨ ∃ d fs, ks ≠ [] ∧ ox = some d ∧ G d = some (.xd fs) ∧ fs.map (·.1) = ks ∧ DnAll K G ds (fs.map (·.2))
/-- the wish about exceptions, from B on -/
def Wsh (K : PySem.W.Frag) (B : Bs) (PX : DX) (E : XK) : Prop := ∀ C ks ds m G H ox, PX C ks ds m → B.to G m H → MSt K G m H → XR K G ks ds ox → E (.ref C) ox H
theorem Wsh.mono {K : PySem.W.Frag} {B : Bs} {G H : Hp} {m : MH} {PX : DX} {E : XK} (h : Wsh K B PX E) (e : B.to G m H) : Wsh K ⟨G, m, H⟩ PX E := fun C ks ds m G' H ox p e' => h C ks ds m G' H ox p (e.trans e')
def noX : DX := fun _ _ _ _ => False
theorem Wsh.no {K : PySem.W.Frag} {B : Bs} {E : XK} : Wsh K B noX E := fun _ _ _ _ _ _ _ p => p.elim
def lowSp (K : PySem.W.Frag) (n : Nat) (sp : VSp) : Sp := fun vs H Q E => vs.length = n ∧ ∃ G ds m P PX, MSt K G m H ∧ DnAll K G ds vs ∧ sp ds m P PX ∧
  (∀ d m' G' v H', P d m' → Stp G m H G' m' H' → MSt K G' m' H' → Dn K G' d v → Q v H') ∧ Wsh K ⟨G, m, H⟩ PX E

section
variable {X : Cx} {B : Bs} {a b c e o : Expr} {es : List Expr} {ta tb tc te to : VE} {va : VA} {pos : Pos} {x mt : Str} {CX : CXT} {k n : Nat} {f C : Addr} {fd : FuncData} {ps : List Str} {sp : VSp} {E : XK} {PX : DX} {p apos : Pos}
def vCall (n : Nat) (sp : VSp) (PX : DX) (va : VA) : VE := fun ρ m Q => va ρ m fun ds m1 => ds.length = n ∧ sp ds m1 Q PX
theorem ue_call (F : FnOk X.prog X.w X.K X.mg X.base CX k f fd ps (lowSp X.K n sp)) (hr : Room k X.A) (hg : Gl X x) (hm : X.mg x = some (.ref f)) (hk : PySem.W.keepIn X.K (.ref f) = true) (hb : Binds X.K fd ps []) (hx : Passes CX X E)
    (W : Wsh X.K B PX E) (ha : UA X B (e :: es) va) (hdb : (x == ("__debug__" : Str)) = false := by decide) (he : starEach (e :: es) X.env = (false, eval e X.env) :: starEach es X.env := by rfl) (hpl : (backTo pos (starEach es X.env)).any (·.1) = false := by rfl) :
    UE X B (.Call (.Name x p) (e :: es) [] pos) (vCall n sp PX va) := ⟨(pe_call F hr hg hm hk hb .nil hx ha.pa hdb he hpl).weak fun σ H Q h => by
  obtain ⟨G, ρ, m, P, e0, s, t, k⟩ := h
  refine ⟨G, ρ, m, _, e0, s, t, fun ds m1 G1 vs H1 q1 e1 s1 r1 => ?_⟩
  simp only [List.append_nil]
  exact ⟨r1.length.symm.trans q1.1, G1, ds, m1, _, PX, s1, r1, q1.2, fun d m2 G2 v H2 q2 e2 => k d m2 G2 v H2 q2 (e1.trans e2), W.mono (e0.trans e1)⟩⟩
theorem ue_call0 (F : FnOk X.prog X.w X.K X.mg X.base CX k f fd ps (lowSp X.K n sp)) (hr : Room k X.A) (hg : Gl X x) (hm : X.mg x = some (.ref f)) (hk : PySem.W.keepIn X.K (.ref f) = true) (hb : Binds X.K fd ps []) (hx : Passes CX X E)
    (W : Wsh X.K B PX E) (hdb : (x == ("__debug__" : Str)) = false := by decide) : UE X B (.Call (.Name x p) [] [] pos) (vCall n sp PX aNil) := ⟨(pe_call0 F hr hg hm hk hb .nil hx hdb).weak fun σ H Q h => by
  obtain ⟨G, ρ, m, P, e0, s, t, k⟩ := h
  refine ⟨t.1, G, [], m, _, PX, s.ms, .nil, t.2, k, W.mono e0⟩⟩
/-- o.m(..), o an instance of the class at C -/
def vMeth (C : Addr) (mt : Str) (n : Nat) (sp : VSp) (PX : DX) (to : VE) (va : VA) : VE := fun ρ m Q => to ρ m fun d m1 => (∃ ks ds, insK m1 d = some (C, ks, ds) ∧ mt ∉ ks) ∧ va ρ m1 fun ds m2 => ds.length + 1 = n ∧ sp (d :: ds) m2 Q PX
theorem low_meth {σ : L2.St} {H : Hp} {Q : VK} (W : Wsh X.K B PX E) (h : lowE X.K B (vMeth C mt n sp PX to va) σ H Q) : tMeth C mt (lowSp X.K n sp) [] E (lowE X.K B to) (lowA X.K B va) σ H Q := by
  obtain ⟨G, ρ, m, P, e0, s, t, k⟩ := h
  refine ⟨G, ρ, m, _, e0, s, t, fun d m1 G1 v1 H1 q1 e1 s1 r1 => ?_⟩
  obtain ⟨⟨ks, ds, h1, h2⟩, q1⟩ := q1
  obtain ⟨a, dx, fs, rfl, h4, h5, h6⟩ := s1.insK r1 h1
  refine ⟨a, dx, fs, rfl, h4, look_no (by rw [h5]; exact h2), G1, ρ, m1, _, e0.trans e1, ⟨s.fr.mono e1.ex, s1⟩, q1, fun es m2 G2 vs H2 q2 e2 s2 r2 => ?_⟩
  simp only [List.append_nil]
  exact ⟨by rw [List.length_cons, ← r2.length]; exact q2.1, G2, d :: es, m2, _, PX, s2, .cons (r1.mono e2.ex) r2, q2.2, fun d m3 G3 v H3 q3 e3 => k d m3 G3 v H3 q3 ((e1.trans e2).trans e3), W.mono ((e0.trans e1).trans e2)⟩
theorem ue_meth {pl : Sem Bool} (ho : UE X B o to) (c : Cls X.K C) (hm : Meth X.K C mt f) (F : FnOk X.prog X.w X.K X.mg X.base CX k f fd ps (lowSp X.K n sp)) (hr : Room k X.A) (hb : Binds X.K fd ps []) (hx : Passes CX X E) (W : Wsh X.K B PX E) (ha : UA X B (e :: es) va)
    (hst : starEach (e :: es) X.env = (false, eval e X.env) :: starEach es X.env := by rfl) (hpl : (backTo pos (starEach es X.env)).any (·.1) = false := by rfl)
    (ht : eval (.Call (.Attribute o mt apos) (e :: es) [] pos) X.env = (do
      let ov ← eval o X.env
      standAt apos.atName
      let (f, first) ← holding [ov] (getMethod ov mt pl)
      callWith pos f first (backTo pos (starEach (e :: es) X.env)) (backToKw pos (keywordEach [] X.env))) := by rfl) : UE X B (.Call (.Attribute o mt apos) (e :: es) [] pos) (vMeth C mt n sp PX to va) :=
  ⟨(pe_meth (pl := pl) ho.pe c hm F hr hb .nil hx ha.pa hst hpl ht).weak fun _ _ _ h => low_meth W h⟩
theorem ue_meth0 {pl : Sem Bool} (ho : UE X B o to) (c : Cls X.K C) (hm : Meth X.K C mt f) (F : FnOk X.prog X.w X.K X.mg X.base CX k f fd ps (lowSp X.K n sp)) (hr : Room k X.A) (hb : Binds X.K fd ps []) (hx : Passes CX X E) (W : Wsh X.K B PX E)
    (ht : eval (.Call (.Attribute o mt apos) [] [] pos) X.env = (do
      let ov ← eval o X.env
      standAt apos.atName
      let (f, first) ← holding [ov] (getMethod ov mt pl)
      callWith pos f first (backTo pos (starEach [] X.env)) (backToKw pos (keywordEach [] X.env))) := by rfl) : UE X B (.Call (.Attribute o mt apos) [] [] pos) (vMeth C mt n sp PX to aNil) :=
  ⟨(pe_meth0 (pl := pl) ho.pe c hm F hr hb .nil hx ht).weak fun σ H Q h => by
    obtain ⟨G, ρ, m, P, e0, s, t, k⟩ := low_meth W h
    refine ⟨G, ρ, m, P, e0, s, t, fun d m1 G1 v1 H1 q1 e1 s1 r1 => ?_⟩
    obtain ⟨a, dx, fs, h1, h2, h3, h4⟩ := k d m1 G1 v1 H1 q1 e1 s1 r1
    refine ⟨a, dx, fs, h1, h2, h3, ?_⟩
    obtain ⟨G2, ρ2, m2, P2, e2, s2, t2, k2⟩ := h4
    exact k2 [] m2 G2 [] H1 t2 Stp.refl s2.ms .nil⟩
/-- C(..): a new instance, then __init__ -/
def vMake (C : Addr) (n : Nat) (sp : VSp) (PX : DX) (va : VA) : VE := fun ρ m Q => va ρ m fun ds m1 => ∀ p, m1 p = none → ds.length + 1 = n ∧ sp (.adr p :: ds) (mup m1 p (.ins C [] [])) (fun d m2 => d = .non ∧ Q (.adr p) m2) PX
theorem low_make {σ : L2.St} {H : Hp} {Q : VK} (W : Wsh X.K B PX E) (h : lowE X.K B (vMake C n sp PX va) σ H Q) : tMake C (lowSp X.K n sp) [] E (lowA X.K B va) σ H Q := by
  obtain ⟨G, ρ, m, P, e0, s, t, k⟩ := h
  refine ⟨G, ρ, m, _, e0, s, t, fun ds m1 G1 vs H1 q1 e1 s1 r1 => ?_⟩
  intro x dx hx hdx hne
  obtain ⟨g1, g2⟩ := s1.free hx
  obtain ⟨q1, q2⟩ := q1 x g2
  obtain ⟨e2, s2⟩ := s1.newG hdx (.own x)
  obtain ⟨e25, s3⟩ := s2.newM (p := x) (by rw [upd_ne hne.symm]; exact hx) (o := .ins C [] []) (ho := .ins C dx []) (.ins rfl .nil)
  have e2 := e2.trans e25
  simp only [List.append_nil]
  refine ⟨by rw [List.length_cons, ← r1.length]; exact q1, _, .adr x :: ds, _, _, PX, s3, .cons (.adr x) (r1.mono e2.ex), q2, fun d m3 G3 v H3 q3 e3 s3 r3 => ?_, W.mono ((e0.trans e1).trans e2)⟩
  obtain ⟨rfl, q3⟩ := q3
  cases r3
  exact ⟨rfl, k _ m3 G3 _ H3 q3 ((e1.trans e2).trans e3) s3 (.adr x)⟩
theorem ue_make (M : Mk X.K C f) (F : FnOk X.prog X.w X.K X.mg X.base CX k f fd ps (lowSp X.K n sp)) (hr : Room (k + 1) X.A) (hg : Gl X x) (hm : X.mg x = some (.ref C)) (hb : Binds X.K fd ps []) (hx : Passes CX X E) (W : Wsh X.K B PX E)
    (ha : UA X B (e :: es) va) (hdb : (x == ("__debug__" : Str)) = false := by decide) (he : starEach (e :: es) X.env = (false, eval e X.env) :: starEach es X.env := by rfl) (hpl : (backTo pos (starEach es X.env)).any (·.1) = false := by rfl) :
    UE X B (.Call (.Name x p) (e :: es) [] pos) (vMake C n sp PX va) := ⟨(pe_make M F hr hg hm hb .nil hx ha.pa hdb he hpl).weak fun _ _ _ h => low_make W h⟩
theorem ue_make0 (M : Mk X.K C f) (F : FnOk X.prog X.w X.K X.mg X.base CX k f fd ps (lowSp X.K n sp)) (hr : Room (k + 1) X.A) (hg : Gl X x) (hm : X.mg x = some (.ref C)) (hb : Binds X.K fd ps []) (hx : Passes CX X E) (W : Wsh X.K B PX E)
    (hdb : (x == ("__debug__" : Str)) = false := by decide) : UE X B (.Call (.Name x p) [] [] pos) (vMake C n sp PX aNil) := ⟨(pe_make0 M F hr hg hm hb .nil hx hdb).weak fun σ H Q h => by
  obtain ⟨G, ρ, m, P, e0, s, t, k⟩ := low_make W h
  exact k [] m G [] H t Stp.refl s.ms .nil⟩

/-! ### calls of builtins by values -/
abbrev VB := List D → MH → (D → Prop) → Prop
def lowB (K : PySem.W.Frag) (o : VB) : List V → Hp → VK → Prop := fun vs H Q => ∃ G m ds P, MSt K G m H ∧ DnAll K G ds vs ∧ o ds m P ∧ ∀ d G' v H', P d → Stp G m H G' m H' → MSt K G' m H' → Dn K G' d v → Q v H'
def vB (o : VB) (va : VA) : VE := fun ρ m Q => va ρ m fun ds m1 => o ds m1 fun d => Q d m1
theorem low_b {K : PySem.W.Frag} {o : VB} {σ : L2.St} {H : Hp} {Q : VK} (h : lowE K B (vB o va) σ H Q) : tCB (lowB K o) (lowA K B va) σ H Q := by
  obtain ⟨G, ρ, m, P, e0, s, t, k⟩ := h
  refine ⟨G, ρ, m, _, e0, s, t, fun ds m1 G1 vs H1 q1 e1 s1 r1 => ?_⟩
  exact ⟨G1, m1, ds, _, s1, r1, q1, fun d G2 v H2 q2 e2 s2 r2 => k d m1 G2 v H2 q2 (e1.trans e2) s2 r2⟩
/-- f by values, f a builtin function or type -/
def UB (X : Cx) (f : Value) (o : VB) : Prop := CallR X f (lowB X.K o)
theorem callw {f : Value} {r r' : List V → Hp → VK → Prop} (h : CallR X f r) (i : ∀ vs H Q, r' vs H Q → r vs H Q) : CallR X f r' := fun pins s σ H vs us Q I r q => h pins s σ H vs us Q I r (i _ _ _ q)
theorem ue_callB {id : String} {o : VB} (hc : UB X (.builtin id) o) (hg : Gl X x) (hm : X.mg x = none) (hv : bootBuiltins x = some (.builtin id)) (ha : UA X B (e :: es) va) (hn : x ≠ "__name__" := by decide) (hdb : (x == ("__debug__" : Str)) = false := by decide)
    (he : starEach (e :: es) X.env = (false, eval e X.env) :: starEach es X.env := by rfl) (hpl : (backTo pos (starEach es X.env)).any (·.1) = false := by rfl) : UE X B (.Call (.Name x p) (e :: es) [] pos) (vB o va) :=
  ⟨(pe_callB hc hg hm hv ha.pa hn hdb he hpl).weak fun _ _ _ h => low_b h⟩
theorem ue_callTy {T : String} {o : VB} (hc : UB X (.type T) o) (hg : Gl X x) (hm : X.mg x = none) (hv : bootBuiltins x = some (.type T)) (ha : UA X B (e :: es) va) (hn : x ≠ "__name__" := by decide) (hdb : (x == ("__debug__" : Str)) = false := by decide)
    (he : starEach (e :: es) X.env = (false, eval e X.env) :: starEach es X.env := by rfl) (hpl : (backTo pos (starEach es X.env)).any (·.1) = false := by rfl) : UE X B (.Call (.Name x p) (e :: es) [] pos) (vB o va) :=
  ⟨(pe_callTy hc hg hm hv ha.pa hn hdb he hpl).weak fun _ _ _ h => low_b h⟩
/-- len -/
inductive LenG (m : MH) (Q : D → Prop) : List D → Prop
  | str {z : Str} (l : z.length ≤ sizeLine) (q : Q (.int z.length)) : LenG m Q [.str z]
  | tup {es : List D} (q : Q (.int es.length)) : LenG m Q [.tup es]
  | lst {d : D} {es : List D} (e : asL m d = some es) (q : Q (.int es.length)) : LenG m Q [d]
def bLen : VB := fun ds m Q => LenG m Q ds
theorem ub_len : UB X (.builtin "len") bLen := callw (CallR.or call_len_seq call_len_str) fun vs H Q h => by
  obtain ⟨G, m, ds, P, s, r, t, k⟩ := h
  replace t : LenG m P ds := t
  cases t with
  | str l t => cases r with | cons r1 r2 => cases r2; cases r1; exact .inr ⟨_, rfl, l, k _ G _ H t Stp.refl s (.int _)⟩
  | tup t =>
    cases r with
    | cons r1 r2 =>
      cases r2
      cases r1 with
      | tup h1 h2 => exact .inl ⟨_, _, rfl, .inr (Evl.ex_t s.ex h1), by rw [← h2.length]; exact k _ G _ H t Stp.refl s (.int _)⟩
  | lst h1 h2 =>
    cases r with
    | cons r1 r2 =>
      cases r2
      obtain ⟨a, xs, rfl, h3, h4⟩ := s.asL r1 h1
      exact .inl ⟨_, _, rfl, .inl h3, by rw [← h4.length]; exact k _ G _ H h2 Stp.refl s (.int _)⟩
/-- int of an int, of a bool -/
def bInt : VB := fun ds m Q => match ds with
  | [.int i] => Q (.int i)
  | [.bl b] => Q (.int (if b then 1 else 0))
  | _ => False
theorem ub_int : UB X (.type "int") bInt := callw call_int1 fun vs H Q h => by
  obtain ⟨G, m, ds, P, s, r, t, k⟩ := h
  unfold bInt at t
  split at t
  · cases r with
    | cons r1 r2 => cases r2; cases r1; exact .inl ⟨_, rfl, k _ G _ H t Stp.refl s (.int _)⟩
  · cases r with
    | cons r1 r2 => cases r2; cases r1; exact .inr ⟨_, rfl, k _ G _ H t Stp.refl s (.int _)⟩
  · exact t.elim
/-- sum of a list of ints -/
def bSum : VB := fun ds m Q => match ds with
  | [d] => ∃ ns : List Int, asL m d = some (ns.map D.int) ∧ Q (.int ns.sum)
  | _ => False
theorem ub_sum (hc : X.calm = true) : UB X (.builtin "sum") bSum := callw (cr_sum hc) fun vs H Q h => by
  obtain ⟨G, m, ds, P, s, r, t, k⟩ := h
  unfold bSum at t
  split at t
  · obtain ⟨ns, h1, h2⟩ := t
    cases r with
    | cons r1 r2 =>
      cases r2
      obtain ⟨a, xs, rfl, h3, h4⟩ := s.asL r1 h1
      rw [h4.ints] at h3
      exact ⟨a, ns, rfl, h3, k _ G _ H h2 Stp.refl s (.int _)⟩
  · exact t.elim
/-- any, all of a list of truth values -/
def bAny : VB := fun ds m Q => match ds with
  | [d] => ∃ bs : List Bool, asL m d = some (bs.map D.bl) ∧ Q (.bl (bs.any id))
  | _ => False
def bAll : VB := fun ds m Q => match ds with
  | [d] => ∃ bs : List Bool, asL m d = some (bs.map D.bl) ∧ Q (.bl (bs.all id))
  | _ => False
theorem ub_any (hc : X.calm = true) : UB X (.builtin "any") bAny := callw (cr_any hc) fun vs H Q h => by
  obtain ⟨G, m, ds, P, s, r, t, k⟩ := h
  unfold bAny at t
  split at t
  · obtain ⟨ns, h1, h2⟩ := t
    cases r with
    | cons r1 r2 =>
      cases r2
      obtain ⟨a, xs, rfl, h3, h4⟩ := s.asL r1 h1
      rw [h4.bls] at h3
      exact ⟨a, ns, rfl, h3, k _ G _ H h2 Stp.refl s (.bl _)⟩
  · exact t.elim
theorem ub_all (hc : X.calm = true) : UB X (.builtin "all") bAll := callw (cr_all hc) fun vs H Q h => by
  obtain ⟨G, m, ds, P, s, r, t, k⟩ := h
  unfold bAll at t
  split at t
  · obtain ⟨ns, h1, h2⟩ := t
    cases r with
    | cons r1 r2 =>
      cases r2
      obtain ⟨a, xs, rfl, h3, h4⟩ := s.asL r1 h1
      rw [h4.bls] at h3
      exact ⟨a, ns, rfl, h3, k _ G _ H h2 Stp.refl s (.bl _)⟩
  · exact t.elim
/-- list(xs), a new list; tuple(xs) -/
def bList : VB := fun ds m Q => match ds with
  | [.tup es] => Q (.lst es)
  | [d] => ∃ es, asL m d = some es ∧ Q (.lst es)
  | _ => False
theorem ub_list : UB X (.type "list") bList := callw call_list_of fun vs H Q h => by
  obtain ⟨G, m, ds, P, s, r, t, k⟩ := h
  unfold bList at t
  split at t
  · cases r with
    | cons r1 r2 =>
      cases r2
      cases r1 with
      | tup h1 h2 =>
        refine ⟨_, _, rfl, .inr (Evl.ex_t s.ex h1), fun l hl => ?_⟩
        obtain ⟨e, s'⟩ := s.newG hl (.lst _)
        exact k _ _ _ _ t e s' (.lst upd_same (h2.mono e.ex))
  · obtain ⟨es, h1, h2⟩ := t
    cases r with
    | cons r1 r2 =>
      cases r2
      obtain ⟨a, xs, rfl, h3, h4⟩ := s.asL r1 h1
      refine ⟨_, _, rfl, .inl h3, fun l hl => ?_⟩
      obtain ⟨e, s'⟩ := s.newG hl (.lst xs)
      exact k _ _ _ _ h2 e s' (.lst upd_same (h4.mono e.ex))
  · exact t.elim
def bTuple : VB := fun ds m Q => match ds with
  | [.tup es] => Q (.tup es)
  | [d] => ∃ es, asL m d = some es ∧ Q (.tup es)
  | _ => False
theorem ub_tuple : UB X (.type "tuple") bTuple := callw call_tuple_of fun vs H Q h => by
  obtain ⟨G, m, ds, P, s, r, t, k⟩ := h
  unfold bTuple at t
  split at t
  · cases r with
    | cons r1 r2 =>
      cases r2
      cases r1 with
      | tup h1 h2 => exact ⟨_, _, rfl, .inr ⟨Evl.ex_t s.ex h1, k _ G _ H t Stp.refl s (.tup h1 h2)⟩⟩
  · obtain ⟨es, h1, h2⟩ := t
    cases r with
    | cons r1 r2 =>
      cases r2
      obtain ⟨a, xs, rfl, h3, h4⟩ := s.asL r1 h1
      refine ⟨_, _, rfl, .inl ⟨h3, fun l hl => ?_⟩⟩
      obtain ⟨e, s'⟩ := s.newG hl (.tup xs)
      exact k _ _ _ _ h2 e s' (.tup (.of upd_same) (h4.mono e.ex))
  · exact t.elim
end
end DL

namespace DL
open PySem L2
open Evl (Ex)

/-! ### targets: a name, a row of names -/
inductive Tg where
  | one (i : Nat)
  | many (is : List Nat)
def gSeq : List Nat → TGs
  | [] => gNil
  | i :: is => gCons (gName i) (gSeq is)
def tgTG (K : PySem.W.Frag) : Tg → TG
  | .one i => gName i
  | .many is => gTup K is.length (gSeq is)
def fsets : List Nat → List D → Frm → Option Frm
  | [], [], ρ => some ρ
  | i :: is, d :: ds, ρ => fsets is ds (fset ρ i d)
  | _, _, _ => none
def tgSet : Tg → D → Frm → Option Frm
  | .one i, d, ρ => some (fset ρ i d)
  | .many is, .tup ds, ρ => fsets is ds ρ
  | .many _, _, _ => none
def Tg.slots : Tg → List Nat
  | .one i => [i]
  | .many is => is
theorem wipe_set {σ : L2.St} {i : Nat} {o : Option V} : ∀ {vs : List Nat}, i ∈ vs → wipe (σ.set i o) vs = wipe σ vs
  | v :: vs, h => by
    have ln : ∀ l : List Nat, (wipe (σ.set i o) l).length = (wipe σ l).length := fun l => by rw [wipe_length, wipe_length, List.length_set]
    have gen : ∀ (l : List Nat) (j : Nat), j ≠ i → (wipe (σ.set i o) l)[j]? = (wipe σ l)[j]? := fun l => by
      induction l with
      | nil => intro j hj; exact List.getElem?_set_ne (Ne.symm hj)
      | cons a r ih =>
        intro j hj
        unfold wipe
        by_cases e : a = j
        · subst e
          by_cases hl : a < (wipe σ r).length
          · rw [List.getElem?_set_self (by rw [ln]; exact hl), List.getElem?_set_self hl]
          · rw [List.getElem?_eq_none (by rw [List.length_set, ln]; omega), List.getElem?_eq_none (by rw [List.length_set]; omega)]
        · rw [List.getElem?_set_ne e, List.getElem?_set_ne e]
          exact ih j hj
    rcases List.mem_cons.mp h with e | e
    · subst e
      apply List.ext_getElem?
      intro j
      unfold wipe
      by_cases e : i = j
      · subst e
        by_cases hl : i < (wipe σ vs).length
        · rw [List.getElem?_set_self (by rw [ln]; exact hl), List.getElem?_set_self hl]
        · rw [List.getElem?_eq_none (by rw [List.length_set, ln]; omega), List.getElem?_eq_none (by rw [List.length_set]; omega)]
      · rw [List.getElem?_set_ne e, List.getElem?_set_ne e]
        exact gen vs j (Ne.symm e)
    · unfold wipe
      rw [wipe_set e]
section
variable {K : PySem.W.Frag} {G H : Hp} {m : MH}
theorem gSeq_ok {Q : L2.St → Hp → Prop} : ∀ {is : List Nat} {ds : List D} {xs : List V} {ρ ρ' : Frm} {σ : L2.St}, DnAll K G ds xs → FrR K G ρ σ → fsets is ds ρ = some ρ' →
    (∀ σ', FrR K G ρ' σ' → (∀ vs, (∀ i ∈ is, i ∈ vs) → wipe σ' vs = wipe σ vs) → Q σ' H) → gSeq is xs σ H Q
  | [], _, _, _, _, _, .nil, f, e, q => by
    cases e
    exact ⟨rfl, q _ f fun _ _ => rfl⟩
  | i :: is, _, _, ρ, ρ', σ, .cons (v := v) r rs, f, e, q => by
    refine ⟨_, _, rfl, ?_⟩
    refine gSeq_ok (is := is) rs (f.set r i) e fun σ' f' w => q σ' f' fun vs hv => ?_
    rw [w vs fun j hj => hv j (List.mem_cons_of_mem _ hj), wipe_set (hv i List.mem_cons_self)]
  | [], _, _, _, _, _, .cons _ _, f, e, q => by cases e
  | _ :: _, _, _, _, _, _, .nil, f, e, q => by cases e
theorem fsets_len : ∀ {is : List Nat} {ds : List D} {ρ ρ' : Frm}, fsets is ds ρ = some ρ' → ds.length = is.length
  | [], [], _, _, _ => rfl
  | _ :: is, _ :: ds, _, _, e => by simp [fsets_len (is := is) e]
  | [], _ :: _, _, _, e => by cases e
  | _ :: _, [], _, _, e => by cases e
theorem tg_ok {t : Tg} {d : D} {x : V} {ρ ρ' : Frm} {σ : L2.St} {Q : L2.St → Hp → Prop} (s : MSt K G m H) (r : Dn K G d x) (f : FrR K G ρ σ) (e : tgSet t d ρ = some ρ')
    (q : ∀ σ', FrR K G ρ' σ' → (∀ vs, (∀ i ∈ t.slots, i ∈ vs) → wipe σ' vs = wipe σ vs) → Q σ' H) : tgTG K t x σ H Q := by
  cases t with
  | one i =>
    cases e
    exact q _ (f.set r i) fun vs hv => wipe_set (hv i (by simp [Tg.slots]))
  | many is =>
    cases r with
    | tup h1 h2 =>
      have e : fsets is _ ρ = some ρ' := e
      refine ⟨_, _, rfl, Evl.ex_t s.ex h1, by rw [← h2.length]; exact fsets_len e, gSeq_ok h2 f e q⟩
    | _ => cases e
end

/-! ### what is walked -/
abbrev VI := Frm → MH → (List D → (MH → Prop) → MH → Prop) → Prop
structure Wk (K : PySem.W.Frag) (J : It) (G1 : Hp) (ds : List D) (stay : MH → Prop) : Prop where
  stop : ∀ i G m H, Ex G1 G → MSt K G m H → stay m → ds.length ≤ i → J.stop i H
  go : ∀ i G m H, Ex G1 G → MSt K G m H → stay m → i < ds.length → J.go i H
  yld : ∀ i G m H x H', Ex G1 G → MSt K G m H → stay m → i < ds.length → J.yld i H x H' → ∃ G' d, Stp G m H G' m H' ∧ MSt K G' m H' ∧ ds[i]? = some d ∧ Dn K G' d x
def lowI (K : PySem.W.Frag) (B : Bs) (t : VI) : TI := fun σ H R => ∃ G ρ m P, B.to G m H ∧ Sta K G ρ σ m H ∧ t ρ m P ∧
  ∀ ds stay m' G' H' J, P ds stay m' → Stp G m H G' m' H' → MSt K G' m' H' → Wk K J G' ds stay → stay m' → R J H'
structure UI (X : Cx) (B : Bs) (tg iter : Expr) (t : VI) : Prop where
  pi : PI X tg iter (lowI X.K B t)
theorem _root_.L2.PI.weak {X : Cx} {tg iter : Expr} {t t' : TI} (h : PI X tg iter t) (i : ∀ σ H R, t' σ H R → t σ H R) : PI X tg iter t' := ⟨fun pins s σ H R I q => h.run pins s σ H R I (i _ _ _ q)⟩
section
variable {X : Cx} {B : Bs} {a b c e o tg iter : Expr} {es : List Expr} {ta tb tc te to : VE} {va : VA} {pos : Pos}
def iL (te : VE) : VI := fun ρ m Q => te ρ m fun d m1 => ∃ ds, asL m1 d = some ds ∧ Q ds (fun m' => asL m' d = some ds) m1
theorem wk_list {K : PySem.W.Frag} {G1 : Hp} {d : D} {a : Addr} {ds : List D} (r : Dn K G1 d (.ref a)) : Wk K (Itl K a) G1 ds (fun m' => asL m' d = some ds) := by
  refine ⟨fun i G m H e s h hi => ?_, fun i G m H e s h hi => ?_, fun i G m H x H' e s h hi y => ?_⟩
  · obtain ⟨a', xs, e1, h3, h4⟩ := s.asL (r.mono e) h
    cases e1
    exact ⟨xs, h3, by rw [← h4.length]; exact hi⟩
  · obtain ⟨a', xs, e1, h3, h4⟩ := s.asL (r.mono e) h
    cases e1
    obtain ⟨v, h5, h6⟩ := h4.get (List.getElem?_eq_getElem hi)
    exact ⟨xs, v, h3, h5⟩
  · obtain ⟨a', xs, e1, h3, h4⟩ := s.asL (r.mono e) h
    cases e1
    obtain ⟨rfl, y⟩ := y
    obtain ⟨d, h5, h6⟩ := h4.getV (y xs h3)
    exact ⟨G, d, Stp.refl, s, h5, h6⟩
theorem ui_list (he : UE X B iter te) : UI X B tg iter (iL te) := ⟨(pi_list he.pe).weak fun σ H R h => by
  obtain ⟨G, ρ, m, P, e0, s, t, k⟩ := h
  refine ⟨G, ρ, m, _, e0, s, t, fun d m1 G1 v1 H1 q1 e1 s1 r1 => ?_⟩
  obtain ⟨ds, h1, h2⟩ := q1
  obtain ⟨a, xs, rfl, h3, h4⟩ := s1.asL r1 h1
  exact ⟨a, rfl, ⟨xs, h3⟩, k ds _ m1 G1 H1 _ h2 e1 s1 (wk_list r1) h1⟩⟩
/-- a tuple -/
def iT (te : VE) : VI := fun ρ m Q => te ρ m fun d m1 => match d with | .tup ds => Q ds (fun _ => True) m1 | _ => False
theorem ui_tup (he : UE X B iter te) : UI X B tg iter (iT te) := ⟨(pi_tup he.pe).weak fun σ H R h => by
  obtain ⟨G, ρ, m, P, e0, s, t, k⟩ := h
  refine ⟨G, ρ, m, _, e0, s, t, fun d m1 G1 v1 H1 q1 e1 s1 r1 => ?_⟩
  cases r1 <;> first | exact q1.elim | skip
  rename_i a xs ds h1 h2
  refine ⟨a, rfl, ⟨_, Evl.ex_t s1.ex h1⟩, k _ _ m1 G1 H1 _ q1 e1 s1 ?_ trivial⟩
  refine ⟨fun i G m H e s _ hi => ?_, fun i G m H e s _ hi => ?_, fun i G m H x H' e s _ hi y => ?_⟩
  · exact ⟨_, Evl.ex_t (e.trans s.ex) h1, by rw [← h2.length]; exact hi⟩
  · obtain ⟨v, h5, h6⟩ := h2.get (List.getElem?_eq_getElem hi)
    exact ⟨_, v, Evl.ex_t (e.trans s.ex) h1, h5⟩
  · obtain ⟨rfl, y⟩ := y
    obtain ⟨d, h5, h6⟩ := h2.getV (y _ (Evl.ex_t (e.trans s.ex) h1))
    exact ⟨G, d, Stp.refl, s, h5, h6.mono e⟩⟩
/-- range -/
def irng (lo : Int) (n : Nat) : List D := (List.range n).map fun i => D.int (lo + (i : Nat))
theorem irng_len (lo : Int) (n : Nat) : (irng lo n).length = n := by simp [irng]
theorem irng_at {lo : Int} {n i : Nat} (h : i < n) : (irng lo n)[i]? = some (.int (lo + (i : Nat))) := by simp [irng, h]
theorem wk_range {K : PySem.W.Frag} {G1 : Hp} {lo : Int} {n : Nat} : Wk K (Itr lo n) G1 (irng lo n) (fun _ => True) := by
  refine ⟨fun i G m H e s _ hi => ?_, fun i G m H e s _ hi => ?_, fun i G m H x H' e s _ hi y => ?_⟩
  · rw [irng_len] at hi; exact hi
  · rw [irng_len] at hi; exact hi
  · rw [irng_len] at hi
    obtain ⟨rfl, rfl⟩ := y
    exact ⟨G, _, Stp.refl, s, irng_at hi, .int _⟩
/-- an end of a range -/
structure Rg (j : Int) : Prop where
  lo : -(2 ^ 62) ≤ j
  hi : j < 2 ^ 62
def iR1 (va : VA) : VI := fun ρ m Q => va ρ m fun ds m1 => match ds with
  | [.int j] => Rg j ∧ Q (irng 0 j.toNat) (fun _ => True) m1
  | _ => False
def iR2 (va : VA) : VI := fun ρ m Q => va ρ m fun ds m1 => match ds with
  | [.int i, .int j] => Rg i ∧ Rg j ∧ Q (irng i (j - i).toNat) (fun _ => True) m1
  | _ => False
theorem DnAll.one {K : PySem.W.Frag} {G : Hp} {d : D} {vs : List V} (h : DnAll K G [d] vs) : ∃ v, vs = [v] ∧ Dn K G d v := by
  cases h with
  | cons h1 h2 => cases h2; exact ⟨_, rfl, h1⟩
theorem DnAll.two {K : PySem.W.Frag} {G : Hp} {d d' : D} {vs : List V} (h : DnAll K G [d, d'] vs) : ∃ v v', vs = [v, v'] ∧ Dn K G d v ∧ Dn K G d' v' := by
  cases h with
  | cons h1 h2 => cases h2 with | cons h2 h3 => cases h3; exact ⟨_, _, rfl, h1, h2⟩
theorem ui_range1 {p : Pos} (hg : Gl X "range") (hm : X.mg "range" = none) (ha : UA X B [a] va) (hs : starEach [a] X.env = [(false, eval a X.env)] := by rfl) : UI X B tg (.Call (.Name "range" p) [a] [] pos) (iR1 va) :=
  ⟨(pi_range1 hg hm ha.pa hs).weak fun σ H R h => by
    obtain ⟨G, ρ, m, P, e0, s, t, k⟩ := h
    refine ⟨G, ρ, m, _, e0, s, t, fun ds m1 G1 vs H1 q1 e1 s1 r1 => ?_⟩
    split at q1
    · obtain ⟨v, rfl, r⟩ := r1.one
      cases r
      exact ⟨_, rfl, q1.1.lo, q1.1.hi, k _ _ m1 G1 H1 _ q1.2 e1 s1 wk_range trivial⟩
    · exact q1.elim⟩
theorem ui_range2 {p : Pos} (hg : Gl X "range") (hm : X.mg "range" = none) (ha : UA X B [a, b] va) (hs : starEach [a, b] X.env = [(false, eval a X.env), (false, eval b X.env)] := by rfl) (hs2 : starEach [b] X.env = [(false, eval b X.env)] := by rfl) :
    UI X B tg (.Call (.Name "range" p) [a, b] [] pos) (iR2 va) :=
  ⟨(pi_range2 hg hm ha.pa hs hs2).weak fun σ H R h => by
    obtain ⟨G, ρ, m, P, e0, s, t, k⟩ := h
    refine ⟨G, ρ, m, _, e0, s, t, fun ds m1 G1 vs H1 q1 e1 s1 r1 => ?_⟩
    split at q1
    · obtain ⟨v, v', rfl, r, r'⟩ := r1.two
      cases r
      cases r'
      exact ⟨_, _, rfl, ⟨q1.1.lo, q1.1.hi, q1.2.1.lo, q1.2.1.hi⟩, k _ _ m1 G1 H1 _ q1.2.2 e1 s1 wk_range trivial⟩
    · exact q1.elim⟩
/-- enumerate(list) -/
def enumD (ds : List D) : List D := (List.range ds.length).map fun i => D.tup [.int (i : Nat), ds.getD i .non]
def iE (va : VA) : VI := fun ρ m Q => va ρ m fun ds m1 => match ds with
  | [d] => ∃ es, asL m1 d = some es ∧ Q (enumD es) (fun m' => asL m' d = some es) m1
  | _ => False
theorem ui_enum {elts : List Expr} {kk : Nat} {tpos p : Pos} (hg : Gl X "enumerate") (hm : X.mg "enumerate" = none) (ha : UA X B [a] va) (hs : starEach [a] X.env = [(false, eval a X.env)] := by rfl) :
    UI X B (.Tuple elts kk tpos) (.Call (.Name "enumerate" p) [a] [] pos) (iE va) :=
  ⟨(pi_enum hg hm ha.pa hs).weak fun σ H R h => by
    obtain ⟨G, ρ, m, P, e0, s, t, k⟩ := h
    refine ⟨G, ρ, m, _, e0, s, t, fun ds m1 G1 vs H1 q1 e1 s1 r1 => ?_⟩
    split at q1
    · obtain ⟨v, rfl, r⟩ := r1.one
      obtain ⟨es, h1, h2⟩ := q1
      obtain ⟨a, xs, rfl, h3, h4⟩ := s1.asL r h1
      refine ⟨a, xs, rfl, h3, k _ _ m1 G1 H1 _ h2 e1 s1 ?_ h1⟩
      refine ⟨fun i G m H e s h hi => ?_, fun i G m H e s h hi => ?_, fun i G m H x H' e s h hi y => ?_⟩
      · obtain ⟨a', xs, e1, h3, h4⟩ := s.asL (r.mono e) h
        cases e1
        refine ⟨xs, h3, by rw [← h4.length]; simpa [enumD] using hi⟩
      · obtain ⟨a', xs, e1, h3, h4⟩ := s.asL (r.mono e) h
        cases e1
        have hi' : i < es.length := by simpa [enumD] using hi
        obtain ⟨v, h5, h6⟩ := h4.get (List.getElem?_eq_getElem hi')
        exact ⟨xs, v, h3, h5⟩
      · obtain ⟨a', xs, e1, h3, h4⟩ := s.asL (r.mono e) h
        cases e1
        have hi' : i < es.length := by simpa [enumD] using hi
        obtain ⟨T, x, rfl, hT, rfl, y⟩ := y
        obtain ⟨d, h5, h6⟩ := h4.getV (y xs h3)
        obtain ⟨e2, s2⟩ := s.newG hT (.tup [.int (i : Nat), x])
        refine ⟨_, .tup [.int (i : Nat), d], e2, s2, ?_, .tup (.of upd_same) (.cons (.int _) (.cons (h6.mono e2.ex) .nil))⟩
        have : es[i] = d := by rw [List.getElem?_eq_getElem hi'] at h5; exact Option.some.inj h5
        simp [enumD, hi', this]
    · exact q1.elim⟩
/-- zip of two lists -/
def zipD : List D → List D → List D
  | x :: xs, y :: ys => .tup [x, y] :: zipD xs ys
  | _, _ => []
theorem zipD_len : ∀ xs ys : List D, (zipD xs ys).length = min xs.length ys.length
  | [], _ => by simp [zipD]
  | _ :: _, [] => by simp [zipD]
  | x :: xs, y :: ys => by simp [zipD, zipD_len xs ys]
theorem zipD_at : ∀ {xs ys : List D} {i : Nat} {x y : D}, xs[i]? = some x → ys[i]? = some y → (zipD xs ys)[i]? = some (.tup [x, y])
  | _ :: _, _ :: _, 0, _, _, h1, h2 => by simp at h1 h2; subst h1 h2; rfl
  | _ :: xs, _ :: ys, i + 1, _, _, h1, h2 => by
    have := zipD_at (xs := xs) (ys := ys) (i := i) (by simpa using h1) (by simpa using h2)
    simpa [zipD] using this
  | [], _, _, _, _, h1, _ => by simp at h1
  | _, [], _, _, _, _, h2 => by simp at h2
def iZ (va : VA) : VI := fun ρ m Q => va ρ m fun ds m1 => match ds with
  | [d, d'] => ∃ es es', asL m1 d = some es ∧ asL m1 d' = some es' ∧ Q (zipD es es') (fun m' => asL m' d = some es ∧ asL m' d' = some es') m1
  | _ => False
theorem ui_zip {elts : List Expr} {kk : Nat} {tpos p : Pos} (hg : Gl X "zip") (hm : X.mg "zip" = none) (ha : UA X B [a, b] va)
    (hs : starEach [a, b] X.env = (false, eval a X.env) :: starEach [b] X.env := by rfl) (hpl : (backTo pos (starEach [b] X.env)).any (·.1) = false := by rfl) : UI X B (.Tuple elts kk tpos) (.Call (.Name "zip" p) [a, b] [] pos) (iZ va) :=
  ⟨(pi_zip hg hm ha.pa hs hpl).weak fun σ H R h => by
    obtain ⟨G, ρ, m, P, e0, s, t, k⟩ := h
    refine ⟨G, ρ, m, _, e0, s, t, fun ds m1 G1 vs H1 q1 e1 s1 r1 => ?_⟩
    split at q1
    · obtain ⟨v, v', rfl, r, r'⟩ := r1.two
      obtain ⟨es, es', h1, h1', h2⟩ := q1
      obtain ⟨a, xs, rfl, h3, h4⟩ := s1.asL r h1
      obtain ⟨b, ys, rfl, h3', h4'⟩ := s1.asL r' h1'
      refine ⟨a, b, xs, ys, rfl, h3, h3', k _ _ m1 G1 H1 _ h2 e1 s1 ?_ ⟨h1, h1'⟩⟩
      refine ⟨fun i G m H e s h hi => ?_, fun i G m H e s h hi => ?_, fun i G m H x H' e s h hi y => ?_⟩
      · obtain ⟨a', xs, e1, h3, h4⟩ := s.asL (r.mono e) h.1
        obtain ⟨b', ys, e2, h3', h4'⟩ := s.asL (r'.mono e) h.2
        cases e1; cases e2
        rw [zipD_len] at hi
        refine ⟨xs, ys, h3, h3', ?_⟩
        rw [← h4.length, ← h4'.length]
        omega
      · obtain ⟨a', xs, e1, h3, h4⟩ := s.asL (r.mono e) h.1
        obtain ⟨b', ys, e2, h3', h4'⟩ := s.asL (r'.mono e) h.2
        cases e1; cases e2
        rw [zipD_len] at hi
        obtain ⟨v, h5, h6⟩ := h4.get (List.getElem?_eq_getElem (show i < es.length by omega))
        obtain ⟨v', h5', h6'⟩ := h4'.get (List.getElem?_eq_getElem (show i < es'.length by omega))
        exact ⟨xs, ys, v, v', h3, h3', h5, h5'⟩
      · obtain ⟨a', xs, e1, h3, h4⟩ := s.asL (r.mono e) h.1
        obtain ⟨b', ys, e2, h3', h4'⟩ := s.asL (r'.mono e) h.2
        cases e1; cases e2
        obtain ⟨T, x, x', rfl, hT, rfl, y, y'⟩ := y
        obtain ⟨d, h5, h6⟩ := h4.getV (y xs h3)
        obtain ⟨d', h5', h6'⟩ := h4'.getV (y' ys h3')
        obtain ⟨e2, s2⟩ := s.newG hT (.tup [x, x'])
        exact ⟨_, .tup [d, d'], e2, s2, zipD_at h5 h5', .tup (.of upd_same) (.cons (h6.mono e2.ex) (.cons (h6'.mono e2.ex) .nil))⟩
    · exact q1.elim⟩
/-- a text, sign by sign -/
def signs (z : Str) : List D := z.cps.toList.map fun c => D.str ⟨#[c]⟩
def iS (te : VE) : VI := fun ρ m Q => te ρ m fun d m1 => match d with | .str z => Q (signs z) (fun _ => True) m1 | _ => False
theorem ui_str (he : UE X B iter te) : UI X B tg iter (iS te) := ⟨(pi_str he.pe).weak fun σ H R h => by
  obtain ⟨G, ρ, m, P, e0, s, t, k⟩ := h
  refine ⟨G, ρ, m, _, e0, s, t, fun d m1 G1 v1 H1 q1 e1 s1 r1 => ?_⟩
  cases r1 <;> first | exact q1.elim | skip
  rename_i z
  refine ⟨z, rfl, k _ _ m1 G1 H1 _ q1 e1 s1 ?_ trivial⟩
  refine ⟨fun i G m H e s _ hi => ?_, fun i G m H e s _ hi => ?_, fun i G m H x H' e s _ hi y => ?_⟩
  · show z.cps.size ≤ i
    simpa [signs] using hi
  · show i < z.cps.size
    simpa [signs] using hi
  · obtain ⟨rfl, c, h, rfl⟩ := y
    refine ⟨G, _, Stp.refl, s, ?_, .str _⟩
    simp [signs, h]⟩
end
end DL

namespace DL
open PySem L2
open Evl (Ex)
section
variable {X : Cx} {B : Bs} {a b c e o tg iter : Expr} {es : List Expr} {ta tb tc te to : VE} {va : VA} {pos pos' : Pos} {st : Stmt} {sts rest : List Stmt} {t u : VS} {tt : VT}

/-! ### blocks -/
def vNext : VS := fun E ρ m => E.nx ρ m
def vSeq (t u : VS) : VS := fun E ρ m => t { E with nx := u E } ρ m
def vBreak : VS := fun E ρ m => E.bk ρ m
def vCont : VS := fun E ρ m => E.ct ρ m
theorem uss_nil : USs X B [] vNext := ⟨PSs.weak pss_nil fun D σ H h => by
  obtain ⟨G, ρ, m, E, e0, s, t, k, _⟩ := h
  exact k ρ m G σ H t Stp.refl s⟩
theorem uss_cons (h1 : US X B st t) (h2 : USs X B rest u) : USs X B (st :: rest) (vSeq t u) := ⟨PSs.weak (pss_cons h1.ps h2.ps) fun D σ H h => by
  obtain ⟨G, ρ, m, E, e0, s, t, k, kr, kb, kc⟩ := h
  refine ⟨G, ρ, m, { E with nx := u E }, e0, s, t, fun ρ' m' G' σ' H' q e1 s1 => ?_, kr, kb, kc⟩
  refine ⟨G', ρ', m', E, e0.trans e1, s1, q, fun ρ2 m2 G2 σ2 H2 q2 e2 => k ρ2 m2 G2 σ2 H2 q2 (e1.trans e2), fun d m2 G2 v H2 q2 e2 => kr d m2 G2 v H2 q2 (e1.trans e2), fun ρ2 m2 G2 σ2 H2 q2 e2 => kb ρ2 m2 G2 σ2 H2 q2 (e1.trans e2), fun ρ2 m2 G2 σ2 H2 q2 e2 => kc ρ2 m2 G2 σ2 H2 q2 (e1.trans e2)⟩⟩
theorem uss_one (h1 : US X B st t) : USs X B [st] t := ⟨pss_one h1.ps⟩
theorem us_pass : US X B (.Pass pos) vNext := ⟨PS.weak ps_pass fun D σ H h => by
  obtain ⟨G, ρ, m, E, e0, s, t, k, _⟩ := h
  exact k ρ m G σ H t Stp.refl s⟩
theorem us_break : US X B (.Break pos) vBreak := ⟨PS.weak ps_break fun D σ H h => by
  obtain ⟨G, ρ, m, E, e0, s, t, k, kr, kb, kc⟩ := h
  exact kb ρ m G σ H t Stp.refl s⟩
theorem us_continue : US X B (.Continue pos) vCont := ⟨PS.weak ps_continue fun D σ H h => by
  obtain ⟨G, ρ, m, E, e0, s, t, k, kr, kb, kc⟩ := h
  exact kc ρ m G σ H t Stp.refl s⟩
def vNever : VS := fun _ _ _ => False
theorem us_never : US X B st vNever := ⟨PS.weak ps_never fun D σ H h => by
  obtain ⟨G, ρ, m, E, e0, s, t, k⟩ := h
  exact t⟩
theorem uss_never : USs X B sts vNever := ⟨PSs.weak pss_never fun D σ H h => by
  obtain ⟨G, ρ, m, E, e0, s, t, k⟩ := h
  exact t⟩

/-! ### plain statements -/
def vDrop (te : VE) : VS := fun E ρ m => te ρ m fun _ m1 => E.nx ρ m1
theorem us_expr (he : UE X B e te) (hs : swapsWith e none pos.line X.env = pure false := by rfl) : US X B (.Expr e pos) (vDrop te) := ⟨PS.weak (ps_expr he.pe hs) fun D σ H h => by
  obtain ⟨G, ρ, m, E, e0, s, t, k, _⟩ := h
  exact ⟨G, ρ, m, _, e0, s, t, fun d m1 G1 v H1 q e1 s1 _ => k ρ m1 G1 σ H1 q e1 ⟨s.fr.mono e1.ex, s1⟩⟩⟩
def vRet (te : VE) : VS := fun E ρ m => te ρ m E.rt
theorem us_ret (he : UE X B e te) : US X B (.Return (some e) pos) (vRet te) := ⟨PS.weak (ps_ret he.pe) fun D σ H h => by
  obtain ⟨G, ρ, m, E, e0, s, t, k, kr, _⟩ := h
  exact ⟨G, ρ, m, _, e0, s, t, kr⟩⟩
def vRetN : VS := fun E _ m => E.rt .non m
theorem us_retN : US X B (.Return none pos) vRetN := ⟨PS.weak ps_retN fun D σ H h => by
  obtain ⟨G, ρ, m, E, e0, s, t, k, kr, _⟩ := h
  exact kr .non m G .non H t Stp.refl s.ms .non⟩
def vIfS (tt : VT) (t u : VS) : VS := fun E ρ m => tt ρ m fun b m1 => (b = true → t E ρ m1) ∧ (b = false → u E ρ m1)
theorem us_if {A A' : List Stmt} (hc : UT X B c tt) (ha : USs X B A t) (hb : USs X B A' u) : US X B (.If c A A' pos) (vIfS tt t u) := ⟨PS.weak (ps_if hc.pt ha.ps hb.ps) fun D σ H h => by
  obtain ⟨G, ρ, m, E, e0, s, t, k, kr, kb, kc⟩ := h
  refine ⟨G, ρ, m, _, e0, s, t, fun b m1 G1 H1 q e1 s1 => ?_⟩
  have ks := fun (t' : VS) (q' : t' E ρ m1) => (show lowS X.K B t' D σ H1 from ⟨G1, ρ, m1, E, e0.trans e1, ⟨s.fr.mono e1.ex, s1⟩, q', fun ρ2 m2 G2 σ2 H2 q2 e2 => k ρ2 m2 G2 σ2 H2 q2 (e1.trans e2), fun d m2 G2 v H2 q2 e2 => kr d m2 G2 v H2 q2 (e1.trans e2), fun ρ2 m2 G2 σ2 H2 q2 e2 => kb ρ2 m2 G2 σ2 H2 q2 (e1.trans e2), fun ρ2 m2 G2 σ2 H2 q2 e2 => kc ρ2 m2 G2 σ2 H2 q2 (e1.trans e2)⟩)
  cases b with
  | true => exact ks _ (q.1 rfl)
  | false => exact ks _ (q.2 rfl)⟩
/-- target = e -/
def vAsg (g : Tg) (te : VE) : VS := fun E ρ m => te ρ m fun d m1 => ∃ ρ1, tgSet g d ρ = some ρ1 ∧ E.nx ρ1 m1
theorem low_asg {g : Tg} {D : Ends} {σ : L2.St} {H : Hp} (h : lowS X.K B (vAsg g te) D σ H) : tAsg (lowE X.K B te) (tgTG X.K g) D σ H := by
  obtain ⟨G, ρ, m, E, e0, s, t, k, _⟩ := h
  refine ⟨G, ρ, m, _, e0, s, t, fun d m1 G1 v H1 q e1 s1 r1 => ?_⟩
  obtain ⟨ρ1, w, q⟩ := q
  exact tg_ok s1 r1 (s.fr.mono e1.ex) w fun σ' f' _ => k ρ1 m1 G1 σ' H1 q e1 ⟨f', s1⟩
theorem us_set {i : Nat} {x : Str} (hN : X.N.Nodup) (he : UE X B e te) (hi : X.N[i]? = some x := by rfl) (hx : Loc X.env.scope x := by first | exact Or.inl rfl | exact Or.inr rfl) (hs : swapsWith e (some (.Name x pos')) pos.line X.env = pure false := by rfl)
    (hf : X.fn x = true ∨ X.env.scope.names.lookup x = some .local := by first | exact .inl rfl | exact .inr rfl | assumption) : US X B (.Assign [.Name x pos'] e pos) (vAsg (.one i) te) :=
  ⟨PS.weak (ps_set hN hi hx he.pe hs hf) fun D σ H h => low_asg (g := .one i) h⟩
theorem us_asg {g : Tg} (hg : PG X tg (tgTG X.K g)) (he : UE X B e te) (hs : swapsWithSole [tg] e pos.line X.env = pure false := by rfl) (hw : swappedStores [tg] e X.env = pure none := by rfl)
    (h1 : (assignEach [tg] X.env).map (·.2) = [assign tg X.env] := by rfl) : US X B (.Assign [tg] e pos) (vAsg g te) := ⟨PS.weak (ps_asg he.pe hg hs hw h1) fun D σ H h => low_asg h⟩
/-- x, y = a, b -/
def vPar (i j : Nat) (va : VA) : VS := fun E ρ m => va ρ m fun ds m1 => match ds with | [d, d'] => ∃ ρ1, fset (fset ρ i d) j d' = ρ1 ∧ E.nx ρ1 m1 | _ => False
theorem us_par {i j : Nat} {x y : Str} {px py pt : Pos} {kt k2 pt2} (hc : X.calm = true) (hN : X.N.Nodup) (hi : X.N[i]? = some x) (hj : X.N[j]? = some y) (hij : i ≠ j)
    (hx : X.env.scope.names.lookup x = some .local) (hy : X.env.scope.names.lookup y = some .local) (ha : UA X B [a, b] va)
    (hw : swappedStores [.Tuple [.Name x px, .Name y py] kt pt] (.Tuple [a, b] k2 pt2) X.env = pure (some [x, y]))
    (hs : swapsWithSole [.Tuple [.Name x px, .Name y py] kt pt] (.Tuple [a, b] k2 pt2) pos.line X.env = pure false := by rfl) :
    US X B (.Assign [.Tuple [.Name x px, .Name y py] kt pt] (.Tuple [a, b] k2 pt2) pos) (vPar i j va) := ⟨PS.weak (ps_par hc hN hi hj hij hx hy ha.pa hw hs) fun D σ H h => by
  obtain ⟨G, ρ, m, E, e0, s, t, k, _⟩ := h
  refine ⟨G, ρ, m, _, e0, s, t, fun ds m1 G1 vs H1 q e1 s1 r1 => ?_⟩
  split at q
  · obtain ⟨v, v', rfl, r, r'⟩ := r1.two
    obtain ⟨_, rfl, q⟩ := q
    exact ⟨v, v', rfl, k _ m1 G1 _ H1 q e1 ⟨((s.fr.mono e1.ex).set r i).set r' j, s1⟩⟩
  · exact q.elim⟩
/-- o.f = e, f known at i -/
def vSetF (C : Addr) (ks : List Str) (i : Nat) (to te : VE) : VS := fun E ρ m => te ρ m fun y m1 => to ρ m1 fun d m2 => match d with
  | .adr a => ∃ ds, m2 a = some (.ins C ks ds) ∧ E.nx ρ (mup m2 a (.ins C ks (ds.set i y)))
  | _ => False
/-- o.f = e, f new -/
def vNewF (C : Addr) (ks : List Str) (f : Str) (to te : VE) : VS := fun E ρ m => te ρ m fun y m1 => to ρ m1 fun d m2 => match d with
  | .adr a => ∃ ds, m2 a = some (.ins C ks ds) ∧ E.nx ρ (mup m2 a (.ins C (ks ++ [f]) (ds ++ [y])))
  | _ => False
theorem us_setF {C : Addr} {ks : List Str} {i : Nat} {f : Str} (ho : UE X B o to) (he : UE X B e te) (hc : Cls X.K C) (hn : NoAttr X.K C f) (hi : ks.idxOf? f = some i) (hl : ks.length < 1000) (hs : swapsWith e (some (.Attribute o f pos')) pos.line X.env = pure false := by rfl) :
    US X B (.Assign [.Attribute o f pos'] e pos) (vSetF C ks i to te) := ⟨PS.weak (ps_fld ho.pe he.pe hs) fun D σ H h => by
  obtain ⟨G, ρ, m, E, e0, s, t, k, _⟩ := h
  refine ⟨G, ρ, m, _, e0, s, t, fun y m1 G1 v H1 q e1 s1 r1 => ?_⟩
  refine ⟨G1, ρ, m1, _, e0.trans e1, ⟨s.fr.mono e1.ex, s1⟩, q, fun d m2 G2 v2 H2 q2 e2 s2 r2 => ?_⟩
  cases r2 <;> first | exact q2.elim | skip
  rename_i a
  obtain ⟨ds, h1, h2⟩ := q2
  obtain ⟨_, ho, h3, h4⟩ := s2.mr a _ h1
  cases h4 with
  | ins h5 h6 =>
    rename_i dx fs
    obtain ⟨p1, p2⟩ := put_at (v := v) (show (fs.map (·.1)).idxOf? f = some i by rw [h5]; exact hi)
    obtain ⟨e3, s3⟩ := s2.write h1 (o := .ins C ks (ds.set i y)) (ho := .ins C dx (putF f v fs)) (.ins (p1.trans h5) (by rw [p2]; exact h6.set (r1.mono e2.ex) i))
    refine ⟨a, C, dx, fs, rfl, h3, hc, hn, ?_, k ρ _ _ σ _ h2 ((e1.trans e2).trans e3) ⟨s.fr.mono ((e1.trans e2).trans e3).ex, s3⟩⟩
    have := congrArg List.length h5
    rw [List.length_map] at this
    omega⟩
theorem us_newF {C : Addr} {ks : List Str} {f : Str} (ho : UE X B o to) (he : UE X B e te) (hc : Cls X.K C) (hn : NoAttr X.K C f) (hi : f ∉ ks) (hl : ks.length < 1000) (hs : swapsWith e (some (.Attribute o f pos')) pos.line X.env = pure false := by rfl) :
    US X B (.Assign [.Attribute o f pos'] e pos) (vNewF C ks f to te) := ⟨PS.weak (ps_fld ho.pe he.pe hs) fun D σ H h => by
  obtain ⟨G, ρ, m, E, e0, s, t, k, _⟩ := h
  refine ⟨G, ρ, m, _, e0, s, t, fun y m1 G1 v H1 q e1 s1 r1 => ?_⟩
  refine ⟨G1, ρ, m1, _, e0.trans e1, ⟨s.fr.mono e1.ex, s1⟩, q, fun d m2 G2 v2 H2 q2 e2 s2 r2 => ?_⟩
  cases r2 <;> first | exact q2.elim | skip
  rename_i a
  obtain ⟨ds, h1, h2⟩ := q2
  obtain ⟨_, ho, h3, h4⟩ := s2.mr a _ h1
  cases h4 with
  | ins h5 h6 =>
    rename_i dx fs
    have p1 : putF f v fs = fs ++ [(f, v)] := put_no (by rw [h5]; exact hi)
    obtain ⟨e3, s3⟩ := s2.write h1 (o := .ins C (ks ++ [f]) (ds ++ [y])) (ho := .ins C dx (putF f v fs)) (.ins (by rw [p1, List.map_append, h5]; rfl) (by rw [p1, List.map_append]; exact h6.append (.cons (r1.mono e2.ex) .nil)))
    refine ⟨a, C, dx, fs, rfl, h3, hc, hn, ?_, k ρ _ _ σ _ h2 ((e1.trans e2).trans e3) ⟨s.fr.mono ((e1.trans e2).trans e3).ex, s3⟩⟩
    have := congrArg List.length h5
    rw [List.length_map] at this
    omega⟩

/-! ### for -/
/-- keeps a reading closed -/
inductive Wn (p : Prop) : Prop
  | mk : p → Wn p
theorem Wn.out {p : Prop} : Wn p → p
  | .mk h => h
def forW (stay : MH → Prop) (g : Tg) (tb : VS) (E : VEnds) : List D → Frm → MH → Prop
  | [], ρ, m => E.nx ρ m
  | x :: xs, ρ, m => ∃ ρ1, tgSet g x ρ = some ρ1 ∧ ∃ N : Frm → MH → Prop, (∀ ρ' m', N ρ' m' → stay m' ∧ forW stay g tb E xs ρ' m') ∧ tb { E with nx := N, ct := N, bk := E.nx } ρ1 m
/-- by an invariant -/
theorem for_inv {stay : MH → Prop} {g : Tg} {tb : VS} {E : VEnds} (I : Nat → Frm → MH → Prop) : ∀ (ds : List D) (k : Nat) {ρ : Frm} {m : MH}, I k ρ m → (∀ i ρ m, I i ρ m → stay m) →
    (∀ i x ρ m, ds[i]? = some x → I (k + i) ρ m → ∃ ρ1, tgSet g x ρ = some ρ1 ∧ tb { E with nx := I (k + i + 1), ct := I (k + i + 1), bk := E.nx } ρ1 m) → (∀ ρ m, I (k + ds.length) ρ m → E.nx ρ m) → forW stay g tb E ds ρ m
  | [], k, ρ, m, h0, _, _, hd => hd ρ m h0
  | x :: xs, k, ρ, m, h0, hst, hs, hd => by
    obtain ⟨ρ1, e, q⟩ := hs 0 x ρ m rfl h0
    refine ⟨ρ1, e, I (k + 1), fun ρ' m' h => ⟨hst _ _ _ h, for_inv I xs (k + 1) h hst (fun i y ρ2 m2 hy h2 => ?_) fun ρ2 m2 h2 => hd ρ2 m2 (by rw [List.length_cons]; rw [show k + (xs.length + 1) = k + 1 + xs.length by omega]; exact h2)⟩, q⟩
    have := hs (i + 1) y ρ2 m2 (by simpa using hy) (by rw [show k + (i + 1) = k + 1 + i by omega]; exact h2)
    rw [show k + (i + 1) + 1 = k + 1 + i + 1 by omega] at this
    exact this
def vFor (wi : VI) (g : Tg) (tb : VS) : VS := fun E ρ m => wi ρ m fun ds stay m1 => Wn (forW stay g tb E ds ρ m1)
theorem us_for {wi : VI} {g : Tg} {body : List Stmt} (hp : PassesOwn (model X.prog X.w) X.A X.env X.xe) (hc : X.calm = true) (hi : UI X B tg iter wi) (hg : PG X tg (tgTG X.K g)) (hb : USs X B body t)
    (hs : ∀ x, foldedSetIterable iter X.env x = pure x := by intro _; rfl) : US X B (.For tg iter body [] pos) (vFor wi g t) := ⟨PS.weak (ps_for hp hc hi.pi hg hb.ps hs) fun D σ H h => by
  obtain ⟨G, ρ, m, E, e0, s, q, k, kr, kb, kc⟩ := h
  refine ⟨G, ρ, m, _, e0, s, q, fun ds stay m1 G1 H1 J q1 e1 s1 w hst => ?_⟩
  refine ⟨fun i n σ H => n = ds.length - i ∧ i ≤ ds.length ∧ ∃ G2 ρ m2, Stp G1 m1 H1 G2 m2 H ∧ Sta X.K G2 ρ σ m2 H ∧ stay m2 ∧ forW stay g t E (ds.drop i) ρ m2,
    ⟨ds.length, by simp, Nat.zero_le _, G1, ρ, m1, Stp.refl, ⟨s.fr.mono e1.ex, s1⟩, hst, q1.out⟩, ?_⟩
  rintro i n σ2 H2 ⟨rfl, hi, G2, ρ2, m2, e2, s2, hst2, q2⟩
  by_cases hlt : i < ds.length
  · refine .inr ⟨w.go i G2 m2 H2 e2.ex s2.ms hst2 hlt, fun σ' H' => i + 1 ≤ ds.length ∧ ∃ G2 ρ m2, Stp G1 m1 H1 G2 m2 H' ∧ Sta X.K G2 ρ σ' m2 H' ∧ stay m2 ∧ forW stay g t E (ds.drop (i + 1)) ρ m2,
      fun σ' H' p' => ⟨ds.length - (i + 1), by omega, rfl, p'⟩, fun x H3 y => ?_⟩
    obtain ⟨G3, d, e3, s3, h3, r3⟩ := w.yld i G2 m2 H2 x H3 e2.ex s2.ms hst2 hlt y
    have hd : ds.drop i = d :: ds.drop (i + 1) := by
      rw [List.drop_eq_getElem_cons hlt]
      rw [List.getElem?_eq_getElem hlt] at h3
      rw [Option.some.inj h3]
    rw [hd] at q2
    unfold forW at q2
    obtain ⟨ρ3, z, q2⟩ := q2
    focus
      obtain ⟨N, hN, q2⟩ := q2
      refine tg_ok s3 r3 (s2.fr.mono e3.ex) z fun σ3 f3 _ => ?_
      have e13 := (e1.trans e2).trans e3
      refine ⟨G3, ρ3, m2, _, e0.trans e13, ⟨f3, s3⟩, q2, fun ρ4 m4 G4 σ4 H4 q4 e4 s4 => ⟨hlt, G4, ρ4, m4, (e2.trans e3).trans e4, s4, (hN _ _ q4).1, (hN _ _ q4).2⟩, fun d m4 G4 v H4 q4 e4 => kr d m4 G4 v H4 q4 (e13.trans e4),
        fun ρ4 m4 G4 σ4 H4 q4 e4 s4 => k ρ4 m4 G4 σ4 H4 q4 (e13.trans e4) s4, fun ρ4 m4 G4 σ4 H4 q4 e4 s4 => ⟨hlt, G4, ρ4, m4, (e2.trans e3).trans e4, s4, (hN _ _ q4).1, (hN _ _ q4).2⟩⟩
  · have hi' : ds.length ≤ i := by omega
    rw [List.drop_eq_nil_of_le hi'] at q2
    exact .inl ⟨w.stop i G2 m2 H2 e2.ex s2.ms hst2 hi', k ρ2 m2 G2 σ2 H2 q2 (e1.trans e2) s2⟩⟩

/-! ### while -/
def vWhile (tt : VT) (tb : VS) : VS := fun E ρ m => ∃ W : Nat → Frm → MH → Prop, (∃ n, W n ρ m) ∧ ∀ n ρ m, W n ρ m → tt ρ m fun b m1 =>
  (b = true → ∃ N : Frm → MH → Prop, (∀ ρ' m', N ρ' m' → ∃ k, k < n ∧ W k ρ' m') ∧ tb { E with nx := N, ct := N, bk := E.nx } ρ m1) ∧ (b = false → E.nx ρ m1)
theorem us_while {body : List Stmt} (hp : PassesOwn (model X.prog X.w) X.A X.env X.xe) (hc : UT X B c tt) (hb : USs X B body t) : US X B (.While c body [] pos) (vWhile tt t) := ⟨PS.weak (ps_while hp hc.pt hb.ps) fun D σ H h => by
  obtain ⟨G, ρ, m, E, e0, s, ⟨W, ⟨n, q⟩, turn⟩, k, kr, kb, kc⟩ := h
  refine ⟨fun n σ2 H2 => ∃ G2 ρ m2, Stp G m H G2 m2 H2 ∧ Sta X.K G2 ρ σ2 m2 H2 ∧ W n ρ m2, ⟨n, G, ρ, m, Stp.refl, s, q⟩, ?_⟩
  rintro n σ2 H2 ⟨G2, ρ2, m2, e2, s2, q2⟩
  refine ⟨G2, ρ2, m2, _, e0.trans e2, s2, turn n ρ2 m2 q2, fun b m3 G3 H3 q3 e3 s3 => ?_⟩
  cases b with
  | false => exact k ρ2 m3 G3 σ2 H3 (q3.2 rfl) (e2.trans e3) ⟨s2.fr.mono e3.ex, s3⟩
  | true =>
    obtain ⟨N, hN, q3⟩ := q3.1 rfl
    refine ⟨fun σ' H' => ∃ G2 ρ m2, Stp G m H G2 m2 H' ∧ Sta X.K G2 ρ σ' m2 H' ∧ N ρ m2, fun σ' H' ⟨G4, ρ4, m4, e4, s4, q4⟩ => ?_, ?_⟩
    · obtain ⟨k', hk, q5⟩ := hN _ _ q4
      exact ⟨k', hk, G4, ρ4, m4, e4, s4, q5⟩
    · refine ⟨G3, ρ2, m3, _, e0.trans (e2.trans e3), ⟨s2.fr.mono e3.ex, s3⟩, q3, fun ρ4 m4 G4 σ4 H4 q4 e4 s4 => ⟨G4, ρ4, m4, (e2.trans e3).trans e4, s4, q4⟩, fun d m4 G4 v H4 q4 e4 => kr d m4 G4 v H4 q4 ((e2.trans e3).trans e4),
        fun ρ4 m4 G4 σ4 H4 q4 e4 s4 => k ρ4 m4 G4 σ4 H4 q4 ((e2.trans e3).trans e4) s4, fun ρ4 m4 G4 σ4 H4 q4 e4 s4 => ⟨G4, ρ4, m4, (e2.trans e3).trans e4, s4, q4⟩⟩⟩

/-! ### comprehensions of elements that leave the cells as they are -/
def fwipe : Frm → List Nat → Frm
  | ρ, [] => ρ
  | ρ, v :: vs => fdel (fwipe ρ vs) v
where fdel : Frm → Nat → Frm
  | [], _ => []
  | _ :: r, 0 => none :: r
  | x :: r, n + 1 => x :: fdel r n
theorem FrR.del {K : PySem.W.Frag} {G : Hp} : ∀ {ρ : Frm} {σ : L2.St} (i : Nat) (o : Option V), FrR K G ρ σ → FrR K G (fwipe.fdel ρ i) (σ.set i o)
  | _, _, _, _, .nil => .nil
  | _, _, 0, _, .no hs => .no hs
  | _, _, 0, _, .yes _ hs => .no hs
  | _, _, i + 1, o, .no hs => .no (FrR.del i o hs)
  | _, _, i + 1, o, .yes h hs => .yes h (FrR.del i o hs)
theorem FrR.wipe {K : PySem.W.Frag} {G : Hp} {ρ : Frm} {σ : L2.St} (f : FrR K G ρ σ) : ∀ vs : List Nat, FrR K G (fwipe ρ vs) (wipe σ vs)
  | [] => f
  | v :: vs => (FrR.wipe f vs).del v none
def lcW (g : Tg) (tt : VT) (te : VE) (vs : List Nat) (ρ : Frm) (m : MH) (F : List D → Prop) : List D → List D → Prop
  | [], acc => F acc
  | x :: xs, acc => ∃ ρ1, tgSet g x (fwipe ρ vs) = some ρ1 ∧ tt ρ1 m fun b m2 => m2 = m ∧ (b = true → te ρ1 m fun y m3 => m3 = m ∧ acc.length < sizeLine ∧ lcW g tt te vs ρ m F xs (acc ++ [y])) ∧ (b = false → lcW g tt te vs ρ m F xs acc)
def vLc (wi : VI) (g : Tg) (tt : VT) (te : VE) (vs : List Nat) : VE := fun ρ m Q => wi ρ m fun ds stay m1 => Wn (lcW g tt te vs ρ m1 (fun acc => Q (.lst acc) m1) ds [])
/-- .. a list that will change -/
def vLcM (wi : VI) (g : Tg) (tt : VT) (te : VE) (vs : List Nat) : VE := fun ρ m Q => wi ρ m fun ds stay m1 => Wn (lcW g tt te vs ρ m1 (fun acc => ∀ p, m1 p = none → Q (.adr p) (mup m1 p (.lst acc))) ds [])
def vLcF (fin : MH → (D → MH → Prop) → List D → Prop) (wi : VI) (g : Tg) (tt : VT) (te : VE) (vs : List Nat) : VE := fun ρ m Q => wi ρ m fun ds stay m1 => Wn (lcW g tt te vs ρ m1 (fin m1 Q) ds [])
/-- tests of a comprehension -/
structure UTs (X : Cx) (B : Bs) (ifs : List Expr) (t : VT) : Prop where
  pt : PTs X ifs (lowT X.K B t)
theorem _root_.L2.PTs.weak {e : List Expr} {t t' : TT} (h : PTs X e t) (i : ∀ σ H Q, t' σ H Q → t σ H Q) : PTs X e t' := ⟨fun pins s σ H Q I q => h.run pins s σ H Q I (i _ _ _ q)⟩
def vYes : VT := fun _ m Q => Q true m
theorem uts_nil : UTs X B [] vYes := ⟨PTs.weak pts_nil fun σ H Q h => by
  obtain ⟨G, ρ, m, P, e0, s, t, k⟩ := h
  exact k _ m G H t Stp.refl s.ms⟩
theorem uts_one (h : UT X B c tt) : UTs X B [c] tt := ⟨pts_one h.pt⟩
theorem low_lcF {fin : MH → (D → MH → Prop) → List D → Prop} {wi : VI} {g : Tg} {vs : List Nat} {σ : L2.St} {H : Hp} {Q : VK}
    (hfin : ∀ {m1 : MH} {P : D → MH → Prop} {acc : List D} {G : Hp} {H2 : Hp} {L : Addr} {us : List V}, fin m1 P acc → MSt X.K G m1 H2 → G L = none → m1 L = none → H2 L = some (.lst us) → DnAll X.K G acc us → ∃ d m' G', P d m' ∧ Ex G G' ∧ MSt X.K G' m' H2 ∧ Dn X.K G' d (.ref L) ∧ ∀ a, a ≠ L → G' a = G a ∧ m' a = m1 a)
    (hv : ∀ i ∈ g.slots, i ∈ vs) (h : lowE X.K B (vLcF fin wi g tt te vs) σ H Q) :
    tLc (lowI X.K B wi) (tgTG X.K g) (lowT X.K B tt) (lowE X.K B te) vs σ H Q := by
  obtain ⟨G, ρ, m, P, e0, s, q, k⟩ := h
  refine ⟨G, ρ, m, _, e0, s, q, fun ds stay m1 G1 H1 J q1 e1 s1 w hst => ?_⟩
  intro L hL
  -- the new list at L: not a cell, not frozen
  have hLn := s1.free hL
  have ne1 : ∀ {G2 : Hp} {H2 : Hp}, MSt X.K G2 m1 H2 → G2 L = none → ∀ us, Stp G2 m1 H2 G2 m1 (upd H2 L us) → MSt X.K G2 m1 (upd H2 L us) := fun {G2 H2} s2 g us _ => by
    refine ⟨fun b u q => ?_, fun b u q => ?_⟩
    · have hb : b ≠ L := fun z => by subst z; rw [g] at q; cases q
      rw [upd_ne hb]; exact s2.ex b u q
    · have hb : b ≠ L := fun z => by subst z; rw [hLn.2] at q; cases q
      obtain ⟨h1, ho, h2, h3⟩ := s2.mr b u q
      exact ⟨h1, ho, by rw [upd_ne hb]; exact h2, h3⟩
  -- what stands but L
  let Inv2 : Hp → Hp → Prop := fun G2 H2 => Ex G1 G2 ∧ G2 L = none ∧ (∀ a o, H1 a = some o → m1 a = none → H2 a = some o ∧ (G1 a = none → G2 a = none)) ∧ MSt X.K G2 m1 H2
  have step : ∀ {G2 H2 G3 H3}, Inv2 G2 H2 → H2 L ≠ none → Stp G2 m1 H2 G3 m1 H3 → MSt X.K G3 m1 H3 → Inv2 G3 H3 := fun {G2 H2 G3 H3} i hl e s3 => by
    obtain ⟨i1, i2, i3, i4⟩ := i
    refine ⟨i1.trans e.ex, ?_, fun a o h n => ?_, s3⟩
    · cases z : H2 L with
      | none => exact absurd z hl
      | some o => exact (e.keep L o z hLn.2).2.2 i2
    · obtain ⟨h1, h2⟩ := i3 a o h n
      obtain ⟨h3, _, h4⟩ := e.keep a o h1 n
      exact ⟨h3, fun z => h4 (h2 z)⟩
  have app : ∀ {G2 H2} (o : HO), Inv2 G2 H2 → Inv2 G2 (upd H2 L o) := fun {G2 H2} o i => by
    obtain ⟨i1, i2, i3, i4⟩ := i
    refine ⟨i1, i2, fun a u h n => ?_, ⟨fun b u q => ?_, fun b u q => ?_⟩⟩
    · have hb : a ≠ L := fun z => by subst z; rw [hL] at h; cases h
      rw [upd_ne hb]; exact i3 a u h n
    · have hb : b ≠ L := fun z => by subst z; rw [i2] at q; cases q
      rw [upd_ne hb]; exact i4.ex b u q
    · have hb : b ≠ L := fun z => by subst z; rw [hLn.2] at q; cases q
      obtain ⟨h1, ho, h2, h3⟩ := i4.mr b u q
      exact ⟨h1, ho, by rw [upd_ne hb]; exact h2, h3⟩
  refine ⟨fun i n H2 => n = ds.length - i ∧ i ≤ ds.length ∧ ∃ G2 acc us, Inv2 G2 H2 ∧ H2 L = some (.lst us) ∧ DnAll X.K G2 acc us ∧ lcW g tt te vs ρ m1 (fin m1 P) (ds.drop i) acc,
    ⟨ds.length, by simp, Nat.zero_le _, G1, [], [], app _ ⟨Ex.refl G1, hLn.1, fun a o h n => ⟨h, fun z => z⟩, s1⟩, upd_same, .nil, q1.out⟩, ?_⟩
  rintro i n H2 ⟨rfl, hi, G2, acc, us, i2, hL2, ra, q2⟩
  by_cases hlt : i < ds.length
  · refine .inr ⟨w.go i G2 m1 H2 i2.1 i2.2.2.2 hst hlt, fun H' => i + 1 ≤ ds.length ∧ ∃ G2 acc us, Inv2 G2 H' ∧ H' L = some (.lst us) ∧ DnAll X.K G2 acc us ∧ lcW g tt te vs ρ m1 (fin m1 P) (ds.drop (i + 1)) acc,
      fun H' p' => ⟨ds.length - (i + 1), by omega, rfl, p'⟩, fun x H3 y => ?_⟩
    obtain ⟨G3, d, e3, s3, h3, r3⟩ := w.yld i G2 m1 H2 x H3 i2.1 i2.2.2.2 hst hlt y
    have hd : ds.drop i = d :: ds.drop (i + 1) := by
      rw [List.drop_eq_getElem_cons hlt]
      rw [List.getElem?_eq_getElem hlt] at h3
      rw [Option.some.inj h3]
    rw [hd] at q2
    unfold lcW at q2
    have i3 := step i2 (by rw [hL2]; exact fun z => nomatch z) e3 s3
    have hL3 := (e3.keep L _ hL2 hLn.2).1
    obtain ⟨ρ3, z, q2⟩ := q2
    focus
      have f0 : FrR X.K G3 ρ σ := s.fr.mono (e1.ex.trans i3.1)
      refine tg_ok s3 r3 (f0.wipe vs) z fun σ3 f3 w3 => ?_
      refine ⟨(w3 vs hv).trans (by
        have : ∀ l : List Nat, (∀ i ∈ l, i ∈ vs) → wipe (wipe σ vs) l = wipe σ vs := fun l => by
          induction l with
          | nil => intro _; rfl
          | cons a r ih =>
            intro hl
            show (wipe (wipe σ vs) r).set a none = wipe σ vs
            rw [ih fun j hj => hl j (List.mem_cons_of_mem _ hj)]
            have ha := hl a List.mem_cons_self
            have gen : ∀ (l : List Nat) (τ : L2.St), a ∈ l → (wipe τ l).set a none = wipe τ l := fun l τ => by
              induction l with
              | nil => intro h; cases h
              | cons b r2 ih2 =>
                intro h
                unfold wipe
                by_cases e : a = b
                · subst e; rw [List.set_set]
                · rcases List.mem_cons.mp h with z | z
                  · exact absurd z e
                  · rw [List.set_comm _ _ (Ne.symm e), ih2 z]
            exact gen vs σ ha
        exact this vs fun _ h => h), ?_⟩
      have eB : B.to G3 m1 H3 := ⟨e0.ex.trans (e1.ex.trans i3.1), fun a o h n => by
        obtain ⟨h1, n1, g1⟩ := (e0.trans e1).keep a o h n
        obtain ⟨h2, g2⟩ := i3.2.2.1 a o h1 n1
        exact ⟨h2, n1, fun z => g2 (g1 z)⟩⟩
      refine ⟨G3, ρ3, m1, _, eB, ⟨f3, s3⟩, q2, fun b m4 G4 H4 q4 e4 s4 => ?_⟩
      obtain ⟨rfl, q4, q5⟩ := q4
      have i4 := step i3 (by rw [hL3]; exact fun z => nomatch z) e4 s4
      have hL4 := (e4.keep L _ hL3 hLn.2).1
      cases b with
      | false => exact ⟨hlt, G4, acc, us, i4, hL4, ra.mono (e3.trans e4).ex, q5 rfl⟩
      | true =>
        refine ⟨G4, ρ3, _, _, eB.trans e4, ⟨f3.mono e4.ex, s4⟩, q4 rfl, fun y m5 G5 v5 H5 q6 e5 s5 r5 => ?_⟩
        obtain ⟨rfl, q6, q7⟩ := q6
        have i5 := step i4 (by rw [hL4]; exact fun z => nomatch z) e5 s5
        have hL5 := (e5.keep L _ hL4 hLn.2).1
        have ra5 := ra.mono ((e3.trans e4).trans e5).ex
        exact ⟨us, hL5, by rw [← ra5.length]; exact q6, hlt, G5, acc ++ [y], us ++ [v5], app _ i5, upd_same, ra5.append (.cons r5 .nil), q7⟩
  · have hi' : ds.length ≤ i := by omega
    rw [List.drop_eq_nil_of_le hi'] at q2
    obtain ⟨j1, j2, j3, j4⟩ := i2
    refine .inl ⟨w.stop i G2 m1 H2 j1 j4 hst hi', ?_⟩
    -- the list at L is frozen, or a cell
    obtain ⟨d, m', G', p1, p2, p3, p4, p5⟩ := hfin q2 j4 j2 hLn.2 hL2 ra
    refine k d m' G' (.ref L) H2 p1 ⟨(e1.ex.trans j1).trans p2, fun a o h n => ?_⟩ p3 p4
    obtain ⟨h1, n1, g1⟩ := e1.keep a o h n
    obtain ⟨h2, g2⟩ := j3 a o h1 n1
    have hb : a ≠ L := fun z => by subst z; rw [hL] at h1; cases h1
    exact ⟨h2, by rw [(p5 a hb).2]; exact n1, fun z => by rw [(p5 a hb).1]; exact g2 (g1 z)⟩
theorem low_lc {wi : VI} {g : Tg} {vs : List Nat} {σ : L2.St} {H : Hp} {Q : VK} (hv : ∀ i ∈ g.slots, i ∈ vs) (h : lowE X.K B (vLc wi g tt te vs) σ H Q) :
    tLc (lowI X.K B wi) (tgTG X.K g) (lowT X.K B tt) (lowE X.K B te) vs σ H Q := low_lcF (fin := fun m1 Q acc => Q (.lst acc) m1) (fun {m1 P acc G H2 L us} p s g n hl r => by
  refine ⟨_, _, upd G L (.lst us), p, Ex.new g, ⟨fun b u q => ?_, fun b u q => ?_⟩, .lst upd_same (r.mono (Ex.new g)), fun a ha => ⟨upd_ne ha, rfl⟩⟩
  · by_cases hb : b = L
    · subst hb; rw [upd_same] at q; rw [hl]; exact q
    · rw [upd_ne hb] at q; exact s.ex b u q
  · have hb : b ≠ L := fun z => by subst z; rw [n] at q; cases q
    obtain ⟨h1, ho, h2, h3⟩ := s.mr b u q
    exact ⟨by rw [upd_ne hb]; exact h1, ho, h2, h3.mono (Ex.new g)⟩) hv h
theorem low_lcM {wi : VI} {g : Tg} {vs : List Nat} {σ : L2.St} {H : Hp} {Q : VK} (hv : ∀ i ∈ g.slots, i ∈ vs) (h : lowE X.K B (vLcM wi g tt te vs) σ H Q) :
    tLc (lowI X.K B wi) (tgTG X.K g) (lowT X.K B tt) (lowE X.K B te) vs σ H Q := low_lcF (fin := fun m1 Q acc => ∀ p, m1 p = none → Q (.adr p) (mup m1 p (.lst acc))) (fun {m1 P acc G H2 L us} p s g n hl r => by
  refine ⟨_, _, G, p L n, Ex.refl G, ⟨s.ex, fun b u q => ?_⟩, .adr L, fun a ha => ⟨rfl, mup_ne ha⟩⟩
  by_cases hb : b = L
  · subst hb
    rw [mup_same] at q
    cases q
    exact ⟨g, _, hl, .lst r⟩
  · rw [mup_ne hb] at q
    exact s.mr b u q) hv h
section
variable {elt : Expr} {ifs : List Expr} {scope : Scope} {own : List (Str × Nat)} {wi : VI} {g : Tg}
abbrev Blk (X : Cx) (scope : Scope) (s : Shared) (H : Hp) (C : Addr) (cl : List (Str × Addr)) (fp : List Addr) : Cx := X.blk s H scope (compEnvC scope cl C X.env) fp
theorem ue_lc (hc : X.calm = true) (hN : X.N.Nodup) (hi : UI X B tg iter wi) (ok : BlkOk X.N X.env.scope scope own)
    (hg : ∀ s H C cl fp, PG (Blk X scope s H C cl fp) tg (tgTG X.K g)) (ht : ∀ s H C cl fp, UTs (Blk X scope s H C cl fp) B ifs tt) (he : ∀ s H C cl fp, UE (Blk X scope s H C cl fp) B elt te)
    (hv : ∀ i ∈ g.slots, i ∈ own.map (·.2)) (hs : ∀ x, foldedSetIterable iter X.env x = pure x := by intro _; rfl) : UE X B (.ListComp elt [⟨tg, iter, ifs, 0⟩] scope pos) (vLc wi g tt te (own.map (·.2))) :=
  ⟨(pe_lc hc hN hi.pi ok hg (fun s H C cl fp => (ht s H C cl fp).pt) (fun s H C cl fp => (he s H C cl fp).pe) hs).weak fun σ H Q h => low_lc hv h⟩
theorem ue_lcM (hc : X.calm = true) (hN : X.N.Nodup) (hi : UI X B tg iter wi) (ok : BlkOk X.N X.env.scope scope own)
    (hg : ∀ s H C cl fp, PG (Blk X scope s H C cl fp) tg (tgTG X.K g)) (ht : ∀ s H C cl fp, UTs (Blk X scope s H C cl fp) B ifs tt) (he : ∀ s H C cl fp, UE (Blk X scope s H C cl fp) B elt te)
    (hv : ∀ i ∈ g.slots, i ∈ own.map (·.2)) (hs : ∀ x, foldedSetIterable iter X.env x = pure x := by intro _; rfl) : UE X B (.ListComp elt [⟨tg, iter, ifs, 0⟩] scope pos) (vLcM wi g tt te (own.map (·.2))) :=
  ⟨(pe_lc hc hN hi.pi ok hg (fun s H C cl fp => (ht s H C cl fp).pt) (fun s H C cl fp => (he s H C cl fp).pe) hs).weak fun σ H Q h => low_lcM hv h⟩
/-- y = [..], y a local -/
theorem us_setLc {i : Nat} {y : Str} {py spos : Pos} (hc : X.calm = true) (hN : X.N.Nodup) (hy : X.N[i]? = some y) (hyl : X.env.scope.names.lookup y = some .local)
    (hsw : swapsWith (.ListComp elt [⟨tg, iter, ifs, 0⟩] scope pos) (some (.Name y py)) spos.line X.env = pure true) (hi : UI X B tg iter wi) (ok : BlkOk X.N X.env.scope scope own)
    (hg : ∀ s H C cl fp, PG (Blk X scope s H C cl fp) tg (tgTG X.K g)) (ht : ∀ s H C cl fp, UTs (Blk X scope s H C cl fp) B ifs tt) (he : ∀ s H C cl fp, UE (Blk X scope s H C cl fp) B elt te)
    (hv : ∀ i ∈ g.slots, i ∈ own.map (·.2)) (hs : ∀ x, foldedSetIterable iter X.env x = pure x := by intro _; rfl) :
    US X B (.Assign [.Name y py] (.ListComp elt [⟨tg, iter, ifs, 0⟩] scope pos) spos) (vAsg (.one i) (vLc wi g tt te (own.map (·.2)))) :=
  ⟨PS.weak (ps_setLc hc hN hy hyl hsw hi.pi ok hg (fun s H C cl fp => (ht s H C cl fp).pt) (fun s H C cl fp => (he s H C cl fp).pe) hs) fun D σ H h => by
    obtain ⟨G, ρ, m, E, e0, s, t, k, _⟩ := h
    refine low_lc hv ⟨G, ρ, m, _, e0, s, t, fun d m1 G1 v H1 q e1 s1 r1 => ?_⟩
    obtain ⟨ρ1, z, q⟩ := q
    exact tg_ok (t := .one i) s1 r1 (s.fr.mono e1.ex) z fun σ' f' _ => k _ m1 G1 σ' H1 q e1 ⟨f', s1⟩⟩
theorem us_setLcM {i : Nat} {y : Str} {py spos : Pos} (hc : X.calm = true) (hN : X.N.Nodup) (hy : X.N[i]? = some y) (hyl : X.env.scope.names.lookup y = some .local)
    (hsw : swapsWith (.ListComp elt [⟨tg, iter, ifs, 0⟩] scope pos) (some (.Name y py)) spos.line X.env = pure true) (hi : UI X B tg iter wi) (ok : BlkOk X.N X.env.scope scope own)
    (hg : ∀ s H C cl fp, PG (Blk X scope s H C cl fp) tg (tgTG X.K g)) (ht : ∀ s H C cl fp, UTs (Blk X scope s H C cl fp) B ifs tt) (he : ∀ s H C cl fp, UE (Blk X scope s H C cl fp) B elt te)
    (hv : ∀ i ∈ g.slots, i ∈ own.map (·.2)) (hs : ∀ x, foldedSetIterable iter X.env x = pure x := by intro _; rfl) :
    US X B (.Assign [.Name y py] (.ListComp elt [⟨tg, iter, ifs, 0⟩] scope pos) spos) (vAsg (.one i) (vLcM wi g tt te (own.map (·.2)))) :=
  ⟨PS.weak (ps_setLc hc hN hy hyl hsw hi.pi ok hg (fun s H C cl fp => (ht s H C cl fp).pt) (fun s H C cl fp => (he s H C cl fp).pe) hs) fun D σ H h => by
    obtain ⟨G, ρ, m, E, e0, s, t, k, _⟩ := h
    refine low_lcM hv ⟨G, ρ, m, _, e0, s, t, fun d m1 G1 v H1 q e1 s1 r1 => ?_⟩
    obtain ⟨ρ1, z, q⟩ := q
    exact tg_ok (t := .one i) s1 r1 (s.fr.mono e1.ex) z fun σ' f' _ => k _ m1 G1 σ' H1 q e1 ⟨f', s1⟩⟩
end
end
end DL

namespace DL
open PySem L2
open Evl (Ex)
/-- the frame at a def's entry -/
def fstart : List Str → List D → Frm
  | [], ds => ds.map some
  | _ :: N, d :: ds => some d :: fstart N ds
  | _ :: N, [] => none :: fstart N []
theorem frR_start {K : PySem.W.Frag} {G : Hp} : ∀ (N : List Str) {ds : List D} {vs : List V}, DnAll K G ds vs → FrR K G (fstart N ds) (L2.start N vs)
  | [], ds, vs, h => by
    have e : L2.start [] vs = vs.map some := by unfold L2.start; rw [List.length_nil, Nat.zero_sub, List.replicate_zero, List.append_nil]
    rw [e]
    have : ∀ {ds : List D} {vs : List V}, DnAll K G ds vs → FrR K G (ds.map some) (vs.map some) := by
      intro ds
      induction ds with
      | nil => intro vs h; cases h; exact .nil
      | cons d ds ih => intro vs h; cases h with | cons h1 h2 => exact .yes h1 (ih h2)
    exact this h
  | n :: N, _, _, .nil => by
    have e : L2.start (n :: N) [] = none :: L2.start N [] := rfl
    rw [e]
    exact .no (frR_start N .nil)
  | n :: N, _, _, .cons (v := v) (vs := vs) h1 h2 => by
    have e : L2.start (n :: N) (v :: vs) = some v :: L2.start N vs := by
      unfold L2.start
      rw [List.length_cons, List.length_cons, Nat.succ_sub_succ]
      rfl
    rw [e]
    exact .yes h1 (frR_start N h2)
section
variable {P : Program} {w : World} {K : PySem.W.Frag} {mg : Str → Option Value} {base : Heap}
/-- the context of a def's body that raises nothing -/
abbrev cxN (P : Program) (w : World) (K : PySem.W.Frag) (mg : Str → Option Value) (base : Heap) (N : List Str) (qual : Str) (st : Stmt) (f : Addr) (cdv : Value) (A : Around) (outer : List Env) (s : Shared) (H : Hp) (E : XK) : Cx :=
  (cxOf CX0 P w K mg base N qual (defScope st) f cdv A outer s H E).nox
abbrev cxX (P : Program) (w : World) (K : PySem.W.Frag) (mg : Str → Option Value) (base : Heap) (N : List Str) (qual : Str) (st : Stmt) (f : Addr) (cdv : Value) (A : Around) (outer : List Env) (s : Shared) (H : Hp) (E : XK) : Cx :=
  cxOf (L2N.CX P w) P w K mg base N qual (defScope st) f cdv A outer s H E
theorem ufun {x qual : Str} {st : Stmt} {f : Addr} {fd : FuncData} {N ps : List Str} {k : Nat} {sp : VSp} (F : Fun K x qual st f fd) (S : FnScope N ps (defScope st))
    (hbody : ∀ (cdv : Value) (A : Around) (outer : List Env) (s : Shared) (H : Hp) (E : XK) (B : Bs), Room k (cxN P w K mg base N qual st f cdv A outer s H E).A →
      ∃ t, USs (cxN P w K mg base N qual st f cdv A outer s H E) B (defBody st) t ∧ ∀ ds m Q PX, ds.length = ps.length → sp ds m Q PX → t { nx := fun _ m' => Q .non m', rt := Q } (fstart N ds) m) :
    FnOk P w K mg base CX0 (k + 1) f fd ps (lowSp K ps.length sp) := by
  refine F.ok S (fun vs H Q E h => h.1) (fun cdv A outer s H vs Q E hr h => ?_)
  obtain ⟨hl, G, ds, m, P', PX, s1, r1, h1, k1, W⟩ := h
  obtain ⟨t, ht, hq⟩ := hbody cdv A outer s H E ⟨G, m, H⟩ hr
  refine ⟨_, ht.ps, G, fstart N ds, m, { nx := fun _ m' => P' .non m', rt := P' }, Stp.refl, ⟨frR_start N r1, s1⟩, hq ds m P' PX (r1.length.trans hl) h1, fun ρ' m' G' σ' H' q e s => ?_, fun d m' G' v H' q e s r => ?_, fun ρ' m' G' σ' H' q => q.elim, fun ρ' m' G' σ' H' q => q.elim⟩
  · exact k1 _ _ _ _ _ q e s.ms .non
  · exact k1 _ _ _ _ _ q e s r
theorem ufunX {x qual : Str} {st : Stmt} {f : Addr} {fd : FuncData} {N ps : List Str} {k : Nat} {sp : VSp} (F : Fun K x qual st f fd) (S : FnScope N ps (defScope st))
    (hbody : ∀ (cdv : Value) (A : Around) (outer : List Env) (s : Shared) (H : Hp) (E : XK) (B : Bs) (PX : DX), Room k (cxX P w K mg base N qual st f cdv A outer s H E).A → Wsh K B PX E →
      ∃ t, USs (cxX P w K mg base N qual st f cdv A outer s H E) B (defBody st) t ∧ ∀ ds m Q, ds.length = ps.length → sp ds m Q PX → t { nx := fun _ m' => Q .non m', rt := Q } (fstart N ds) m) :
    FnOk P w K mg base (L2N.CX P w) (k + 1) f fd ps (lowSp K ps.length sp) := by
  obtain ⟨oc, od, kV, doc, pm, an, cdv, ct, osl, rfl, lk, hcd⟩ := F.ex
  refine fn_of lk hcd S (fun vs H Q E h => h.1) (fun A outer s H vs Q E hr h => ?_)
  obtain ⟨hl, G, ds, m, P', PX, s1, r1, h1, k1, W⟩ := h
  obtain ⟨t, ht, hq⟩ := hbody cdv A outer s H E ⟨G, m, H⟩ PX hr W
  refine ⟨_, ht.ps, G, fstart N ds, m, { nx := fun _ m' => P' .non m', rt := P' }, Stp.refl, ⟨frR_start N r1, s1⟩, hq ds m P' (r1.length.trans hl) h1, fun ρ' m' G' σ' H' q e s => ?_, fun d m' G' v H' q e s r => ?_, fun ρ' m' G' σ' H' q => q.elim, fun ρ' m' G' σ' H' q => q.elim⟩
  · exact k1 _ _ _ _ _ q e s.ms .non
  · exact k1 _ _ _ _ _ q e s r
end
theorem u64 {k : Nat} {A : Around} (hr : Room k A) : A.units + 64 < cLine := hr.units
theorem u65 {k : Nat} {A : Around} (hr : Room k A) : A.units + 65 < cLine := by have := hr.un; omega
/-- a law's promise -/
def spLawD : VSp := fun ds m Q _ => ∃ ns : List Int, ds = [.fz (ns.map D.int)] ∧ ns.length ≤ 63 ∧ m = (fun _ => none) ∧ ∀ m', Q (.bl true) m'
theorem law_sp (K : PySem.W.Frag) (H : Hp) (a : Addr) (ns : List Int) (h : ns.length ≤ 63) (hS : SqL K H a (ns.map V.int)) : lowSp K 1 spLawD [.ref a] H (fun v _ => v = .bl true) fun _ _ _ => False := by
  refine ⟨rfl, H, [.fz (ns.map D.int)], fun _ => none, fun d _ => d = .bl true, noX, ⟨Ex.refl H, fun a o h => nomatch h⟩, .cons (.fz hS (DnAll.of_ints ns)) .nil, ⟨ns, rfl, h, rfl, fun _ => rfl⟩, fun d m' G' v H' q e s r => ?_, Wsh.no⟩
  subst q
  cases r
  rfl
theorem walkN {l : PySem.W.OpenLaw} {k : Nat} {q : Program} {loose : List Str} {XP : (Str → Option Value) → Heap → Prop} {YP : World → Heap → Prop} {d : DefRec} {K : Params → PySem.W.Frag} {x : Str} (hn : l.most = some 63) (hdf : d.params.defaults = []) (hr : Room k callerA)
    (hY : ∀ (w : World) (h : Heap), YP w h → (K w.params).In h)
    (F : ∀ (w : World) (mg : Str → Option Value) (fa : Addr) (h : Heap), (K w.params).In h → h.Ns mainGlobals mg → mg d.name = some (.ref fa) →
      ∃ fd : FuncData, (∀ (s : Shared) (u : Value), BindsTo s fd ⟨[u], []⟩ [(x, u)]) ∧ ∀ base : Heap, (K w.params).In base → base.Ns mainGlobals mg → FnOk l.prog w (K w.params) mg base CX0 k fa fd [x] (lowSp (K w.params) 1 spLawD)) :
    PySem.W.WalkO q loose XP YP l.row.toRowW d [] (fun f vs => PySem.call f vs) :=
  L2.walk_of (n := 63) (k := k) (x := x) (CX := fun _ => CX0) (sp := fun w => lowSp (K w.params) 1 spLawD) hn (by decide) hdf hr hY F (fun w H a ns hl _ hS => law_sp _ H a ns hl hS) fun _ _ _ _ _ z => z
end DL

namespace DL
open PySem L2
open Evl (Ex)
theorem bt_len : bootBuiltins "len" = some (.builtin "len") := by decide +kernel
theorem bt_sum : bootBuiltins "sum" = some (.builtin "sum") := by decide +kernel
theorem bt_any : bootBuiltins "any" = some (.builtin "any") := by decide +kernel
theorem bt_all : bootBuiltins "all" = some (.builtin "all") := by decide +kernel
theorem bt_max : bootBuiltins "max" = some (.builtin "max") := by decide +kernel
theorem bt_min : bootBuiltins "min" = some (.builtin "min") := by decide +kernel
theorem bt_sorted : bootBuiltins "sorted" = some (.builtin "sorted") := by decide +kernel
theorem bt_isinstance : bootBuiltins "isinstance" = some (.builtin "isinstance") := by decide +kernel
theorem bt_int : bootBuiltins "int" = some (.type "int") := by decide +kernel
theorem bt_bool : bootBuiltins "bool" = some (.type "bool") := by decide +kernel
theorem bt_str : bootBuiltins "str" = some (.type "str") := by decide +kernel
theorem bt_list : bootBuiltins "list" = some (.type "list") := by decide +kernel
theorem bt_tuple : bootBuiltins "tuple" = some (.type "tuple") := by decide +kernel
theorem bt_dict : bootBuiltins "dict" = some (.type "dict") := by decide +kernel
theorem bt_set : bootBuiltins "set" = some (.type "set") := by decide +kernel
section
variable {X : Cx} {B : Bs} {a b c e o tg iter : Expr} {es : List Expr} {ta tb tc te to : VE} {va : VA} {pos p p2 : Pos} {x y : Str}
theorem pgn (i : Nat) {x : Str} {pos : Pos} (hN : X.N.Nodup) (hi : X.N[i]? = some x := by rfl) (hx : Loc X.env.scope x := by first | exact Or.inl rfl | exact Or.inr rfl)
    (hf : X.fn x = true ∨ X.env.scope.names.lookup x = some .local := by first | exact .inl rfl | exact .inr rfl | assumption) : PG X (.Name x pos) (gName i) := pg_name hN hi hx hf

/-! ### isinstance of built-in types -/
def dty (m : MH) : D → Option String
  | .non => some "NoneType"
  | .bl _ => some "bool"
  | .int _ => some "int"
  | .str _ => some "str"
  | .tup _ => some "tuple"
  | .lst _ => some "list"
  | .fz _ => some "list"
  | .adr a => match m a with
    | some (.lst _) => some "list"
    | some (.dct _) => some "dict"
    | _ => none
  | _ => none
theorem MSt.ty {K : PySem.W.Frag} {G H : Hp} {m : MH} (s : MSt K G m H) {d : D} {v : V} {n : String} (r : Dn K G d v) (h : dty m d = some n) : TyX K H v (.type n) := by
  cases r with
  | non => cases h; exact .base .non
  | bl b => cases h; exact .base (.bl b)
  | int b => cases h; exact .base (.int b)
  | str b => cases h; exact .base (.str b)
  | tup h1 h2 =>
    cases h
    rcases Evl.ex_t s.ex h1 with (h1 | ⟨o, h1⟩) | ⟨o, its, n, h1, h3, _⟩
    · exact .base (.tup h1)
    · exact .fTuple h1
    · exact .kTuple h1 h3
  | lst h1 h2 => cases h; exact .base (.lst (s.ex _ _ h1))
  | fz h1 h2 =>
    cases h
    rcases Evl.ex_l s.ex h1 with (h1 | ⟨o, h1⟩) | ⟨o, its, n, h1, h3, _⟩
    · exact .base (.lst h1)
    · exact .base (.frz h1)
    · exact .kList h1 h3
  | adr a =>
    simp only [dty] at h
    cases q : m a with
    | none => rw [q] at h; cases h
    | some o =>
      rw [q] at h
      obtain ⟨_, ho, h1, h2⟩ := s.mr a _ q
      cases h2 with
      | lst h2 => cases h; exact .base (.lst h1)
      | dct h2 h3 => cases h; exact .base (.dK h1)
      | dkl h2 h3 => cases h
      | ins h2 h3 => cases h
  | ins _ _ _ => cases h
  | set _ => cases h
def vIsi (t : String) (tx : VE) : VE := fun ρ m Q => tx ρ m fun d m1 => ∃ n b, dty m1 d = some n ∧ kitB n t = some b ∧ Q (.bl b) m1
theorem ue_isinst {t : String} (hg : Gl X "isinstance") (hm : X.mg "isinstance" = none) (hb : bootBuiltins "isinstance" = some (.builtin "isinstance")) (hx : UE X B e te) (hg2 : Gl X y) (hm2 : X.mg y = none) (hb2 : bootBuiltins y = some (.type t))
    (hn : y ≠ "__name__" := by decide) (hd : (y == ("__debug__" : Str)) = false := by decide) (he : starEach [e, .Name y p2] X.env = (false, eval e X.env) :: starEach [.Name y p2] X.env := by rfl) (hpl : (backTo pos (starEach [.Name y p2] X.env)).any (·.1) = false := by rfl)
    (hs : starEach [.Name y p2] X.env = (false, eval (.Name y p2) X.env) :: starEach [] X.env := by rfl) : UE X B (.Call (.Name "isinstance" p) [e, .Name y p2] [] pos) (vIsi t te) :=
  ⟨(pe_callB (x := "isinstance") (id := "isinstance") call_isi hg hm hb (pa_cons hx.pe (pa_cons (pe_bltn (v := .ty t) hg2 hm2 hb2 rfl hn hd) pa_nil hs) he) (by decide) (by decide) he hpl).weak fun σ H Q h => by
    obtain ⟨G, ρ, m, P, e0, s, t, k⟩ := h
    refine ⟨G, ρ, m, _, e0, s, t, fun d m1 G1 v1 H1 q1 e1 s1 r1 => ?_⟩
    obtain ⟨n, b, h1, h2, h3⟩ := q1
    exact ⟨_, _, _, _, b, rfl, .ty _, s1.ty r1 h1, kit_ty h2, k _ m1 G1 _ H1 h3 e1 s1 (.bl b)⟩⟩

/-! ### max, min, sorted -/
def bMax2 : VB := fun ds _ Q => match ds with
  | [.int i, .int j] => Q (.int (if j > i then j else i))
  | _ => False
def bMin2 : VB := fun ds _ Q => match ds with
  | [.int i, .int j] => Q (.int (if j < i then j else i))
  | _ => False
theorem ub_max2 (hc : X.calm = true) : UB X (.builtin "max") bMax2 := callw (call_max2 hc) fun vs H Q h => by
  obtain ⟨G, m, ds, P, s, r, t, k⟩ := h
  unfold bMax2 at t
  split at t
  · obtain ⟨v, v', rfl, r, r'⟩ := r.two
    cases r; cases r'
    exact ⟨_, _, rfl, k _ G _ H t Stp.refl s (.int _)⟩
  · exact t.elim
theorem ub_min2 (hc : X.calm = true) : UB X (.builtin "min") bMin2 := callw (call_min2 hc) fun vs H Q h => by
  obtain ⟨G, m, ds, P, s, r, t, k⟩ := h
  unfold bMin2 at t
  split at t
  · obtain ⟨v, v', rfl, r, r'⟩ := r.two
    cases r; cases r'
    exact ⟨_, _, rfl, k _ G _ H t Stp.refl s (.int _)⟩
  · exact t.elim
def maxI : Int → List Int → Int
  | a, [] => a
  | a, x :: xs => maxI (if x > a then x else a) xs
theorem maxI_ge : ∀ (xs : List Int) (a : Int), a ≤ maxI a xs ∧ ∀ x ∈ xs, x ≤ maxI a xs
  | [], a => ⟨Int.le_refl _, fun x h => nomatch h⟩
  | y :: xs, a => by
    obtain ⟨h1, h2⟩ := maxI_ge xs (if y > a then y else a)
    have h3 : a ≤ (if y > a then y else a) ∧ y ≤ (if y > a then y else a) := by split <;> omega
    refine ⟨Int.le_trans h3.1 h1, fun x h => ?_⟩
    rcases List.mem_cons.mp h with e | e
    · subst e; exact Int.le_trans h3.2 h1
    · exact h2 x e
theorem maxI_mem : ∀ (xs : List Int) (a : Int), maxI a xs = a ∨ maxI a xs ∈ xs
  | [], a => .inl rfl
  | y :: xs, a => by
    show maxI (if y > a then y else a) xs = a ∨ maxI (if y > a then y else a) xs ∈ y :: xs
    rcases maxI_mem xs (if y > a then y else a) with h | h
    · rw [h]
      split
      · exact .inr List.mem_cons_self
      · exact .inl rfl
    · exact .inr (List.mem_cons_of_mem _ h)
/-- the greatest of a list of ints that is not empty -/
def bMax : VB := fun ds m Q => match ds with
  | [d] => ∃ (n : Int) (ns : List Int), asL m d = some ((n :: ns).map D.int) ∧ Q (.int (maxI n ns))
  | _ => False
theorem ub_max (hc : X.calm = true) : UB X (.builtin "max") bMax := callw (cr_max hc) fun vs H Q h => by
  obtain ⟨G, m, ds, P, s, r, t, k⟩ := h
  unfold bMax at t
  split at t
  · obtain ⟨n, ns, h1, h2⟩ := t
    obtain ⟨v, rfl, r1⟩ := r.one
    obtain ⟨a, xs, rfl, h3, h4⟩ := s.asL r1 h1
    rw [h4.ints] at h3
    refine ⟨a, n :: ns, rfl, h3, by simp, fun j hj hle => ?_⟩
    obtain ⟨g1, g2⟩ := maxI_ge ns n
    have e : j = maxI n ns := by
      apply Int.le_antisymm
      · rcases List.mem_cons.mp hj with e | e
        · subst e; exact g1
        · exact g2 j e
      · rcases maxI_mem ns n with e | e
        · rw [e]; exact hle n List.mem_cons_self
        · exact hle _ (List.mem_cons_of_mem _ e)
    subst e
    exact k _ G _ H h2 Stp.refl s (.int _)
  · exact t.elim
/-- insertion sort -/
def insI (x : Int) : List Int → List Int
  | [] => [x]
  | y :: ys => if x ≤ y then x :: y :: ys else y :: insI x ys
def sortI : List Int → List Int
  | [] => []
  | x :: xs => insI x (sortI xs)
theorem insI_perm (x : Int) : ∀ ys, (insI x ys).Perm (x :: ys)
  | [] => List.Perm.refl _
  | y :: ys => by
    unfold insI
    split
    · exact List.Perm.refl _
    · exact ((insI_perm x ys).cons y).trans (List.Perm.swap _ _ _)
theorem sortI_perm : ∀ xs, (sortI xs).Perm xs
  | [] => List.Perm.refl _
  | x :: xs => (insI_perm x (sortI xs)).trans ((sortI_perm xs).cons x)
theorem insI_sorted {x : Int} : ∀ {ys : List Int}, ys.Pairwise (· ≤ ·) → (insI x ys).Pairwise (· ≤ ·)
  | [], _ => by simp [insI]
  | y :: ys, h => by
    unfold insI
    split
    · rename_i hxy
      refine List.pairwise_cons.mpr ⟨fun z hz => ?_, h⟩
      rcases List.mem_cons.mp hz with e | e
      · subst e; exact hxy
      · exact Int.le_trans hxy ((List.pairwise_cons.mp h).1 z e)
    · rename_i hxy
      refine List.pairwise_cons.mpr ⟨fun z hz => ?_, insI_sorted (List.pairwise_cons.mp h).2⟩
      have := (insI_perm x ys).mem_iff.mp hz
      rcases List.mem_cons.mp this with e | e
      · subst e; omega
      · exact (List.pairwise_cons.mp h).1 z e
theorem sortI_sorted : ∀ xs, (sortI xs).Pairwise (· ≤ ·)
  | [] => List.Pairwise.nil
  | x :: xs => insI_sorted (sortI_sorted xs)
theorem sorted_unique : ∀ {xs ys : List Int}, xs.Perm ys → xs.Pairwise (· ≤ ·) → ys.Pairwise (· ≤ ·) → xs = ys
  | [], ys, h, _, _ => by rw [List.nil_perm.mp h]
  | x :: xs, [], h, _, _ => absurd (List.perm_nil.mp h) (by simp)
  | x :: xs, y :: ys, h, hx, hy => by
    have h1 := List.pairwise_cons.mp hx
    have h2 := List.pairwise_cons.mp hy
    have e : x = y := by
      have m1 : x ∈ y :: ys := h.mem_iff.mp List.mem_cons_self
      have m2 : y ∈ x :: xs := h.mem_iff.mpr List.mem_cons_self
      rcases List.mem_cons.mp m1 with e | e
      · exact e
      · rcases List.mem_cons.mp m2 with e' | e'
        · exact e'.symm
        · exact Int.le_antisymm (h1.1 y e') (h2.1 x e)
    subst e
    rw [sorted_unique (List.Perm.cons_inv h) h1.2 h2.2]
def bSorted : VB := fun ds m Q => match ds with
  | [d] => ∃ ns : List Int, asL m d = some (ns.map D.int) ∧ Q (.lst ((sortI ns).map D.int))
  | _ => False
theorem ub_sorted : UB X (.builtin "sorted") bSorted := callw cr_sortedI fun vs H Q h => by
  obtain ⟨G, m, ds, P, s, r, t, k⟩ := h
  unfold bSorted at t
  split at t
  · obtain ⟨ns, h1, h2⟩ := t
    obtain ⟨v, rfl, r1⟩ := r.one
    obtain ⟨a, xs, rfl, h3, h4⟩ := s.asL r1 h1
    rw [h4.ints] at h3
    refine ⟨a, ns, rfl, h3, fun ns' p hp hs hn => ?_⟩
    have e : ns' = sortI ns := sorted_unique (hp.trans (sortI_perm ns).symm) hs (sortI_sorted ns)
    subst e
    obtain ⟨e, s'⟩ := s.newG hn (.lst ((sortI ns).map V.int))
    exact k _ _ _ _ h2 e s' (.lst upd_same (DnAll.of_ints _))
  · exact t.elim

/-! ### methods of builtin types -/
/-- by values, the cells may change -/
abbrev VM := D → List D → MH → (D → MH → Prop) → Prop
def lowM (K : PySem.W.Frag) (T : String) (o : VM) : V → List V → Hp → VK → Prop := fun x vs H Q => ∃ G m dx ds P, MSt K G m H ∧ Dn K G dx x ∧ DnAll K G ds vs ∧ o dx ds m P ∧ ∀ d m' G' v H', P d m' → Stp G m H G' m' H' → MSt K G' m' H' → Dn K G' d v → Q v H'
def vBM (T : String) (o : VM) (to : VE) (va : VA) : VE := fun ρ m Q => to ρ m fun d m1 => dty m1 d = some T ∧ va ρ m1 fun ds m2 => o d ds m2 Q
def UM (X : Cx) (id : String) (o : VM) : Prop := ∀ T, MtR X id (lowM X.K T o)
theorem mtw {id : String} {r r' : V → List V → Hp → VK → Prop} (h : MtR X id r) (i : ∀ x vs H Q, r' x vs H Q → r x vs H Q) : MtR X id r' := fun pins s σ H x xs v us Q I rx rs q => h pins s σ H x xs v us Q I rx rs (i _ _ _ _ q)
theorem MSt.tyV {K : PySem.W.Frag} {G H : Hp} {m : MH} (s : MSt K G m H) {d : D} {v : V} {T : String} (r : Dn K G d v) (h : dty m d = some T) (hT : T = "list" ∨ T = "str" ∨ T = "dict") : L2.tyV K T v H := by
  cases r with
  | non => cases h; simp at hT
  | bl b => cases h; simp at hT
  | int b => cases h; simp at hT
  | str b => cases h; exact rfl
  | tup h1 h2 => cases h; simp at hT
  | lst h1 h2 => cases h; exact .inl ⟨rfl, _, .of (s.ex _ _ h1)⟩
  | fz h1 h2 => cases h; exact .inl ⟨rfl, _, Evl.ex_l s.ex h1⟩
  | adr a =>
    simp only [dty] at h
    cases q : m a with
    | none => rw [q] at h; cases h
    | some o =>
      rw [q] at h
      obtain ⟨_, ho, h1, h2⟩ := s.mr a _ q
      cases h2 with
      | lst h2 => cases h; exact .inl ⟨rfl, _, .of h1⟩
      | dct h2 h3 => cases h; exact .inr (.inr (.inl ⟨rfl, .inl ⟨_, h1⟩⟩))
      | dkl h2 h3 => cases h
      | ins h2 h3 => cases h
  | ins _ _ _ => cases h
  | set _ => cases h
theorem low_bm {T : String} {om : VM} {σ : L2.St} {H : Hp} {Q : VK} (hT : T = "list" ∨ T = "str" ∨ T = "dict") (h : lowE X.K B (vBM T om to va) σ H Q) : tBM X.K T (lowM X.K T om) (lowE X.K B to) (lowA X.K B va) σ H Q := by
  obtain ⟨G, ρ, m, P, e0, s, t, k⟩ := h
  refine ⟨G, ρ, m, _, e0, s, t, fun d m1 G1 v1 H1 q1 e1 s1 r1 => ?_⟩
  refine ⟨s1.tyV r1 q1.1 hT, G1, ρ, m1, _, e0.trans e1, ⟨s.fr.mono e1.ex, s1⟩, q1.2, fun ds m2 G2 vs H2 q2 e2 s2 r2 => ?_⟩
  exact ⟨G2, m2, d, ds, P, s2, r1.mono e2.ex, r2, q2, fun d m3 G3 v H3 q3 e3 => k d m3 G3 v H3 q3 ((e1.trans e2).trans e3)⟩
theorem ue_bm {T id : String} {name : Str} {apos : Pos} {om : VM} (pa : PlainAttrs T) (slot : Slot T name id) (hty : typeOf (.builtin id) = pure (.type "method_descriptor")) (hm : UM X id om) (ho : UE X B o to) (ha : UA X B (e :: es) va)
    (hT : T = "list" ∨ T = "str" ∨ T = "dict" := by decide)
    (hbase : attributeBase o name X.env (eval o X.env) = eval o X.env := by rfl)
    (hfew : ((backTo pos (starEach (e :: es) X.env)).all (fun x => !x.1) && (backToKw pos (keywordEach [] X.env)).all (fun x => x.1.isSome)
      && decide ((e :: es).length + ([] : List Keyword).length + (if ([] : List Keyword).isEmpty then 0 else 1) < 30)) = true := by rfl)
    (hline : (apos.endLine == pos.line) = true := by rfl) (hs : starEach (e :: es) X.env = (false, eval e X.env) :: starEach es X.env := by rfl) (hplain : (backTo pos (starEach es X.env)).any (·.1) = false := by rfl) :
    UE X B (.Call (.Attribute o name apos) (e :: es) [] pos) (vBM T om to va) := ⟨(pe_bm pa slot hty (hm T) ho.pe ha.pa hbase hfew hline hs hplain).weak fun _ _ _ h => low_bm hT h⟩
theorem ue_bm0 {T id : String} {name : Str} {apos : Pos} {om : VM} (pa : PlainAttrs T) (slot : Slot T name id) (hty : typeOf (.builtin id) = pure (.type "method_descriptor")) (hm : UM X id om) (ho : UE X B o to)
    (hT : T = "list" ∨ T = "str" ∨ T = "dict" := by decide)
    (hbase : attributeBase o name X.env (eval o X.env) = eval o X.env := by rfl) (hline : (apos.endLine == pos.line) = true := by rfl) : UE X B (.Call (.Attribute o name apos) [] [] pos) (vBM T om to aNil) :=
  ⟨(pe_bm0 pa slot hty (hm T) ho.pe hbase hline).weak fun σ H Q h => by
    obtain ⟨G, ρ, m, P, e0, s, t, k⟩ := h
    refine ⟨G, ρ, m, _, e0, s, t, fun d m1 G1 v1 H1 q1 e1 s1 r1 => ?_⟩
    exact ⟨s1.tyV r1 q1.1 hT, G1, m1, d, [], P, s1, r1, .nil, q1.2, fun d m3 G3 v H3 q3 e3 => k d m3 G3 v H3 q3 (e1.trans e3)⟩⟩
/-- append -/
def oAppend : VM := fun d ds m Q => match d, ds with
  | .adr a, [y] => ∃ es, m a = some (.lst es) ∧ es.length < sizeLine ∧ Q .non (mup m a (.lst (es ++ [y])))
  | _, _ => False
theorem um_append : UM X "list.append" oAppend := fun T => mtw mt_append fun x vs H Q h => by
  obtain ⟨G, m, dx, ds, P, s, rx, r, t, k⟩ := h
  unfold oAppend at t
  split at t
  · obtain ⟨es, h1, h2, h3⟩ := t
    obtain ⟨v, rfl, r1⟩ := r.one
    cases rx
    obtain ⟨_, ho, h4, h5⟩ := s.mr _ _ h1
    cases h5 with
    | lst h5 =>
      rename_i xs
      obtain ⟨e, s'⟩ := s.write h1 (o := .lst (es ++ [_])) (ho := .lst (xs ++ [v])) (.lst (h5.append (.cons r1 .nil)))
      exact ⟨_, xs, v, rfl, rfl, h4, by rw [← h5.length]; exact h2, k _ _ _ _ _ h3 e s' .non⟩
  · exact t.elim
/-- extend by a list -/
def oExtend : VM := fun d ds m Q => match d, ds with
  | .adr a, [y] => ∃ es zs, m a = some (.lst es) ∧ asT m y = some zs ∧ es.length + zs.length ≤ sizeLine ∧ Q .non (mup m a (.lst (es ++ zs)))
  | _, _ => False
theorem um_extend : UM X "list.extend" oExtend := fun T => mtw mt_extend fun x vs H Q h => by
  obtain ⟨G, m, dx, ds, P, s, rx, r, t, k⟩ := h
  unfold oExtend at t
  split at t
  · obtain ⟨es, zs, h1, h6, h2, h3⟩ := t
    obtain ⟨v, rfl, r1⟩ := r.one
    cases rx
    obtain ⟨_, ho, h4, h5⟩ := s.mr _ _ h1
    obtain ⟨b, ys, rfl, h7, h8⟩ := s.asT r1 h6
    cases h5 with
    | lst h5 =>
      rename_i xs
      obtain ⟨e, s'⟩ := s.write h1 (o := .lst (es ++ zs)) (ho := .lst (xs ++ ys)) (.lst (h5.append h8))
      exact ⟨_, b, xs, ys, rfl, rfl, h4, h7, by rw [← h5.length, ← h8.length]; exact h2, k _ _ _ _ _ h3 e s' .non⟩
  · exact t.elim
/-- pop() -/
def oPop : VM := fun d ds m Q => match d, ds with
  | .adr a, [] => ∃ es y, m a = some (.lst es) ∧ es[es.length - 1]? = some y ∧ Q y (mup m a (.lst es.dropLast))
  | _, _ => False
theorem um_pop : UM X "list.pop" oPop := fun T => mtw mt_pop fun x vs H Q h => by
  obtain ⟨G, m, dx, ds, P, s, rx, r, t, k⟩ := h
  unfold oPop at t
  split at t
  · obtain ⟨es, y, h1, h2, h3⟩ := t
    cases r
    cases rx
    obtain ⟨_, ho, h4, h5⟩ := s.mr _ _ h1
    cases h5 with
    | lst h5 =>
      rename_i xs
      obtain ⟨v, h6, h7⟩ := h5.get h2
      obtain ⟨e, s'⟩ := s.write h1 (o := .lst es.dropLast) (ho := .lst xs.dropLast) (.lst h5.dropLast)
      exact ⟨_, xs, v, rfl, rfl, h4, by rw [← h5.length]; exact h6, k _ _ _ _ _ h3 e s' h7⟩
  · exact t.elim
/-- sep.join(list of texts) -/
def oJoin : VM := fun d ds m Q => match d, ds with
  | .str a, [y] => ∃ ys : List Str, asL m y = some (ys.map D.str) ∧ (ys.map Str.length).sum + ys.length * a.length ≤ 16777216 ∧ Q (.str (Txt.join a ys)) m
  | _, _ => False
theorem um_join : UM X "str.join" oJoin := fun T => mtw mt_join fun x vs H Q h => by
  obtain ⟨G, m, dx, ds, P, s, rx, r, t, k⟩ := h
  unfold oJoin at t
  split at t
  · obtain ⟨ys, h1, h2, h3⟩ := t
    obtain ⟨v, rfl, r1⟩ := r.one
    cases rx
    obtain ⟨p, xs, rfl, h4, h5⟩ := s.asL r1 h1
    rw [h5.strs] at h4
    exact ⟨_, p, ys, rfl, rfl, .inl h4, h2, k _ m G _ H h3 Stp.refl s (.str _)⟩
  · exact t.elim
end
end DL

namespace DL
open PySem L2
open Evl (Ex)

/-! ### a constant of the module -/
theorem ue_gint {x : Str} {i : Int} {pos : Pos} (h : ∃ t, X.mg x = some (.int i t)) (hg : Gl X x) (hdb : (x == ("__debug__" : Str)) = false := by decide) : UE X B (.Name x pos) (vC (.int i)) := by
  obtain ⟨t, h⟩ := h
  exact ue_glob (v := .int i) (d := .int i) hg h ⟨t, rfl⟩ (fun _ => .int _) hdb

/-- an invariant, kept closed -/
inductive Iv (p : Prop) : Prop
  | mk : p → Iv p
  | no : False → Iv p
theorem Iv.out {p : Prop} : Iv p → p
  | .mk h => h
  | .no h => h.elim
/-! ### joins: a value or a test that comes to one answer whatever way; a cut ahead of what follows -/
def vJn (t : VT) : VT := fun ρ m Q => ∃ c, Iv (t ρ m (fun b m1 => b = c ∧ m1 = m)) ∧ Q c m
theorem ut_join {t : VT} (h : UT X B e t) : UT X B e (vJn t) := ⟨h.pt.weak fun σ H Q h => by
  obtain ⟨G, ρ, m, P, e0, s, ⟨c, t, q⟩, k⟩ := h
  refine ⟨G, ρ, m, _, e0, s, t.out, fun b m' G' H' p e1 s1 => ?_⟩
  obtain ⟨rfl, rfl⟩ := p
  exact k _ _ _ _ q e1 s1⟩
def vJnE (t : VE) : VE := fun ρ m Q => ∃ c, Iv (t ρ m (fun b m1 => b = c ∧ m1 = m)) ∧ Q c m
theorem ue_join {t : VE} (h : UE X B e t) : UE X B e (vJnE t) := ⟨h.pe.weak fun σ H Q h => by
  obtain ⟨G, ρ, m, P, e0, s, ⟨c, t, q⟩, k⟩ := h
  refine ⟨G, ρ, m, _, e0, s, t.out, fun b m' G' v H' p e1 s1 r1 => ?_⟩
  obtain ⟨rfl, rfl⟩ := p
  exact k _ _ _ _ _ q e1 s1 r1⟩
def vCut (t u : VS) : VS := fun E ρ m => ∃ N : Frm → MH → Prop, Iv (t { E with nx := N } ρ m) ∧ ∀ ρ m, N ρ m → u E ρ m
theorem uss_cut {t u : VS} {st : Stmt} {rest : List Stmt} (h1 : US X B st t) (h2 : USs X B rest u) : USs X B (st :: rest) (vCut t u) := ⟨PSs.weak (pss_cons h1.ps h2.ps) fun D σ H h => by
  obtain ⟨G, ρ, m, E, e0, s, ⟨N, t, q⟩, k, kr, kb, kc⟩ := h
  refine ⟨G, ρ, m, { E with nx := N }, e0, s, t.out, fun ρ' m' G' σ' H' q1 e1 s1 => ?_, kr, kb, kc⟩
  exact ⟨G', ρ', m', E, e0.trans e1, s1, q _ _ q1, fun ρ2 m2 G2 σ2 H2 q2 e2 => k ρ2 m2 G2 σ2 H2 q2 (e1.trans e2), fun d m2 G2 v H2 q2 e2 => kr d m2 G2 v H2 q2 (e1.trans e2), fun ρ2 m2 G2 σ2 H2 q2 e2 => kb ρ2 m2 G2 σ2 H2 q2 (e1.trans e2), fun ρ2 m2 G2 σ2 H2 q2 e2 => kc ρ2 m2 G2 σ2 H2 q2 (e1.trans e2)⟩⟩
/-! ### readings of comprehensions and walks, by a list of what is walked -/
/-- [f x for x in xs if p x] -/
theorem lc_sel0 {α : Type} {g : Tg} {tt : VT} {te : VE} {vs : List Nat} {ρ : Frm} {m : MH} {F : List D → Prop} (enc : α → D) (p : α → Bool) (f : α → D) : ∀ (xs : List α) (acc : List D), acc.length + xs.length ≤ sizeLine →
    (∀ x ∈ xs, ∀ acc (R : List D → Prop), acc.length < sizeLine → (p x = true → R (acc ++ [f x])) → (p x = false → R acc) →
      ∃ ρ1, tgSet g (enc x) (fwipe ρ vs) = some ρ1 ∧ tt ρ1 m fun b m2 => m2 = m ∧ (b = true → te ρ1 m fun y m3 => m3 = m ∧ acc.length < sizeLine ∧ R (acc ++ [y])) ∧ (b = false → R acc)) →
    F (acc ++ (xs.filter p).map f) → lcW g tt te vs ρ m F (xs.map enc) acc
  | [], acc, _, _, hF => by
    rw [List.filter_nil, List.map_nil, List.append_nil] at hF
    exact hF
  | x :: xs, acc, hn, step, hF => by
    rw [List.length_cons] at hn
    obtain ⟨ρ1, e, q⟩ := step x (List.mem_cons_self ..) acc (lcW g tt te vs ρ m F (xs.map enc)) (by omega)
      (fun hp => lc_sel0 enc p f xs (acc ++ [f x]) (by rw [List.length_append]; simp only [List.length_cons, List.length_nil]; omega) (fun y hy => step y (List.mem_cons_of_mem _ hy)) (by
        rw [List.filter_cons_of_pos hp, List.map_cons] at hF
        rw [List.append_assoc]
        exact hF))
      (fun hp => lc_sel0 enc p f xs acc (by omega) (fun y hy => step y (List.mem_cons_of_mem _ hy)) (by
        rw [List.filter_cons_of_neg (by rw [hp]; exact Bool.false_ne_true)] at hF
        exact hF))
    exact ⟨ρ1, e, q⟩
theorem lc_sel {α : Type} {g : Tg} {tt : VT} {te : VE} {vs : List Nat} {ρ : Frm} {m : MH} {F : List D → Prop} (enc : α → D) (p : α → Bool) (f : α → D) (xs : List α) (acc : List D) (hn : acc.length + xs.length ≤ sizeLine)
    (step : ∀ x ∈ xs, ∀ acc (R : List D → Prop), acc.length < sizeLine → (p x = true → R (acc ++ [f x])) → (p x = false → R acc) →
      ∃ ρ1, tgSet g (enc x) (fwipe ρ vs) = some ρ1 ∧ tt ρ1 m fun b m2 => m2 = m ∧ (b = true → te ρ1 m fun y m3 => m3 = m ∧ acc.length < sizeLine ∧ R (acc ++ [y])) ∧ (b = false → R acc))
    (hF : F (acc ++ (xs.filter p).map f)) : Wn (lcW g tt te vs ρ m F (xs.map enc) acc) := .mk (lc_sel0 enc p f xs acc hn step hF)
/-- [f x for x in xs] -/
theorem lc_all {α : Type} {g : Tg} {tt : VT} {te : VE} {vs : List Nat} {ρ : Frm} {m : MH} {F : List D → Prop} (enc : α → D) (f : α → D) (xs : List α) (hn : xs.length ≤ sizeLine)
    (step : ∀ x ∈ xs, ∀ acc (R : List D → Prop), acc.length < sizeLine → R (acc ++ [f x]) →
      ∃ ρ1, tgSet g (enc x) (fwipe ρ vs) = some ρ1 ∧ tt ρ1 m fun b m2 => m2 = m ∧ (b = true → te ρ1 m fun y m3 => m3 = m ∧ acc.length < sizeLine ∧ R (acc ++ [y])) ∧ (b = false → R acc))
    (hF : F (xs.map f)) : Wn (lcW g tt te vs ρ m F (xs.map enc) []) :=
  lc_sel enc (fun _ => true) f xs [] (by simpa using hn) (fun x hx acc R hl h1 _ => step x hx acc R hl (h1 rfl)) (by rw [List.nil_append, List.filter_eq_self.mpr fun _ _ => rfl]; exact hF)
theorem for_ix {stay : MH → Prop} {g : Tg} {tb : VS} {E : VEnds} (I : Nat → Frm → MH → Prop) (ds : List D) {ρ : Frm} {m : MH} (h0 : I 0 ρ m) (hst : ∀ i ρ m, I i ρ m → stay m)
    (step : ∀ i x ρ m, ds[i]? = some x → I i ρ m → ∃ ρ1, tgSet g x ρ = some ρ1 ∧ tb { E with nx := fun ρ m => Iv (I (i + 1) ρ m), ct := fun ρ m => Iv (I (i + 1) ρ m), bk := E.nx } ρ1 m)
    (done : ∀ ρ m, I ds.length ρ m → E.nx ρ m) : Wn (forW stay g tb E ds ρ m) := .mk <|
  for_inv (fun i ρ m => Iv (I i ρ m)) ds 0 (.mk h0) (fun i ρ m h => hst i ρ m h.out)
    (fun i x ρ m hx h => by
      have := step i x ρ m hx (by rw [Nat.zero_add] at h; exact h.out)
      simp only [Nat.zero_add]
      exact this)
    (fun ρ m h => done ρ m (by rw [Nat.zero_add] at h; exact h.out))
/-- for x in xs, by what was walked -/
theorem for_pre {α : Type} {stay : MH → Prop} {g : Tg} {tb : VS} {E : VEnds} (enc : α → D) (I : List α → Frm → MH → Prop) (xs : List α) {ρ : Frm} {m : MH} (h0 : I [] ρ m)
    (hst : ∀ pre ρ m, I pre ρ m → stay m)
    (step : ∀ pre x post ρ m, xs = pre ++ x :: post → I pre ρ m → ∃ ρ1, tgSet g (enc x) ρ = some ρ1 ∧ tb { E with nx := fun ρ m => Iv (I (pre ++ [x]) ρ m), ct := fun ρ m => Iv (I (pre ++ [x]) ρ m), bk := E.nx } ρ1 m)
    (done : ∀ ρ m, I xs ρ m → E.nx ρ m) : Wn (forW stay g tb E (xs.map enc) ρ m) := by
  refine for_ix (fun i ρ m => I (xs.take i) ρ m) (xs.map enc) h0 (fun i ρ m h => hst _ _ _ h) ?_ ?_
  · intro i d ρ m hd hI
    rw [List.getElem?_map] at hd
    cases e : xs[i]? with
    | none => rw [e] at hd; cases hd
    | some x =>
      rw [e] at hd
      cases hd
      have e2 : xs[i]'((List.getElem?_eq_some_iff.mp e).1) = x := (List.getElem?_eq_some_iff.mp e).2
      have e3 : xs.take (i + 1) = xs.take i ++ [x] := by rw [List.take_add_one, e]; rfl
      have := step (xs.take i) x (xs.drop (i + 1)) ρ m (by rw [← e2]; simp) hI
      rw [e3]
      exact this
  · intro ρ m hI
    rw [List.length_map, List.take_length] at hI
    exact done ρ m hI
theorem irng0 (n : Nat) : irng 0 n = (List.range n).map fun i : Nat => D.int (i : Int) := by
  unfold irng
  refine List.map_congr_left fun i _ => ?_
  rw [Int.zero_add]
/-- [d] * k -/
def oRep : VO := fun x y m Q => match y with
  | .int k => ∃ xs, asT m x = some xs ∧ (-(2 ^ 63) ≤ k ∧ k < 2 ^ 63) ∧ xs.length * k.toNat ≤ sizeLine ∧ Q (.lst (List.replicate k.toNat xs).flatten)
  | _ => False
theorem DnAll.rep {K : PySem.W.Frag} {G : Hp} {ds : List D} {vs : List V} (h : DnAll K G ds vs) : ∀ n : Nat, DnAll K G (List.replicate n ds).flatten (List.replicate n vs).flatten
  | 0 => .nil
  | n + 1 => by
    rw [List.replicate_succ, List.replicate_succ, List.flatten_cons, List.flatten_cons]
    exact h.append (DnAll.rep h n)
theorem uo_rep : UO X (binaryOp .Mult) oRep := opw op_rep fun x y H Q h => by
  obtain ⟨G, m, dx, dy, P, s, hx, hy, t, k⟩ := h
  cases hy with
  | int i =>
    obtain ⟨xs, h1, h2, h3, h4⟩ := t
    obtain ⟨a, us, rfl, ha, ra⟩ := s.asT hx h1
    refine ⟨a, i, us, rfl, rfl, ha, h2.1, h2.2, by rw [← ra.length]; exact h3, fun p hp => ?_⟩
    obtain ⟨e, s'⟩ := s.newG hp (.lst (List.replicate i.toNat us).flatten)
    exact k _ _ _ _ h4 e s' (.lst upd_same ((ra.rep _).mono e.ex))
  | _ => exact t.elim
theorem rep_one {n : Nat} {d : D} : (List.replicate n [d]).flatten = List.replicate n d := by
  induction n with
  | zero => rfl
  | succ n ih => rw [List.replicate_succ, List.flatten_cons, ih]; rfl
/-! ### data of which much is made -/
theorem oIn_asL {neg : Bool} {x y : D} {m : MH} {Q : D → Prop} {ds : List D} (h : asL m y = some ds) (hx : x.fit = true) (hd : (D.lst ds).fit = true) (q : Q (.bl (nb neg (din x ds)))) : oInG neg x y m Q := .lst h hx hd rfl q
/-- every member of a list fits -/
theorem fit_of (n : Nat) (hn : n < 64) : ∀ ds : List D, (∀ d ∈ ds, d.dat = true ∧ d.dep ≤ n) → (D.lst ds).fit = true := by
  have h : ∀ ds : List D, (∀ d ∈ ds, d.dat = true ∧ d.dep ≤ n) → D.dats ds = true ∧ D.deps ds ≤ n := by
    intro ds
    induction ds with
    | nil => intro _; exact ⟨by simp [D.dats], by simp [D.deps]⟩
    | cons d ds ih =>
      intro h
      obtain ⟨i1, i2⟩ := ih fun x hx => h x (List.mem_cons_of_mem _ hx)
      obtain ⟨j1, j2⟩ := h d (List.mem_cons_self ..)
      simp only [D.dats, D.deps, j1, i1, Bool.and_self, true_and]
      omega
  intro ds h2
  obtain ⟨i1, i2⟩ := h ds h2
  unfold D.fit
  rw [Bool.and_eq_true]
  exact ⟨by simpa [D.dat] using i1, decide_eq_true (by simp only [D.dep]; omega)⟩
theorem fit_ints (ms : List Int) : (D.lst (ms.map D.int)).fit = true := fit_of 0 (by decide) _ fun d hd => by
  obtain ⟨i, _, rfl⟩ := List.mem_map.mp hd
  exact ⟨by simp [D.dat], by simp [D.dep]⟩
theorem fit_int (i : Int) : (D.int i).fit = true := by simp [D.fit, D.dat, D.dep]
theorem din_int {k : Int} : ∀ {ms : List Int}, din (.int k) (ms.map D.int) = decide (k ∈ ms)
  | [] => rfl
  | m :: ms => by
    have ih := din_int (k := k) (ms := ms)
    unfold din at ih ⊢
    rw [List.map_cons, List.any_cons, ih]
    have : deq (.int m) (.int k) = decide (m = k) := by
      rw [Bool.eq_iff_iff, deq_iff _ _ rfl rfl]
      simp
    rw [this]
    by_cases h : m = k
    · subst h; simp
    · have h2 : ¬ k = m := fun e => h e.symm
      simp [h, h2]
/-- k in a list of ints -/
theorem oIn_int {neg : Bool} {k : Int} {y : D} {m : MH} {Q : D → Prop} {ms : List Int} (h : asL m y = some (ms.map D.int)) (q : Q (.bl (nb neg (decide (k ∈ ms))))) : oInG neg (.int k) y m Q :=
  oIn_asL h (fit_int k) (fit_ints ms) (by rw [din_int]; exact q)
/-- xs[i] of a list that is mapped -/
theorem atI_map {α : Type} {f : α → D} {xs : List α} {i : Int} {x : α} (h0 : 0 ≤ i) (h : xs[i.toNat]? = some x) : atI (xs.map f) i = some (f x) := by
  obtain ⟨n, rfl⟩ := Int.eq_ofNat_of_zero_le h0
  refine atI_nat (v := f x) ?_
  rw [List.getElem?_map]
  have h : xs[n]? = some x := h
  rw [h]
  rfl
theorem atI_ints {xs : List Int} {i : Nat} (h : i < xs.length) : atI (xs.map D.int) (i : Int) = some (.int (xs.getD i 0)) := by
  refine atI_map (x := xs.getD i 0) (by omega) ?_
  show xs[i]? = _
  rw [List.getD_eq_getElem?_getD, List.getElem?_eq_getElem h]
  rfl
theorem szl {n : Nat} (h : n < 16777216) : n < sizeLine := h
theorem dty_lst {m : MH} {a : Addr} {ds : List D} (h : m a = some (.lst ds)) : dty m (.adr a) = some "list" := by simp only [dty, h]
theorem asL_same {m : MH} {a : Addr} {ds : List D} : asL (mup m a (.lst ds)) (.adr a) = some ds := asL_adr mup_same
theorem asL_cases {m : MH} {d : D} {ds : List D} (h : asL m d = some ds) : d = .lst ds ∨ d = .fz ds ∨ ∃ p, d = .adr p ∧ m p = some (.lst ds) := by
  cases d with
  | lst _ => cases h; exact .inl rfl
  | fz _ => cases h; exact .inr (.inl rfl)
  | adr p =>
    refine .inr (.inr ⟨p, rfl, ?_⟩)
    simp only [asL, asT] at h
    cases q : m p with
    | none => rw [q] at h; cases h
    | some o =>
      rw [q] at h
      cases o with
      | lst _ => cases h; rfl
      | dct _ => cases h
      | dkl _ _ _ => cases h
      | ins _ _ _ => cases h
  | _ => cases h
end DL

namespace DL
open PySem L2
open Evl (Ex)

/-! ### cells that nobody needs any more -/
/-- m2 is a part of m1 -/
def Gc (m1 m2 : MH) : Prop := ∀ a o, m2 a = some o → m1 a = some o
theorem Gc.refl (m : MH) : Gc m m := fun _ _ h => h
theorem Gc.up {m1 m2 : MH} {p : Addr} {o : MO} (h : m2 p = none) (g : Gc m1 m2) : Gc (mup m1 p o) m2 := fun a u e => by
  have hp : a ≠ p := fun z => by subst z; rw [h] at e; cases e
  rw [mup_ne hp]
  exact g a u e
theorem Gc.both {m1 m2 : MH} {p : Addr} {o : MO} (g : Gc m1 m2) : Gc (mup m1 p o) (mup m2 p o) := fun a u e => by
  by_cases z : a = p
  · subst z
    rw [mup_same] at e ⊢
    exact e
  · rw [mup_ne z] at e ⊢
    exact g a u e
theorem asL_up {m : MH} {p : Addr} {o : MO} {d : D} {ds : List D} (h : asL m d = some ds) (hp : m p = none) : asL (mup m p o) d = some ds := by
  rcases asL_cases h with rfl | rfl | ⟨q, rfl, hq⟩
  · rfl
  · rfl
  · have hne : q ≠ p := fun z => by subst z; rw [hp] at hq; cases hq
    exact asL_adr (by rw [mup_ne hne]; exact hq)
theorem fresh_up {m : MH} {p q : Addr} {o u : MO} (h : mup m q o p = none) : mup m q u p = none := by
  have hp : p ≠ q := fun z => by subst z; rw [mup_same] at h; cases h
  rw [mup_ne hp] at h ⊢
  exact h
theorem fresh_dn {m : MH} {p q : Addr} {o : MO} (h : mup m q o p = none) : m p = none := by
  have hp : p ≠ q := fun z => by subst z; rw [mup_same] at h; cases h
  rw [mup_ne hp] at h
  exact h
theorem fresh_ne {m : MH} {p q : Addr} {o : MO} (h : mup m q o p = none) : p ≠ q := fun z => by subst z; rw [mup_same] at h; cases h
theorem MSt.gc {K : PySem.W.Frag} {G H : Hp} {m1 m2 : MH} (s : MSt K G m1 H) (g : Gc m1 m2) : MSt K G m2 H := ⟨s.ex, fun b u q => s.mr b u (g b u q)⟩
theorem Stp.gc {G H G1 H1 : Hp} {m m1 m2 : MH} (e : Stp G m H G1 m1 H1) (g : Gc m1 m2) : Stp G m H G1 m2 H1 := ⟨e.ex, fun a o h n => by
  obtain ⟨h1, h2, h3⟩ := e.keep a o h n
  refine ⟨h1, ?_, h3⟩
  cases z : m2 a with
  | none => rfl
  | some u => rw [g a u z] at h2; cases h2⟩
section
variable {X : Cx} {B : Bs}
structure GcR (m1 m2 : MH) : Prop where
  g : Gc m1 m2
def vGc (t : VE) : VE := fun ρ m Q => t ρ m fun d m1 => ∃ m2, Q d m2 ∧ GcR m1 m2
theorem ue_gc {e : Expr} {t : VE} (h : UE X B e t) : UE X B e (vGc t) := ⟨h.pe.weak fun σ H Q h => by
  obtain ⟨G, ρ, m, P, e0, s, t, k⟩ := h
  refine ⟨G, ρ, m, _, e0, s, t, fun d m' G' v H' p e1 s1 r1 => ?_⟩
  obtain ⟨m2, q, ⟨g⟩⟩ := p
  exact k d m2 G' v H' q (e1.gc g) (s1.gc g) r1⟩
def vGcS (t : VS) : VS := fun E ρ m => t { E with nx := fun ρ' m1 => ∃ m2, E.nx ρ' m2 ∧ Gc m1 m2, ct := fun ρ' m1 => ∃ m2, E.ct ρ' m2 ∧ Gc m1 m2 } ρ m
theorem uss_gc {sts : List Stmt} {t : VS} (h : USs X B sts t) : USs X B sts (vGcS t) := ⟨PSs.weak h.ps fun D σ H h => by
  obtain ⟨G, ρ, m, E, e0, s, t, k, kr, kb, kc⟩ := h
  refine ⟨G, ρ, m, _, e0, s, t, fun ρ' m' G' σ' H' q e1 s1 => ?_, kr, kb, fun ρ' m' G' σ' H' q e1 s1 => ?_⟩
  · obtain ⟨m2, q, g⟩ := q
    exact k ρ' m2 G' σ' H' q (e1.gc g) ⟨s1.fr, s1.ms.gc g⟩
  · obtain ⟨m2, q, g⟩ := q
    exact kc ρ' m2 G' σ' H' q (e1.gc g) ⟨s1.fr, s1.ms.gc g⟩⟩
/-- .. what is kept is told by hand -/
def vGcM (t : VE) : VE := fun ρ m Q => t ρ m fun d m1 => ∃ m2, Q d m2 ∧ Gc m1 m2
theorem ue_gcM {e : Expr} {t : VE} (h : UE X B e t) : UE X B e (vGcM t) := ⟨h.pe.weak fun σ H Q h => by
  obtain ⟨G, ρ, m, P, e0, s, t, k⟩ := h
  refine ⟨G, ρ, m, _, e0, s, t, fun d m' G' v H' p e1 s1 r1 => ?_⟩
  obtain ⟨m2, q, g⟩ := p
  exact k d m2 G' v H' q (e1.gc g) (s1.gc g) r1⟩
def vGcT (t : VS) : VS := fun E ρ m => t { E with nx := fun ρ' m1 => ∃ m2, E.nx ρ' m2 ∧ GcR m1 m2 } ρ m
theorem uss_gcR {sts : List Stmt} {t : VS} (h : USs X B sts t) : USs X B sts (vGcT t) := ⟨PSs.weak h.ps fun D σ H h => by
  obtain ⟨G, ρ, m, E, e0, s, t, k, kr, kb, kc⟩ := h
  refine ⟨G, ρ, m, _, e0, s, t, fun ρ' m' G' σ' H' q e1 s1 => ?_, kr, kb, kc⟩
  obtain ⟨m2, q, ⟨g⟩⟩ := q
  exact k ρ' m2 G' σ' H' q (e1.gc g) ⟨s1.fr, s1.ms.gc g⟩⟩
end
/-- a promise that nobody asks -/
theorem fn_false {P : Program} {w : World} {K : PySem.W.Frag} {mg : Str → Option Value} {base : Heap} {CX : CXT} {k n : Nat} {f : Addr} {fd : FuncData} {ps : List Str} {sp : VSp} (h : ∀ ds m Q PX, ¬ sp ds m Q PX) : FnOk P w K mg base CX k f fd ps (lowSp K n sp) :=
  ⟨fun vs H Q E z => by
    obtain ⟨_, G, ds, m, P', PX, _, _, q, _⟩ := z
    exact (h _ _ _ _ q).elim, fun A outer s H args us vs Q E _ _ _ _ z => by
    obtain ⟨_, G, ds, m, P', PX, _, _, q, _⟩ := z
    exact (h _ _ _ _ q).elim⟩
end DL

namespace DL
open PySem PySem.Spec PyProof.Rows L2
open Evl (Ex)

/-! ### {e for x in xs if t}, e an int: a set that grows -/
/-- the reading of a set that grows at D -/
def tSi (w : World) (wi : TI) (g : TG) (tt : TT) (te : TE) (vs : List Nat) : TE := fun σ H Q => wi σ H fun J H1 => ∀ D, H1 D = none →
  ∃ Y : Nat → Nat → Hp → Prop, (∃ m, Y 0 m (upd H1 D (SetO w D (fun _ => false) 0))) ∧ ∀ i m H2, Y i m H2 → (J.stop i H2 ∧ Q (.ref D) H2) ∨
    (J.go i H2 ∧ ∃ N : Hp → Prop, (∀ H3, N H3 → ∃ k, k < m ∧ Y (i + 1) k H3) ∧ ∀ x H3, J.yld i H2 x H3 → g x (wipe σ vs) H3 fun τ H4 => wipe τ vs = wipe σ vs ∧ tt τ H4 fun b H5 =>
      if b = true then te τ H5 fun y H6 => ∃ (c : Int) (S : Int → Bool) (n : Nat), y = .int c ∧ H6 D = some (SetO w D S n) ∧ n + 1 < scanBound ∧ N (upd H6 D (SetO w D (fun j => S j || decide (j = c)) (if S c = true then n else n + 1))) else N H5)
theorem seto_add {X : Cx} {pins : List (Addr × Obj)} {σ : L2.St} {H : Hp} {s : Shared} {E : Value → Shared → Prop} {D : Addr} {S : Int → Bool} {n : Nat} {y : Int} {tk : Tok} {Q : Value → Shared → Prop} (J : Inv X pins σ H s) (hd : H D = some (SetO X.w D S n)) (hr : n + 1 < scanBound)
    (q : ∀ t, Inv X pins σ (upd H D (SetO X.w D (fun j => S j || decide (j = y)) (if S y = true then n else n + 1))) t → Q .none t) : wpAny (model X.prog X.w) X.A (call (.builtin "set.add") [.ref D, .int y tk]) Q E s :=
  setR_add (setO_get J hd) hr fun h1 but now => q _ (J.write (e := D) (t' := s.toks + 1) (by rw [hd]; trivial) (.inl rfl) (fun c v hc hv => (but.2 c hc).trans hv) (by obtain ⟨v, _, _, _, hv, _⟩ := now; exact ⟨v, hv⟩) (setO_new now))
theorem pe_si {X : Cx} {elt tg iter : Expr} {ifs : List Expr} {scope : Scope} {own : List (PySem.Str × Nat)} {pos : Pos} {wi : TI} {g : TG} {tt : TT} {te : TE} (calm : X.calm = true) (nd : X.N.Nodup) (pi : PI X tg iter wi) (blk : BlkOk X.N X.env.scope scope own)
    (pg : ∀ s H C cl fp, PG (Blk X scope s H C cl fp) tg g) (pt : ∀ s H C cl fp, PTs (Blk X scope s H C cl fp) ifs tt) (pe : ∀ s H C cl fp, PE (Blk X scope s H C cl fp) elt te)
    (unf : ∀ x, foldedSetIterable iter X.env x = pure x := by intro _; rfl) : PE X (.SetComp elt [⟨tg, iter, ifs, 0⟩] scope pos) (tSi X.w wi g tt te (own.map (·.2))) := by
  refine ⟨fun pins s σ H Q J h => ?_⟩
  rw [PpSet.eval_SetComp]
  have cells : ∀ y ∈ scope.names, y.2 = .free → ∃ c, X.env.cells.lookup y.1 = some c := fun y hy e => J.ok.has _ (blk.free y hy e)
  refine wpAny_comprehension_free (use := _) rfl unf (closure_ok cells) blk.kind (fun y hy e => by rw [blk.uniq y hy, e]) (thn (pi.run pins s σ H _ J h) fun v0 t1 h1 => thn h1 fun v1 t2 h2 => ?_)
  obtain ⟨it, fp, tn, T, H2, rfl, J2, wk, a2, f2, q⟩ := h2
  refine PpSet.newSet_ok (newEnv_comp ?_)
  obtain ⟨D, eD⟩ : ∃ D, D = t2.heap.objs.size := ⟨_, rfl⟩
  rw [← eD]
  have fresh : H2 D = none := J2.hok.fresh (Nat.le_of_eq eD.symm)
  obtain ⟨Y, ⟨m0, y0⟩, turn⟩ := q D fresh
  obtain ⟨t3, e3⟩ : ∃ t3 : Shared, t3 = { t2 with heap := t2.heap.push { cls := .type "set", dict := none, data := .set #[] 0 (.fresh 0 0 (!X.w.params.followText "set-order")) } } := ⟨_, rfl⟩
  rw [← e3]
  have p3 : t3.heap = t2.heap.push { cls := .type "set", dict := none, data := .set #[] 0 (.fresh 0 0 (!X.w.params.followText "set-order")) } := by rw [e3]
  have keep3 : ∀ b o, t2.heap.get? b = some o → t3.heap.get? b = some o := fun b o e => by rw [p3]; exact Heap.get?_push_of_some _ e
  have J3 : Inv X pins σ (upd H2 D (SetO X.w D (fun _ => false) 0)) t3 := by
    rw [e3]
    exact J2.laid (t' := t2.toks) (fun b o e => Heap.get?_push_of_some _ e) (Nat.le_of_eq eD.symm) (by rw [eD]; exact setO_new (setR_fresh X.w))
  have low : ∀ b ∈ fp, b < t2.heap.objs.size := fun b hb => by
    obtain ⟨o, e, _⟩ := wk.obj _ _ a2 b hb
    exact Heap.lt_size e
  obtain ⟨H3, eH⟩ : ∃ H3, H3 = upd H2 D (SetO X.w D (fun _ => false) 0) := ⟨_, rfl⟩
  rw [← eH] at J3 y0
  have f3 : ∀ b ∈ fp, FpOk X pins H3 b ∧ b < t3.heap.objs.size := fun b hb => by
    have lt := low b hb
    exact ⟨⟨by rw [eH, upd_ne (by rw [eD]; exact Nat.ne_of_lt lt)]; exact (f2 b hb).1, (f2 b hb).2⟩, by rw [p3, Heap.size_push]; exact Nat.lt_succ_of_lt lt⟩
  have a3 : tn 0 t3.heap := wk.keep _ _ _ a2 fun b _ o e => keep3 b o e
  obtain ⟨ce, ec⟩ : ∃ ce, ce = compEnvC scope (cellsFrom (t3.heap.objs.size + 1) scope.names (cloFrom X.env.cells scope.names [])) t3.heap.objs.size X.env := ⟨_, rfl⟩
  have J4 := block_start J3 blk nd f3
  have pg := pg t3 H3 t3.heap.objs.size (cellsFrom (t3.heap.objs.size + 1) scope.names (cloFrom X.env.cells scope.names [])) fp
  have pt := pt t3 H3 t3.heap.objs.size (cellsFrom (t3.heap.objs.size + 1) scope.names (cloFrom X.env.cells scope.names [])) fp
  have pe := pe t3 H3 t3.heap.objs.size (cellsFrom (t3.heap.objs.size + 1) scope.names (cloFrom X.env.cells scope.names [])) fp
  show codeAny _ _ (.compStart (.SetComp elt [⟨tg, iter, ifs, 0⟩] scope pos) 0 (.ref it) (.ref D) (compEnvC scope (cellsFrom (t3.heap.objs.size + 1) scope.names (cloFrom X.env.cells scope.names [])) t3.heap.objs.size X.env)) _ { t3 with heap := pushCells (t3.heap.push { cls := .type "dict", data := .dict #[] }) scope.names }
  unfold Blk at pg pt pe
  rw [← ec] at J4 pg pt pe ⊢
  have loc : ce.locals = t3.heap.objs.size := by rw [ec]; rfl
  obtain ⟨t4, e4⟩ : ∃ t4 : Shared, t4 = { t3 with heap := pushCells (t3.heap.push { cls := .type "dict", data := .dict #[] }) scope.names } := ⟨_, rfl⟩
  rw [← e4] at J4 ⊢
  have a4 : tn 0 t4.heap := wk.keep _ _ _ a3 fun b _ o e => by rw [e4]; exact pushCells_keeps _ _ _ _ (Heap.get?_push_of_some _ e)
  have foot : ∀ {τ : L2.St} {H' : Hp} {u : Shared}, Inv (X.blk t3 H3 scope ce fp) [] τ H' u → (∀ b ∈ fp, H' b = none) → ∀ b ∈ fp, FpOk (X.blk t3 H3 scope ce fp) [] H' b := fun {τ H' u} K hn b hb =>
    ⟨hn b hb, (K.ok.exf b hb).1, K.ok.exfs b hb, .inl hb, fun x c e => (K.ok.exf b hb).2 x c e, fun p hp => absurd hp (by simp [Cx.blk])⟩
  refine PpSet.codeAny_compStart_set ?loop (wk.self X.A 0 _ _ _ a4 ?loop)
  refine PpSet.compLoopS_any (fun n u => ∃ i H', Inv (X.blk t3 H3 scope ce fp) [] (wipe σ (own.map (·.2))) H' u ∧ tn i u.heap ∧ (∀ b ∈ fp, H' b = none) ∧ Y i n H') ?_ m0 ⟨0, H3, J4, a4, fun b hb => (f3 b hb).1.1, y0⟩
  rintro n t5 ⟨i, H5, J5, a5, n5, y5⟩
  rcases turn i n H5 y5 with ⟨stop, qq⟩ | ⟨go, N, hN, step⟩
  · refine thnF (wk.done (X.blk t3 H3 scope ce fp) rfl rfl rfl calm i [] t5 _ H5 (fun _ _ => False) J5 (foot J5 n5) a5 stop) fun r t6 ⟨hr, J6⟩ => ?_
    subst hr
    have J7 : Inv X pins σ H5 t6 := J3.call' (ch := fp) J6.os J6.base J6.hok J6.bare fun b hb => by
      obtain ⟨_, z1, _, z2, z3, z4⟩ := (f3 b hb).1
      exact ⟨z2, z1, z3, z4⟩
    have free : H5 t3.heap.objs.size = none := by rw [← loc]; exact J6.free
    obtain ⟨mm, hn, _⟩ := J6.loc
    replace hn : t6.heap.Ns ce.locals mm := hn
    rw [loc] at hn
    obtain ⟨k0, k1, k2, k3, k4, k5⟩ := J3.fpOk (Nat.le_refl _) free
    exact ⟨mm, hn, fun hh but => ⟨.ref D, H5, J7.turned (t' := t6.toks) (fun b o hb e => (but.2 b hb).trans e) k0 k1 k3 k4 k5, rfl, qq⟩⟩
  · refine thnF (wk.item (X.blk t3 H3 scope ce fp) rfl rfl rfl calm i [] t5 _ H5 (fun _ _ => False) J5 (foot J5 n5) a5 go) fun r t6 ⟨u, hr, h6⟩ => ?_
    subst hr
    refine thnF h6 fun _ t7 ⟨x, H7, J7, r7, y7, a7, n7⟩ => ?_
    have J7p := J7.pinned (foot J7 n7) (wk.obj _ _ a7)
    refine thnF (pg.run _ t7 _ H7 x u _ J7p r7 (step x H7 y7)) fun _ t8 ⟨τ, H8, J8, w8, q8⟩ => thnF (pt.run _ t8 τ H8 _ J8 q8) fun b t9 ⟨H9, J9, q9⟩ => ?_
    have done : ∀ {u' : Shared} {H' : Hp}, Inv (X.blk t3 H3 scope ce fp) ([] ++ pinsAt fp t7.heap) τ H' u' → N H' → ∃ m, m < n ∧ ∃ i H', Inv (X.blk t3 H3 scope ce fp) [] (wipe σ (own.map (·.2))) H' u' ∧ tn i u'.heap ∧ (∀ b ∈ fp, H' b = none) ∧ Y i m H' := fun {u' H'} K nx => by
      obtain ⟨m', hm, y'⟩ := hN H' nx
      have pinned : ∀ b ∈ fp, ∀ o, t7.heap.get? b = some o → u'.heap.get? b = some o ∧ H' b = none := fun b hb o e => by
        obtain ⟨z1, z2, _⟩ := K.pin (b, o) (List.mem_append_right _ (List.mem_append_right _ (mem_pinsAt hb e)))
        exact ⟨z1, z2⟩
      refine ⟨m', hm, i + 1, H', (K.unpinned (pins := [])).weak (by rw [← w8, wipe_length]) (fun j v e => by rw [← w8] at e; exact (wipe_some e).1), wk.keep _ _ _ a7 fun b hb o e => (pinned b hb o e).1, fun b hb => ?_, y'⟩
      obtain ⟨o, e, _⟩ := wk.obj _ _ a7 b hb
      exact (pinned b hb o e).2
    cases b with
    | false =>
      rw [if_neg Bool.false_ne_true] at q9 ⊢
      exact done J9 q9
    | true =>
      rw [if_pos rfl] at q9 ⊢
      refine thnF (pe.run _ t9 τ H9 _ J9 q9) fun z t10 ⟨yv, H10, J10, r10, c, S0, n0, ey, hD10, room, nx⟩ => ?_
      subst ey
      obtain ⟨tk, rfl⟩ : ∃ tk, z = Value.int c tk := r10
      exact seto_add (X := X.blk t3 H3 scope ce fp) J10 hD10 room fun t11 J11 => done J11 nx

/-! ### sorted({e for x in xs if t}) -/
def dedI : List Int → List Int
  | [] => []
  | x :: xs => if x ∈ xs then dedI xs else x :: dedI xs
theorem dedI_mem {k : Int} : ∀ {xs : List Int}, k ∈ dedI xs ↔ k ∈ xs
  | [] => Iff.rfl
  | x :: xs => by
    unfold dedI
    split
    · rename_i h
      rw [dedI_mem, List.mem_cons]
      exact ⟨.inr, fun z => z.elim (fun e => e ▸ h) id⟩
    · rw [List.mem_cons, List.mem_cons, dedI_mem]
theorem dedI_nodup : ∀ xs : List Int, (dedI xs).Nodup
  | [] => List.nodup_nil
  | x :: xs => by
    unfold dedI
    split
    · exact dedI_nodup xs
    · rename_i h
      exact List.nodup_cons.mpr ⟨fun z => h (dedI_mem.mp z), dedI_nodup xs⟩
/-- the members, each once, ascending -/
def ascI (xs : List Int) : List Int := sortI (dedI xs)
theorem ascI_mem {k : Int} {xs : List Int} : k ∈ ascI xs ↔ k ∈ xs := (sortI_perm _).mem_iff.trans dedI_mem
theorem ascI_lt (xs : List Int) : (ascI xs).Pairwise (· < ·) := by
  have h1 := sortI_sorted (dedI xs)
  have h2 : (sortI (dedI xs)).Nodup := (sortI_perm _).nodup_iff.mpr (dedI_nodup xs)
  exact (h1.and h2).imp fun ⟨a, b⟩ => by omega
theorem asc_unique : ∀ {xs ys : List Int}, xs.Pairwise (· < ·) → ys.Pairwise (· < ·) → (∀ k, k ∈ xs ↔ k ∈ ys) → xs = ys
  | [], [], _, _, _ => rfl
  | [], y :: ys, _, _, h => absurd ((h y).mpr List.mem_cons_self) (by simp)
  | x :: xs, [], _, _, h => absurd ((h x).mp List.mem_cons_self) (by simp)
  | x :: xs, y :: ys, hx, hy, h => by
    obtain ⟨x1, x2⟩ := List.pairwise_cons.mp hx
    obtain ⟨y1, y2⟩ := List.pairwise_cons.mp hy
    have e : x = y := by
      rcases List.mem_cons.mp ((h x).mp List.mem_cons_self) with e | e
      · exact e
      · rcases List.mem_cons.mp ((h y).mpr List.mem_cons_self) with e' | e'
        · exact e'.symm
        · have := y1 x e
          have := x1 y e'
          omega
    subst e
    rw [asc_unique x2 y2 fun k => ?_]
    have := h k
    rw [List.mem_cons, List.mem_cons] at this
    constructor
    · intro z
      rcases this.mp (.inr z) with e | e
      · exact absurd (x1 k z) (by omega)
      · exact e
    · intro z
      rcases this.mpr (.inr z) with e | e
      · exact absurd (y1 k z) (by omega)
      · exact e
/-- the ints that come, one after the other -/
def scW (g : Tg) (tt : VT) (te : VE) (vs : List Nat) (ρ : Frm) (m : MH) (F : List Int → Prop) : List D → List Int → Prop
  | [], acc => F acc
  | x :: xs, acc => ∃ ρ1, tgSet g x (fwipe ρ vs) = some ρ1 ∧ tt ρ1 m fun b m2 => m2 = m ∧ (b = true → te ρ1 m fun y m3 => m3 = m ∧ ∃ k, y = .int k ∧ scW g tt te vs ρ m F xs (acc ++ [k])) ∧ (b = false → scW g tt te vs ρ m F xs acc)
def vSo (wi : VI) (g : Tg) (tt : VT) (te : VE) (vs : List Nat) : VE := fun ρ m Q => wi ρ m fun ds stay m1 => ds.length ≤ 4000 ∧ Wn (scW g tt te vs ρ m1 (fun acc => (ascI acc).length < 64 ∧ Q (.lst ((ascI acc).map D.int)) m1) ds [])
/-- what a set of these ints is -/
structure SetIs (w : World) (H : Hp) (L : Addr) (acc : List Int) (S : Int → Bool) (n : Nat) : Prop where
  at' : H L = some (SetO w L S n)
  mem : ∀ k, S k = true ↔ k ∈ acc
  len : n = (dedI acc.reverse).length
theorem setIs_add {w : World} {H : Hp} {L : Addr} {acc : List Int} {S : Int → Bool} {n : Nat} (h : SetIs w H L acc S n) (c : Int) (H' : Hp) :
    SetIs w (upd H' L (SetO w L (fun j => S j || decide (j = c)) (if S c = true then n else n + 1))) L (acc ++ [c]) (fun j => S j || decide (j = c)) (if S c = true then n else n + 1) := by
  refine ⟨upd_same, fun k => ?_, ?_⟩
  · simp [h.mem k]
  · rw [List.reverse_append, List.reverse_singleton, List.singleton_append, dedI, h.len]
    by_cases e : S c = true
    · rw [if_pos e, if_pos (List.mem_reverse.mpr ((h.mem c).mp e))]
    · rw [if_neg e, if_neg fun z => e ((h.mem c).mpr (List.mem_reverse.mp z))]
      rfl
theorem ascI_rev (xs : List Int) : ascI xs.reverse = ascI xs := asc_unique (ascI_lt _) (ascI_lt _) fun k => by rw [ascI_mem, ascI_mem, List.mem_reverse]
theorem ascI_len (xs : List Int) : (ascI xs).length = (dedI xs).length := (sortI_perm _).length_eq
theorem low_so {X : Cx} {B : Bs} {wi : VI} {g : Tg} {tt : VT} {te : VE} {vs : List Nat} {σ : L2.St} {H : Hp} {Q : VK} (hv : ∀ i ∈ g.slots, i ∈ vs) (h : lowE X.K B (vSo wi g tt te vs) σ H Q) :
    tSi X.w (lowI X.K B wi) (tgTG X.K g) (lowT X.K B tt) (lowE X.K B te) vs σ H (fun v H2 => rSortedSet X.w [v] H2 Q) := by
  obtain ⟨G, ρ, m, P, e0, s, q, k⟩ := h
  refine ⟨G, ρ, m, _, e0, s, q, fun ds stay m1 G1 H1 J q1 e1 s1 w hst => ?_⟩
  obtain ⟨hsz, q1⟩ := q1
  intro L hL
  have hLn := s1.free hL
  let Inv2 : Hp → Hp → Prop := fun G2 H2 => Ex G1 G2 ∧ G2 L = none ∧ (∀ a o, H1 a = some o → m1 a = none → H2 a = some o ∧ (G1 a = none → G2 a = none)) ∧ MSt X.K G2 m1 H2
  have step : ∀ {G2 H2 G3 H3}, Inv2 G2 H2 → H2 L ≠ none → Stp G2 m1 H2 G3 m1 H3 → MSt X.K G3 m1 H3 → Inv2 G3 H3 := fun {G2 H2 G3 H3} i hl e s3 => by
    obtain ⟨i1, i2, i3, i4⟩ := i
    refine ⟨i1.trans e.ex, ?_, fun a o h n => ?_, s3⟩
    · cases z : H2 L with
      | none => exact absurd z hl
      | some o => exact (e.keep L o z hLn.2).2.2 i2
    · obtain ⟨h1, h2⟩ := i3 a o h n
      obtain ⟨h3, _, h4⟩ := e.keep a o h1 n
      exact ⟨h3, fun z => h4 (h2 z)⟩
  have app : ∀ {G2 H2} (o : HO), Inv2 G2 H2 → Inv2 G2 (upd H2 L o) := fun {G2 H2} o i => by
    obtain ⟨i1, i2, i3, i4⟩ := i
    refine ⟨i1, i2, fun a u h n => ?_, ⟨fun b u q => ?_, fun b u q => ?_⟩⟩
    · have hb : a ≠ L := fun z => by subst z; rw [hL] at h; cases h
      rw [upd_ne hb]; exact i3 a u h n
    · have hb : b ≠ L := fun z => by subst z; rw [i2] at q; cases q
      rw [upd_ne hb]; exact i4.ex b u q
    · have hb : b ≠ L := fun z => by subst z; rw [hLn.2] at q; cases q
      obtain ⟨h1, ho, h2, h3⟩ := i4.mr b u q
      exact ⟨h1, ho, by rw [upd_ne hb]; exact h2, h3⟩
  refine ⟨fun i n H2 => n = ds.length - i ∧ i ≤ ds.length ∧ ∃ G2 acc S c, Inv2 G2 H2 ∧ SetIs X.w H2 L acc S c ∧ acc.length ≤ i ∧ scW g tt te vs ρ m1 (fun acc => (ascI acc).length < 64 ∧ P (.lst ((ascI acc).map D.int)) m1) (ds.drop i) acc,
    ⟨ds.length, by simp, Nat.zero_le _, G1, [], _, _, app _ ⟨Ex.refl G1, hLn.1, fun a o h n => ⟨h, fun z => z⟩, s1⟩, ⟨upd_same, by simp, rfl⟩, Nat.le_refl _, q1.out⟩, ?_⟩
  rintro i n H2 ⟨rfl, hi, G2, acc, S, c, i2, st, hal, q2⟩
  by_cases hlt : i < ds.length
  · refine .inr ⟨w.go i G2 m1 H2 i2.1 i2.2.2.2 hst hlt, fun H' => i + 1 ≤ ds.length ∧ ∃ G2 acc S c, Inv2 G2 H' ∧ SetIs X.w H' L acc S c ∧ acc.length ≤ i + 1 ∧ scW g tt te vs ρ m1 (fun acc => (ascI acc).length < 64 ∧ P (.lst ((ascI acc).map D.int)) m1) (ds.drop (i + 1)) acc,
      fun H' p' => ⟨ds.length - (i + 1), by omega, rfl, p'⟩, fun x H3 y => ?_⟩
    obtain ⟨G3, d, e3, s3, h3, r3⟩ := w.yld i G2 m1 H2 x H3 i2.1 i2.2.2.2 hst hlt y
    have hd : ds.drop i = d :: ds.drop (i + 1) := by
      rw [List.drop_eq_getElem_cons hlt]
      rw [List.getElem?_eq_getElem hlt] at h3
      rw [Option.some.inj h3]
    rw [hd] at q2
    unfold scW at q2
    have i3 := step i2 (by rw [st.at']; exact fun z => nomatch z) e3 s3
    have hL3 := (e3.keep L _ st.at' hLn.2).1
    obtain ⟨ρ3, z, q2⟩ := q2
    have f0 : FrR X.K G3 ρ σ := s.fr.mono (e1.ex.trans i3.1)
    refine tg_ok s3 r3 (f0.wipe vs) z fun σ3 f3 w3 => ?_
    refine ⟨(w3 vs hv).trans (by
        have gen : ∀ (l : List Nat) (τ : L2.St) (a : Nat), a ∈ l → (wipe τ l).set a none = wipe τ l := fun l τ a => by
          induction l with
          | nil => intro h; cases h
          | cons b r2 ih2 =>
            intro h
            unfold wipe
            by_cases e : a = b
            · subst e; rw [List.set_set]
            · rcases List.mem_cons.mp h with z | z
              · exact absurd z e
              · rw [List.set_comm _ _ (Ne.symm e), ih2 z]
        have this : ∀ l : List Nat, (∀ i ∈ l, i ∈ vs) → wipe (wipe σ vs) l = wipe σ vs := fun l => by
          induction l with
          | nil => intro _; rfl
          | cons a r ih =>
            intro hl
            show (wipe (wipe σ vs) r).set a none = wipe σ vs
            rw [ih fun j hj => hl j (List.mem_cons_of_mem _ hj)]
            exact gen vs σ a (hl a List.mem_cons_self)
        exact this vs fun _ h => h), ?_⟩
    have eB : B.to G3 m1 H3 := ⟨e0.ex.trans (e1.ex.trans i3.1), fun a o h n => by
      obtain ⟨h1, n1, g1⟩ := (e0.trans e1).keep a o h n
      obtain ⟨h2, g2⟩ := i3.2.2.1 a o h1 n1
      exact ⟨h2, n1, fun z => g2 (g1 z)⟩⟩
    refine ⟨G3, ρ3, m1, _, eB, ⟨f3, s3⟩, q2, fun b m4 G4 H4 q4 e4 s4 => ?_⟩
    obtain ⟨rfl, q4, q5⟩ := q4
    have i4 := step i3 (by rw [hL3]; exact fun z => nomatch z) e4 s4
    have hL4 := (e4.keep L _ hL3 hLn.2).1
    cases b with
    | false => exact ⟨hlt, G4, acc, S, c, i4, ⟨hL4, st.mem, st.len⟩, by omega, q5 rfl⟩
    | true =>
      refine ⟨G4, ρ3, _, _, eB.trans e4, ⟨f3.mono e4.ex, s4⟩, q4 rfl, fun y m5 G5 v5 H5 q6 e5 s5 r5 => ?_⟩
      obtain ⟨rfl, kk, rfl, q7⟩ := q6
      cases r5
      have i5 := step i4 (by rw [hL4]; exact fun z => nomatch z) e5 s5
      have hL5 := (e5.keep L _ hL4 hLn.2).1
      have hded : (dedI acc.reverse).length ≤ acc.length := by
        have gl : ∀ l : List Int, (dedI l).length ≤ l.length := fun l => by
          induction l with
          | nil => exact Nat.le_refl _
          | cons a r ih =>
            unfold dedI
            split
            · exact Nat.le_succ_of_le ih
            · exact Nat.succ_le_succ ih
        simpa using gl acc.reverse
      exact ⟨kk, S, c, rfl, hL5, by have := st.len; unfold scanBound; omega, hlt, G5, acc ++ [kk], _, _, app _ i5, setIs_add ⟨hL5, st.mem, st.len⟩ kk _, by rw [List.length_append, List.length_singleton]; omega, q7⟩
  · have hi' : ds.length ≤ i := by omega
    rw [List.drop_eq_nil_of_le hi'] at q2
    obtain ⟨h64, q2⟩ := q2
    obtain ⟨j1, j2, j3, j4⟩ := i2
    refine .inl ⟨w.stop i G2 m1 H2 j1 j4 hst hi', L, S, c, rfl, st.at', by rw [st.len, ← ascI_len, ascI_rev]; exact h64, fun ns p asc mem len hp => ?_⟩
    have en : ns = ascI acc := asc_unique asc (ascI_lt _) fun k => by rw [mem k, st.mem k, ascI_mem]
    subst en
    obtain ⟨e5, s5⟩ := j4.newG hp (.lst ((ascI acc).map V.int))
    refine k _ m1 _ (.ref p) _ q2 ⟨(e1.ex.trans j1).trans e5.ex, fun a o h n => ?_⟩ s5 (.lst upd_same (DnAll.of_ints _))
    obtain ⟨h1, n1, g1⟩ := e1.keep a o h n
    obtain ⟨h2, g2⟩ := j3 a o h1 n1
    obtain ⟨h3, _, g3⟩ := e5.keep a o h2 n1
    exact ⟨h3, n1, fun z => g3 (g2 (g1 z))⟩
theorem ue_so {X : Cx} {B : Bs} {elt tg iter : Expr} {ifs : List Expr} {scope : Scope} {own : List (PySem.Str × Nat)} {wi : VI} {g : Tg} {tt : VT} {te : VE} {p p2 pos : Pos} (hc : X.calm = true) (hN : X.N.Nodup) (hgl : Gl X "sorted") (hm : X.mg "sorted" = none) (hi : UI X B tg iter wi) (ok : BlkOk X.N X.env.scope scope own)
    (hg : ∀ s H C cl fp, PG (Blk X scope s H C cl fp) tg (tgTG X.K g)) (ht : ∀ s H C cl fp, UTs (Blk X scope s H C cl fp) B ifs tt) (he : ∀ s H C cl fp, UE (Blk X scope s H C cl fp) B elt te)
    (hv : ∀ i ∈ g.slots, i ∈ own.map (·.2)) (hs : ∀ x, foldedSetIterable iter X.env x = pure x := by intro _; rfl)
    (hst : starEach [.SetComp elt [⟨tg, iter, ifs, 0⟩] scope p2] X.env = (false, eval (.SetComp elt [⟨tg, iter, ifs, 0⟩] scope p2) X.env) :: starEach [] X.env := by rfl) (hpl : (backTo pos (starEach [] X.env)).any (·.1) = false := by rfl) :
    UE X B (.Call (.Name "sorted" p) [.SetComp elt [⟨tg, iter, ifs, 0⟩] scope p2] [] pos) (vSo wi g tt te (own.map (·.2))) :=
  ⟨(pe_callB (cr_sortedSet hc) hgl hm bt_sorted (pa_cons (pe_si hc hN hi.pi ok hg (fun s H C cl fp => (ht s H C cl fp).pt) (fun s H C cl fp => (he s H C cl fp).pe) hs) pa_nil hst) (by decide) (by decide) hst hpl).weak fun σ H Q h => low_so hv h⟩
/-- {f x for x in xs if p x}, sorted -/
theorem sc_sel0 {α : Type} {g : Tg} {tt : VT} {te : VE} {vs : List Nat} {ρ : Frm} {m : MH} {F : List Int → Prop} (enc : α → D) (p : α → Bool) (f : α → Int) : ∀ (xs : List α) (acc : List Int),
    (∀ x ∈ xs, ∀ acc (R : List Int → Prop), (p x = true → R (acc ++ [f x])) → (p x = false → R acc) →
      ∃ ρ1, tgSet g (enc x) (fwipe ρ vs) = some ρ1 ∧ tt ρ1 m fun b m2 => m2 = m ∧ (b = true → te ρ1 m fun y m3 => m3 = m ∧ ∃ k, y = .int k ∧ R (acc ++ [k])) ∧ (b = false → R acc)) →
    F (acc ++ (xs.filter p).map f) → scW g tt te vs ρ m F (xs.map enc) acc
  | [], acc, _, hF => by
    rw [List.filter_nil, List.map_nil, List.append_nil] at hF
    exact hF
  | x :: xs, acc, step, hF => by
    obtain ⟨ρ1, e, q⟩ := step x (List.mem_cons_self ..) acc (scW g tt te vs ρ m F (xs.map enc))
      (fun hp => sc_sel0 enc p f xs (acc ++ [f x]) (fun y hy => step y (List.mem_cons_of_mem _ hy)) (by
        rw [List.filter_cons_of_pos hp, List.map_cons] at hF
        rw [List.append_assoc]
        exact hF))
      (fun hp => sc_sel0 enc p f xs acc (fun y hy => step y (List.mem_cons_of_mem _ hy)) (by
        rw [List.filter_cons_of_neg (by rw [hp]; exact Bool.false_ne_true)] at hF
        exact hF))
    exact ⟨ρ1, e, q⟩
theorem sc_sel {α : Type} {g : Tg} {tt : VT} {te : VE} {vs : List Nat} {ρ : Frm} {m : MH} {F : List Int → Prop} (enc : α → D) (p : α → Bool) (f : α → Int) (xs : List α)
    (step : ∀ x ∈ xs, ∀ acc (R : List Int → Prop), (p x = true → R (acc ++ [f x])) → (p x = false → R acc) →
      ∃ ρ1, tgSet g (enc x) (fwipe ρ vs) = some ρ1 ∧ tt ρ1 m fun b m2 => m2 = m ∧ (b = true → te ρ1 m fun y m3 => m3 = m ∧ ∃ k, y = .int k ∧ R (acc ++ [k])) ∧ (b = false → R acc))
    (hF : F ((xs.filter p).map f)) : Wn (scW g tt te vs ρ m F (xs.map enc) []) := .mk (sc_sel0 enc p f xs [] step (by rw [List.nil_append]; exact hF))
end DL

namespace DL
open PySem L2
open Evl (Ex)
/-! ### range(a, b, -1) -/
def irngD (lo : Int) (n : Nat) : List D := (List.range n).map fun i : Nat => D.int (lo - (i : Int))
theorem irngD_len (lo : Int) (n : Nat) : (irngD lo n).length = n := by simp [irngD]
theorem irngD_at {lo : Int} {n i : Nat} (h : i < n) : (irngD lo n)[i]? = some (.int (lo - (i : Int))) := by simp [irngD, h]
theorem wk_rangeD {K : PySem.W.Frag} {G1 : Hp} {lo : Int} {n : Nat} : Wk K (Itc lo (-1) n) G1 (irngD lo n) (fun _ => True) := by
  refine ⟨fun i G m H e s _ hi => ?_, fun i G m H e s _ hi => ?_, fun i G m H x H' e s _ hi y => ?_⟩
  · rw [irngD_len] at hi; exact hi
  · rw [irngD_len] at hi; exact hi
  · rw [irngD_len] at hi
    obtain ⟨rfl, rfl⟩ := y
    refine ⟨G, _, Stp.refl, s, irngD_at hi, ?_⟩
    rw [show lo + (i : Int) * -1 = lo - (i : Int) by omega]
    exact .int _
def iR3 (va : VA) : VI := fun ρ m Q => va ρ m fun ds m1 => match ds with
  | [.int i, .int j, .int k] => (k = -1) ∧ Rg i ∧ Rg j ∧ Q (irngD i (i - j).toNat) (fun _ => True) m1
  | _ => False
theorem DnAll.three {K : PySem.W.Frag} {G : Hp} {d d' d'' : D} {vs : List V} (h : DnAll K G [d, d', d''] vs) : ∃ v v' v'', vs = [v, v', v''] ∧ Dn K G d v ∧ Dn K G d' v' ∧ Dn K G d'' v'' := by
  cases h with
  | cons h1 h2 =>
    obtain ⟨v, v', rfl, h3, h4⟩ := h2.two
    exact ⟨_, _, _, rfl, h1, h3, h4⟩
theorem ui_range3 {X : Cx} {B : Bs} {a b c tg : Expr} {va : VA} {p pos : Pos} (hg : Gl X "range") (hm : X.mg "range" = none) (ha : UA X B [a, b, c] va)
    (hs : starEach [a, b, c] X.env = (false, eval a X.env) :: starEach [b, c] X.env := by rfl) (hpl : (backTo pos (starEach [b, c] X.env)).any (·.1) = false := by rfl) : UI X B tg (.Call (.Name "range" p) [a, b, c] [] pos) (iR3 va) :=
  ⟨(pi_range3 hg hm ha.pa (hs := hs) (hpl := hpl)).weak fun σ H R h => by
    obtain ⟨G, ρ, m, P, e0, s, t, k⟩ := h
    refine ⟨G, ρ, m, _, e0, s, t, fun ds m1 G1 vs H1 q1 e1 s1 r1 => ?_⟩
    split at q1
    · obtain ⟨v, v', v'', rfl, r, r', r''⟩ := r1.three
      cases r
      cases r'
      cases r''
      obtain ⟨rfl, h1, h2, q1⟩ := q1
      exact ⟨_, _, _, _, rfl, RgC.neg h1.lo h1.hi h2.lo h2.hi, k _ _ m1 G1 H1 _ q1 e1 s1 wk_rangeD trivial⟩
    · exact q1.elim⟩
/-! ### xs[i] = e -/
def vSetL (to ti te : VE) : VS := fun E ρ m => te ρ m fun y m1 => to ρ m1 fun d m2 => ti ρ m2 fun i m3 => match d, i with
  | .adr a, .int k => ∃ ds, m3 a = some (.lst ds) ∧ ∃ j, ixN ds.length k = some j ∧ E.nx ρ (mup m3 a (.lst (ds.set j y)))
  | _, _ => False
theorem us_setL {X : Cx} {B : Bs} {o i e : Expr} {to ti te : VE} {pos pos' : Pos} (ho : UE X B o to) (hi : UE X B i ti) (he : UE X B e te) (hs : swapsWithSole [.Subscript o i pos'] e pos.line X.env = pure false := by rfl) (hw : swappedStores [.Subscript o i pos'] e X.env = pure none := by rfl)
    (h1 : (assignEach [.Subscript o i pos'] X.env).map (·.2) = [assign (.Subscript o i pos') X.env] := by rfl)
    (hsub : ∀ v, assign (.Subscript o i pos') X.env v = (do
      let ov ← holding [v] (eval o X.env)
      let iv ← holding [v, ov] (eval i X.env)
      standAt pos'
      holding [v, ov, iv] (setItem ov iv v)
      release [v, ov, iv] []) := by intro _; rfl) : US X B (.Assign [.Subscript o i pos'] e pos) (vSetL to ti te) :=
  ⟨PS.weak (ps_asg he.pe (pg_sub ho.pe hi.pe set_list hsub) hs hw h1) fun D σ H h => by
    obtain ⟨G, ρ, m, E, e0, s, t, k, _⟩ := h
    refine ⟨G, ρ, m, _, e0, s, t, fun y m1 G1 v H1 q1 e1 s1 r1 => ?_⟩
    refine ⟨G1, ρ, m1, _, e0.trans e1, ⟨s.fr.mono e1.ex, s1⟩, q1, fun d m2 G2 v2 H2 q2 e2 s2 r2 => ?_⟩
    refine ⟨G2, ρ, m2, _, (e0.trans e1).trans e2, ⟨s.fr.mono (e1.trans e2).ex, s2⟩, q2, fun i m3 G3 v3 H3 q3 e3 s3 r3 => ?_⟩
    split at q3
    · cases r3
      cases r2
      obtain ⟨ds, h2, j, h3, q⟩ := q3
      obtain ⟨_, ho, h4, h5⟩ := s3.mr _ _ h2
      cases h5 with
      | lst h5 =>
        rename_i xs
        obtain ⟨e4, s4⟩ := s3.write h2 (o := .lst (ds.set j y)) (ho := .lst (xs.set j v)) (.lst (h5.set (r1.mono (e2.trans e3).ex) j))
        exact ⟨_, xs, _, j, rfl, rfl, h4, by rw [← h5.length]; exact h3, k ρ _ _ σ _ q (((e1.trans e2).trans e3).trans e4) ⟨s.fr.mono (((e1.trans e2).trans e3).trans e4).ex, s4⟩⟩
    · exact q3.elim⟩
theorem ixN_nat {n i : Nat} (h : i < n) : ixN n (i : Int) = some i := by
  unfold ixN
  rw [if_pos (Int.natCast_nonneg i), if_pos (Int.ofNat_lt.mpr h)]
  rfl
theorem ixN_int {n : Nat} {i : Int} (h0 : 0 ≤ i) (h : i < n) : ixN n i = some i.toNat := by
  unfold ixN
  rw [if_pos h0, if_pos h]
/-! ### list(xs), to be changed -/
inductive ListG (m : MH) (Q : List D → Prop) : List D → Prop
  | tup {es : List D} (q : Q es) : ListG m Q [.tup es]
  | lst {d : D} {es : List D} (e : asL m d = some es) (q : Q es) : ListG m Q [d]
def vListM (va : VA) : VE := fun ρ m Q => va ρ m fun ds m1 => ListG m1 (fun es => ∀ p, m1 p = none → Q (.adr p) (mup m1 p (.lst es))) ds
theorem ue_listM {X : Cx} {B : Bs} {e : Expr} {es : List Expr} {va : VA} {p pos : Pos} (hg : Gl X "list") (hm : X.mg "list" = none) (ha : UA X B (e :: es) va)
    (he : starEach (e :: es) X.env = (false, eval e X.env) :: starEach es X.env := by rfl) (hpl : (backTo pos (starEach es X.env)).any (·.1) = false := by rfl) : UE X B (.Call (.Name "list" p) (e :: es) [] pos) (vListM va) :=
  ⟨(pe_callTy call_list_of hg hm bt_list ha.pa (by decide) (by decide) he hpl).weak fun σ H Q h => by
    obtain ⟨G, ρ, m, P, e0, s, t, k⟩ := h
    refine ⟨G, ρ, m, _, e0, s, t, fun ds m1 G1 vs H1 q1 e1 s1 r1 => ?_⟩
    cases q1 with
    | tup q =>
      obtain ⟨v, rfl, r⟩ := r1.one
      cases r with
      | tup h1 h2 =>
        refine ⟨_, _, rfl, .inr (Evl.ex_t s1.ex h1), fun l hl => ?_⟩
        obtain ⟨e2, s2⟩ := s1.newM hl (o := .lst _) (ho := .lst _) (.lst h2)
        exact k _ _ G1 _ _ (q l (s1.free hl).2) (e1.trans e2) s2 (.adr l)
    | lst h1 q =>
      obtain ⟨v, rfl, r⟩ := r1.one
      obtain ⟨b, xs, rfl, h2, h3⟩ := s1.asL r h1
      refine ⟨_, _, rfl, .inl h2, fun l hl => ?_⟩
      obtain ⟨e2, s2⟩ := s1.newM hl (o := .lst _) (ho := .lst _) (.lst h3)
      exact k _ _ G1 _ _ (q l (s1.free hl).2) (e1.trans e2) s2 (.adr l)⟩
/-- list(xs), a list that stays -/
def vListF (va : VA) : VE := fun ρ m Q => va ρ m fun ds m1 => ListG m1 (fun es => Q (.lst es) m1) ds
theorem ue_listF {X : Cx} {B : Bs} {e : Expr} {es : List Expr} {va : VA} {p pos : Pos} (hg : Gl X "list") (hm : X.mg "list" = none) (ha : UA X B (e :: es) va)
    (he : starEach (e :: es) X.env = (false, eval e X.env) :: starEach es X.env := by rfl) (hpl : (backTo pos (starEach es X.env)).any (·.1) = false := by rfl) : UE X B (.Call (.Name "list" p) (e :: es) [] pos) (vListF va) :=
  ⟨(pe_callTy call_list_of hg hm bt_list ha.pa (by decide) (by decide) he hpl).weak fun σ H Q h => by
    obtain ⟨G, ρ, m, P, e0, s, t, k⟩ := h
    refine ⟨G, ρ, m, _, e0, s, t, fun ds m1 G1 vs H1 q1 e1 s1 r1 => ?_⟩
    cases q1 with
    | tup q =>
      obtain ⟨v, rfl, r⟩ := r1.one
      cases r with
      | tup h1 h2 =>
        refine ⟨_, _, rfl, .inr (Evl.ex_t s1.ex h1), fun l hl => ?_⟩
        obtain ⟨e2, s2⟩ := s1.newG hl (.lst _)
        exact k _ m1 _ _ _ q (e1.trans e2) s2 (.lst upd_same (h2.mono e2.ex))
    | lst h1 q =>
      obtain ⟨v, rfl, r⟩ := r1.one
      obtain ⟨b, xs, rfl, h2, h3⟩ := s1.asL r h1
      refine ⟨_, _, rfl, .inl h2, fun l hl => ?_⟩
      obtain ⟨e2, s2⟩ := s1.newG hl (.lst xs)
      exact k _ m1 _ _ _ q (e1.trans e2) s2 (.lst upd_same (h3.mono e2.ex))⟩
end DL

/-! ### sorted lists of (int, text), the texts "a" and "b" -/
namespace DLS
open PySem PyProof.Rows Srt SrtO
def rkS (b : Str) : Int := if b = Str.ofString "a" then 0 else 1
def abS (b : Str) : Prop := b = Str.ofString "a" ∨ b = Str.ofString "b"
theorem rk_lt {b c : Str} (hb : abS b) (hc : abS c) : decide (b.cps.toList < c.cps.toList) = decide (rkS b < rkS c) := by
  rcases hb with rfl | rfl <;> rcases hc with rfl | rfl <;> decide +kernel
theorem rk_inj {b c : Str} (hb : abS b) (hc : abS c) : (b == c) = decide (rkS b = rkS c) := by
  rcases hb with rfl | rfl <;> rcases hc with rfl | rfl <;> decide +kernel
section
variable {prog : Program} {w : World} {A : Around} {E : Value → Shared → Prop} {s : Shared}
def PairS (h : Heap) (v : Value) (x y : Int) : Prop := ∃ a o t b u n, v = .ref a ∧ h.get? a = some o ∧ o.cls = .type "tuple" ∧ o.data = .seq #[.int x t, .str b u] n ∧ abS b ∧ rkS b = y
theorem PairS.keeps {h h' : Heap} {v : Value} {x y : Int} (p : PairS h v x y) (k : ∀ b o, h.get? b = some o → o.cls = .type "tuple" → h'.get? b = some o) : PairS h' v x y := by
  obtain ⟨a, o, t, b, u, n, e, ho, hc, hd, hr⟩ := p
  exact ⟨a, o, t, b, u, n, e, k _ _ ho hc, hc, hd, hr⟩
theorem firsts_ofS {h : Heap} : ∀ {vs : List Value}, (∀ v ∈ vs, ∃ x y, PairS h v x y) → ∃ fs : List Value, PySem.W.KatTups h vs fs ∧ fs.length = vs.length ∧ ∀ f ∈ fs, ∃ x t, f = Value.int x t
  | [], _ => ⟨[], PySem.W.KatTups.nil, rfl, fun _ hm => by simp at hm⟩
  | v :: vs, hp => by
    obtain ⟨fs, h1, h2, h3⟩ := firsts_ofS (vs := vs) fun v' hm => hp v' (List.mem_cons_of_mem _ hm)
    obtain ⟨x, y, a, o, t, b, u, n, e, ho, hc, hd, _⟩ := hp v (List.mem_cons_self ..)
    subst e
    refine ⟨.int x t :: fs, PySem.W.KatTups.cons ho hc hd rfl h1, by rw [List.length_cons, List.length_cons, h2], fun f hm => ?_⟩
    rcases List.mem_cons.mp hm with rfl | hm
    · exact ⟨x, t, rfl⟩
    · exact h3 f hm
theorem pairS_cmp {vs : List Value} {k : Value → Int × Int} (hp : ∀ v ∈ vs, PairS s.heap v (k v).1 (k v).2) : Cmp prog w A s (tuples' true) (fun p => p.1 ∈ vs) (lt2 fun v u => lexB (k v) (k u)) := by
  intro p q hm hm'
  have h1 := hp _ hm
  have h2 := hp _ hm'
  show wpAny (model prog w) A (keyLt' (tuples' true) p.1 q.1) (fun r s' => s' = s ∧ r = lexB (k p.1) (k q.1)) (fun _ _ => False) s
  unfold lexB
  generalize (k p.1).1 = x at h1 ⊢
  generalize (k p.1).2 = y at h1 ⊢
  generalize (k q.1).1 = x' at h2 ⊢
  generalize (k q.1).2 = y' at h2 ⊢
  obtain ⟨a, o, t, b, u, n, e, ho, hc, hd, hb, rfl⟩ := h1
  obtain ⟨a', o', t', b', u', n', e', ho', hc', hd', hb', rfl⟩ := h2
  rw [e, e']
  refine PySem.W.kat_lt ho hd ho' hd' ?_
  show PySem.W.KatLex prog w A true (decide (2 < 2)) _ [(.int x t, .int x' t'), (.str b u, .str b' u')] 0 s
  refine PySem.W.kat_cons (SeqAt.EqAt.int_int x t x' t' prog w _ _ ?_)
  refine PySem.W.kat_go (fun e1 => ?_) (fun e1 => ?_)
  · have ex : x = x' := by simpa using e1
    refine PySem.W.kat_yes (PySem.W.kat_cons (SeqAt.EqAt.str_str b u b' u' prog w _ _ ?_))
    rw [rk_inj hb hb']
    refine PySem.W.kat_go (fun e2 => ?_) (fun e2 => ?_)
    · have ey : rkS b = rkS b' := by simpa using e2
      have e3 : (if x = x' then decide (rkS b < rkS b') else decide (x < x')) = false := by
        rw [if_pos ex, ey]
        exact decide_eq_false (Int.lt_irrefl _)
      exact PySem.W.kat_yes (PySem.W.kat_nil ⟨rfl, e3.symm⟩)
    · have e3 : (if x = x' then decide (rkS b < rkS b') else decide (x < x')) = decide (rkS b < rkS b') := if_pos ex
      refine PySem.W.kat_no (PySem.W.kat_one _ _ (PyProof.Rows.lt_str ?_))
      exact (show s = s ∧ decide (b.cps.toList < b'.cps.toList) = (if x = x' then decide (rkS b < rkS b') else decide (x < x')) from ⟨rfl, (rk_lt hb hb').trans e3.symm⟩)
  · have ex : ¬ x = x' := by simpa using e1
    have e3 : (if x = x' then decide (rkS b < rkS b') else decide (x < x')) = decide (x < x') := if_neg ex
    exact PySem.W.kat_no (oneLt_int ⟨rfl, e3.symm⟩)
theorem pairS_sortableO {a : Addr} {vs : List Value} {k : Value → Int × Int} (h0 : 0 < vs.length) (hp : ∀ v ∈ vs, PairS s.heap v (k v).1 (k v).2) (ha : ∀ o, s.heap.get? a = some o → o.cls ≠ .type "tuple") : SortableO prog w A s a vs fun v u => lexB (k v) (k u) := by
  intro h' keep
  have hp' : ∀ v ∈ vs, PairS h' v (k v).1 (k v).2 := fun v hm => (hp v hm).keeps fun b o e c => keep b o (fun z => by subst z; exact ha o e c) e
  obtain ⟨fs, h1, h2, h3⟩ := firsts_ofS fun v hm => ⟨_, _, hp' v hm⟩
  refine ⟨tuples' true, fun Q E hq => ?_, pairS_cmp hp'⟩
  refine PySem.W.kat_kind (T := .type "int") h1 (by omega) (fun f hm => ?_) (by rfl) ?_
  · obtain ⟨x, t, rfl⟩ := h3 f hm
    exact PySem.W.Looks.now
  · have e : (Value.type "int" != Value.type "tuple") = true := by first | decide +kernel | rfl | decide
    rw [e]
    exact hq
theorem sorted_pairS {l : Addr} {vs : List Value} {k : Value → Int × Int} {Q : Value → Shared → Prop} (hl : s.heap.IsList l vs.toArray) (hz : vs.length ≤ sizeLine) (hp : ∀ v ∈ vs, PairS s.heap v (k v).1 (k v).2)
    (h : ∀ (h' : Heap) (d : Addr) (out : List Value), Srtd (fun v u => lexB (k v) (k u)) out → Stb (fun v u => lexB (k v) (k u)) out vs → (∀ b o, s.heap.get? b = some o → h'.get? b = some o) → s.heap.objs.size ≤ d → (∃ n, h'.get? d = some (seqObj "list" out.toArray n)) → Q (.ref d) { s with heap := h' }) :
    wpAny (model prog w) A (call (.builtin "sorted") [.ref l]) Q E s := by
  refine sorted_ord (swo_lex k) hl hz (fun h2 h₁ a ha kk => ?_) fun out hs hb => ?_
  · refine pairS_sortableO (s := { s with heap := h₁ }) (by omega) (fun v hm => (hp v hm).keeps fun b o e _ => (kk b o e).2) fun o e => ?_
    have e' : some o = some (seqObj "list" vs.toArray 0) := e.symm.trans ha
    cases e'
    intro c
    exact absurd (Value.type.inj c) (by decide)
  · exact h _ _ out hs hb (fun b o e => sortedAll_old e) (Nat.le_succ _) (sortedAll_at s.heap vs out.toArray)
end
end DLS
namespace L2
open PySem PySem.Spec PyProof.Rows Srt
def decS (h : Heap) : Value → Int × Str
  | .ref a => match h.get? a with
    | some o => match o.data with
      | .seq its _ => match its.toList with
        | [.int x _, .str b _] => (x, b)
        | _ => (0, Str.ofString "a")
      | _ => (0, Str.ofString "a")
    | none => (0, Str.ofString "a")
  | _ => (0, Str.ofString "a")
def rSortedPS (K : PySem.W.Frag) : List V → Hp → VK → Prop := fun vs H Q => ∃ (a : Addr) (L : List (V × (Int × Str))), vs = [V.ref a] ∧ SqL K H a (L.map Prod.fst) ∧ (∀ x ∈ L, ∃ t, x.1 = V.ref t ∧ SqT K H t [.int x.2.1, .str x.2.2] ∧ DLS.abS x.2.2) ∧
  ∀ (L' : List (V × (Int × Str))) (p : Addr), L'.Perm L → (L'.Pairwise fun x y => ¬ (y.2.1 < x.2.1 ∨ (y.2.1 = x.2.1 ∧ DLS.rkS y.2.2 < DLS.rkS x.2.2))) → H p = none → Q (.ref p) (upd H p (.lst (L'.map Prod.fst)))
theorem pairs_dec {X : Cx} {pins : List (Addr × Obj)} {σ : St} {H : Hp} {s : Shared} (I : Inv X pins σ H s) : ∀ (L : List (V × (Int × Str))) (its : List Value), Vals (L.map Prod.fst) its →
    (∀ x ∈ L, ∃ t, x.1 = V.ref t ∧ SqT X.K H t [.int x.2.1, .str x.2.2] ∧ DLS.abS x.2.2) → L = its.map (fun u => (backV u, decS s.heap u)) ∧ ∀ u ∈ its, DLS.PairS s.heap u (decS s.heap u).1 (DLS.rkS (decS s.heap u).2) ∧ ∃ a, u = Value.ref a
  | [], _, h, _ => by cases h; exact ⟨rfl, fun _ h => nomatch h⟩
  | (x, c) :: L, _, h, hx => by
    cases h with
    | cons r t =>
      rename_i u us
      obtain ⟨e, ih⟩ := pairs_dec I L us t fun y hy => hx y (List.mem_cons_of_mem _ hy)
      obtain ⟨ad, rfl, ht, hab⟩ := hx (x, c) List.mem_cons_self
      obtain rfl : u = Value.ref ad := r
      obtain ⟨its2, r2, ⟨o, ho, hc, n, hd⟩, _⟩ := I.tuple ht
      obtain ⟨u1, u2, rfl, ri, rj⟩ := vals2 r2
      obtain ⟨t1, rfl⟩ := ri
      obtain ⟨t2, rfl⟩ := rj
      have ed : decS s.heap (Value.ref ad) = c := by
        unfold decS
        simp only [ho, hd]
      refine ⟨by rw [List.map_cons, ed, ← e]; rfl, fun v hv => ?_⟩
      rcases List.mem_cons.mp hv with rfl | hv
      · rw [ed]
        exact ⟨⟨ad, o, t1, c.2, t2, n, rfl, ho, hc, hd, hab, rfl⟩, _, rfl⟩
      · exact ih v hv
theorem cr_sortedPS {X : Cx} : CallR X (.builtin "sorted") (rSortedPS X.K) := by
  intro pins s σ H vs us Q I r h
  obtain ⟨a, L, rfl, hs, hx, q⟩ := h
  obtain ⟨its, rv, hl, hz⟩ := I.list hs
  obtain ⟨u, rfl, ru⟩ := vals1 r
  obtain rfl : u = Value.ref a := ru
  obtain ⟨e1, e2⟩ := pairs_dec I L its rv hx
  refine DLS.sorted_pairS (k := fun u => ((decS s.heap u).1, DLS.rkS (decS s.heap u).2)) hl.isList (by rw [← rv.length]; exact hz) (fun v hv => (e2 v hv).1) fun h' d out h1 h2 kp hd hn => ?_
  have h3 : ∀ u ∈ out, ∃ a, u = Value.ref a := fun u hu => (e2 u (h2.perm.mem_iff.mp hu)).2
  obtain ⟨n, hn⟩ := hn
  have e3 : (out.map fun u => (backV u, decS s.heap u)).map Prod.fst = out.map backV := by rw [List.map_map]; rfl
  refine ⟨.ref d, upd H d (.lst ((out.map fun u => (backV u, decS s.heap u)).map Prod.fst)), I.laid (t' := s.toks) kp hd ⟨?_, out, n, by rw [e3]; exact vals_back h3, hn⟩, rfl, q _ d (by rw [e1]; exact h2.perm.map _) (List.pairwise_map.mpr (h1.imp fun {x y} h => SrtO.lexB_no.mp h)) (I.hok.fresh hd)⟩
  rw [e3, List.length_map, h2.len, ← rv.length]
  exact hz
end L2
namespace DL
open PySem L2
open Evl (Ex)
def pD (c : Int × Str) : D := .tup [.int c.1, .str c.2]
def codeS (c : Int × Str) : Int := 2 * c.1 + DLS.rkS c.2
def leS (c d : Int × Str) : Bool := decide (codeS c ≤ codeS d)
def sortS (cs : List (Int × Str)) : List (Int × Str) := cs.mergeSort leS
theorem sortS_perm (cs : List (Int × Str)) : (sortS cs).Perm cs := List.mergeSort_perm ..
theorem sortS_sorted (cs : List (Int × Str)) : (sortS cs).Pairwise fun c d => codeS c ≤ codeS d := by
  have := List.pairwise_mergeSort (le := leS) (fun a b c h1 h2 => by
    have h1 := of_decide_eq_true h1
    have h2 := of_decide_eq_true h2
    exact decide_eq_true (by omega)) (fun a b => by
    simp only [leS, Bool.or_eq_true, decide_eq_true_iff]
    omega) cs
  exact this.imp fun h => of_decide_eq_true h
theorem codeS_inj {c d : Int × Str} (hc : DLS.abS c.2) (hd : DLS.abS d.2) (h : codeS c = codeS d) : c = d := by
  obtain ⟨i, b⟩ := c
  obtain ⟨j, b'⟩ := d
  have h : 2 * i + DLS.rkS b = 2 * j + DLS.rkS b' := h
  have hc : b = Str.ofString "a" ∨ b = Str.ofString "b" := hc
  have hd : b' = Str.ofString "a" ∨ b' = Str.ofString "b" := hd
  have r1 : DLS.rkS (Str.ofString "a") = 0 := by decide +kernel
  have r2 : DLS.rkS (Str.ofString "b") = 1 := by decide +kernel
  rcases hc with rfl | rfl <;> rcases hd with rfl | rfl
  · rw [show i = j by omega]
  · rw [r1, r2] at h; omega
  · rw [r1, r2] at h; omega
  · rw [show i = j by omega]
theorem sortS_uniq : ∀ {xs ys : List (Int × Str)}, xs.Perm ys → (∀ c ∈ xs, DLS.abS c.2) → (xs.Pairwise fun c d => codeS c ≤ codeS d) → (ys.Pairwise fun c d => codeS c ≤ codeS d) → xs = ys
  | [], ys, h, _, _, _ => (List.nil_perm.mp h).symm
  | x :: xs, [], h, _, _, _ => absurd (List.perm_nil.mp h) (by simp)
  | x :: xs, y :: ys, h, ha, hx, hy => by
    have h1 := List.pairwise_cons.mp hx
    have h2 := List.pairwise_cons.mp hy
    have e : x = y := by
      have m1 : x ∈ y :: ys := h.mem_iff.mp List.mem_cons_self
      have m2 : y ∈ x :: xs := h.mem_iff.mpr List.mem_cons_self
      rcases List.mem_cons.mp m1 with e | e
      · exact e
      · rcases List.mem_cons.mp m2 with e' | e'
        · exact e'.symm
        · exact codeS_inj (ha x (by simp)) (ha y m2) (Int.le_antisymm (h1.1 y e') (h2.1 x e))
    subst e
    rw [sortS_uniq (List.Perm.cons_inv h) (fun c hc => ha c (List.mem_cons_of_mem _ hc)) h1.2 h2.2]
def bSortS : VB := fun ds m Q => match ds with
  | [d] => ∃ cs : List (Int × Str), asL m d = some (cs.map pD) ∧ (∀ c ∈ cs, DLS.abS c.2) ∧ Q (.lst ((sortS cs).map pD))
  | _ => False
theorem dn_pairs {K : PySem.W.Frag} {G H : Hp} (ex : Ex G H) : ∀ {cs : List (Int × Str)} {xs : List V}, DnAll K G (cs.map pD) xs → ∃ L : List (V × (Int × Str)), xs = L.map Prod.fst ∧ cs = L.map Prod.snd ∧ ∀ x ∈ L, Dn K G (pD x.2) x.1 ∧ ∃ t, x.1 = V.ref t ∧ SqT K H t [.int x.2.1, .str x.2.2]
  | [], _, h => by cases h; exact ⟨[], rfl, rfl, fun _ h => nomatch h⟩
  | c :: cs, _, h => by
    cases h with
    | cons h1 h2 =>
      obtain ⟨L, rfl, rfl, ih⟩ := dn_pairs ex h2
      rename_i v
      have h0 := h1
      unfold pD at h1
      cases h1 with
      | tup k1 k2 =>
        obtain ⟨v1, v2, rfl, r1, r2⟩ := k2.two
        cases r1
        cases r2
        refine ⟨(_, c) :: L, rfl, rfl, fun x hx => ?_⟩
        rcases List.mem_cons.mp hx with rfl | hx
        · exact ⟨h0, _, rfl, Evl.ex_t ex k1⟩
        · exact ih x hx
theorem DnAll.of_pairs {K : PySem.W.Frag} {G : Hp} : ∀ {L : List (V × (Int × Str))}, (∀ x ∈ L, Dn K G (pD x.2) x.1) → DnAll K G ((L.map Prod.snd).map pD) (L.map Prod.fst)
  | [], _ => .nil
  | x :: L, h => .cons (h x (by simp)) (DnAll.of_pairs fun y hy => h y (List.mem_cons_of_mem _ hy))
theorem ub_sortedS {X : Cx} : UB X (.builtin "sorted") bSortS := callw cr_sortedPS fun vs H Q h => by
  obtain ⟨G, m, ds, P, s, r, t, k⟩ := h
  unfold bSortS at t
  split at t
  · obtain ⟨cs, h1, hab, h2⟩ := t
    obtain ⟨v, rfl, r1⟩ := r.one
    obtain ⟨a, xs, rfl, h3, h4⟩ := s.asL r1 h1
    obtain ⟨L, rfl, rfl, hx⟩ := dn_pairs s.ex h4
    refine ⟨a, L, rfl, h3, fun x m => ?_, fun L' p pm srt hn => ?_⟩
    · obtain ⟨_, t, e, ht⟩ := hx x m
      exact ⟨t, e, ht, hab _ (List.mem_map_of_mem m)⟩
    · have so : (L'.map Prod.snd).Pairwise fun c d => codeS c ≤ codeS d := by
        refine List.pairwise_map.mpr (srt.imp_of_mem fun {x y} hx1 hy1 z => ?_)
        have b1 := hab x.2 (List.mem_map_of_mem (pm.mem_iff.mp hx1))
        have b2 := hab y.2 (List.mem_map_of_mem (pm.mem_iff.mp hy1))
        have r1 : DLS.rkS (Str.ofString "a") = 0 := by decide +kernel
        have r2 : DLS.rkS (Str.ofString "b") = 1 := by decide +kernel
        unfold codeS
        rcases b1 with b1 | b1 <;> rcases b2 with b2 | b2 <;> rw [b1, b2] at z ⊢ <;> simp only [r1, r2] at z ⊢ <;> omega
      have pm2 := pm.map (Prod.snd : V × (Int × Str) → Int × Str)
      have e : L'.map Prod.snd = sortS (L.map Prod.snd) := sortS_uniq (pm2.trans (sortS_perm _).symm) (fun c hc => hab c (pm2.mem_iff.mp hc)) so (sortS_sorted _)
      have dn : DnAll X.K G ((sortS (L.map Prod.snd)).map pD) (L'.map Prod.fst) := by
        rw [← e]
        exact DnAll.of_pairs fun x hx1 => (hx x (pm.mem_iff.mp hx1)).1
      obtain ⟨e2, s'⟩ := s.newG hn (.lst (L'.map Prod.fst))
      exact k _ _ _ _ h2 e2 s' (.lst upd_same (dn.mono e2.ex))
  · exact t.elim
end DL

namespace DL
open PySem L2
open Evl (Ex)
/-! ### xs + ys, to be changed -/
inductive CatG (m : MH) (Q : List D → Prop) : D → D → Prop
  | mk {x y : D} {xs ys : List D} (e1 : asT m x = some xs) (e2 : asT m y = some ys) (l : xs.length + ys.length ≤ sizeLine) (q : Q (xs ++ ys)) : CatG m Q x y
def vCatM (ta tb : VE) : VE := fun ρ m Q => ta ρ m fun x m1 => tb ρ m1 fun y m2 => CatG m2 (fun es => ∀ p, m2 p = none → Q (.adr p) (mup m2 p (.lst es))) x y
theorem ue_catM {X : Cx} {B : Bs} {a b : Expr} {ta tb : VE} {pos : Pos} (ha : UE X B a ta) (hb : UE X B b tb) : UE X B (.BinOp a .Add b pos) (vCatM ta tb) :=
  ⟨(pe_op op_cat ha.pe hb.pe).weak fun σ H Q h => by
    obtain ⟨G, ρ, m, P, e0, s, t, k⟩ := h
    refine ⟨G, ρ, m, _, e0, s, t, fun x m1 G1 v1 H1 q1 e1 s1 r1 => ?_⟩
    refine ⟨G1, ρ, m1, _, e0.trans e1, ⟨s.fr.mono e1.ex, s1⟩, q1, fun y m2 G2 v2 H2 q2 e2 s2 r2 => ?_⟩
    cases q2 with
    | mk h1 h2 h3 h4 =>
      obtain ⟨a, us, rfl, ha, ra⟩ := s2.asT (r1.mono e2.ex) h1
      obtain ⟨b, vs, rfl, hb, rb⟩ := s2.asT r2 h2
      refine ⟨a, b, us, vs, rfl, rfl, ha, hb, by rw [← ra.length, ← rb.length]; exact h3, fun p hp => ?_⟩
      obtain ⟨e3, s3⟩ := s2.newM hp (o := .lst _) (ho := .lst (us ++ vs)) (.lst (ra.append rb))
      exact k _ _ _ _ _ (h4 p (s2.free hp).2) ((e1.trans e2).trans e3) s3 (.adr p)⟩
end DL

namespace DL
open PySem L2
open Evl (Ex)
/-! ### exceptions: raised, passed on, caught -/
/-- a wish about exceptions, by the frame -/
abbrev DXF := Frm → DX
def WshF (K : PySem.W.Frag) (B : Bs) (PXF : DXF) (W : WX) : Prop := ∀ ρ C ks ds m G σ H ox, PXF ρ C ks ds m → B.to G m H → Sta K G ρ σ m H → XR K G ks ds ox → W (.ref C) ox σ H
theorem Wsh.f {K : PySem.W.Frag} {B : Bs} {PX : DX} {E : XK} (h : Wsh K B PX E) : WshF K B (fun _ => PX) (fun cls d _ H => E cls d H) := fun _ C ks ds m G _ H ox p e s x => h C ks ds m G H ox p e s.ms x
/-- raise C('..'), a class of one's own without own __init__ -/
def vRaise (C : Addr) (PXF : DXF) : VS := fun _ ρ m => PXF ρ C [] [] m
theorem us_raise {X : Cx} {B : Bs} {W : WX} {PXF : DXF} {x mt : Str} {C : Addr} {bmB : List Value} {Bn newId initId : String} {j : Nat} {p p2 pos pos' : Pos} (hc : X.calm = true) (tk : L2N.Takes X W) (wh : WshF X.K B PXF W)
    (F : ExcBaseFacts Bn newId initId bmB) (q : PySem.W.excIn X.K C bmB newId = true) (gC : X.mg x = some (.ref C)) (kC : PySem.W.keepIn X.K (.ref C) = true) (r : Raises X (.ref C)) (hg : Gl X x)
    (hdb : (x == ("__debug__" : Str)) = false := by decide) : US X B (.Raise (some (.Call (.Name x p) [.Constant (.str mt) j p2] [] pos')) none pos) (vRaise C PXF) :=
  ⟨(L2N.ps_raise hc tk (L2N.pmk_own F q gC kC r hg hdb)).weak fun D σ H h => by
    obtain ⟨G, ρ, m, E, e0, s, t, _⟩ := h
    exact wh ρ C [] [] m G σ H none t e0 s (.inl ⟨rfl, rfl, rfl⟩)⟩
/-- a call within a try -/
def vCallX (n : Nat) (sp : VSp) (PXF : DXF) (va : VA) : VE := fun ρ m Q => va ρ m fun ds m1 => ds.length = n ∧ sp ds m1 Q (PXF ρ)
theorem ue_callX {X : Cx} {B : Bs} {W : WX} {PXF : DXF} {k n : Nat} {f : Addr} {fd : FuncData} {ps : List Str} {sp : VSp} {x : Str} {p pos : Pos} {e : Expr} {es : List Expr} {va : VA}
    (F : FnOk X.prog X.w X.K X.mg X.base (L2N.CX X.prog X.w) k f fd ps (lowSp X.K n sp)) (hr : Room k X.A) (hg : Gl X x) (hm : X.mg x = some (.ref f)) (hk : PySem.W.keepIn X.K (.ref f) = true) (hb : Binds X.K fd ps []) (tk : L2N.Takes X W) (wh : WshF X.K B PXF W)
    (ha : UA X B (e :: es) va) (hdb : (x == ("__debug__" : Str)) = false := by decide) (he : starEach (e :: es) X.env = (false, eval e X.env) :: starEach es X.env := by rfl) (hpl : (backTo pos (starEach es X.env)).any (·.1) = false := by rfl) :
    UE X B (.Call (.Name x p) (e :: es) [] pos) (vCallX n sp PXF va) :=
  ⟨(pe_callS (E := WE W) F hr hg hm hk hb (fun σ => L2N.passAt tk σ) ha.pa hdb he hpl).weak fun σ H Q h => by
    obtain ⟨G, ρ, m, P, e0, s, t, k⟩ := h
    refine ⟨G, ρ, m, _, e0, s, t, fun ds m1 G1 vs H1 q1 e1 s1 r1 => ?_⟩
    refine ⟨r1.length.symm.trans q1.1, G1, ds, m1, _, PXF ρ, s1, r1, q1.2, fun d m2 G2 v H2 q2 e2 => k d m2 G2 v H2 q2 (e1.trans e2), fun C ks es m2 G2 H2 ox p2 e2 s2 x2 => ?_⟩
    exact wh ρ C ks es m2 G2 σ H2 ox p2 ((e0.trans e1).trans e2) ⟨s.fr.mono (e1.trans e2).ex, s2⟩ x2⟩
theorem takes_no {X : Cx} : L2N.Takes X (fun _ _ _ _ => False) := fun _ _ ⟨_, _, _, _, _, _, _, _, _, _, _, _, _, _, _, _, w⟩ => w.elim
/-- try: body / except c as n: suite; what the body may raise is of the class C0, without attributes -/
def vTry1 (i : Nat) (C0 : Addr) (tb : DXF → VS) (ts : Addr → VS) : VS := fun E ρ m => tb (fun ρ' C ks _ m' => C = C0 ∧ ks = [] ∧ ∀ a, m' a = none →
  ts a { nx := fun ρ2 m2 => E.nx (fwipe.fdel ρ2 i) m2, rt := E.rt, bk := fun ρ2 m2 => E.bk (fwipe.fdel ρ2 i) m2, ct := fun ρ2 m2 => E.ct (fwipe.fdel ρ2 i) m2 } (fset ρ' i (.adr a)) m') E ρ m
theorem us_try1 {X : Cx} {B : Bs} {i : Nat} {x n : Str} {c : Value} {C0 : Addr} {body suite : List Stmt} {b₀ : Stmt} {np pos pos' : Pos} {tb : DXF → VS} {ts : Addr → VS}
    (hs : X.stack = X.env :: X.outer) (hf : X.env.frame = some X.env.locals) (hN : X.N.Nodup) (hi : X.N[i]? = some n) (hln : X.env.kindOf n = some .local) (hc : Names X x c) (hm : PySem.W.exmOne X.K (.ref C0) c = some true)
    (hb : ∀ (B : Bs) (PXF : DXF) (W : WX) (pn : List (Addr × Obj)) (xe : Value → Shared → Prop), L2N.Takes (X.tr pn xe) W → WshF X.K B PXF W → USs (X.tr pn xe) B body (tb PXF))
    (hsu : ∀ (B : Bs) (a : Addr) (oe : Obj) (pn : List (Addr × Obj)), Zc (.ref C0) none oe → (∃ vs, oe.data = .fields vs) → USs (X.suite a ((a, oe) :: pn)) B (b₀ :: suite) (ts a)) :
    US X B (.Try body [.ExceptHandler (some (.Name x np)) (some n) (b₀ :: suite) pos'] [] [] pos) (vTry1 i C0 tb ts) :=
  ⟨PS.weak (L2N.ps_try_as (Wout := fun _ _ _ _ => False) (tb := fun W D σ H => ∃ (B : Bs) (PXF : DXF), WshF X.K B PXF W ∧ lowS X.K B (tb PXF) D σ H)
      (ts := fun a cls d D σ H => cls = .ref C0 ∧ d = none ∧ ∃ B : Bs, lowS X.K B (ts a) D σ H) hs hf hN hi hln hc takes_no
      (fun W pn xe tk _ => ⟨fun pins s σ H D I h => by
        obtain ⟨B, PXF, wh, h⟩ := h
        exact (hb B PXF W pn xe tk wh).ps.run pins s σ H D I h⟩)
      (fun a oe cls d pn hz hv => ⟨fun pins s σ H D I h => by
        obtain ⟨rfl, rfl, B, h⟩ := h
        exact (hsu B a oe pn hz.zc hv).ps.run pins s σ H D I h⟩)) fun D σ H h => by
    obtain ⟨G, ρ, m, E, e0, s, t, k1, k2, k3, k4⟩ := h
    refine ⟨⟨G, m, H⟩, _, ?_, G, ρ, m, E, Stp.refl, s, t, k1, k2, k3, k4⟩
    rintro ρ' C ks ds m' G' σ' H' ox ⟨rfl, rfl, hts⟩ e1 s1 xr
    have e1 : Stp G m H G' m' H' := e1
    have hox : ox = none := by
      rcases xr with ⟨_, _, z⟩ | ⟨_, _, z, _⟩
      · exact z
      · exact absurd rfl z
    refine ⟨true, hm, fun _ a ha => ⟨rfl, hox, ⟨G', m', H'⟩, G', fset ρ' i (.adr a), m', _, Stp.refl, ⟨s1.fr.set (.adr a) i, s1.ms⟩, hts a (s1.ms.free ha).2, ?_, ?_, ?_, ?_⟩, fun z => nomatch z⟩
    · intro ρ2 m2 G2 σ2 H2 q e2 s2
      exact k1 _ m2 G2 _ H2 q (e1.trans e2) ⟨FrR.del i none s2.fr, s2.ms⟩
    · intro d m2 G2 v H2 q e2 s2 r2
      exact k2 d m2 G2 v H2 q (e1.trans e2) s2 r2
    · intro ρ2 m2 G2 σ2 H2 q e2 s2
      exact k3 _ m2 G2 _ H2 q (e1.trans e2) ⟨FrR.del i none s2.fr, s2.ms⟩
    · intro ρ2 m2 G2 σ2 H2 q e2 s2
      exact k4 _ m2 G2 _ H2 q (e1.trans e2) ⟨FrR.del i none s2.fr, s2.ms⟩⟩
/-- isinstance(e, C), e what the suite holds -/
def bIsE (a C : Addr) (b : Bool) : VB := fun ds _ Q => ds = [.adr a, .adr C] ∧ Q (.bl b)
theorem ub_isE {X : Cx} {a D C : Addr} {b : Bool} {oe : Obj} {pn : List (Addr × Obj)} (hC : ExcC X.K D) (hz : Zc (.ref D) none oe) (hf : ∃ vs, oe.data = .fields vs) (hk : PySem.W.kitOne X.K (.ref D) (.ref C) = some b) :
    UB (X.suite a ((a, oe) :: pn)) (.builtin "isinstance") (bIsE a C b) := callw (call_isE hC hz hf) fun vs H Q h => by
  obtain ⟨G, m, ds, P, s, r, ⟨rfl, t⟩, k⟩ := h
  obtain ⟨v1, v2, rfl, r1, r2⟩ := r.two
  cases r1
  cases r2
  exact ⟨_, .ref C, b, rfl, fun u hu => hu, hk, k _ G _ H t Stp.refl s (.bl b)⟩
/-- a class, named -/
theorem ue_cls {X : Cx} {B : Bs} {x : Str} {C : Addr} {pos : Pos} (hg : Gl X x) (hm : X.mg x = some (.ref C)) (hdb : (x == ("__debug__" : Str)) = false := by decide) : UE X B (.Name x pos) (vC (.adr C)) :=
  ue_glob hg hm (v := .ref C) rfl (fun _ => .adr C) hdb
end DL

namespace DLE
open PySem L2 PySem.Spec PyProof.Rows
/-! ### try .. except C as n .. else -/
section
variable {X : Cx} {W0 : WX} {i : Nat} {x n : Str} {c : Value} {body suite rest : List Stmt} {b0 : Stmt} {q1 q2 q3 : Pos} {tb : WX → TS} {ts : Addr → Value → Option Addr → TS} {u : TS}
/-- what happens to an exception that came out of the body -/
theorem caught (st : X.stack = X.env :: X.outer) (fr : X.env.frame = some X.env.locals) (nd : X.N.Nodup) (ni : X.N[i]? = some n) (kn : X.env.kindOf n = some .local) (nc : Names X x c) (tk : L2N.Takes X W0)
    (hsu : ∀ (a : Addr) (oe : Obj) (cls : Value) (d : Option Addr) (pn : List (Addr × Obj)), L2N.Zn cls d oe → (∃ vs, oe.data = .fields vs) → PSs (X.suite a ((a, oe) :: pn)) (b0 :: suite) (ts a cls d))
    (ok : X.Ok) {pins : List (Addr × Obj)} {D : Ends} {xe : Value → Shared → Prop} {v : Value} {s' : Shared} (y : L2N.XE (X.tr (X.pn ++ pins) xe) (wAs X.K c i ts W0 D) v s') :
    wpAny (model X.prog X.w) X.A (noteFrame v X.env) (fun _ s2 => wpAny (model X.prog X.w) X.A (setFlight v none) (fun _ s3 => wpAny (model X.prog X.w) X.A (handleBy v X.env [.ExceptHandler (some (.Name x q1)) (some n) (b0 :: suite) q2]) (SP X pins D) X.xe s3) X.xe s2) X.xe s' := by
  have lo : Loc X.env.scope n := .inl kn
  obtain ⟨a, B, t, pins', τ, G, cl, d, rfl, K', below, up1, fly, none_a, osEq, gens, way, exm, way1, way0⟩ := y
  have K : Inv X pins τ G t := K'.ofTry ok
  refine L2N.Sky.land (env := X.env) (outer := X.outer) (L := X.env.locals) L2N.Zn.steady (by rw [ok.frames, st]) fr (by rw [← st]; exact fly) fun g held up2 => ?_
  have K2 : Inv X pins τ G { s' with heap := g } := K.landed below held.1 (up1.trans up2) osEq gens
  obtain ⟨oa, fa, ga, za, da⟩ := held.there
  have off : ∀ {o : Obj} {fs : Array Value}, g.get? a = some o → o.data = .fields fs → a ∉ frs (X.env :: X.outer) := fun e1 e2 m => by
    obtain ⟨_, _, e3, no⟩ := held.2.2.1.mem m
    rw [e1] at e3; cases e3
    exact no _ e2
  have out := off ga da
  have aL : a ≠ X.env.locals := fun e => out (List.mem_filterMap.mpr ⟨X.env, List.mem_cons_self, fr.trans (congrArg some e.symm)⟩)
  have aF : a ∉ X.fs := fun m => by
    obtain ⟨en, hen, e⟩ := List.mem_filterMap.mp m
    exact out (List.mem_filterMap.mpr ⟨en, List.mem_cons_of_mem _ hen, e⟩)
  have S := K2.suite ga da none_a aL aF
  have kind : PySem.W.Looks (model X.prog X.w) g (typeOf (.ref a)) cl := fun _ _ _ z k e => wpAny_typeOf_ref (k _ _ ga) (by rw [za.1]; exact e)
  refine wpAny_handleBy_cons (codeAny_handlers_test ?_) (fun e => nomatch e)
  have name : ∀ {Q : Value → Shared → Prop} {E : Value → Shared → Prop}, Q c { s' with heap := g } → wpAny (model X.prog X.w) (X.A.mark (some (.ref a))) (eval (.Name x q1) X.env) Q E { s' with heap := g } := fun {Q E} e => by
    rcases nc with ⟨k1, k2, k3 | ⟨k3, k4, k5⟩⟩
    · exact ld_glob (X := X.suite a ((a, oa) :: (X.pn ++ pins))) S k1 k3 e k2
    · exact ld_blt (X := X.suite a ((a, oa) :: (X.pn ++ pins))) S k1 k3 k4 e k5 k2
  refine name ((PySem.W.exm_one (M := model X.prog X.w) K2.kIn kind exm).here ?_)
  cases way with
  | false =>
    show wpAny _ X.A (handleBy (.ref a) X.env []) _ _ _
    refine wpAny_handleBy_nil ?_
    have held2 := held
    obtain ⟨_, _, _, o2, v2, T, _, _, g2, _, d2, f2, _⟩ := held
    unfold PySem.passOn
    refine wpAny_bind (wpAny_field g2 d2 f2 ?_)
    rw [if_neg (by simp)]
    have go : wpAny (model X.prog X.w) X.A (setFlight (.ref a) X.env.frame) (fun _ z => wpAny (model X.prog X.w) X.A (throw (.ref a) : Sem Flow) (SP X pins D) X.xe z) X.xe { s' with heap := g } := by
      rw [fr]
      refine HandSPX.setFlight_upZ held2 fun g3 hg3 up3 => wpAny_throw (tk _ _ ?_)
      exact ⟨a, B, t, pins, τ, G, cl, d, rfl, K, below, (up1.trans up2).trans up3, .inr (.inr (by rw [st]; exact hg3)), none_a, osEq, gens, way0 rfl⟩
    first | exact wpAny_bind go | exact wpAny_bind (wpAny_pure (wpAny_bind go))
  | true =>
    refine codeAny_handlers_suite_as (HandSPX.lands_againZ held fun g4 held4 up4 => ?_)
    have K4 : Inv X pins τ G { s' with heap := g4 } := K.landed below held4.1 ((up1.trans up2).trans up4) osEq gens
    obtain ⟨o4, f4, e4, z4, d4⟩ := held4.there
    have S4 := K4.suite e4 d4 none_a aL aF
    refine store_ok (X := X.suite a ((a, o4) :: (X.pn ++ pins))) (v := .ref a) S4 nd ni lo rfl (fun z5 S5 => ?_) (.inr kn)
    refine wpAny_mono ((hsu a o4 cl d (X.pn ++ pins) z4 ⟨_, d4⟩).run [] z5 _ G _ S5 (way1 rfl a none_a)) (fun fl z6 done => ?_) (fun _ _ no => no.elim)
    have drop : ∀ {τ6 : L2.St} {G6 : Hp} {Q : Shared → Prop}, Inv (X.suite a ((a, o4) :: (X.pn ++ pins))) [] τ6 G6 z6 → (∀ z7, Inv X pins (τ6.set i none) G6 z7 → Q z7) → wpAny (model X.prog X.w) X.A (do bindName X.env n .none; unbindBehindTheSuite X.env n q2) (fun _ z7 => Q z7) X.xe z6 :=
      fun S6 k => gone_ok (S6.unsuite ok) nd ni kn k
    cases fl with
    | ret r =>
      obtain ⟨w, τ6, G6, S6, rr, k6⟩ := done
      exact drop S6 fun z7 K7 => ⟨_, _, _, K7, rr, k6⟩
    | _ =>
      obtain ⟨τ6, G6, S6, k6⟩ := done
      exact drop S6 fun z7 K7 => ⟨_, _, K7, k6⟩
theorem ps_asE (el : PSs X rest u) (st : X.stack = X.env :: X.outer) (fr : X.env.frame = some X.env.locals) (nd : X.N.Nodup) (ni : X.N[i]? = some n) (kn : X.env.kindOf n = some .local) (nc : Names X x c) (tk : L2N.Takes X W0)
    (hb : ∀ (W : WX) (pn : List (Addr × Obj)) (xe : Value → Shared → Prop), L2N.Takes (X.tr pn xe) W → PassesOwn (model X.prog X.w) X.A X.env xe → PSs (X.tr pn xe) body (tb W))
    (hsu : ∀ (a : Addr) (oe : Obj) (cls : Value) (d : Option Addr) (pn : List (Addr × Obj)), L2N.Zn cls d oe → (∃ vs, oe.data = .fields vs) → PSs (X.suite a ((a, oe) :: pn)) (b0 :: suite) (ts a cls d)) :
    PS X (.Try body [.ExceptHandler (some (.Name x q1)) (some n) (b0 :: suite) q2] rest [] q3) (fun D σ H => tb (wAs X.K c i ts W0 D) { D with nx := u D } σ H) := ⟨fun pins s σ H D I h => by
  have ok := I.ok
  refine wpAny_Try_except (wpAny_mono ((hb (wAs X.K c i ts W0 D) (X.pn ++ pins) _ (fun v s' y => caught st fr nd ni kn nc tk hsu ok y) PassesOwn.looking).run [] s σ H { D with nx := u D } (I.toTry _) h) (fun fl s1 p => ?_) (fun _ _ z => z))
  cases fl with
  | next =>
    obtain ⟨τ, G, J, q⟩ := p
    exact el.run pins s1 τ G D (J.ofTry ok) q
  | ret w =>
    obtain ⟨v, τ, G, J, r, q⟩ := p
    exact ⟨v, τ, G, J.ofTry ok, r, q⟩
  | _ =>
    obtain ⟨τ, G, J, q⟩ := p
    exact ⟨τ, G, J.ofTry ok, q⟩⟩
end
end DLE
namespace DL
open PySem L2
open Evl (Ex)
/-- try: body / except c as n: suite / else: rest; what the body may raise is of the class C0, without attributes -/
def vTry1E (i : Nat) (C0 : Addr) (tb : DXF → VS) (ts : Addr → VS) (te : VS) : VS := fun E ρ m => tb (fun ρ' C ks _ m' => C = C0 ∧ ks = [] ∧ ∀ a, m' a = none →
  ts a { nx := fun ρ2 m2 => E.nx (fwipe.fdel ρ2 i) m2, rt := E.rt, bk := fun ρ2 m2 => E.bk (fwipe.fdel ρ2 i) m2, ct := fun ρ2 m2 => E.ct (fwipe.fdel ρ2 i) m2 } (fset ρ' i (.adr a)) m') { E with nx := fun ρ' m' => te E ρ' m' } ρ m
theorem us_try1E {X : Cx} {B : Bs} {i : Nat} {x n : Str} {c : Value} {C0 : Addr} {body suite rest : List Stmt} {b₀ : Stmt} {np pos pos' : Pos} {tb : DXF → VS} {ts : Addr → VS} {te : VS}
    (hs : X.stack = X.env :: X.outer) (hf : X.env.frame = some X.env.locals) (hN : X.N.Nodup) (hi : X.N[i]? = some n) (hln : X.env.kindOf n = some .local) (hc : Names X x c) (hm : PySem.W.exmOne X.K (.ref C0) c = some true)
    (hb : ∀ (B : Bs) (PXF : DXF) (W : WX) (pn : List (Addr × Obj)) (xe : Value → Shared → Prop), L2N.Takes (X.tr pn xe) W → WshF X.K B PXF W → USs (X.tr pn xe) B body (tb PXF))
    (hsu : ∀ (B : Bs) (a : Addr) (oe : Obj) (pn : List (Addr × Obj)), Zc (.ref C0) none oe → (∃ vs, oe.data = .fields vs) → USs (X.suite a ((a, oe) :: pn)) B (b₀ :: suite) (ts a))
    (hel : ∀ B : Bs, USs X B rest te) :
    US X B (.Try body [.ExceptHandler (some (.Name x np)) (some n) (b₀ :: suite) pos'] rest [] pos) (vTry1E i C0 tb ts te) :=
  ⟨PS.weak (DLE.ps_asE (W0 := fun _ _ _ _ => False) (tb := fun W D σ H => ∃ (B : Bs) (PXF : DXF), WshF X.K B PXF W ∧ lowS X.K B (tb PXF) D σ H)
      (ts := fun a cls d D σ H => cls = .ref C0 ∧ d = none ∧ ∃ B : Bs, lowS X.K B (ts a) D σ H) (u := fun D σ H => ∃ B : Bs, lowS X.K B te D σ H)
      ⟨fun pins s σ H D I h => by
        obtain ⟨B, h⟩ := h
        exact (hel B).ps.run pins s σ H D I h⟩ hs hf hN hi hln hc takes_no
      (fun W pn xe tk _ => ⟨fun pins s σ H D I h => by
        obtain ⟨B, PXF, wh, h⟩ := h
        exact (hb B PXF W pn xe tk wh).ps.run pins s σ H D I h⟩)
      (fun a oe cls d pn hz hv => ⟨fun pins s σ H D I h => by
        obtain ⟨rfl, rfl, B, h⟩ := h
        exact (hsu B a oe pn hz.zc hv).ps.run pins s σ H D I h⟩)) fun D σ H h => by
    obtain ⟨G, ρ, m, E, e0, s, t, k1, k2, k3, k4⟩ := h
    refine ⟨⟨G, m, H⟩, _, ?_, G, ρ, m, _, Stp.refl, s, t, fun ρ2 m2 G2 σ2 H2 q e2 s2 => ⟨⟨G2, m2, H2⟩, G2, ρ2, m2, E, Stp.refl, s2, q, fun ρ3 m3 G3 σ3 H3 q3 e3 => k1 ρ3 m3 G3 σ3 H3 q3 (e2.trans e3), fun d m3 G3 v H3 q3 e3 => k2 d m3 G3 v H3 q3 (e2.trans e3), fun ρ3 m3 G3 σ3 H3 q3 e3 => k3 ρ3 m3 G3 σ3 H3 q3 (e2.trans e3), fun ρ3 m3 G3 σ3 H3 q3 e3 => k4 ρ3 m3 G3 σ3 H3 q3 (e2.trans e3)⟩, k2, k3, k4⟩
    rintro ρ' C ks ds m' G' σ' H' ox ⟨rfl, rfl, hts⟩ e1 s1 xr
    have e1 : Stp G m H G' m' H' := e1
    have hox : ox = none := by
      rcases xr with ⟨_, _, z⟩ | ⟨_, _, z, _⟩
      · exact z
      · exact absurd rfl z
    refine ⟨true, hm, fun _ a ha => ⟨rfl, hox, ⟨G', m', H'⟩, G', fset ρ' i (.adr a), m', _, Stp.refl, ⟨s1.fr.set (.adr a) i, s1.ms⟩, hts a (s1.ms.free ha).2, ?_, ?_, ?_, ?_⟩, fun z => nomatch z⟩
    · intro ρ2 m2 G2 σ2 H2 q e2 s2
      exact k1 _ m2 G2 _ H2 q (e1.trans e2) ⟨FrR.del i none s2.fr, s2.ms⟩
    · intro d m2 G2 v H2 q e2 s2 r2
      exact k2 d m2 G2 v H2 q (e1.trans e2) s2 r2
    · intro ρ2 m2 G2 σ2 H2 q e2 s2
      exact k3 _ m2 G2 _ H2 q (e1.trans e2) ⟨FrR.del i none s2.fr, s2.ms⟩
    · intro ρ2 m2 G2 σ2 H2 q e2 s2
      exact k4 _ m2 G2 _ H2 q (e1.trans e2) ⟨FrR.del i none s2.fr, s2.ms⟩⟩
end DL

namespace DL
open PySem L2
open Evl (Ex)
theorem u64s {X : Cx} {k : Nat} {a : Addr} {pn : List (Addr × Obj)} (hr : Room k X.A) : (X.suite a pn).A.units + 64 < cLine := by
  have h := u64 hr
  exact h
theorem u65s {X : Cx} {k : Nat} {a : Addr} {pn : List (Addr × Obj)} (hr : Room k X.A) : (X.suite a pn).A.units + 65 < cLine := by
  have h := u65 hr
  exact h
/-! ### abs -/
theorem bt_abs : bootBuiltins "abs" = some (.builtin "abs") := by decide +kernel
def absI (i : Int) : Int := if i < 0 then -i else i
def bAbs : VB := fun ds _ Q => match ds with
  | [.int i] => Q (.int (absI i))
  | _ => False
theorem ub_abs {X : Cx} : UB X (.builtin "abs") bAbs := callw call_abs fun vs H Q h => by
  obtain ⟨G, m, ds, P, s, r, t, k⟩ := h
  unfold bAbs at t
  split at t
  · obtain ⟨v, e, r⟩ := r.one
    cases r
    exact ⟨_, e, k _ G _ H t Stp.refl s (.int _)⟩
  · exact t.elim
theorem absI_nn (i : Int) : 0 ≤ absI i := by unfold absI; split <;> omega
/-! ### xs[::-1] -/
theorem DnAll.reverse {K : PySem.W.Frag} {G : Hp} : ∀ {ds : List D} {vs : List V}, DnAll K G ds vs → DnAll K G ds.reverse vs.reverse
  | _, _, .nil => .nil
  | _, _, .cons h hs => by
    rw [List.reverse_cons, List.reverse_cons]
    exact (DnAll.reverse hs).append (.cons h .nil)
def vRev (te : VE) : VE := fun ρ m Q => te ρ m fun d m1 => ∃ ds, asL m1 d = some ds ∧ Q (.lst ds.reverse) m1
theorem ue_rev {X : Cx} {B : Bs} {e : Expr} {te : VE} {k : Nat} {p1 p2 p3 pos : Pos} (he : UE X B e te) : UE X B (.Subscript e (.Slice none none (some (.UnaryOp .USub (.Constant (.int 1) k p1) p2)) p3) pos) (vRev te) :=
  ⟨(pe_revL he.pe).weak fun σ H Q h => by
    obtain ⟨G, ρ, m, P, e0, s, t, kk⟩ := h
    refine ⟨G, ρ, m, _, e0, s, t, fun d m1 G1 v1 H1 q1 e1 s1 r1 => ?_⟩
    obtain ⟨ds, h1, h2⟩ := q1
    obtain ⟨a, xs, rfl, h3, h4⟩ := s1.asL r1 h1
    refine ⟨a, xs, rfl, h3, fun p hp => ?_⟩
    obtain ⟨e2, s2⟩ := s1.newG hp (.lst xs.reverse)
    exact kk _ m1 _ _ _ h2 (e1.trans e2) s2 (.lst upd_same (h4.reverse.mono e2.ex))⟩
end DL

/-! ### exceptions whose __init__ says super().__init__("..") and keeps one attribute -/
namespace DLX
open PySem L2 PySem.Spec PyProof.Rows PySem.Calls PySem.W
structure SupS (scope : Scope) (pn : Str) : Prop where
  kind : scope.kind = .function
  co : scope.isCoroutine = false
  gen : scope.isGenerator = false
  ne : pn ≠ "self"
  me : scope.names.lookup ("self" : Str) = some .local
  par : scope.names.lookup pn = some .local
  sup : scope.names.lookup ("super" : Str) = some .globalImplicit
  cls : scope.names.lookup ("__class__" : Str) = some .free
  nocell : ∀ x ∈ scope.names, x.2 ≠ .cell
  nd : (pn == ("__debug__" : Str)) = false
  ncd : (pn == ("__classdict__" : Str)) = false
  free : ∀ x ∈ scope.names, x.2 = .free → x.1 = "__class__"
section
variable {CX : CXT} {P : Program} {w : World} {K : PySem.W.Frag} {mg : Str → Option Value} {base : Heap} {qual : Str} {scope : Scope} {f cc C : Addr} {cd : Value} {A : Around} {outer : List Env} {s : Shared} {H : Hp} {E : XK} {pn : Str}
def cxS (CX : CXT) (P : Program) (w : World) (K : PySem.W.Frag) (mg : Str → Option Value) (base : Heap) (qual : Str) (scope : Scope) (pn : Str) (f cc : Addr) (cd : Value) (A : Around) (outer : List Env) (s : Shared) (H : Hp) (E : XK) (cm : Bool) : Cx where
  prog := P
  w := w
  K := K
  mg := mg
  base := base
  A := A.deeper (ksEnv qual scope s.heap.objs.size f cd cc)
  N := ["self", pn]
  s_0 := s
  H_0 := H
  env := ksEnv qual scope s.heap.objs.size f cd cc
  outer := outer
  stack := ksEnv qual scope s.heap.objs.size f cd cc :: outer
  ex := []
  calm := cm
  fn := fun y => !(y == ("__class__" : Str))
  pn := []
  xe := fun e s' => wpAny (model P w) (A.deeper (ksEnv qual scope s.heap.objs.size f cd cc)) (leaving (ksEnv qual scope s.heap.objs.size f cd cc) e) (fun _ s'' => CX outer H s E e s'') (fun e' s'' => CX outer H s E e' s'') s'
theorem cell1 {x : Str} {c cc : Addr} (h : ([("__class__", cc)] : List (Str × Addr)).lookup x = some c) : x = "__class__" ∧ c = cc := by
  rw [List.lookup_cons] at h
  by_cases e : (x == "__class__") = true
  · rw [e] at h
    exact ⟨eq_of_beq e, (Option.some.inj h).symm⟩
  · rw [Bool.not_eq_true] at e
    rw [e] at h
    cases h
theorem inv_super {cm : Bool} (S : SupS scope pn) (hd : cm = true → A.handled = none) (e0 : Env0 P w K mg base A outer s H) {v0 v1 : V} {u0 u1 : Value} (r0 : RelV v0 u0) (r1 : RelV v1 u1) {h1 : Heap} {t : Nat} {cl : Value} {cld : Option Addr} {csl : Array (Option Value)}
    (hns : h1.Ns s.heap.objs.size (fun x => ((["self", pn] : List Str).zip [u0, u1]).reverse.lookup x)) (kk : ∀ b o, s.heap.get? b = some o → h1.get? b = some o) (hc : K.lookup cc = some ⟨cl, cld, .cell (some (.ref C)), csl⟩) :
    Inv (cxS CX P w K mg base qual scope pn f cc cd A outer s H E cm) [] [some v0, some v1] H { s with heap := h1, toks := t } := by
  have noA : ∀ b : Addr, b ∉ (cxS CX P w K mg base qual scope pn f cc cd A outer s H E cm).ex := fun b z => absurd (show b ∈ ([] : List Addr) from z) (by simp)
  have cb := e0.mod.kin _ _ hc
  have cs := (e0.bs _ _ cb).1
  refine ⟨⟨e0.mod, S.kind, rfl, rfl, Nat.le_refl _, fun y z c h1 h2 => ?_, fun y hy => ?_, fun y c hf h => ?_, hd, Around.frames_deeper e0.frames, .inr ⟨rfl, rfl⟩, fun b z => absurd z (noA b), e0.bs, e0.bsz, fun b _ _ => noA b, fun b z => absurd z (noA b), e0.funs, e0.frf⟩,
    rfl, e0.bare, Un.kept kk, ⟨_, hns, fun i y v h1 h2 h3 => ?_⟩, fun y c h => ?_, e0.hok.fresh (Nat.le_refl _), fun y c h => ?_, fun p hp => absurd (show p ∈ ([] : List (Addr × Obj)) from hp) (by simp), e0.hok.kept kk, rfl⟩
  · rw [(cell1 h1).1, (cell1 h2).1]
  · have hy : scope.names.lookup y = some .cell ∨ scope.names.lookup y = some .free := hy
    rcases hy with hy | hy
    · exact absurd rfl (S.nocell _ (PySem.mem_of_lookup hy))
    · have := S.free _ (PySem.mem_of_lookup hy) rfl
      have this : y = "__class__" := this
      subst this
      exact ⟨cc, List.lookup_cons_self⟩
  · have := (cell1 h).1
    subst this
    exact absurd (show (!(("__class__" : Str) == ("__class__" : Str))) = true from hf) (by decide)
  · have e2 : (["self", pn] : List Str)[i]? = some y := h1
    match i, e2, h2 with
    | 0, e2, h2 =>
      cases e2
      cases h2
      refine ⟨u0, r0, .inl ⟨S.me, ?_⟩⟩
      show List.lookup ("self" : Str) [(pn, u1), (("self" : Str), u0)] = some u0
      rw [List.lookup_cons, beq_eq_false_iff_ne.mpr (Ne.symm S.ne)]
      exact List.lookup_cons_self
    | 1, e2, h2 =>
      cases e2
      cases h2
      refine ⟨u1, r1, .inl ⟨S.par, ?_⟩⟩
      exact List.lookup_cons_self
    | i + 2, e2, _ => cases e2
  · rw [(cell1 h).2]
    exact ⟨_, _, kk _ _ cs, rfl⟩
  · rw [(cell1 h).2]
    exact (e0.bs _ _ cb).2
theorem mw_call {X : Cx} {pins : List (Addr × Obj)} {σ : L2.St} {H : Hp} {s : Shared} {u a C : Addr} {us : List Value} {Q : Value → Shared → Prop} {E : Value → Shared → Prop} (T : OexC X.K C) (I : L2.Inv X pins σ H s) (hu : s.heap.get? u = some (kxs_mw "ValueError.__init__" a)) (e : H a = some (exo a C none))
    (hl : us.length ≤ sizeLine) (h : ∀ s', L2.Inv X pins σ H s' → Q .none s') : wpAny (model X.prog X.w) X.A (call (.ref u) us) Q E s := by
  obtain ⟨n0, n1, n2, n3, bm, n5, n6, n7, n8, n9, m0, m1, m2, m3, m5, hC, hbm⟩ := T.cls
  obtain ⟨t1, ho⟩ := exo_at I.hok e
  have hCh := I.kIn _ _ hC
  obtain ⟨hp, g, d, t, os⟩ := s
  refine wpAny_call (codeAny_of_tree ?_)
  show wpAny _ X.A.in1 (callAny (.ref u) ⟨us, []⟩) _ _ _
  simp only [callAny]
  refine wpAny_bind (wpAny_load hu ?_)
  simp only [kxs_mw, show (Value.type "method-wrapper" == Value.type "method" || Value.type "method-wrapper" == Value.type "builtin_function_or_method" || Value.type "method-wrapper" == Value.type "method-wrapper") = true by decide, if_true]
  refine KFB.if_so (by decide) (wpAny_bind (check_bound_init PySem.F.excBase_ValueError.toExcCallFacts hCh ho rfl (wpAny_bind (wpAny_pure (wpAny_pure ?_)))))
  refine ⟨plainId_quiet PySem.F.excBase_ValueError.init.plain _, codeAny_builtin PySem.F.excBase_ValueError.initEntry (exc_init_tree (cls := .ref C) (t0 := t1) (dv := none) (c2 := .none) (c3 := .none) (b4 := .bool false) ho hl fun h' k hx _ => ?_)⟩
  have J := I.write (t' := t) (x := a) (e := a) (o := exo a C none) (by rw [e]; exact True.intro) (.inl rfl) k ⟨_, hx⟩ (exo_ok hx)
  rw [show upd H a (exo a C none) = H from funext fun b => by
    by_cases hb : b = a
    · rw [hb, upd_same, e]
    · rw [upd_ne hb]] at J
  exact h _ J
/-- the class's own facts for super() -/
structure SupF (P : Program) (K : PySem.W.Frag) (C f cc cda : Addr) (fd : FuncData) (scope : Scope) (qual pn atn : Str) : Prop where
  lk : ∃ oc od osl, K.lookup f = some ⟨oc, od, .func fd, osl⟩
  code : PySem.W.codeIn K (.ref cda) qual = true
  cell : ∃ cl cld csl, K.lookup cc = some ⟨cl, cld, .cell (some (.ref C)), csl⟩
  cobj : ∃ ccl cdd vs ccs file tf, K.lookup cda = some ⟨ccl, cdd, .fields vs, ccs⟩ ∧ vs[2]? = some (.str file tf) ∧ ((P.main.file : Str) == file) = true
  top : (P.main.scope.names.lookup ("super" : Str)).isSome = false
  opq : nsIn K cStatics "thirdparty.any" = some none
  sup : ks_superIn K C C "__init__" = some (some (.builtin "ValueError.__init__"))
  ve : subIn K (.ref C) (.type "ValueError") = some true
  isC : (clsIn K C).isSome = true
  self : mroIn K C (.ref C) = some true
  nat : findIn K (.ref C) atn = some none
  oex : OexC K C
abbrev supE (msg : Str) (j : Nat) (p0 p1 p2 p3 p4 : Pos) : Expr := .Call (.Attribute (.Call (.Name "super" p0) [] [] p1) "__init__" p2) [.Constant (.str msg) j p3] [] p4
abbrev supB (msg atn pn : Str) (j : Nat) (p0 p1 p2 p3 p4 p5 p6 p7 p8 p9 : Pos) : List Stmt := [.Expr (supE msg j p0 p1 p2 p3 p4) p5, .Assign [.Attribute (.Name "self" p6) atn p7] (.Name pn p8) p9]
/-- what the two statements are, read in the def's frame -/
structure SupE (env : Env) (msg atn pn : Str) (j : Nat) (p0 p1 p2 p3 p4 p5 p6 p7 p8 p9 : Pos) : Prop where
  call : ∃ pl, eval (supE msg j p0 p1 p2 p3 p4) env = (do
      let ov ← attributeBase (.Call (.Name "super" p0) [] [] p1) "__init__" env (eval (.Call (.Name "super" p0) [] [] p1) env)
      standAt p2.atName
      let (f, first) ← holding [ov] (getMethod ov "__init__" pl)
      callWith p4 f first (backTo p4 (starEach [.Constant (.str msg) j p3] env)) [])
  sw1 : swapsWith (supE msg j p0 p1 p2 p3 p4) none p5.line env = pure false
  star : starEach [.Constant (.str msg) j p3] env = (false, eval (.Constant (.str msg) j p3) env) :: starEach [] env
  sw2 : swapsWith (.Name pn p8) (some (.Attribute (.Name "self" p6) atn p7)) p9.line env = pure false
abbrev spSup (C : Addr) (atn : Str) : Sp := fun vs H Q _ => ∃ (a : Addr) (v : V), vs = [.ref a, v] ∧ H a = some (exo a C none) ∧ ∀ d, H d = none → d ≠ a → Q .non (upd (upd H d (exd d [(atn, v)])) a (exo a C (some d)))
theorem run_super {cm : Bool} {k : Nat} {nm : Str} {params : Arguments} {dV kV doc pm ct : Value} {an : Option Addr} {cda : Addr} {atn msg : Str} {j : Nat} {p0 p1 p2 p3 p4 p5 p6 p7 p8 p9 : Pos} (S : SupS scope pn)
    (hm : mg "super" = none) {ar : Arg} (hp : (params.posonlyargs ++ params.args).head? = some ar) (har : ar.arg = "self") (hE : ∀ L, SupE (ksEnv qual scope L f (.ref cda) cc) msg atn pn j p0 p1 p2 p3 p4 p5 p6 p7 p8 p9)
    (F : SupF P K C f cc cda (ksFn nm qual params (supB msg atn pn j p0 p1 p2 p3 p4 p5 p6 p7 p8 p9) scope dV kV doc pm an (.ref cda) ct cc) scope qual pn atn) :
    ∀ (A : Around) (outer : List Env) (s : Shared) (H : Hp) (args : Args) (us : List Value) (vs : List V) (Q : VK) (E : XK), L2H.RoomH (k + 1) A → (cm = true → A.handled = none) → Env0 P w K mg base A outer s H → BindsTo s (ksFn nm qual params (supB msg atn pn j p0 p1 p2 p3 p4 p5 p6 p7 p8 p9) scope dV kV doc pm an (.ref cda) ct cc) args ((["self", pn] : List Str).zip us) → Vals vs us → spSup C atn vs H Q E →
      codeAny (model P w) A (.call (.ref f) args) (CR CX outer P w H s Q E) s := by
  intro A outer s H args us vs Q E hr hcm e0 hb r hsp
  obtain ⟨a, v, rfl, ha, hq⟩ := hsp
  have KX : K.In s.heap := e0.mod.kin.keeps fun b o e => (e0.bs b o e).1
  have lim : s.heap.NoLimit := e0.mod.nolimit.keeps fun b o e => (e0.bs b o e).1
  obtain ⟨oc, od, osl, lk⟩ := F.lk
  obtain ⟨cl, cld, csl, lc⟩ := F.cell
  obtain ⟨ccl, cdd, vs, ccs, file, tf, lo, hvs, hfile⟩ := F.cobj
  obtain ⟨u1, rfl, r1⟩ : ∃ u1, us = [.ref a, u1] ∧ RelV v u1 := by
    cases r with
    | cons x y =>
      cases y with
      | cons x2 y2 =>
        cases y2
        cases x
        exact ⟨_, rfl, x2⟩
  refine ks_codeAny_call_defAt (body := supB msg atn pn j p0 p1 p2 p3 p4 p5 p6 p7 p8 p9) hr.depth (KX _ _ lk) rfl lim (codeRec_of KX F.code) rfl hb S.nocell (fun x hx => ?_) (fun h0 hns kk => ?_) S.co S.gen S.kind
  · obtain ⟨n, z⟩ := x
    have := (List.of_mem_zip hx).1
    simp only [List.mem_cons, List.not_mem_nil, or_false] at this
    rcases this with rfl | rfl
    · exact S.me
    · exact S.par
  have I : L2.Inv (cxS CX P w K mg base qual scope pn f cc (.ref cda) A outer s H E cm) [] [some (.ref a), some v] H { s with heap := h0, toks := s.toks + ((["self", pn] : List Str).zip [Value.ref a, u1]).length } := inv_super (cm := cm) S hcm e0 (v0 := .ref a) (u0 := .ref a) rfl r1 hns kk lc
  have keep : ∀ b o, base.get? b = some o → h0.get? b = some o := fun b o e => kk b o (e0.bs b o e).1
  obtain ⟨mb, nb, hb2⟩ := e0.mod.blt
  have k0 : K.In h0 := e0.mod.kin.keeps keep
  obtain ⟨nm', q', N', bs', bm', sn', sub', ab', col', dd', q0, q1, q2, q3, q5, lC, hbm⟩ := F.oex.cls
  obtain ⟨t1, hx⟩ := exo_at I.hok ha
  cases hcl : clsIn K C with
  | none =>
    have := F.isC
    rw [hcl] at this
    cases this
  | some cdC =>
  obtain ⟨⟨pl, hcall⟩, sw1, star, sw2⟩ := hE s.heap.objs.size
  refine ks_wpAt_execs_cons (ks_wpAt_Expr_any (ks_wpAt_MethodCall (pl := pl) ?_ hcall) I.quiet sw1)
  refine ks_wpAt_super_base (f := f) (cc := cda) S.sup S.cls (by decide) rfl (k0 _ _ lk) rfl hp rfl (k0 _ _ lo) rfl hvs hfile F.top ?_
  refine ks_loadName_global S.kind S.sup (loadGlobal_builtin (e0.mod.glob.keeps keep) hm (nb.keeps keep) ((hb2 _ (by decide +kernel)).trans (show bootBuiltins "super" = some (.type "super") by decide +kernel)) ⟨rfl, ?_⟩)
  refine wpAny_loadName_free S.kind S.cls List.lookup_cons_self ⟨_, k0 _ _ lc, rfl⟩ ?_
  refine wpAny_loadName_local (v := .ref a) S.kind (by rw [har]; exact S.me) hns (by rw [har]; show List.lookup ("self" : Str) [(pn, u1), (("self" : Str), Value.ref a)] = _; rw [List.lookup_cons, beq_eq_false_iff_ne.mpr (Ne.symm S.ne)]; exact List.lookup_cons_self) ?_
  refine ks_wpAny_isType_cls (k0 _ _ lC) rfl ⟨rfl, ?_⟩
  refine ks_wpAny_call_super (k0 _ _ lC) rfl hx rfl (fun c e => nomatch e) (looks_mroIn k0 F.self) (fun h1 e1 k1 => ?_)
  have kk1 : K.In h1 := fun b o e => k1 _ _ (k0 _ _ e)
  have hx1 := k1 _ _ hx
  have inst : InstAt h1 a ({ cls := .ref C, dict := none, data := .fields #[.ref t1, .none, .none, .none, .bool false, .none] } : Obj) C none := ⟨hx1, rfl, rfl, trivial⟩
  have hal := F.sup
  unfold ks_superIn at hal
  rw [hcl] at hal
  refine kxs_getMethod kxs_ValueError e1 (looks_opaque kk1 F.opq) (l₀ := cdC.mro) (fun A Q E s k q => wpAny_bind ((looks_clsIn kk1 hcl) A _ E s k (wpAny_pure q))) rfl kk1 hal (inst.type.andThen (looks_subIn kk1 F.ve)) (ks_ne kk1 inst hcl) (by decide) ?_
  -- the wrapper at u, called
  have up : ∀ b o, h1.get? b = some o → (h1.push (kxs_mw "ValueError.__init__" a)).get? b = some o := fun b o e => Heap.get?_push_of_some _ e
  have hu : (h1.push (kxs_mw "ValueError.__init__" a)).get? h1.objs.size = some (kxs_mw "ValueError.__init__" a) := Heap.get?_push_at rfl rfl
  have kk2 : ∀ b o, h0.get? b = some o → (h1.push (kxs_mw "ValueError.__init__" a)).get? b = some o := fun b o e => up b o (k1 b o e)
  have le1 : h0.objs.size ≤ h1.objs.size := Nat.le_of_lt (Heap.lt_size e1)
  have I2 := I.kept (t' := s.toks + ((["self", pn] : List Str).zip [Value.ref a, u1]).length + 1) kk2
  have I3 := I2.pins_of (pins' := [(h1.objs.size, kxs_mw "ValueError.__init__" a)]) fun p hp => by
    have hp := List.mem_singleton.mp hp
    subst hp
    exact ⟨hu, I.hok.fresh le1, fun e => absurd I.lt (by rw [← e]; exact Nat.not_lt.mpr le1), I.nofs le1, fun v z => nomatch z⟩
  refine kxs_callWith (u := h1.objs.size) (i := "ValueError.__init__") (x := a) ?_ ?_
  · show (backTo p4 (starEach [.Constant (.str msg) j p3] (ksEnv qual scope s.heap.objs.size f (.ref cda) cc))).any (·.1) = false
    rw [star]
    rfl
  show wpAny (model P w) (A.deeper (ksEnv qual scope s.heap.objs.size f (.ref cda) cc)) (evalArgs (.ref h1.objs.size) true (backTo p4 (starEach [.Constant (.str msg) j p3] (ksEnv qual scope s.heap.objs.size f (.ref cda) cc))) []) _ _ _
  rw [star]
  refine evalArgs_plain ?_
  have pa : PA (cxS CX P w K mg base qual scope pn f cc (.ref cda) A outer s H E cm) [.Constant (.str msg) j p3] _ := pa_cons pe_str pa_nil star
  have run := pa.run p4 _ _ _ _ (fun vs H1 => vs = [.str msg] ∧ H1 = H) I3 ⟨rfl, rfl⟩
  rw [show (cxS CX P w K mg base qual scope pn f cc (.ref cda) A outer s H E cm).env = ksEnv qual scope s.heap.objs.size f (.ref cda) cc from rfl, star] at run
  refine thn run fun us s2 ⟨vs2, H2, I4, r4, ev, eH⟩ => ?_
  subst ev
  rw [eH] at I4
  clear eH
  have hp4 := I4.pin (h1.objs.size, kxs_mw "ValueError.__init__" a) (List.mem_append_right _ (List.mem_singleton.mpr rfl))
  refine ⟨hp4.1, ?_⟩
  refine mw_call F.oex I4 hp4.1 ha (by show us.length ≤ sizeLine; rw [← r4.length]; show 1 ≤ sizeLine; decide) fun s3 I5 => ?_
  show PySem.wpAt _ _ _ _ _ _ _
  refine wpAt_of_wpAny ?_
  have hs : PS (cxS CX P w K mg base qual scope pn f cc (.ref cda) A outer s H E cm) (.Assign [.Attribute (.Name "self" p6) atn p7] (.Name pn p8) p9) _ := ps_ost (pe_var (i := 0) rfl (.inl S.me)) (pe_var (i := 1) rfl (.inl S.par) S.nd S.ncd) sw2
  have hss := pss_cons hs pss_nil
  have I6 : L2.Inv (cxS CX P w K mg base qual scope pn f cc (.ref cda) A outer s H E cm) [] [some (.ref a), some v] H s3 := I5.pins_of fun p hp => absurd hp List.not_mem_nil
  have run2 := hss.run [] s3 _ H { nx := fun _ H' => Q .non H', rt := fun _ _ => False, bk := fun _ _ => False, ct := fun _ _ => False } I6 ?_
  · refine wpAny_mono run2 (fun fl s4 h4 => ?_) (fun _ _ z => z)
    cases fl with
    | next =>
      obtain ⟨σ', H', J, q⟩ := h4
      exact ⟨.non, H', J.os, J.bare, J.base, J.hok, rfl, q⟩
    | ret u =>
      obtain ⟨_, _, _, _, _, z⟩ := h4
      exact z.elim
    | _ =>
      obtain ⟨_, _, _, z⟩ := h4
      exact z.elim
  · exact ⟨v, rfl, .ref a, rfl, a, C, rfl, F.oex, F.nat, .inl ⟨ha, fun d hd hne => hq d hd hne⟩⟩
theorem fn_super {k : Nat} {nm : Str} {params : Arguments} {dV kV doc pm ct : Value} {an : Option Addr} {cda : Addr} {atn msg : Str} {j : Nat} {p0 p1 p2 p3 p4 p5 p6 p7 p8 p9 : Pos} (S : SupS scope pn)
    (hm : mg "super" = none) {ar : Arg} (hp : (params.posonlyargs ++ params.args).head? = some ar) (har : ar.arg = "self") (hE : ∀ L, SupE (ksEnv qual scope L f (.ref cda) cc) msg atn pn j p0 p1 p2 p3 p4 p5 p6 p7 p8 p9)
    (F : SupF P K C f cc cda (ksFn nm qual params (supB msg atn pn j p0 p1 p2 p3 p4 p5 p6 p7 p8 p9) scope dV kV doc pm an (.ref cda) ct cc) scope qual pn atn) :
    FnOk P w K mg base CX (k + 1) f (ksFn nm qual params (supB msg atn pn j p0 p1 p2 p3 p4 p5 p6 p7 p8 p9) scope dV kV doc pm an (.ref cda) ct cc) ["self", pn] (spSup C atn) :=
  ⟨fun vs H Q E h => by
    obtain ⟨a, v, rfl, _⟩ := h
    rfl, fun A outer s H args us vs Q E hr e0 hb r hsp => run_super (cm := true) S hm hp har hE F A outer s H args us vs Q E ⟨hr.dp, hr.un⟩ (fun _ => hr.hd) e0 hb r hsp⟩
/-- the same while an exception is handled -/
theorem fn_superH {k : Nat} {nm : Str} {params : Arguments} {dV kV doc pm ct : Value} {an : Option Addr} {cda : Addr} {atn msg : Str} {j : Nat} {p0 p1 p2 p3 p4 p5 p6 p7 p8 p9 : Pos} (S : SupS scope pn)
    (hm : mg "super" = none) {ar : Arg} (hp : (params.posonlyargs ++ params.args).head? = some ar) (har : ar.arg = "self") (hE : ∀ L, SupE (ksEnv qual scope L f (.ref cda) cc) msg atn pn j p0 p1 p2 p3 p4 p5 p6 p7 p8 p9)
    (F : SupF P K C f cc cda (ksFn nm qual params (supB msg atn pn j p0 p1 p2 p3 p4 p5 p6 p7 p8 p9) scope dV kV doc pm an (.ref cda) ct cc) scope qual pn atn) :
    L2H.FnH P w K mg base CX (k + 1) f (ksFn nm qual params (supB msg atn pn j p0 p1 p2 p3 p4 p5 p6 p7 p8 p9) scope dV kV doc pm an (.ref cda) ct cc) ["self", pn] (spSup C atn) :=
  ⟨fun vs H Q E h => by
    obtain ⟨a, v, rfl, _⟩ := h
    rfl, fun A outer s H args us vs Q E _ hr _ _ e0 hb r hsp => run_super (cm := false) S hm hp har hE F A outer s H args us vs Q E hr (fun z => nomatch z) e0 hb r hsp⟩
end
end DLX

/-! ### exceptions with an attribute: raised, caught, read -/
namespace DLX
open PySem PySem.Spec PyProof.Rows L2
section
variable {X : Cx} {CX : CXT} {x : Str} {e : Expr} {es : List Expr} {ta : TA} {p pos : Pos} {C fI : Addr} {k : Nat} {fd : FuncData} {ps : List Str} {sp : Sp}
/-- C(e, ..), a class of one's own with an own __init__, where nothing is handled: the context of what is made is None -/
theorem pmk_oexN (T : OexC X.K C) (iC : PySem.W.findIn X.K (.ref C) "__init__" = some (some (.ref fI))) (tI : PySem.W.typeIn X.K (.ref fI) = some (.type "function")) (F1 : FnOk X.prog X.w X.K X.mg X.base CX k fI fd ps sp) (hr : Room (k + 1) X.A) (hb : Binds X.K fd ps [])
    (hx : Passes CX X (fun _ _ _ => False)) (hg : Gl X x) (hm : X.mg x = some (.ref C)) (ha : PA X (e :: es) ta) (hdb : (x == ("__debug__" : Str)) = false := by decide)
    (he : starEach (e :: es) X.env = (false, eval e X.env) :: starEach es X.env := by rfl) (hpl : (backTo pos (starEach es X.env)).any (·.1) = false := by rfl) : L2N.PMk X (.Call (.Name x p) (e :: es) [] pos) (tMkO C sp [] ta) := fun pins s σ H Q I h =>
  wpAny_Call_Name_kw (ld_glob I hg hm (PySem.W.callWith_K (h₀ := X.base) I.ok.mod.kin T.kC (thn (ha.run pos pins s σ H _ I h) fun us s1 y => by
    obtain ⟨vs, H1, J, r, small, q⟩ := y
    refine ⟨J.kIn, ?_⟩
    obtain ⟨_, _, _, _, bm, _, _, _, _, _, _, _, _, _, _, cls, ve⟩ := T.cls
    obtain ⟨hp, gn, dr, tk, os⟩ := s1
    have up : ∀ b o, hp.get? b = some o → ((hp.push (PySem.W.kdv_tup us)).push (PySem.HandSPX.excO C hp.objs.size)).get? b = some o := fun b o z => Heap.get?_push_of_some _ (Heap.get?_push_of_some _ z)
    have at1 : ((hp.push (PySem.W.kdv_tup us)).push (PySem.HandSPX.excO C hp.objs.size)).get? (hp.objs.size + 1) = some (PySem.HandSPX.excO C hp.objs.size) := by heap_get
    have q1 := q (hp.objs.size + 1) (J.hok.fresh (Nat.le_succ _))
    rw [List.append_nil] at q1
    have J2 := J.laid (t' := tk) (a := hp.objs.size + 1) (o := exo (hp.objs.size + 1) C none) (h' := (hp.push (PySem.W.kdv_tup us)).push (PySem.HandSPX.excO C hp.objs.size)) up (Nat.le_succ _) (exo_ok at1)
    have r2 : Vals (V.ref (hp.objs.size + 1) :: vs) (Value.ref (hp.objs.size + 1) :: us) := .cons rfl r
    have len : (Value.ref (hp.objs.size + 1) :: us ++ []).length = ps.length := by
      have z := r2.length
      rw [F1.len _ _ _ _ q1] at z
      rw [List.append_nil]
      exact z.symm
    have bb := hb _ (Value.ref (hp.objs.size + 1) :: us) J2.kIn len
    rw [List.append_nil] at bb
    have room : us.length ≤ sizeLine := by
      have z := Paired.length r
      rw [sizeLine_eq]
      omega
    refine wpAny_call (PySem.HandSPX.call_own F.excBase_ValueError (fun Y => PySem.HandSPX.refsVE_contains Y bm ve) (J.kIn _ _ cls) (PySem.W.looks_findIn J.kIn iC) (fun self => PySem.W.bind_fn J.kIn self tI) room
      (codeAny_mono (F1.run _ X.stack _ _ ⟨Value.ref (hp.objs.size + 1) :: us, []⟩ (Value.ref (hp.objs.size + 1) :: us) _ _ (fun _ _ _ => False) (hr.make C us []) (J2.env0.make C us []) bb r2 q1) fun fl s2 z => ?_))
    cases fl with
    | error w => exact hx pins σ _ _ w s2 J2 z
    | ok fl =>
      cases fl with
      | ret u =>
        obtain ⟨v, H2, oseq, bare, un, ok2, rv, ev, d, fs, ea, ed, hd1, q2⟩ := z
        subst ev
        obtain ⟨h2, g2, d2, t2, os2⟩ := s2
        obtain ⟨t0, G, J3, kG, ge, hoe, na⟩ := mk_end0 (d2 := d2) (t2 := t2) J (Nat.le_succ _) up un ok2 oseq bare ea ed hd1
        exact ⟨rv, hp.objs.size + 1, _, _, ⟨G, g2, d2, t2, os2⟩, _, .ref C, some d, rfl, J3, kG, ge, hoe, ⟨rfl, rfl, fun vs hv => by cases hv; rfl⟩, rfl, rfl, na, rfl, bare, raises_own T.exC T.tyC, q2⟩
      | _ => exact False.elim z) he hpl) hdb)
end
end DLX
namespace DL
open PySem L2 DLX
open Evl (Ex)
def vRaiseA (C : Addr) (atn : Str) (PXF : DXF) (te : VE) : VS := fun _ ρ m => te ρ m fun d m1 => PXF ρ C [atn] [d] m1
theorem us_raiseA {X : Cx} {B : Bs} {W : WX} {PXF : DXF} {x pn atn : Str} {C fI : Addr} {k : Nat} {fd : FuncData} {e : Expr} {te : VE} {p pos pos' : Pos} (hc : X.calm = true) (tk : L2N.Takes X W) (wh : WshF X.K B PXF W)
    (T : OexC X.K C) (iC : PySem.W.findIn X.K (.ref C) "__init__" = some (some (.ref fI))) (tI : PySem.W.typeIn X.K (.ref fI) = some (.type "function")) (F1 : FnOk X.prog X.w X.K X.mg X.base CX0 k fI fd ["self", pn] (spSup C atn)) (hr : Room (k + 1) X.A)
    (hb : Binds X.K fd ["self", pn] []) (hx : Passes CX0 X (fun _ _ _ => False)) (hg : Gl X x) (hm : X.mg x = some (.ref C)) (he : UE X B e te) (hdb : (x == ("__debug__" : Str)) = false := by decide)
    (hs : starEach [e] X.env = (false, eval e X.env) :: starEach [] X.env := by rfl) (hpl : (backTo pos' (starEach [] X.env)).any (·.1) = false := by rfl) :
    US X B (.Raise (some (.Call (.Name x p) [e] [] pos')) none pos) (vRaiseA C atn PXF te) :=
  ⟨(L2N.ps_raise hc tk (pmk_oexN T iC tI F1 hr hb hx hg hm (ua_cons he ua_nil hs).pa hdb hs hpl)).weak fun D σ H h => by
    obtain ⟨G, ρ, m, E, e0, s, t, _⟩ := h
    refine ⟨G, ρ, m, fun ds m1 => match ds with | [d] => PXF ρ C [atn] [d] m1 | _ => False, e0, s, t, fun ds m1 G1 vs H1 q1 e1 s1 r1 => ?_⟩
    dsimp only at q1
    split at q1
    case h_2 => exact q1.elim
    · rename_i d
      have q := q1
      obtain ⟨v, rfl, r⟩ := r1.one
      refine ⟨by show 1 ≤ 1000; decide, fun a ha => ⟨a, v, rfl, upd_same, fun dx hd hne => ?_⟩⟩
      have hd1 : H1 dx = none := by rw [upd_ne hne] at hd; exact hd
      refine ⟨rfl, dx, [(atn, v)], upd_same, (upd_ne hne).trans upd_same, hd1, ?_⟩
      have eH : upd (del (upd (upd (upd H1 a (exo a C none)) dx (exd dx [(atn, v)])) a (exo a C (some dx))) a) dx (.xd [(atn, v)]) = upd H1 dx (.xd [(atn, v)]) := by
        funext b
        by_cases hb : b = dx
        · subst hb; rw [upd_same, upd_same]
        · rw [upd_ne hb, upd_ne hb]
          by_cases hba : b = a
          · subst hba; rw [del_same, ha]
          · rw [del_ne hba, upd_ne hba, upd_ne hb, upd_ne hba]
      rw [eH]
      obtain ⟨e2, s2⟩ := s1.newG hd1 (.xd [(atn, v)])
      exact wh ρ C [atn] [d] m1 _ σ _ (some dx) q ((e0.trans e1).trans e2) ⟨s.fr.mono (e1.trans e2).ex, s2⟩ (.inr ⟨dx, _, by simp, rfl, upd_same, rfl, .cons (r.mono e2.ex) .nil⟩)⟩
/-- the dict that the exception's attributes stand in -/
def XDat (K : PySem.W.Frag) (G : Hp) (atn : Str) (d : D) (dd : Addr) : Prop := ∃ v, G dd = some (.xd [(atn, v)]) ∧ Dn K G d v
/-- try: body / except c as n: suite; what the body may raise is of the class C0, with the attribute atn -/
def vTryA (i : Nat) (C0 : Addr) (atn : Str) (tb : DXF → VS) (ts : Addr → D → VS) : VS := fun E ρ m => tb (fun ρ' C ks ds m' => C = C0 ∧ ∃ d, ks = [atn] ∧ ds = [d] ∧ ∀ a, m' a = none →
  ts a d { nx := fun ρ2 m2 => E.nx (fwipe.fdel ρ2 i) m2, rt := E.rt, bk := fun ρ2 m2 => E.bk (fwipe.fdel ρ2 i) m2, ct := fun ρ2 m2 => E.ct (fwipe.fdel ρ2 i) m2 } (fset ρ' i (.adr a)) m') E ρ m
theorem us_tryA {X : Cx} {B : Bs} {i : Nat} {x n atn : Str} {c : Value} {C0 : Addr} {body suite : List Stmt} {b₀ : Stmt} {np pos pos' : Pos} {tb : DXF → VS} {ts : Addr → D → VS}
    (hs : X.stack = X.env :: X.outer) (hf : X.env.frame = some X.env.locals) (hN : X.N.Nodup) (hi : X.N[i]? = some n) (hln : X.env.kindOf n = some .local) (hc : Names X x c) (hm : PySem.W.exmOne X.K (.ref C0) c = some true)
    (hb : ∀ (B : Bs) (PXF : DXF) (W : WX) (pn : List (Addr × Obj)) (xe : Value → Shared → Prop), L2N.Takes (X.tr pn xe) W → WshF X.K B PXF W → USs (X.tr pn xe) B body (tb PXF))
    (hsu : ∀ (B : Bs) (a : Addr) (oe : Obj) (pn : List (Addr × Obj)) (dd : Addr) (d : D), Zc (.ref C0) (some dd) oe → (∃ vs, oe.data = .fields vs) → XDat X.K B.G atn d dd → L2H.HotC (X.suite a ((a, oe) :: pn)) → USs (X.suite a ((a, oe) :: pn)) B (b₀ :: suite) (ts a d)) :
    US X B (.Try body [.ExceptHandler (some (.Name x np)) (some n) (b₀ :: suite) pos'] [] [] pos) (vTryA i C0 atn tb ts) :=
  ⟨PS.weak (L2N.ps_try_as (Wout := fun _ _ _ _ => False) (tb := fun W D σ H => ∃ (B : Bs) (PXF : DXF), WshF X.K B PXF W ∧ lowS X.K B (tb PXF) D σ H)
      (ts := fun a cls dx D' σ H => cls = .ref C0 ∧ ∃ (dd : Addr) (d : D) (B : Bs), dx = some dd ∧ XDat X.K B.G atn d dd ∧ lowS X.K B (ts a d) D' σ H) hs hf hN hi hln hc takes_no
      (fun W pn xe tk _ => ⟨fun pins s σ H D I h => by
        obtain ⟨B, PXF, wh, h⟩ := h
        exact (hb B PXF W pn xe tk wh).ps.run pins s σ H D I h⟩)
      (fun a oe cls dx pn hz hv => ⟨fun pins s σ H D I h => by
        obtain ⟨rfl, dd, d, B, rfl, hx, h⟩ := h
        exact (hsu B a oe pn dd d hz.zc hv hx ⟨(a, oe), ⟨rfl, hv.elim fun vs e => ⟨vs, e, hz.2.2 vs e⟩⟩, List.mem_cons_self⟩).ps.run pins s σ H D I h⟩)) fun D σ H h => by
    obtain ⟨G, ρ, m, E, e0, s, t, k1, k2, k3, k4⟩ := h
    refine ⟨⟨G, m, H⟩, _, ?_, G, ρ, m, E, Stp.refl, s, t, k1, k2, k3, k4⟩
    rintro ρ' C ks ds m' G' σ' H' ox ⟨rfl, d, rfl, rfl, hts⟩ e1 s1 xr
    have e1 : Stp G m H G' m' H' := e1
    obtain ⟨dd, v, rfl, hx⟩ : ∃ (dd : Addr) (v : V), ox = some dd ∧ G' dd = some (.xd [(atn, v)]) ∧ Dn X.K G' d v := by
      rcases xr with ⟨z, _, _⟩ | ⟨dd, fs, _, z, h1, h2, h3⟩
      · cases z
      · match fs, h2, h3 with
        | [(f, v)], h2, h3 =>
          simp only [List.map_cons, List.map_nil, List.cons.injEq, and_true] at h2
          subst h2
          cases h3 with
          | cons r _ => exact ⟨dd, v, z, h1, r⟩
    refine ⟨true, hm, fun _ a ha => ⟨rfl, dd, d, ⟨G', m', H'⟩, rfl, ⟨v, hx⟩, G', fset ρ' i (.adr a), m', _, Stp.refl, ⟨s1.fr.set (.adr a) i, s1.ms⟩, hts a (s1.ms.free ha).2, ?_, ?_, ?_, ?_⟩, fun z => nomatch z⟩
    · intro ρ2 m2 G2 σ2 H2 q e2 s2
      exact k1 _ m2 G2 _ H2 q (e1.trans e2) ⟨FrR.del i none s2.fr, s2.ms⟩
    · intro d m2 G2 v H2 q e2 s2 r2
      exact k2 d m2 G2 v H2 q (e1.trans e2) s2 r2
    · intro ρ2 m2 G2 σ2 H2 q e2 s2
      exact k3 _ m2 G2 _ H2 q (e1.trans e2) ⟨FrR.del i none s2.fr, s2.ms⟩
    · intro ρ2 m2 G2 σ2 H2 q e2 s2
      exact k4 _ m2 G2 _ H2 q (e1.trans e2) ⟨FrR.del i none s2.fr, s2.ms⟩⟩
/-- e.at -/
def vXf (a : Addr) (d : D) (te : VE) : VE := fun ρ m Q => te ρ m fun x m1 => x = .adr a ∧ Q d m1
theorem ue_xf {X : Cx} {B : Bs} {a C dd : Addr} {oe : Obj} {pn : List (Addr × Obj)} {e : Expr} {te : VE} {pos : Pos} {atn : Str} {d : D} (T : XfC X.K C) (hno : PySem.W.findIn X.K (.ref C) atn = some none) (hz : Zc (.ref C) (some dd) oe) (hf : ∃ vs, oe.data = .fields vs) (hx : XDat X.K B.G atn d dd)
    (he : UE (X.suite a ((a, oe) :: pn)) B e te) (hb : attributeBase e atn X.env (eval e X.env) = eval e X.env := by rfl) : UE (X.suite a ((a, oe) :: pn)) B (.Attribute e atn pos) (vXf a d te) :=
  ⟨(pe_xf T hno hz hf he.pe hb).weak fun σ H Q h => by
    obtain ⟨G, ρ, m, P, e0, s, t, k⟩ := h
    obtain ⟨v, hd, r⟩ := hx
    refine ⟨G, ρ, m, _, e0, s, t, fun x m1 G1 v1 H1 q1 e1 s1 r1 => ?_⟩
    obtain ⟨rfl, q1⟩ := q1
    cases r1
    have ex := (e0.trans e1).ex
    exact ⟨rfl, rfl, dd, _, v, rfl, s1.ex _ _ (ex _ _ hd), by simp [List.lookup], k d m1 G1 v H1 q1 e1 s1 (r.mono ex)⟩⟩
/-- isinstance(e, C1), isinstance(e, (C1, ..)), e with or without an attribute -/
theorem inst_of {X : Cx} {pins : List (Addr × Obj)} {σ : L2.St} {H : Hp} {s : Shared} {a D : Addr} {ox : Option Addr} {oe : Obj} {pn : List (Addr × Obj)} (I : L2.Inv (X.suite a ((a, oe) :: pn)) pins σ H s) (hz : Zc (.ref D) ox oe) (hf : ∃ vs, oe.data = .fields vs)
    (hx : ox = none ∨ ∃ dd fs, ox = some dd ∧ H dd = some (.xd fs)) : ∃ od, PySem.W.InstAt s.heap a oe D od := by
  obtain ⟨hget, _⟩ := I.pin (a, oe) (List.mem_append.mpr (.inl List.mem_cons_self))
  obtain ⟨vs, hv⟩ := hf
  rcases hx with rfl | ⟨dd, fs, rfl, hd⟩
  · exact ⟨none, hget, hz.1, by unfold PySem.W.notCls; rw [hv] <;> rfl, by rw [hz.2]; exact trivial⟩
  · have hx : ObjOk X.prog X.w H s.heap dd (.xd fs) := I.hok dd _ hd
    obtain ⟨mA, hns, _⟩ := hx
    obtain ⟨o, es, ep, ho, _⟩ := hns
    exact ⟨some o, hget, hz.1, by unfold PySem.W.notCls; rw [hv] <;> rfl, by rw [hz.2]; exact ho⟩
theorem kit_of_exc {K : PySem.W.Frag} {a D : Addr} {oe : Obj} {od : Option Obj} (T : ExcC K D) : PySem.W.KitX K (.ref a) (.ref D) (fun h => PySem.W.InstAt h a oe D od) :=
  PySem.W.kitx_exc (by obtain ⟨cd, hc, _⟩ := PySem.W.any_some T.hd; rw [hc]; rfl) T.hg T.hk T.hs T.ha T.hn T.ht T.hm
def XDat' (G : Hp) (ox : Option Addr) : Prop := ox = none ∨ ∃ dd fs, ox = some dd ∧ G dd = some (.xd fs)
theorem XDat.p {K : PySem.W.Frag} {G : Hp} {atn : Str} {d : D} {dd : Addr} (h : XDat K G atn d dd) : XDat' G (some dd) := by
  obtain ⟨v, h, _⟩ := h
  exact .inr ⟨dd, _, rfl, h⟩
theorem XDat'.no {G : Hp} : XDat' G none := .inl rfl
def vIsA (a C1 : Addr) (b : Bool) (te tc : VE) : VE := fun ρ m Q => te ρ m fun x m1 => tc ρ m1 fun y m2 => x = .adr a ∧ y = .adr C1 ∧ Q (.bl b) m2
theorem call_isA {X : Cx} {a D : Addr} {ox : Option Addr} {oe : Obj} {pn : List (Addr × Obj)} (T : ExcC X.K D) (hz : Zc (.ref D) ox oe) (hf : ∃ vs, oe.data = .fields vs) : CallR (X.suite a ((a, oe) :: pn)) (.builtin "isinstance")
    (fun xs H Q => XDat' H ox ∧ ((∃ (C1 : Addr) (b : Bool), xs = [.ref a, .ref C1] ∧ PySem.W.kitOne X.K (.ref D) (.ref C1) = some b ∧ Q (.bl b) H) ∨
      ∃ (tp : Addr) (Cs : List Addr) (b : Bool), xs = [.ref a, .ref tp] ∧ SqT X.K H tp (Cs.map V.ref) ∧ PySem.W.kitAny X.K (.ref D) (Cs.map Value.ref) = some b ∧ Q (.bl b) H)) := by
  intro pins s σ H xs us Q I r h
  obtain ⟨hx, h⟩ := h
  obtain ⟨od, J⟩ := inst_of I hz hf hx
  rcases h with ⟨C1, b, rfl, e, q⟩ | ⟨tp, Cs, b, rfl, hT, e, q⟩
  · cases r with
    | cons rx rr =>
      cases rr with
      | cons rt rr =>
        cases rr
        cases rx
        cases rt
        exact PySem.W.kia_one (kit_of_exc T) I.kIn J e (fun z => nomatch z) fun tk => ⟨.bl b, H, I.tok tk, rfl, q⟩
  · cases r with
    | cons rx rr =>
      cases rr with
      | cons rt rr =>
        cases rr
        cases rx
        cases rt
        obtain ⟨its, rv, ⟨o, h1, h2, n, h3⟩, hle⟩ := I.tuple hT
        clear hle
        have e3 : its = Cs.map Value.ref := by
          clear e h1 h2 h3 hT
          induction Cs generalizing its with
          | nil => cases rv; rfl
          | cons c cs ih =>
            cases rv with
            | cons x y =>
              cases x
              rw [ih _ y]
              rfl
        subst e3
        obtain ⟨oc, od2, dt, sl⟩ := o
        simp only at h2 h3
        subst h2 h3
        exact PySem.W.kia_tup (kit_of_exc T) I.kIn J h1 e (fun z => nomatch z) fun tk => ⟨.bl b, H, I.tok tk, rfl, q⟩
theorem ue_isA {X : Cx} {B : Bs} {a D C1 : Addr} {ox : Option Addr} {oe : Obj} {pn : List (Addr × Obj)} {e c : Expr} {te tc : VE} {p pos : Pos} {b : Bool} (T : ExcC X.K D) (hz : Zc (.ref D) ox oe) (hf : ∃ vs, oe.data = .fields vs) (hx : XDat' B.G ox) (kt : PySem.W.kitOne X.K (.ref D) (.ref C1) = some b)
    (hg : Gl X "isinstance") (hm : X.mg "isinstance" = none) (hb : bootBuiltins "isinstance" = some (.builtin "isinstance")) (he : UE (X.suite a ((a, oe) :: pn)) B e te) (hc : UE (X.suite a ((a, oe) :: pn)) B c tc)
    (h1 : starEach [e, c] X.env = (false, eval e X.env) :: starEach [c] X.env := by rfl) (hpl : (backTo pos (starEach [c] X.env)).any (·.1) = false := by rfl) (h2 : starEach [c] X.env = (false, eval c X.env) :: starEach [] X.env := by rfl) :
    UE (X.suite a ((a, oe) :: pn)) B (.Call (.Name "isinstance" p) [e, c] [] pos) (vIsA a C1 b te tc) :=
  ⟨(pe_callB (X := X.suite a ((a, oe) :: pn)) (x := "isinstance") (id := "isinstance") (call_isA T hz hf) hg hm hb (pa_cons he.pe (pa_cons hc.pe pa_nil h2) h1) (by decide) (by decide) h1 hpl).weak fun σ H Q h => by
    obtain ⟨G, ρ, m, P, e0, s, t, k⟩ := h
    refine ⟨G, ρ, m, _, e0, s, t, fun x m1 G1 v1 H1 q1 e1 s1 r1 => ?_⟩
    refine ⟨G1, ρ, m1, _, e0.trans e1, ⟨s.fr.mono e1.ex, s1⟩, q1, fun y m2 G2 v2 H2 q2 e2 s2 r2 => ?_⟩
    obtain ⟨rfl, rfl, q⟩ := q2
    cases r1
    cases r2
    refine ⟨?_, .inl ⟨C1, b, rfl, kt, k _ m2 G2 _ H2 q (e1.trans e2) s2 (.bl b)⟩⟩
    rcases hx with z | ⟨dd, fs, z, hd⟩
    · exact .inl z
    · exact .inr ⟨dd, fs, z, s2.ex _ _ (((e0.trans e1).trans e2).ex _ _ hd)⟩⟩
def vIsAT (a : Addr) (Cs : List Addr) (b : Bool) (te tc : VE) : VE := fun ρ m Q => te ρ m fun x m1 => tc ρ m1 fun y m2 => x = .adr a ∧ y = .tup (Cs.map DL.D.adr) ∧ Q (.bl b) m2
theorem ue_isAT {X : Cx} {B : Bs} {a D : Addr} {Cs : List Addr} {ox : Option Addr} {oe : Obj} {pn : List (Addr × Obj)} {e c : Expr} {te tc : VE} {p pos : Pos} {b : Bool} (T : ExcC X.K D) (hz : Zc (.ref D) ox oe) (hf : ∃ vs, oe.data = .fields vs) (hx : XDat' B.G ox) (kt : PySem.W.kitAny X.K (.ref D) (Cs.map Value.ref) = some b)
    (hg : Gl X "isinstance") (hm : X.mg "isinstance" = none) (hb : bootBuiltins "isinstance" = some (.builtin "isinstance")) (he : UE (X.suite a ((a, oe) :: pn)) B e te) (hc : UE (X.suite a ((a, oe) :: pn)) B c tc)
    (h1 : starEach [e, c] X.env = (false, eval e X.env) :: starEach [c] X.env := by rfl) (hpl : (backTo pos (starEach [c] X.env)).any (·.1) = false := by rfl) (h2 : starEach [c] X.env = (false, eval c X.env) :: starEach [] X.env := by rfl) :
    UE (X.suite a ((a, oe) :: pn)) B (.Call (.Name "isinstance" p) [e, c] [] pos) (vIsAT a Cs b te tc) :=
  ⟨(pe_callB (X := X.suite a ((a, oe) :: pn)) (x := "isinstance") (id := "isinstance") (call_isA T hz hf) hg hm hb (pa_cons he.pe (pa_cons hc.pe pa_nil h2) h1) (by decide) (by decide) h1 hpl).weak fun σ H Q h => by
    obtain ⟨G, ρ, m, P, e0, s, t, k⟩ := h
    refine ⟨G, ρ, m, _, e0, s, t, fun x m1 G1 v1 H1 q1 e1 s1 r1 => ?_⟩
    refine ⟨G1, ρ, m1, _, e0.trans e1, ⟨s.fr.mono e1.ex, s1⟩, q1, fun y m2 G2 v2 H2 q2 e2 s2 r2 => ?_⟩
    obtain ⟨rfl, rfl, q⟩ := q2
    cases r1
    cases r2 with
    | tup hs hall =>
      refine ⟨?_, .inr ⟨_, Cs, b, rfl, ?_, kt, k _ m2 G2 _ H2 q (e1.trans e2) s2 (.bl b)⟩⟩
      · rcases hx with z | ⟨dd, fs, z, hd⟩
        · exact .inl z
        · exact .inr ⟨dd, fs, z, s2.ex _ _ (((e0.trans e1).trans e2).ex _ _ hd)⟩
      · have : ∀ {Cs : List Addr} {xs : List V}, DnAll X.K G2 (Cs.map DL.D.adr) xs → xs = Cs.map V.ref := fun {Cs} => by
          induction Cs with
          | nil => intro xs h; cases h; rfl
          | cons c cs ih =>
            intro xs h
            cases h with
            | cons x y =>
              cases x
              rw [ih y]
              rfl
        rw [← this hall]
        exact Evl.ex_t s2.ex hs⟩
end DL

namespace DLX
open PySem L2 PySem.W
structure SupT (P : Program) (K : PySem.W.Frag) (C f : Addr) (fd : FuncData) (st : Stmt) (qual pn atn : Str) : Prop where
  ex : ∃ (nm : Str) (cc cda : Addr) (kV doc pm ct : Value) (an : Option Addr), fd = ksFn nm qual (defArgs st) (defBody st) (defScope st) .none kV doc pm an (.ref cda) ct cc ∧ SupF P K C f cc cda fd (defScope st) qual pn atn
  ic : findIn K (.ref C) "__init__" = some (some (.ref f))
  ti : typeIn K (.ref f) = some (.type "function")
section
variable {P : Program} {w : World} {K : PySem.W.Frag} {mg : Str → Option Value} {base : Heap} {CX : CXT} {C f : Addr} {fd : FuncData} {st : Stmt} {qual pn atn msg : Str} {k j : Nat} {p0 p1 p2 p3 p4 p5 p6 p7 p8 p9 : Pos}
theorem SupT.oex (h : SupT P K C f fd st qual pn atn) : OexC K C := by
  obtain ⟨nm, cc, cda, kV, doc, pm, ct, an, rfl, F⟩ := h.ex
  exact F.oex
theorem SupT.nat (h : SupT P K C f fd st qual pn atn) : findIn K (.ref C) atn = some none := by
  obtain ⟨nm, cc, cda, kV, doc, pm, ct, an, rfl, F⟩ := h.ex
  exact F.nat
theorem sup_ok (h : SupT P K C f fd st qual pn atn) (hB : defBody st = supB msg atn pn j p0 p1 p2 p3 p4 p5 p6 p7 p8 p9) (S : SupS (defScope st) pn) (hm : mg "super" = none) {ar : Arg} (hp : ((defArgs st).posonlyargs ++ (defArgs st).args).head? = some ar) (har : ar.arg = "self")
    (hE : ∀ (L f cda cc : Addr), SupE (ksEnv qual (defScope st) L f (.ref cda) cc) msg atn pn j p0 p1 p2 p3 p4 p5 p6 p7 p8 p9) : FnOk P w K mg base CX (k + 1) f fd ["self", pn] (spSup C atn) := by
  obtain ⟨nm, cc, cda, kV, doc, pm, ct, an, rfl, F⟩ := h.ex
  rw [hB] at F ⊢
  exact fn_super S hm hp har (fun L => hE L f cda cc) F
theorem sup_okH (h : SupT P K C f fd st qual pn atn) (hB : defBody st = supB msg atn pn j p0 p1 p2 p3 p4 p5 p6 p7 p8 p9) (S : SupS (defScope st) pn) (hm : mg "super" = none) {ar : Arg} (hp : ((defArgs st).posonlyargs ++ (defArgs st).args).head? = some ar) (har : ar.arg = "self")
    (hE : ∀ (L f cda cc : Addr), SupE (ksEnv qual (defScope st) L f (.ref cda) cc) msg atn pn j p0 p1 p2 p3 p4 p5 p6 p7 p8 p9) : L2H.FnH P w K mg base CX (k + 1) f fd ["self", pn] (spSup C atn) := by
  obtain ⟨nm, cc, cda, kV, doc, pm, ct, an, rfl, F⟩ := h.ex
  rw [hB] at F ⊢
  exact fn_superH S hm hp har (fun L => hE L f cda cc) F
theorem SupT.binds (h : SupT P K C f fd st qual pn atn) (hb : ∀ (nm : Str) (cc cda : Addr) (kV doc pm ct : Value) (an : Option Addr) (us : List Value), us.length = 2 → bindArgs (ksFn nm qual (defArgs st) (defBody st) (defScope st) .none kV doc pm an (.ref cda) ct cc) ⟨us, []⟩ = pure ((["self", pn] : List Str).zip us)) : Binds K fd ["self", pn] [] := by
  obtain ⟨nm, cc, cda, kV, doc, pm, ct, an, rfl, F⟩ := h.ex
  exact .all fun us hl => hb nm cc cda kV doc pm ct an us hl
theorem sup_mk {nm : Str} {cc cda : Addr} {kV doc pm ct oc cl ccl : Value} {an od cld cdd : Option Addr} {osl csl ccs : Array (Option Value)} {vs : Array Value} {file : Str} {tf : Tok}
    {n0 n1 : Str} {n2 : Addr} {n3 bm : List Value} {n5 : List Str} {n6 : List Value} {n7 : Bool} {n8 : Option Bool} {n9 : Option Addr} {m0 m1 m2 m3 m5 : Option Value}
    (lk : K.lookup f = some ⟨oc, od, .func (ksFn nm qual (defArgs st) (defBody st) (defScope st) .none kV doc pm an (.ref cda) ct cc), osl⟩) (code : codeIn K (.ref cda) qual = true) (lc : K.lookup cc = some ⟨cl, cld, .cell (some (.ref C)), csl⟩)
    (lo : K.lookup cda = some ⟨ccl, cdd, .fields vs, ccs⟩) (hvs : vs[2]? = some (.str file tf)) (hfile : ((P.main.file : Str) == file) = true) (top : (P.main.scope.names.lookup ("super" : Str)).isSome = false) (opq : nsIn K cStatics "thirdparty.any" = some none)
    (sup : ks_superIn K C C "__init__" = some (some (.builtin "ValueError.__init__"))) (ve : subIn K (.ref C) (.type "ValueError") = some true) (hd : hasDictIn K C = true) (self : mroIn K C (.ref C) = some true) (nat : findIn K (.ref C) atn = some none)
    (lC : K.lookup C = some (excClassObj n0 n1 C n2 n3 bm true n5 n6 n7 n8 n9 m0 m1 m2 m3 m5 "ValueError.__new__")) (hbm : PySem.HandSPX.refsVE bm = true) (sa : findIn K (.ref C) "__setattr__" = some (some (.builtin "object.__setattr__")))
    (exC : subIn K (.ref C) (.type "BaseException") = some true) (tyC : typeIn K (.ref C) = some (.type "type")) (kC : keepIn K (.ref C) = true) (ic : findIn K (.ref C) "__init__" = some (some (.ref f))) (ti : typeIn K (.ref f) = some (.type "function")) :
    SupT P K C f (ksFn nm qual (defArgs st) (defBody st) (defScope st) .none kV doc pm an (.ref cda) ct cc) st qual pn atn :=
  ⟨⟨nm, cc, cda, kV, doc, pm, ct, an, rfl, ⟨⟨_, _, _, lk⟩, code, ⟨_, _, _, lc⟩, ⟨_, _, vs, _, file, tf, lo, hvs, hfile⟩, top, opq, sup, ve, by obtain ⟨cd, hc, _⟩ := any_some hd; rw [hc]; rfl, self, nat,
    ⟨⟨_, _, _, _, _, _, _, _, _, _, _, _, _, _, _, lC, hbm⟩, sa, exC, tyC, kC⟩⟩⟩, ic, ti⟩
end
end DLX

/-! ### methods called, instances made within a try -/
namespace DLE
open PySem L2 PySem.Spec PyProof.Rows
section
variable {X : Cx} {k : Nat} {f C : Addr} {fd : FuncData} {ps : List Str} {sp : Sp} {W : WX} {x m : Str} {p pos apos : Pos} {e o : Expr} {es : List Expr} {te : TE} {t : TA}
def tMethT (C : Addr) (m : Str) (sp : Sp) (E : L2.St → XK) (te : TE) (t : TA) : TE := fun σ H Q => te σ H fun x H1 => ∃ (a dx : Addr) (fs : List (Str × V)), x = .ref a ∧ H1 a = some (.ins C dx fs) ∧ fs.lookup m = none ∧ t σ H1 fun vs H2 => sp (.ref a :: vs) H2 Q (E σ)
theorem pe_methT {pl : Sem Bool} (he : PE X o te) (c : Cls X.K C) (hm : Meth X.K C m f) (F : FnOk X.prog X.w X.K X.mg X.base (L2N.CX X.prog X.w) k f fd ps sp) (hr : Room k X.A) (hb : Binds X.K fd ps []) (tk : L2N.Takes X W) (ha : PA X (e :: es) t)
    (hst : starEach (e :: es) X.env = (false, eval e X.env) :: starEach es X.env := by rfl) (hpl : (backTo pos (starEach es X.env)).any (·.1) = false := by rfl)
    (ht : eval (.Call (.Attribute o m apos) (e :: es) [] pos) X.env = (do
      let ov ← eval o X.env
      standAt apos.atName
      let (f, first) ← holding [ov] (getMethod ov m pl)
      callWith pos f first (backTo pos (starEach (e :: es) X.env)) (backToKw pos (keywordEach [] X.env))) := by rfl) :
    PE X (.Call (.Attribute o m apos) (e :: es) [] pos) (tMethT C m sp (WE W) te t) := ⟨fun pins s σ H Q I h =>
  PySem.W.methodCall_KW (pl := pl) (thn (he.run pins s σ H _ I h) fun u s1 y => by
    obtain ⟨x, H1, I1, rx, a, dx, fs, rfl, ea, l, q⟩ := y
    cases (show u = Value.ref a from rx)
    exact getmeth_ok I1 ea c hm l (PySem.W.callWith_K (first := [.ref a]) (h₀ := X.base) I.ok.mod.kin hm.kp (thn (ha.run pos pins s1 σ H1 _ I1 q) fun us s2 z => by
      obtain ⟨vs, H2, I2, r, q2⟩ := z
      exact ⟨I2.kIn, run_fnS (us := .ref a :: us) (vs := .ref a :: vs) F hr hb (L2N.passAt tk σ) I2 (.cons rfl r) q2⟩) hst hpl)) ht⟩
def tMakeT (C : Addr) (sp : Sp) (E : L2.St → XK) (t : TA) : TE := fun σ H Q => t σ H fun vs H1 => ∀ x dx, H1 x = none → H1 dx = none → dx ≠ x → sp (.ref x :: vs) (upd (upd H1 dx (.own x)) x (.ins C dx [])) (fun v H2 => v = .non ∧ Q (.ref x) H2) (E σ)
theorem pe_makeT (M : Mk X.K C f) (F : FnOk X.prog X.w X.K X.mg X.base (L2N.CX X.prog X.w) k f fd ps sp) (hr : Room (k + 1) X.A) (hg : Gl X x) (hm : X.mg x = some (.ref C)) (hb : Binds X.K fd ps []) (tk : L2N.Takes X W)
    (ha : PA X (e :: es) t) (hdb : (x == ("__debug__" : Str)) = false := by decide) (he : starEach (e :: es) X.env = (false, eval e X.env) :: starEach es X.env := by rfl) (hpl : (backTo pos (starEach es X.env)).any (·.1) = false := by rfl) :
    PE X (.Call (.Name x p) (e :: es) [] pos) (tMakeT C sp (WE W) t) := ⟨fun pins s σ H Q I h =>
  wpAny_Call_Name_kw (ld_glob I hg hm (PySem.W.callWith_K (h₀ := X.base) I.ok.mod.kin M.kp (thn (ha.run pos pins s σ H _ I h) fun us s1 y => by
    obtain ⟨vs, H1, I1, r, q⟩ := y
    refine ⟨I1.kIn, ?_⟩
    have q1 := q (s1.heap.objs.size + 1) s1.heap.objs.size (I1.hok.fresh (Nat.le_succ _)) (I1.hok.fresh (Nat.le_refl _)) (Nat.ne_of_lt (Nat.lt_succ_self _))
    have J := Inv.made (C := C) I1
    have r2 : Vals (V.ref (s1.heap.objs.size + 1) :: vs) (Value.ref (s1.heap.objs.size + 1) :: us) := .cons rfl r
    have hl : (Value.ref (s1.heap.objs.size + 1) :: us ++ []).length = ps.length := by
      have z := r2.length
      rw [F.len _ _ _ _ q1] at z
      rw [List.append_nil]
      exact z.symm
    have bb := hb _ (Value.ref (s1.heap.objs.size + 1) :: us) J.kIn hl
    rw [List.append_nil] at bb
    refine wpAny_call (make_map (f := f) I1.kIn M.makes M.init (beq_iff_eq.mp M.fn) (codeAny_mono (F.run _ X.stack _ _ ⟨Value.ref (s1.heap.objs.size + 1) :: us, []⟩ (Value.ref (s1.heap.objs.size + 1) :: us) _ _ _ (hr.make C us []) (J.env0.make C us []) bb r2 q1) fun r s' hq' => ?_))
    cases r with
    | error w => exact L2N.passAt tk σ pins _ _ w s' J hq'
    | ok fl =>
      cases fl with
      | ret u =>
        obtain ⟨v, H', I3, rv, ev, q3⟩ := J.after hq'
        subst ev
        exact ⟨rv, ⟨V.ref (s1.heap.objs.size + 1), H', I3, rfl, q3⟩⟩
      | _ => exact False.elim hq') he hpl) hdb)⟩
end
end DLE
namespace DL
open PySem L2 DLE
open Evl (Ex)
section
variable {X : Cx} {B : Bs} {W : WX} {PXF : DXF} {k n : Nat} {f C : Addr} {fd : FuncData} {ps : List Str} {sp : VSp} {x mt : Str} {p pos apos : Pos} {e o : Expr} {es : List Expr} {va : VA} {to : VE}
/-- o.m(..) within a try -/
def vMethX (C : Addr) (mt : Str) (n : Nat) (sp : VSp) (PXF : DXF) (to : VE) (va : VA) : VE := fun ρ m Q => to ρ m fun d m1 => (∃ ks ds, insK m1 d = some (C, ks, ds) ∧ mt ∉ ks) ∧ va ρ m1 fun ds m2 => ds.length + 1 = n ∧ sp (d :: ds) m2 Q (PXF ρ)
theorem ue_methX {pl : Sem Bool} (ho : UE X B o to) (c : Cls X.K C) (hm : Meth X.K C mt f) (F : FnOk X.prog X.w X.K X.mg X.base (L2N.CX X.prog X.w) k f fd ps (lowSp X.K n sp)) (hr : Room k X.A) (hb : Binds X.K fd ps []) (tk : L2N.Takes X W) (wh : WshF X.K B PXF W) (ha : UA X B (e :: es) va)
    (hst : starEach (e :: es) X.env = (false, eval e X.env) :: starEach es X.env := by rfl) (hpl : (backTo pos (starEach es X.env)).any (·.1) = false := by rfl)
    (ht : eval (.Call (.Attribute o mt apos) (e :: es) [] pos) X.env = (do
      let ov ← eval o X.env
      standAt apos.atName
      let (f, first) ← holding [ov] (getMethod ov mt pl)
      callWith pos f first (backTo pos (starEach (e :: es) X.env)) (backToKw pos (keywordEach [] X.env))) := by rfl) : UE X B (.Call (.Attribute o mt apos) (e :: es) [] pos) (vMethX C mt n sp PXF to va) :=
  ⟨(pe_methT (pl := pl) ho.pe c hm F hr hb tk ha.pa hst hpl ht).weak fun σ H Q h => by
    obtain ⟨G, ρ, m, P, e0, s, t, k⟩ := h
    refine ⟨G, ρ, m, _, e0, s, t, fun d m1 G1 v1 H1 q1 e1 s1 r1 => ?_⟩
    obtain ⟨⟨ks, ds, h1, h2⟩, q1⟩ := q1
    obtain ⟨a, dx, fs, rfl, h4, h5, h6⟩ := s1.insK r1 h1
    refine ⟨a, dx, fs, rfl, h4, look_no (by rw [h5]; exact h2), G1, ρ, m1, _, e0.trans e1, ⟨s.fr.mono e1.ex, s1⟩, q1, fun es m2 G2 vs H2 q2 e2 s2 r2 => ?_⟩
    refine ⟨by rw [List.length_cons, ← r2.length]; exact q2.1, G2, d :: es, m2, _, PXF ρ, s2, .cons (r1.mono e2.ex) r2, q2.2, fun d m3 G3 v H3 q3 e3 => k d m3 G3 v H3 q3 ((e1.trans e2).trans e3), fun C ks es m3 G3 H3 ox p3 e3 s3 x3 => ?_⟩
    exact wh ρ C ks es m3 G3 σ H3 ox p3 (((e0.trans e1).trans e2).trans e3) ⟨s.fr.mono ((e1.trans e2).trans e3).ex, s3⟩ x3⟩
/-- C(..) within a try -/
def vMakeX (C : Addr) (n : Nat) (sp : VSp) (PXF : DXF) (va : VA) : VE := fun ρ m Q => va ρ m fun ds m1 => ∀ p, m1 p = none → ds.length + 1 = n ∧ sp (.adr p :: ds) (mup m1 p (.ins C [] [])) (fun d m2 => d = .non ∧ Q (.adr p) m2) (PXF ρ)
theorem ue_makeX (M : Mk X.K C f) (F : FnOk X.prog X.w X.K X.mg X.base (L2N.CX X.prog X.w) k f fd ps (lowSp X.K n sp)) (hr : Room (k + 1) X.A) (hg : Gl X x) (hm : X.mg x = some (.ref C)) (hb : Binds X.K fd ps []) (tk : L2N.Takes X W) (wh : WshF X.K B PXF W)
    (ha : UA X B (e :: es) va) (hdb : (x == ("__debug__" : Str)) = false := by decide) (he : starEach (e :: es) X.env = (false, eval e X.env) :: starEach es X.env := by rfl) (hpl : (backTo pos (starEach es X.env)).any (·.1) = false := by rfl) :
    UE X B (.Call (.Name x p) (e :: es) [] pos) (vMakeX C n sp PXF va) := ⟨(pe_makeT M F hr hg hm hb tk ha.pa hdb he hpl).weak fun σ H Q h => by
  obtain ⟨G, ρ, m, P, e0, s, t, k⟩ := h
  refine ⟨G, ρ, m, _, e0, s, t, fun ds m1 G1 vs H1 q1 e1 s1 r1 => ?_⟩
  intro x dx hx hdx hne
  obtain ⟨g1, g2⟩ := s1.free hx
  obtain ⟨q1, q2⟩ := q1 x g2
  obtain ⟨e2, s2⟩ := s1.newG hdx (.own x)
  obtain ⟨e25, s3⟩ := s2.newM (p := x) (by rw [upd_ne hne.symm]; exact hx) (o := .ins C [] []) (ho := .ins C dx []) (.ins rfl .nil)
  have e2 := e2.trans e25
  refine ⟨by rw [List.length_cons, ← r1.length]; exact q1, _, .adr x :: ds, _, _, PXF ρ, s3, .cons (.adr x) (r1.mono e2.ex), q2, fun d m3 G3 v H3 q3 e3 s3 r3 => ?_, fun C ks es m3 G3 H3 ox p3 e3 s3 x3 => ?_⟩
  · obtain ⟨rfl, q3⟩ := q3
    cases r3
    exact ⟨rfl, k _ m3 G3 _ H3 q3 ((e1.trans e2).trans e3) s3 (.adr x)⟩
  · exact wh ρ C ks es m3 G3 σ H3 ox p3 (((e0.trans e1).trans e2).trans e3) ⟨s.fr.mono ((e1.trans e2).trans e3).ex, s3⟩ x3⟩
end
end DL
namespace DL
open PySem L2
open Evl (Ex)
/-! ### str of an int, of a text -/
def bStr : VB := fun ds _ Q => match ds with
  | [.int i] => i.natAbs.log2 < 1920 ∧ Q (.str (toString i))
  | [.str a] => Q (.str a)
  | _ => False
theorem ub_str {X : Cx} : UB X (.type "str") bStr := callw (CallR.or call_str_int SkE.call_str_str) fun vs H Q h => by
  obtain ⟨G, m, ds, P, s, r, t, k⟩ := h
  unfold bStr at t
  split at t
  · obtain ⟨v, e, r⟩ := r.one
    cases r
    exact .inl ⟨_, e, t.1, k _ G _ H t.2 Stp.refl s (.str _)⟩
  · obtain ⟨v, e, r⟩ := r.one
    cases r
    exact .inr ⟨_, e, k _ G _ H t Stp.refl s (.str _)⟩
  · exact t.elim
end DL

/-! ### one's own functions called while an exception is handled -/
namespace DL
open PySem L2
open Evl (Ex)
section
variable {P : Program} {w : World} {K : PySem.W.Frag} {mg : Str → Option Value} {base : Heap}
abbrev cxHN (P : Program) (w : World) (K : PySem.W.Frag) (mg : Str → Option Value) (base : Heap) (N : List Str) (qual : Str) (st : Stmt) (f : Addr) (cdv : Value) (A : Around) (outer : List Env) (s : Shared) (H : Hp) (E : XK) (p : Addr × Obj) : Cx :=
  (L2H.cxH CX0 P w K mg base N qual (defScope st) f cdv A outer s H E p).nox
theorem ufunH {x qual : Str} {st : Stmt} {f : Addr} {fd : FuncData} {N ps : List Str} {k : Nat} {sp : VSp} (F : Fun K x qual st f fd) (S : FnScope N ps (defScope st))
    (hbody : ∀ (cdv : Value) (A : Around) (outer : List Env) (s : Shared) (H : Hp) (E : XK) (B : Bs) (p : Addr × Obj), L2H.RoomH k (cxHN P w K mg base N qual st f cdv A outer s H E p).A →
      ∃ t, USs (cxHN P w K mg base N qual st f cdv A outer s H E p) B (defBody st) t ∧ ∀ ds m Q PX, ds.length = ps.length → sp ds m Q PX → t { nx := fun _ m' => Q .non m', rt := Q } (fstart N ds) m) :
    L2H.FnH P w K mg base CX0 (k + 1) f fd ps (lowSp K ps.length sp) := by
  obtain ⟨oc, od, kV, doc, pm, an, cdv, ct, osl, rfl, lk, hcd⟩ := F.ex
  refine L2H.fn_ofH lk hcd S (fun vs H Q E h => h.1) (fun A outer s H vs Q E p hot hr h => ?_)
  obtain ⟨hl, G, ds, m, P', PX, s1, r1, h1, k1, W⟩ := h
  obtain ⟨t, ht, hq⟩ := hbody cdv A outer s H E ⟨G, m, H⟩ p hr
  refine ⟨_, ht.ps.nox, G, fstart N ds, m, { nx := fun _ m' => P' .non m', rt := P' }, Stp.refl, ⟨frR_start N r1, s1⟩, hq ds m P' PX (r1.length.trans hl) h1, fun ρ' m' G' σ' H' q e s => ?_, fun d m' G' v H' q e s r => ?_, fun ρ' m' G' σ' H' q => q.elim, fun ρ' m' G' σ' H' q => q.elim⟩
  · exact k1 _ _ _ _ _ q e s.ms .non
  · exact k1 _ _ _ _ _ q e s r
end
theorem roomH_suite {k : Nat} {A : Around} {h : Option Value} (r : Room k A) : L2H.RoomH k (A.mark h) := ⟨r.dp, r.un⟩
theorem ue_callH {X : Cx} {B : Bs} {k n : Nat} {f : Addr} {fd : FuncData} {ps : List Str} {sp : VSp} {x : Str} {p pos : Pos} {e : Expr} {es : List Expr} {va : VA}
    (F : L2H.FnH X.prog X.w X.K X.mg X.base CX0 k f fd ps (lowSp X.K n sp)) (hr : L2H.RoomH k X.A) (hc : L2H.HotC X) (hg : Gl X x) (hm : X.mg x = some (.ref f)) (hk : PySem.W.keepIn X.K (.ref f) = true) (hb : Binds X.K fd ps [])
    (ha : UA X B (e :: es) va) (hdb : (x == ("__debug__" : Str)) = false := by decide) (he : starEach (e :: es) X.env = (false, eval e X.env) :: starEach es X.env := by rfl) (hpl : (backTo pos (starEach es X.env)).any (·.1) = false := by rfl) :
    UE X B (.Call (.Name x p) (e :: es) [] pos) (vCall n sp noX va) :=
  ⟨(L2H.pe_callH (E := fun _ _ _ _ => False) F hr hc hg hm hk hb (fun _ _ _ _ _ _ _ z => z.elim) ha.pa hdb he hpl).weak fun σ H Q h => by
    obtain ⟨G, ρ, m, P, e0, s, t, k⟩ := h
    refine ⟨G, ρ, m, _, e0, s, t, fun ds m1 G1 vs H1 q1 e1 s1 r1 => ?_⟩
    exact ⟨r1.length.symm.trans q1.1, G1, ds, m1, _, noX, s1, r1, q1.2, fun d m2 G2 v H2 q2 e2 => k d m2 G2 v H2 q2 (e1.trans e2), Wsh.no⟩⟩
end DL

/-! ### texts: their signs, their kinds, their parts -/
namespace DL
open PySem L2
open Evl (Ex)
/-- a.m(), a text -/
def oS0 (C : Str → Prop) (g : Str → D) : VM := fun d ds m Q => match d, ds with
  | .str a, [] => C a ∧ Q (g a) m
  | _, _ => False
theorem um_s0 {X : Cx} {id : String} {C : Str → Prop} {g : Str → D} {g' : Str → V} (hg : ∀ a G, Dn X.K G (g a) (g' a)) (h : MtR X id (fun x xs H Q => ∃ a, x = .str a ∧ xs = [] ∧ C a ∧ Q (g' a) H)) : UM X id (oS0 C g) := fun T => mtw h fun x vs H Q h => by
  obtain ⟨G, m, dx, ds, P, s, rx, r, t, k⟩ := h
  unfold oS0 at t
  split at t
  · cases r
    cases rx
    exact ⟨_, rfl, rfl, t.1, k _ m G _ H t.2 Stp.refl s (hg _ G)⟩
  · exact t.elim
theorem um_isdigit {X : Cx} : UM X "str.isdigit" (oS0 (fun _ => True) fun a => .bl (Txt.isdigit a)) := um_s0 (fun _ _ => .bl _) mt_isdigit
theorem um_isalpha {X : Cx} : UM X "str.isalpha" (oS0 (fun _ => True) fun a => .bl (Txt.isalpha a)) := um_s0 (fun _ _ => .bl _) mt_isalpha
theorem um_isascii {X : Cx} : UM X "str.isascii" (oS0 (fun _ => True) fun a => .bl (Txt.isascii a)) := um_s0 (fun _ _ => .bl _) mt_isascii
theorem um_islower {X : Cx} : UM X "str.islower" (oS0 (fun _ => True) fun a => .bl (Txt.islower a)) := um_s0 (fun _ _ => .bl _) mt_islower
theorem DnAll.ofStrs {K : PySem.W.Frag} {G : Hp} : ∀ ys : List Str, DnAll K G (ys.map D.str) (ys.map V.str)
  | [] => .nil
  | _ :: ys => .cons (.str _) (DnAll.ofStrs ys)
/-- a.split(b), a new list that stays as it is -/
def oSplit : VM := fun d ds m Q => match d, ds with
  | .str a, [.str b] => 0 < b.length ∧ a.length + 2 ≤ sizeLine ∧ Q (.lst ((Txt.split a b).map D.str)) m
  | _, _ => False
theorem len_ne0 {b : Str} (h : 0 < b.length) : (b.length == 0) = false := beq_eq_false_iff_ne.mpr (Nat.ne_of_gt h)
theorem um_split {X : Cx} : UM X "str.split" oSplit := fun T => mtw mt_split fun x vs H Q h => by
  obtain ⟨G, m, dx, ds, P, s, rx, r, t, k⟩ := h
  unfold oSplit at t
  split at t
  · obtain ⟨h1, h2, h3⟩ := t
    obtain ⟨v, rfl, r1⟩ := r.one
    cases rx
    cases r1
    refine ⟨_, _, rfl, rfl, len_ne0 h1, h2, fun p hp => ?_⟩
    obtain ⟨e, s'⟩ := s.newG hp (.lst ((Txt.split _ _).map V.str))
    exact k _ m _ _ _ h3 e s' (.lst upd_same (DnAll.ofStrs _))
  · exact t.elim
/-- a.split(b), a new list that will change -/
def oSplitM : VM := fun d ds m Q => match d, ds with
  | .str a, [.str b] => 0 < b.length ∧ a.length + 2 ≤ sizeLine ∧ ∀ p, m p = none → Q (.adr p) (mup m p (.lst ((Txt.split a b).map D.str)))
  | _, _ => False
theorem um_splitM {X : Cx} : UM X "str.split" oSplitM := fun T => mtw mt_split fun x vs H Q h => by
  obtain ⟨G, m, dx, ds, P, s, rx, r, t, k⟩ := h
  unfold oSplitM at t
  split at t
  · obtain ⟨h1, h2, h3⟩ := t
    obtain ⟨v, rfl, r1⟩ := r.one
    cases rx
    cases r1
    refine ⟨_, _, rfl, rfl, len_ne0 h1, h2, fun p hp => ?_⟩
    obtain ⟨e, s'⟩ := s.newM hp (o := .lst ((Txt.split _ _).map D.str)) (ho := .lst ((Txt.split _ _).map V.str)) (.lst (DnAll.ofStrs _))
    exact k _ _ _ _ _ (h3 p (s.free hp).2) e s' (.adr p)
  · exact t.elim
/-- int of a text -/
def bIntS : VB := fun ds m Q => match ds with
  | [.str a] => ∃ n, PySem.intText? a = some n ∧ a.length ≤ 640 ∧ Q (.int n)
  | _ => False
theorem ub_intS {X : Cx} : UB X (.type "int") bIntS := callw call_int_str fun vs H Q h => by
  obtain ⟨G, m, ds, P, s, r, t, k⟩ := h
  unfold bIntS at t
  split at t
  · obtain ⟨v, e, r⟩ := r.one
    cases r
    obtain ⟨n, h1, h2, h3⟩ := t
    exact ⟨_, n, e, h1, h2, k _ G _ H h3 Stp.refl s (.int _)⟩
  · exact t.elim
/-- a * n, a text -/
def repS (a : Str) (n : Int) : Str := ⟨(List.replicate n.toNat a.cps).foldl (· ++ ·) #[]⟩
theorem foldl_size {l : List (Array Nat)} : ∀ {acc : Array Nat}, (l.foldl (· ++ ·) acc).size = acc.size + (l.map Array.size).sum := by
  induction l with
  | nil => simp
  | cons x l ih => intro acc; rw [List.foldl_cons, ih]; simp; omega
theorem op_mulS {X : Cx} : OpR X (binaryOp .Mult) (fun x y H Q => ∃ (a : Str) (n : Int), x = .str a ∧ y = .int n ∧ (2 ≤ n ∧ n ≤ 1000 ∧ 1 ≤ a.length ∧ a.length ≤ 1000) ∧ Q (.str (repS a n)) H) := by
  intro pins s σ H x y v u Q I rx ry h
  obtain ⟨a, n, rfl, rfl, ⟨h1, h2, h3, h4⟩, q⟩ := h
  obtain ⟨t, rfl⟩ := rx
  obtain ⟨t', rfl⟩ := ry
  have hn : a.length * n.toNat ≤ 1000 * 1000 := Nat.mul_le_mul h4 (by omega)
  refine PySem.P.mul_str ?_ ?_ ?_ ?_
  · rw [decide_eq_false (by omega), decide_eq_false (by omega)]
    rfl
  · intro _ _ h5
    have : (a.length : Int) ≤ (2 ^ 63 - 1) / n := by
      refine Int.le_ediv_of_mul_le (by omega) ?_
      have e : (a.length : Int) * n = ((a.length * n.toNat : Nat) : Int) := by
        rw [Int.natCast_mul, Int.toNat_of_nonneg (by omega)]
      rw [e]
      omega
    omega
  · intro _ _
    exact decide_eq_false (by show ¬ _ > sizeLine; unfold sizeLine; omega)
  · rw [if_neg (by omega), if_neg (by rw [Bool.or_eq_true]; rintro (z | z) <;> (have := beq_iff_eq.mp z; omega))]
    refine ⟨?_, .str (repS a n), H, I.tok _, ⟨_, rfl⟩, q⟩
    have e : (repS a n).length = n.toNat * a.length := by
      unfold repS
      show (List.foldl (· ++ ·) #[] (List.replicate n.toNat a.cps)).size = _
      rw [foldl_size, List.map_replicate, List.sum_replicate_nat]
      simp [Str.length]
    have hm := Nat.mul_comm n.toNat a.length
    first
      | (show (repS a n).length ≤ sizeLine; unfold sizeLine; omega)
      | (show tooLong (repS a n).length = false; exact decide_eq_false (by show ¬ _ > sizeLine; unfold sizeLine; omega))
      | trace_state
def oMulS : VO := fun x y _ Q => match x, y with
  | .str a, .int n => (2 ≤ n ∧ n ≤ 1000 ∧ 1 ≤ a.length ∧ a.length ≤ 1000) ∧ Q (.str (repS a n))
  | _, _ => False
theorem uo_mulS {X : Cx} : UO X (binaryOp .Mult) oMulS := opw op_mulS fun x y H Q h => by
  obtain ⟨G, m, dx, dy, P, s, hx, hy, t, k⟩ := h
  unfold oMulS at t
  split at t
  · cases hx
    cases hy
    exact ⟨_, _, rfl, rfl, t.1, k _ G _ H t.2 Stp.refl s (.str _)⟩
  · exact t.elim
theorem ue_gstr {X : Cx} {B : Bs} {x y : Str} {pos : Pos} (h : ∃ t, X.mg x = some (.str y t)) (hg : Gl X x) (hdb : (x == ("__debug__" : Str)) = false := by decide) : UE X B (.Name x pos) (vC (.str y)) := by
  obtain ⟨t, h⟩ := h
  exact ue_glob (v := .str y) (d := .str y) hg h ⟨t, rfl⟩ (fun _ => .str _) hdb
/-- what a call raises is passed on -/
theorem passX {P : Program} {w : World} {K : PySem.W.Frag} {mg : Str → Option Value} {base : Heap} {N : List Str} {qual : Str} {st : Stmt} {f : Addr} {cdv : Value} {A : Around} {outer : List Env} {s : Shared} {H : Hp} {E : XK} :
    Passes (L2N.CX P w) (cxX P w K mg base N qual st f cdv A outer s H E) E :=
  have tk : L2N.Takes (cxX P w K mg base N qual st f cdv A outer s H E) (fun cls d _ H => E cls d H) := L2N.takes_of rfl rfl rfl rfl
  L2N.passes_call tk fun _ _ _ _ h => h
/-- a call that raises nothing here -/
theorem passLN {X : Cx} : Passes (L2N.CX X.prog X.w) X E0 := L2N.passes_call takes_no fun _ _ _ _ h => h
end DL

/-! ### try .. except C, without a name; the suite may raise -/
namespace DL
open PySem L2
open Evl (Ex)
theorem WshF.mono {K : PySem.W.Frag} {B : Bs} {G H : Hp} {m : MH} {PXF : DXF} {W : WX} (h : WshF K B PXF W) (e : B.to G m H) : WshF K ⟨G, m, H⟩ PXF W := fun ρ C ks ds m' G' σ H' ox p e' => h ρ C ks ds m' G' σ H' ox p (e.trans e')
theorem takesL_no {X : Cx} : L2.Takes X (fun _ _ _ _ => False) := fun _ _ ⟨_, _, _, _, _, _, _, _, _, _, _, _, _, _, _, _, w⟩ => w.elim
theorem WshF.no {K : PySem.W.Frag} {B : Bs} : WshF K B (fun _ => noX) (fun _ _ _ _ => False) := fun _ _ _ _ _ _ _ _ _ p => p.elim
/-- try: body / except c: suite; what the body may raise is of the class C0 -/
def vTryO (C0 : Addr) (tb : DXF → VS) (ts : VS) : VS := fun E ρ m => tb (fun ρ' C _ _ m' => C = C0 ∧ ts E ρ' m') E ρ m
theorem us_tryO {X : Cx} {B : Bs} {x : Str} {c : Value} {C0 : Addr} {Wout : WX} {PXo : DXF} {body suite : List Stmt} {b₀ : Stmt} {np pos pos' : Pos} {tb : DXF → VS} {ts : VS}
    (hs : X.stack = X.env :: X.outer) (hf : X.env.frame = some X.env.locals) (hc : Names X x c) (hpa : ∀ hd : Option Value, PassesOwnAt (model X.prog X.w) (X.A.mark hd) X.A X.env X.xe) (tk : L2.Takes X Wout) (wo : WshF X.K B PXo Wout) (hm : PySem.W.exmOne X.K (.ref C0) c = some true)
    (hb : ∀ (B : Bs) (PXF : DXF) (W : WX) (pn : List (Addr × Obj)) (xe : Value → Shared → Prop), L2N.Takes (X.tr pn xe) W → WshF X.K B PXF W → USs (X.tr pn xe) B body (tb PXF))
    (hsu : ∀ (B : Bs) (a : Addr) (oe : Obj) (pn : List (Addr × Obj)), L2.Takes (L2H.suiteX X a ((a, oe) :: pn)) Wout → WshF X.K B PXo Wout → L2H.HotC (L2H.suiteX X a ((a, oe) :: pn)) → USs (L2H.suiteX X a ((a, oe) :: pn)) B (b₀ :: suite) ts) :
    US X B (.Try body [.ExceptHandler (some (.Name x np)) none (b₀ :: suite) pos'] [] [] pos) (vTryO C0 tb ts) :=
  ⟨PS.weak (L2H.ps_try_onlyX (Wout := Wout) (tb := fun W D σ H => ∃ (B : Bs) (PXF : DXF), WshF X.K B PXF W ∧ lowS X.K B (tb PXF) D σ H)
      (ts := fun a cls d D σ H => cls = .ref C0 ∧ ∃ B : Bs, WshF X.K B PXo Wout ∧ lowS X.K B ts D σ H) hs hf hc hpa tk
      (fun W pn xe tk _ _ => ⟨fun pins s σ H D I h => by
        obtain ⟨B, PXF, wh, h⟩ := h
        exact (hb B PXF W pn xe tk wh).ps.run pins s σ H D I h⟩)
      (fun a oe cls d pn hz hv tk2 hot => ⟨fun pins s σ H D I h => by
        obtain ⟨rfl, B, wo, h⟩ := h
        exact (hsu B a oe pn tk2 wo hot).ps.run pins s σ H D I h⟩)) fun D σ H h => by
    obtain ⟨G, ρ, m, E, e0, s, t, k1, k2, k3, k4⟩ := h
    refine ⟨⟨G, m, H⟩, _, ?_, G, ρ, m, E, Stp.refl, s, t, k1, k2, k3, k4⟩
    rintro ρ' C ks ds m' G' σ' H' ox ⟨rfl, hts⟩ e1 s1 xr
    have e1 : Stp G m H G' m' H' := e1
    refine ⟨true, hm, fun _ a ha => ⟨rfl, ⟨G', m', H'⟩, wo.mono (e0.trans e1), G', ρ', m', E, Stp.refl, s1, hts, ?_, ?_, ?_, ?_⟩, fun z => nomatch z⟩
    · intro ρ2 m2 G2 σ2 H2 q e2 s2
      exact k1 _ m2 G2 _ H2 q (e1.trans e2) s2
    · intro d m2 G2 v H2 q e2 s2 r2
      exact k2 d m2 G2 v H2 q (e1.trans e2) s2 r2
    · intro ρ2 m2 G2 σ2 H2 q e2 s2
      exact k3 _ m2 G2 _ H2 q (e1.trans e2) s2
    · intro ρ2 m2 G2 σ2 H2 q e2 s2
      exact k4 _ m2 G2 _ H2 q (e1.trans e2) s2⟩
end DL

/-! ### calls while any exception is handled; raising within a suite; errors with any context -/
namespace DLW
open PySem PySem.Spec PyProof.Rows L2 L2H
section
variable {P : Program} {w : World} {K : PySem.W.Frag} {mg : Str → Option Value} {base : Heap} {CX : CXT} {k : Nat} {f : Addr} {fd : FuncData} {ps : List Str} {sp : Sp}
structure FnW (P : Program) (w : World) (K : PySem.W.Frag) (mg : Str → Option Value) (base : Heap) (CX : CXT) (k : Nat) (f : Addr) (fd : FuncData) (ps : List Str) (sp : Sp) : Prop where
  len : ∀ vs H Q E, sp vs H Q E → vs.length = ps.length
  run : ∀ (A : Around) (outer : List Env) (s : Shared) (H : Hp) (args : Args) (us : List Value) (vs : List V) (Q : VK) (E : XK) (p : Addr × Obj), RoomH k A → PinOk outer H s p → Env0 P w K mg base A outer s H → BindsTo s fd args (ps.zip us) → Vals vs us → sp vs H Q E → codeAny (model P w) A (.call (.ref f) args) (CR CX outer P w H s Q E) s
theorem FnW.hot (F : FnW P w K mg base CX k f fd ps sp) : FnH P w K mg base CX k f fd ps sp := ⟨F.len, fun A outer s H args us vs Q E p hr _ hp e0 b r h => F.run A outer s H args us vs Q E p hr hp e0 b r h⟩
theorem fn_ofW {name qual : Str} {params : Arguments} {body : List Stmt} {scope : Scope} {dV kV doc pm cdv ct oc : Value} {an od : Option Addr} {osl : Array (Option Value)} {N : List Str}
    (lk : K.lookup f = some ⟨oc, od, .func (PySem.W.fnOf name qual params body scope dV kV doc pm an cdv ct), osl⟩) (hcd : PySem.W.codeIn K cdv qual = true) (S : FnScope N ps scope)
    (len : ∀ vs H Q E, sp vs H Q E → vs.length = ps.length)
    (hb : ∀ (A : Around) (outer : List Env) (s : Shared) (H : Hp) (vs : List V) (Q : VK) (E : XK) (p : Addr × Obj), RoomH k (A.deeper (envOfC qual scope s.heap.objs.size f cdv)) → sp vs H Q E →
      ∃ t, PSs (cxH CX P w K mg base N qual scope f cdv A outer s H E p) body t ∧ t { nx := fun _ H' => Q .non H', rt := Q } (L2.start N vs) H) :
    FnW P w K mg base CX (k + 1) f (PySem.W.fnOf name qual params body scope dV kV doc pm an cdv ct) ps sp := ⟨len, fun A outer s H args us vs Q E p hr hpin e0 bt r hsp => by
  have keeps : ∀ b o, base.get? b = some o → s.heap.get? b = some o := fun b o e => (e0.bs b o e).1
  have inK : K.In s.heap := e0.mod.kin.keeps keeps
  have nolim : s.heap.NoLimit := e0.mod.nolimit.keeps keeps
  refine codeAny_call_function hr.depth (inK _ _ lk) rfl S.co S.gen rfl (PySem.W.codeRec_of inK hcd) (bt _ _ _ _ ?_)
  refine wpAny_newFunctionEnv_cells S.kind (fun z hz => ?_) fun env he s1 x => ?_
  · rcases S.par z.1 (List.of_mem_zip hz).1 with q | q
    · exact .inl q
    · exact .inr ⟨q, PySem.W.cellsFrom_some _ _ _ (.inl q)⟩
  subst he
  refine ⟨nolim.keeps x.toInCall.keep, codeAny_func ?_⟩
  obtain ⟨t, ht, hq⟩ := hb A outer s H vs Q E p (hr.deeper _) hsp
  refine wpAny_mono (ht.run [] s1 (L2.start N vs) H _ (inv_startH S hpin e0 (len _ _ _ _ hsp) r x) hq) (fun fl s' done => ?_) fun _ _ z => z
  cases fl with
  | ret u =>
    obtain ⟨v, σ', H', J, rv, q⟩ := done
    exact ⟨v, H', J.os, J.bare, J.base, J.hok, rv, q⟩
  | next =>
    obtain ⟨σ', H', J, q⟩ := done
    exact ⟨.non, H', J.os, J.bare, J.base, J.hok, rfl, q⟩
  | _ =>
    obtain ⟨_, _, _, z⟩ := done
    exact z.elim⟩
end
/-- the context bears some pin -/
def PinC (X : Cx) : Prop := ∃ p : Addr × Obj, p ∈ X.pn
theorem pin_hot {X : Cx} (h : HotC X) : PinC X := by
  obtain ⟨p, _, hp⟩ := h
  exact ⟨p, hp⟩
section
variable {X : Cx} {CX : CXT} {k : Nat} {f : Addr} {fd : FuncData} {ps : List Str} {sp : Sp} {E : L2.St → XK} {x : Str} {q pos : Pos} {e : Expr} {es : List Expr} {t : TA}
theorem run_fnW {pins : List (Addr × Obj)} {σ : L2.St} {H : Hp} {s : Shared} {Q : VK} {us : List Value} {vs : List V} (F : FnW X.prog X.w X.K X.mg X.base CX k f fd ps sp) (hr : RoomH k X.A) (hc : PinC X) (hb : Binds X.K fd ps []) (hx : PassesAt CX X σ (E σ))
    (I : L2.Inv X pins σ H s) (r : Vals vs us) (h : sp vs H Q (E σ)) : wpAny (model X.prog X.w) X.A (call (.ref f) us) (EP X pins σ Q) X.xe s := by
  obtain ⟨p, hp⟩ := hc
  have b := hb s us I.kIn (by rw [List.append_nil, ← r.length]; exact F.len _ _ _ _ h)
  rw [List.append_nil] at b
  obtain ⟨p1, p2, p3, p4, p5⟩ := I.pin p (List.mem_append_left _ hp)
  have pin : PinOk X.stack H s p := ⟨p1, p2, fun m => by
    rcases List.mem_cons.mp (I.stkSub p.1 m) with z | z
    · exact p3 z
    · exact p4 z, p5⟩
  refine wpAny_call (codeAny_mono (F.run X.A X.stack s H ⟨us, []⟩ us vs Q (E σ) p hr pin I.env0 b r h) fun res s' done => ?_)
  cases res with
  | error e => exact hx pins H s e s' I done
  | ok fl =>
    cases fl with
    | ret u => exact I.after done
    | _ => exact done.elim
theorem pe_callW (F : FnW X.prog X.w X.K X.mg X.base CX k f fd ps sp) (hr : RoomH k X.A) (hc : PinC X) (hg : Gl X x) (hm : X.mg x = some (.ref f)) (hk : PySem.W.keepIn X.K (.ref f) = true) (hb : Binds X.K fd ps []) (hx : ∀ σ, PassesAt CX X σ (E σ))
    (ha : PA X (e :: es) t) (hdb : (x == ("__debug__" : Str)) = false := by decide) (he : starEach (e :: es) X.env = (false, eval e X.env) :: starEach es X.env := by rfl) (hpl : (backTo pos (starEach es X.env)).any (·.1) = false := by rfl) :
    PE X (.Call (.Name x q) (e :: es) [] pos) (tCallS sp E t) := ⟨fun pins s σ H Q I h =>
  wpAny_Call_Name_kw (ld_glob I hg hm (PySem.W.callWith_K (h₀ := X.base) I.ok.mod.kin hk (thn (ha.run pos pins s σ H _ I h) fun us s1 z => by
    obtain ⟨vs, H1, J, r, y⟩ := z
    exact ⟨J.kIn, run_fnW F hr hc hb (hx σ) J r y⟩) he hpl) hdb)⟩
end
theorem sky_imp {B : Heap} {l : List Env} {a : Addr} {Z Z' : Obj → Prop} {L : Addr} {h : Heap} (z : ∀ o, Z o → Z' o) (x : Sky B l a Z L h) : Sky B l a Z' L h := by
  rcases x with ⟨h1, h2, h3, oe, vs, h4, h5, h6⟩ | x | ⟨h1, h2, h3, h4⟩
  · exact .inl ⟨h1, h2, h3, oe, vs, h4, z _ h5, h6⟩
  · exact .inr (.inl (flyingZ_imp z x))
  · exact .inr (.inr ⟨h1, h2, h3, tracedZ_imp z h4⟩)
/-- what takes errors with any context takes those without -/
theorem takesN {X : Cx} {W : WX} (tk : L2.Takes X W) : L2N.Takes X W := fun u s' ⟨a, B, sI, pins, σ, H, cls, d, e, I, nb, up, sky, r⟩ => tk u s' ⟨a, B, sI, pins, σ, H, cls, d, e, I, nb, up, sky_imp (fun _ z => z.zc) sky, r⟩
end DLW
namespace DL
open PySem L2 DLX DLW
open Evl (Ex)
section
variable {P : Program} {w : World} {K : PySem.W.Frag} {mg : Str → Option Value} {base : Heap}
theorem ufunW {x qual : Str} {st : Stmt} {f : Addr} {fd : FuncData} {N ps : List Str} {k : Nat} {sp : VSp} (F : Fun K x qual st f fd) (S : FnScope N ps (defScope st))
    (hbody : ∀ (cdv : Value) (A : Around) (outer : List Env) (s : Shared) (H : Hp) (E : XK) (B : Bs) (p : Addr × Obj), L2H.RoomH k (cxHN P w K mg base N qual st f cdv A outer s H E p).A →
      ∃ t, USs (cxHN P w K mg base N qual st f cdv A outer s H E p) B (defBody st) t ∧ ∀ ds m Q PX, ds.length = ps.length → sp ds m Q PX → t { nx := fun _ m' => Q .non m', rt := Q } (fstart N ds) m) :
    FnW P w K mg base CX0 (k + 1) f fd ps (lowSp K ps.length sp) := by
  obtain ⟨oc, od, kV, doc, pm, an, cdv, ct, osl, rfl, lk, hcd⟩ := F.ex
  refine fn_ofW lk hcd S (fun vs H Q E h => h.1) (fun A outer s H vs Q E p hr h => ?_)
  obtain ⟨hl, G, ds, m, P', PX, s1, r1, h1, k1, W⟩ := h
  obtain ⟨t, ht, hq⟩ := hbody cdv A outer s H E ⟨G, m, H⟩ p hr
  refine ⟨_, ht.ps.nox, G, fstart N ds, m, { nx := fun _ m' => P' .non m', rt := P' }, Stp.refl, ⟨frR_start N r1, s1⟩, hq ds m P' PX (r1.length.trans hl) h1, fun ρ' m' G' σ' H' q e s => ?_, fun d m' G' v H' q e s r => ?_, fun ρ' m' G' σ' H' q => q.elim, fun ρ' m' G' σ' H' q => q.elim⟩
  · exact k1 _ _ _ _ _ q e s.ms .non
  · exact k1 _ _ _ _ _ q e s r
/-- the context of a def whose errors may have any context -/
abbrev cxL (P : Program) (w : World) (K : PySem.W.Frag) (mg : Str → Option Value) (base : Heap) (N : List Str) (qual : Str) (st : Stmt) (f : Addr) (cdv : Value) (A : Around) (outer : List Env) (s : Shared) (H : Hp) (E : XK) : Cx :=
  cxOf (L2.CX P w) P w K mg base N qual (defScope st) f cdv A outer s H E
theorem ufunL {x qual : Str} {st : Stmt} {f : Addr} {fd : FuncData} {N ps : List Str} {k : Nat} {sp : VSp} (F : Fun K x qual st f fd) (S : FnScope N ps (defScope st))
    (hbody : ∀ (cdv : Value) (A : Around) (outer : List Env) (s : Shared) (H : Hp) (E : XK) (B : Bs) (PX : DX), Room k (cxL P w K mg base N qual st f cdv A outer s H E).A → Wsh K B PX E →
      ∃ t, USs (cxL P w K mg base N qual st f cdv A outer s H E) B (defBody st) t ∧ ∀ ds m Q, ds.length = ps.length → sp ds m Q PX → t { nx := fun _ m' => Q .non m', rt := Q } (fstart N ds) m) :
    FnOk P w K mg base (L2.CX P w) (k + 1) f fd ps (lowSp K ps.length sp) := by
  obtain ⟨oc, od, kV, doc, pm, an, cdv, ct, osl, rfl, lk, hcd⟩ := F.ex
  refine fn_of lk hcd S (fun vs H Q E h => h.1) (fun A outer s H vs Q E hr h => ?_)
  obtain ⟨hl, G, ds, m, P', PX, s1, r1, h1, k1, W⟩ := h
  obtain ⟨t, ht, hq⟩ := hbody cdv A outer s H E ⟨G, m, H⟩ PX hr W
  refine ⟨_, ht.ps, G, fstart N ds, m, { nx := fun _ m' => P' .non m', rt := P' }, Stp.refl, ⟨frR_start N r1, s1⟩, hq ds m P' (r1.length.trans hl) h1, fun ρ' m' G' σ' H' q e s => ?_, fun d m' G' v H' q e s r => ?_, fun ρ' m' G' σ' H' q => q.elim, fun ρ' m' G' σ' H' q => q.elim⟩
  · exact k1 _ _ _ _ _ q e s.ms .non
  · exact k1 _ _ _ _ _ q e s r
theorem takesL {N : List Str} {qual : Str} {st : Stmt} {f : Addr} {cdv : Value} {A : Around} {outer : List Env} {s : Shared} {H : Hp} {E : XK} : L2.Takes (cxL P w K mg base N qual st f cdv A outer s H E) (fun cls d _ H => E cls d H) := L2.takes_of rfl rfl rfl rfl
/-- what a call raises is passed on, by a def whose errors may have any context -/
theorem passL {N : List Str} {qual : Str} {st : Stmt} {f : Addr} {cdv : Value} {A : Around} {outer : List Env} {s : Shared} {H : Hp} {E : XK} : Passes (L2.CX P w) (cxL P w K mg base N qual st f cdv A outer s H E) E :=
  L2.passes_call takesL fun _ _ _ _ h => h
theorem passNL {N : List Str} {qual : Str} {st : Stmt} {f : Addr} {cdv : Value} {A : Around} {outer : List Env} {s : Shared} {H : Hp} {E : XK} : Passes (L2N.CX P w) (cxL P w K mg base N qual st f cdv A outer s H E) E :=
  have tk : L2N.Takes (cxL P w K mg base N qual st f cdv A outer s H E) (fun cls d _ H => E cls d H) := takesN takesL
  L2N.passes_call tk fun _ _ _ _ h => h
end
/-- a call that raises nothing here -/
theorem passL0 {X : Cx} : Passes (L2.CX X.prog X.w) X E0 := L2.passes_call takesL_no fun _ _ _ _ h => h
theorem ue_callW {X : Cx} {B : Bs} {k n : Nat} {f : Addr} {fd : FuncData} {ps : List Str} {sp : VSp} {x : Str} {p pos : Pos} {e : Expr} {es : List Expr} {va : VA}
    (F : FnW X.prog X.w X.K X.mg X.base CX0 k f fd ps (lowSp X.K n sp)) (hr : L2H.RoomH k X.A) (hc : PinC X) (hg : Gl X x) (hm : X.mg x = some (.ref f)) (hk : PySem.W.keepIn X.K (.ref f) = true) (hb : Binds X.K fd ps [])
    (ha : UA X B (e :: es) va) (hdb : (x == ("__debug__" : Str)) = false := by decide) (he : starEach (e :: es) X.env = (false, eval e X.env) :: starEach es X.env := by rfl) (hpl : (backTo pos (starEach es X.env)).any (·.1) = false := by rfl) :
    UE X B (.Call (.Name x p) (e :: es) [] pos) (vCall n sp noX va) :=
  ⟨(pe_callW (E := fun _ _ _ _ => False) F hr hc hg hm hk hb (fun _ _ _ _ _ _ _ z => z.elim) ha.pa hdb he hpl).weak fun σ H Q h => by
    obtain ⟨G, ρ, m, P, e0, s, t, k⟩ := h
    refine ⟨G, ρ, m, _, e0, s, t, fun ds m1 G1 vs H1 q1 e1 s1 r1 => ?_⟩
    exact ⟨r1.length.symm.trans q1.1, G1, ds, m1, _, noX, s1, r1, q1.2, fun d m2 G2 v H2 q2 e2 => k d m2 G2 v H2 q2 (e1.trans e2), Wsh.no⟩⟩
/-- raise C(e) within a suite -/
theorem us_raiseS {X : Cx} {B : Bs} {W : WX} {PXo : DX} {x pn atn : Str} {C fI : Addr} {k : Nat} {fd : FuncData} {e : Expr} {te : VE} {p pos pos' : Pos} (hc : L2H.HotC X) (tk : L2.Takes X W) (wh : WshF X.K B (fun _ => PXo) W)
    (T : OexC X.K C) (iC : PySem.W.findIn X.K (.ref C) "__init__" = some (some (.ref fI))) (tI : PySem.W.typeIn X.K (.ref fI) = some (.type "function")) (F1 : L2H.FnH X.prog X.w X.K X.mg X.base CX0 k fI fd ["self", pn] (spSup C atn)) (hr : L2H.RoomH (k + 1) X.A)
    (hb : Binds X.K fd ["self", pn] []) (hx : Passes CX0 X (fun _ _ _ => False)) (hg : Gl X x) (hm : X.mg x = some (.ref C)) (he : UE X B e te) (hdb : (x == ("__debug__" : Str)) = false := by decide)
    (hs : starEach [e] X.env = (false, eval e X.env) :: starEach [] X.env := by rfl) (hpl : (backTo pos' (starEach [] X.env)).any (·.1) = false := by rfl) :
    US X B (.Raise (some (.Call (.Name x p) [e] [] pos')) none pos) (vRaiseA C atn (fun _ => PXo) te) :=
  ⟨(L2H.ps_raiseH hc tk (L2H.pmk5_oexH T iC tI F1 hr hc hb hx hg hm (ua_cons he ua_nil hs).pa hdb hs hpl).pmk).weak fun D σ H h => by
    obtain ⟨G, ρ, m, E, e0, s, t, _⟩ := h
    refine ⟨G, ρ, m, fun ds m1 => match ds with | [d] => PXo C [atn] [d] m1 | _ => False, e0, s, t, fun ds m1 G1 vs H1 q1 e1 s1 r1 => ?_⟩
    dsimp only at q1
    split at q1
    case h_2 => exact q1.elim
    · rename_i d
      have q := q1
      obtain ⟨v, rfl, r⟩ := r1.one
      refine ⟨by show 1 ≤ 1000; decide, fun a ha => ⟨a, v, rfl, upd_same, fun dx hd hne => ?_⟩⟩
      have hd1 : H1 dx = none := by rw [upd_ne hne] at hd; exact hd
      refine ⟨rfl, dx, [(atn, v)], upd_same, (upd_ne hne).trans upd_same, hd1, ?_⟩
      have eH : upd (del (upd (upd (upd H1 a (exo a C none)) dx (exd dx [(atn, v)])) a (exo a C (some dx))) a) dx (.xd [(atn, v)]) = upd H1 dx (.xd [(atn, v)]) := by
        funext b
        by_cases hb : b = dx
        · subst hb; rw [upd_same, upd_same]
        · rw [upd_ne hb, upd_ne hb]
          by_cases hba : b = a
          · subst hba; rw [del_same, ha]
          · rw [del_ne hba, upd_ne hba, upd_ne hb, upd_ne hba]
      rw [eH]
      obtain ⟨e2, s2⟩ := s1.newG hd1 (.xd [(atn, v)])
      exact wh ρ C [atn] [d] m1 _ σ _ (some dx) q ((e0.trans e1).trans e2) ⟨s.fr.mono (e1.trans e2).ex, s2⟩ (.inr ⟨dx, _, by simp, rfl, upd_same, rfl, .cons (r.mono e2.ex) .nil⟩)⟩
/-- a call within a try, of a def whose errors may have any context -/
theorem ue_callXL {X : Cx} {B : Bs} {W : WX} {PXF : DXF} {k n : Nat} {f : Addr} {fd : FuncData} {ps : List Str} {sp : VSp} {x : Str} {p pos : Pos} {e : Expr} {es : List Expr} {va : VA}
    (F : FnOk X.prog X.w X.K X.mg X.base (L2.CX X.prog X.w) k f fd ps (lowSp X.K n sp)) (hr : Room k X.A) (hg : Gl X x) (hm : X.mg x = some (.ref f)) (hk : PySem.W.keepIn X.K (.ref f) = true) (hb : Binds X.K fd ps []) (tk : L2.Takes X W) (wh : WshF X.K B PXF W)
    (ha : UA X B (e :: es) va) (hdb : (x == ("__debug__" : Str)) = false := by decide) (he : starEach (e :: es) X.env = (false, eval e X.env) :: starEach es X.env := by rfl) (hpl : (backTo pos (starEach es X.env)).any (·.1) = false := by rfl) :
    UE X B (.Call (.Name x p) (e :: es) [] pos) (vCallX n sp PXF va) :=
  ⟨(pe_callS (E := WE W) F hr hg hm hk hb (fun σ => L2.passAt tk σ) ha.pa hdb he hpl).weak fun σ H Q h => by
    obtain ⟨G, ρ, m, P, e0, s, t, k⟩ := h
    refine ⟨G, ρ, m, _, e0, s, t, fun ds m1 G1 vs H1 q1 e1 s1 r1 => ?_⟩
    refine ⟨r1.length.symm.trans q1.1, G1, ds, m1, _, PXF ρ, s1, r1, q1.2, fun d m2 G2 v H2 q2 e2 => k d m2 G2 v H2 q2 (e1.trans e2), fun C ks es m2 G2 H2 ox p2 e2 s2 x2 => ?_⟩
    exact wh ρ C ks es m2 G2 σ H2 ox p2 ((e0.trans e1).trans e2) ⟨s.fr.mono (e1.trans e2).ex, s2⟩ x2⟩
/-- try: body / except c as n: suite; the body's errors may have any context -/
theorem us_tryAL {X : Cx} {B : Bs} {i : Nat} {x n atn : Str} {c : Value} {C0 : Addr} {body suite : List Stmt} {b₀ : Stmt} {np pos pos' : Pos} {tb : DXF → VS} {ts : Addr → D → VS}
    (hs : X.stack = X.env :: X.outer) (hf : X.env.frame = some X.env.locals) (hN : X.N.Nodup) (hi : X.N[i]? = some n) (hln : X.env.kindOf n = some .local) (hc : Names X x c) (hm : PySem.W.exmOne X.K (.ref C0) c = some true)
    (hb : ∀ (B : Bs) (PXF : DXF) (W : WX) (pn : List (Addr × Obj)) (xe : Value → Shared → Prop), L2.Takes (X.tr pn xe) W → WshF X.K B PXF W → USs (X.tr pn xe) B body (tb PXF))
    (hsu : ∀ (B : Bs) (a : Addr) (oe : Obj) (pn : List (Addr × Obj)) (dd : Addr) (d : D), Zc (.ref C0) (some dd) oe → (∃ vs, oe.data = .fields vs) → XDat X.K B.G atn d dd → PinC (X.suite a ((a, oe) :: pn)) → USs (X.suite a ((a, oe) :: pn)) B (b₀ :: suite) (ts a d)) :
    US X B (.Try body [.ExceptHandler (some (.Name x np)) (some n) (b₀ :: suite) pos'] [] [] pos) (vTryA i C0 atn tb ts) :=
  ⟨PS.weak (L2.ps_try_as (Wout := fun _ _ _ _ => False) (tb := fun W D σ H => ∃ (B : Bs) (PXF : DXF), WshF X.K B PXF W ∧ lowS X.K B (tb PXF) D σ H)
      (ts := fun a cls dx D' σ H => cls = .ref C0 ∧ ∃ (dd : Addr) (d : D) (B : Bs), dx = some dd ∧ XDat X.K B.G atn d dd ∧ lowS X.K B (ts a d) D' σ H) hs hf hN hi hln hc takesL_no
      (fun W pn xe tk _ => ⟨fun pins s σ H D I h => by
        obtain ⟨B, PXF, wh, h⟩ := h
        exact (hb B PXF W pn xe tk wh).ps.run pins s σ H D I h⟩)
      (fun a oe cls dx pn hz hv => ⟨fun pins s σ H D I h => by
        obtain ⟨rfl, dd, d, B, rfl, hx, h⟩ := h
        exact (hsu B a oe pn dd d hz hv hx ⟨(a, oe), List.mem_cons_self⟩).ps.run pins s σ H D I h⟩)) fun D σ H h => by
    obtain ⟨G, ρ, m, E, e0, s, t, k1, k2, k3, k4⟩ := h
    refine ⟨⟨G, m, H⟩, _, ?_, G, ρ, m, E, Stp.refl, s, t, k1, k2, k3, k4⟩
    rintro ρ' C ks ds m' G' σ' H' ox ⟨rfl, d, rfl, rfl, hts⟩ e1 s1 xr
    have e1 : Stp G m H G' m' H' := e1
    obtain ⟨dd, v, rfl, hx⟩ : ∃ (dd : Addr) (v : V), ox = some dd ∧ G' dd = some (.xd [(atn, v)]) ∧ Dn X.K G' d v := by
      rcases xr with ⟨z, _, _⟩ | ⟨dd, fs, _, z, h1, h2, h3⟩
      · cases z
      · match fs, h2, h3 with
        | [(f, v)], h2, h3 =>
          simp only [List.map_cons, List.map_nil, List.cons.injEq, and_true] at h2
          subst h2
          cases h3 with
          | cons r _ => exact ⟨dd, v, z, h1, r⟩
    refine ⟨true, hm, fun _ a ha => ⟨rfl, dd, d, ⟨G', m', H'⟩, rfl, ⟨v, hx⟩, G', fset ρ' i (.adr a), m', _, Stp.refl, ⟨s1.fr.set (.adr a) i, s1.ms⟩, hts a (s1.ms.free ha).2, ?_, ?_, ?_, ?_⟩, fun z => nomatch z⟩
    · intro ρ2 m2 G2 σ2 H2 q e2 s2
      exact k1 _ m2 G2 _ H2 q (e1.trans e2) ⟨FrR.del i none s2.fr, s2.ms⟩
    · intro d m2 G2 v H2 q e2 s2 r2
      exact k2 d m2 G2 v H2 q (e1.trans e2) s2 r2
    · intro ρ2 m2 G2 σ2 H2 q e2 s2
      exact k3 _ m2 G2 _ H2 q (e1.trans e2) ⟨FrR.del i none s2.fr, s2.ms⟩
    · intro ρ2 m2 G2 σ2 H2 q e2 s2
      exact k4 _ m2 G2 _ H2 q (e1.trans e2) ⟨FrR.del i none s2.fr, s2.ms⟩⟩
end DL

/-! ### zip of a text and a tuple; dicts of the module; f-strings -/
namespace DLZ
open PySem PySem.Spec PyProof.Rows L2
def ItzS (K : PySem.W.Frag) (x : Str) (b : Addr) (n : Nat) : It :=
  ⟨fun i H => i < x.cps.size ∧ ∃ (ys : List V) (y : V), SqT K H b ys ∧ ys.length = n ∧ ys[i]? = some y,
    fun i H v H' => ∃ (T : Addr) (c : Nat) (y : V), v = .ref T ∧ H T = none ∧ H' = upd H T (.tup [.str ⟨#[c]⟩, y]) ∧ x.cps[i]? = some c ∧ ∀ ys, SqT K H b ys → ys[i]? = some y,
    fun i H => (∃ ys : List V, SqT K H b ys ∧ ys.length = n) ∧ (x.cps.size ≤ i ∨ n ≤ i)⟩
abbrev tnS (x : Str) (t : Tok) (b z TI TO i1 i2 : Addr) (n : Nat) : Nat → Heap → Prop := fun i h =>
  i ≤ x.cps.size ∧ i ≤ n ∧ IsZip h z TI TO .none ∧ IsTupOf2 h TI (.ref i1) (.ref i2) ∧ (∃ a1 a2, IsTupOf2 h TO a1 a2) ∧ h.IsStrIter i1 (strIterType x) x t i ∧ h.IsTupleIter i2 b i
theorem turn_zipS {P : Program} {w : World} {K : PySem.W.Frag} {elts : List Expr} {kk : Nat} {tpos : Pos} {x : Str} {t : Tok} {b z TI TO i1 i2 : Addr} {n : Nat} (D : ZipSep2 z TI TO i1 i2 [i1] [i2, b]) (hb : b ≠ i2) :
    Turn P w K (.Tuple elts kk tpos) (ItzS K x b n) [z, TI, TO, i1, i2] z (tnS x t b z TI TO i1 i2 n) where
  mem := by simp
  obj := fun i h st c hc => by
    obtain ⟨_, _, hz, hTI, ⟨a1, a2, hTO⟩, ⟨o1, e1, _, d1⟩, ⟨o2, e2, _, d2⟩⟩ := st
    simp only [List.mem_cons, List.not_mem_nil, or_false] at hc
    rcases hc with rfl | rfl | rfl | rfl | rfl
    · exact ⟨_, hz, fun v q => nomatch q⟩
    · exact ⟨_, hTI, fun v q => nomatch q⟩
    · exact ⟨_, hTO, fun v q => nomatch q⟩
    · exact ⟨o1, e1, fun v q => by rw [d1] at q; cases q⟩
    · exact ⟨o2, e2, fun v q => by rw [d2] at q; cases q⟩
  keep := fun i h h' st k => by
    obtain ⟨l1, l2, hz, hTI, ⟨a1, a2, hTO⟩, ⟨o1, e1, r1⟩, ⟨o2, e2, r2⟩⟩ := st
    exact ⟨l1, l2, k z (by simp) _ hz, k TI (by simp) _ hTI, ⟨a1, a2, k TO (by simp) _ hTO⟩, ⟨o1, k i1 (by simp) _ e1, r1⟩, ⟨o2, k i2 (by simp) _ e2, r2⟩⟩
  item := by
    intro X hP hw hK hc i pins s σ H E I hf st hg
    subst hP hw hK
    obtain ⟨l1, l2, hz, hTI, ⟨a1, a2, hTO⟩, h1, h2⟩ := st
    obtain ⟨g1, ys, y, hq, hl, hy⟩ := hg
    obtain ⟨its, rv, p, _⟩ := I.tuple hq
    obtain ⟨u, hu, ru⟩ := rv.get hy
    have lt := (List.getElem?_eq_some_iff.mp hy).1
    have hz1 : z < s.heap.objs.size := Heap.lt_size hz
    have hh : X.A.in1.handled = none := I.ok.hd hc
    have sz : its.toArray.size = n := by rw [List.size_toArray, ← rv.length, hl]
    refine wpAny_pyNext_zipD2_item D (Draws.text hh i1 x t) (Draws.tuple hh i2 b hb its.toArray) hz hTI hTO h1 ⟨h2, p⟩ g1 (by rw [sz]; omega) fun x1 x2 h' tk p1 p2 z' TO' h1' h2' hT hsz hk => ?_
    obtain ⟨c, tc, hc1, rfl⟩ := p1
    have hx2 : x2 = u := by
      have := p2
      rw [List.getElem?_toArray] at this
      exact Option.some.inj (this.symm.trans hu)
    subst hx2
    refine ⟨_, rfl, wpAny_letOwnedTupleGo_zip (s := { s with heap := h', toks := tk }) z' fun h'' z'' sb => ?_⟩
    have up : ∀ q o, q ∉ [z, TI, TO, i1, i2] → s.heap.get? q = some o → h''.get? q = some o := fun q o hn e => by
      simp only [List.mem_cons, List.not_mem_nil, or_false, not_or] at hn
      exact (sb.2 q hn.1).trans (hk q o hn.1 hn.2.2.1 hn.2.2.2.1 hn.2.2.2.2 e)
    have hT2 : h''.get? s.heap.objs.size = some { cls := .type "tuple", data := .seq #[.str ⟨#[c]⟩ tc, x2] } := (sb.2 _ (Nat.ne_of_gt hz1)).trans hT
    have new : ObjOk X.prog X.w (upd H s.heap.objs.size (.tup [.str ⟨#[c]⟩, y])) h'' s.heap.objs.size (.tup [.str ⟨#[c]⟩, y]) :=
      ⟨by show 2 ≤ sizeLine; decide, [.str ⟨#[c]⟩ tc, x2], .cons ⟨tc, rfl⟩ (.cons ru .nil), ⟨_, hT2, rfl, _, rfl⟩⟩
    have I1 : L2.Inv X pins σ (upd H s.heap.objs.size (.tup [.str ⟨#[c]⟩, y])) { s with heap := h'', toks := tk } := I.turnedNew (t' := tk) (ch := [z, TI, TO, i1, i2]) up hf (Nat.le_refl _) new
    refine ⟨.ref s.heap.objs.size, _, I1, rfl, ⟨_, c, y, rfl, I.hok.fresh (Nat.le_refl _), rfl, hc1, fun l hl => by rw [I.tuple_inj hl hq]; exact hy⟩, ⟨g1, by omega, z'', ?_, ⟨.str ⟨#[c]⟩ tc, x2, ?_⟩, ?_, ?_⟩, fun q hq => ?_⟩
    · exact (sb.2 _ D.TIz).trans (hk _ _ D.TIz D.TITO D.TIi1 D.TIi2 hTI)
    · exact (sb.2 _ D.TOz).trans TO'
    · obtain ⟨o1, e1, r1⟩ := h1'
      exact ⟨o1, (sb.2 _ (Ne.symm D.zi1)).trans e1, r1⟩
    · obtain ⟨⟨o2, e2, r2⟩, _⟩ := h2'
      exact ⟨o2, (sb.2 _ (Ne.symm D.zi2)).trans e2, r2⟩
    · have : q < s.heap.objs.size := by
        simp only [List.mem_cons, List.not_mem_nil, or_false] at hq
        rcases hq with rfl | rfl | rfl | rfl | rfl
        · exact hz1
        · exact Heap.lt_size hTI
        · exact Heap.lt_size hTO
        · obtain ⟨_, e, _⟩ := h1; exact Heap.lt_size e
        · obtain ⟨_, e, _⟩ := h2; exact Heap.lt_size e
      rw [upd_ne (Nat.ne_of_lt this)]
      exact (hf q hq).1
  done := by
    intro X hP hw hK hc i pins s σ H E I hf st hg
    subst hP hw hK
    obtain ⟨l1, l2, hz, hTI, ⟨a1, a2, hTO⟩, h1, h2⟩ := st
    obtain ⟨⟨ys, hq, hl⟩, hend⟩ := hg
    obtain ⟨its, rv, p, _⟩ := I.tuple hq
    have hh : X.A.in1.handled = none := I.ok.hd hc
    have sz : its.toArray.size = n := by rw [List.size_toArray, ← rv.length, hl]
    refine wpAny_pyNext_zipD2_end D (Draws.text hh i1 x t) (Draws.tuple hh i2 b hb its.toArray) hz hTI hTO h1 ⟨h2, p⟩ l1 (by rw [sz]; exact l2) (by rw [sz]; omega) fun h' tk hk => ⟨rfl, ?_⟩
    refine I.turnedL (t' := tk) (ch := [z, TI, TO, i1, i2]) (fun q o hn e => ?_) hf
    simp only [List.mem_cons, List.not_mem_nil, or_false, not_or] at hn
    exact hk q o hn.1 hn.2.2.1 hn.2.2.2.1 hn.2.2.2.2 e
  self := fun A i s Q E st h => wpAny_pyIter_zip st.2.2.1 h
def iZipS (K : PySem.W.Frag) (ta : TA) : TI := fun σ H R => ta σ H fun vs H1 => ∃ (x : Str) (b : Addr) (ys : List V), vs = [.str x, .ref b] ∧ SqT K H1 b ys ∧ R (ItzS K x b ys.length) H1
theorem pi_zipS {X : Cx} {e e2 : Expr} {ta : TA} {p pos tpos : Pos} {elts : List Expr} {kk : Nat} (hg : Gl X "zip") (hm : X.mg "zip" = none) (ha : PA X [e, e2] ta)
    (hs : starEach [e, e2] X.env = (false, eval e X.env) :: starEach [e2] X.env := by rfl) (hpl : (backTo pos (starEach [e2] X.env)).any (·.1) = false := by rfl) :
    PI X (.Tuple elts kk tpos) (.Call (.Name "zip" p) [e, e2] [] pos) (iZipS X.K ta) := ⟨fun pins s σ H R I h =>
  Call_ (ld_blt I hg hm PyProof.Rows.boot_zip (PyProof.Rows.callWith_type1 (thn (ha.run pos pins s σ H _ I h) fun us s1 y => by
    obtain ⟨vs, H1, I1, r1, x, b, ys, rfl, hq, q⟩ := y
    obtain ⟨u1, t, rfl, rfl⟩ : ∃ u1 t, u1 = Value.str x t ∧ us = [u1, .ref b] := by
      cases r1 with
      | cons r rr =>
        cases rr with
        | cons r' rr =>
          cases rr
          cases r'
          obtain ⟨t, rfl⟩ := r
          exact ⟨_, t, rfl, rfl⟩
    obtain ⟨its, rv, p2, _⟩ := I1.tuple hq
    have lb : b < s1.heap.objs.size := by
      obtain ⟨o, e, _⟩ := p2
      exact Heap.lt_size e
    refine zip_begins2 (begins_text x t) (begins_tuple b its.toArray) trivial p2 fun h' hz hTI hTO h1 h2 hsz hk => wpAny_pyIter_zip hz ?_
    have I2 : L2.Inv X pins σ H1 { s1 with heap := h' } := I1.kept (t' := s1.toks) hk
    refine ⟨s1.heap.objs.size + 4, [s1.heap.objs.size + 4, s1.heap.objs.size + 2, s1.heap.objs.size + 3, s1.heap.objs.size, s1.heap.objs.size + 1], tnS x t b (s1.heap.objs.size + 4) (s1.heap.objs.size + 2) (s1.heap.objs.size + 3) s1.heap.objs.size (s1.heap.objs.size + 1) ys.length, _, H1, rfl, I2,
      turn_zipS (zip_sep2 (N := s1.heap.objs.size) (fp1 := []) (fp2 := [b]) (by simp) (by simpa using lb)) (Nat.ne_of_lt (Nat.lt_succ_of_lt lb)), ⟨Nat.zero_le _, Nat.zero_le _, hz, hTI, ⟨_, _, hTO⟩, ⟨_, h1, rfl, rfl⟩, ⟨_, h2, rfl, rfl⟩⟩, fun c hc => ?_, q⟩
    have hle : s1.heap.objs.size ≤ c := by
      simp only [List.mem_cons, List.not_mem_nil, or_false] at hc
      rcases hc with rfl | rfl | rfl | rfl | rfl
      · exact Nat.le_add_right _ _
      · exact Nat.le_add_right _ _
      · exact Nat.le_add_right _ _
      · exact Nat.le_refl _
      · exact Nat.le_add_right _ _
    exact I1.fpOk hle (I1.hok.fresh hle)) hs hpl))⟩
/-! a dict of the module with text keys, its entries told -/
def litD : Value → Option DL.D
  | .str y _ => some (.str y)
  | .int i _ => some (.int i)
  | _ => none
def entD (e : DictEntry) : Option (Str × DL.D) := match e.key with
  | .str x _ => (litD e.val).map fun d => (x, d)
  | _ => none
def dicV (K : PySem.W.Frag) (a : Addr) : Option (List (Option (Str × DL.D))) := match K.lookup a with
  | some ⟨_, _, .dict es _, _⟩ => some (es.toList.map entD)
  | _ => none
structure KD (K : PySem.W.Frag) (w : World) (d : Addr) (kvs : List (Str × DL.D)) : Prop where
  kd : ∃ es n, KDict K w d es n
  val : ∀ z, ∃ r, PySem.W.nsIn K d z = some r ∧ (match kvs.lookup z with | none => r = none | some dv => ∃ u, r = some u ∧ litD u = some dv)
theorem lit_rel {u : Value} {d : DL.D} (h : litD u = some d) : ∃ v, RelV v u ∧ ∀ K G, DL.Dn K G d v := by
  cases u <;> first | (cases h; done) | skip
  all_goals (simp only [litD, Option.some.injEq] at h; subst h)
  · rename_i i t
    exact ⟨.int i, ⟨t, rfl⟩, fun _ _ => .int _⟩
  · rename_i y t
    exact ⟨.str y, ⟨t, rfl⟩, fun _ _ => .str _⟩
theorem find_ent : ∀ {l : List DictEntry} {kvs : List (Str × DL.D)} (z : Str), l.map entD = kvs.map some →
    (match kvs.lookup z with | none => l.find? (·.key.isStr z) = none | some dv => ∃ e, l.find? (·.key.isStr z) = some e ∧ litD e.val = some dv) ∧ l.any (·.refKey) = false
  | [], [], _, _ => ⟨rfl, rfl⟩
  | [], _ :: _, _, h => nomatch h
  | _ :: _, [], _, h => nomatch h
  | e :: l, (x, d) :: kvs, z, h => by
    rw [List.map_cons, List.map_cons, List.cons.injEq] at h
    obtain ⟨h1, h2⟩ := h
    obtain ⟨ih1, ih2⟩ := find_ent (l := l) z h2
    obtain ⟨t, hk, hv⟩ : ∃ t, e.key = .str x t ∧ litD e.val = some d := by
      unfold entD at h1
      split at h1
      · rename_i y t hk
        cases hl : litD e.val with
        | none => rw [hl] at h1; cases h1
        | some d' =>
          rw [hl] at h1
          cases h1
          exact ⟨t, hk, rfl⟩
      · cases h1
    have hi : e.key.isStr z = (x == z) := by rw [hk]; rfl
    have hr : e.refKey = false := by unfold DictEntry.refKey; rw [hk]
    refine ⟨?_, by rw [List.any_cons, hr, ih2]; rfl⟩
    rw [List.lookup_cons, List.find?_cons, hi]
    by_cases hz : x = z
    · subst hz
      simp only [BEq.rfl]
      exact ⟨e, rfl, hv⟩
    · rw [beq_eq_false_iff_ne.mpr hz, beq_eq_false_iff_ne.mpr (Ne.symm hz)]
      exact ih1
theorem kd_of {K : PySem.W.Frag} {w : World} {d : Addr} {ks : List Str} {kvs : List (Str × DL.D)} (h1 : He.dicW K d = some (He.keysIn w.params ks)) (h2 : dicV K d = some (kvs.map some)) : KD K w d kvs := by
  obtain ⟨es, n, kd⟩ := He.dicW_ok h1
  refine ⟨⟨es, n, kd⟩, fun z => ?_⟩
  unfold dicV at h2
  rw [kd.at_] at h2
  obtain ⟨f1, f2⟩ := find_ent z (Option.some.inj h2)
  unfold PySem.W.nsIn
  rw [kd.at_]
  dsimp only
  cases hl : kvs.lookup z with
  | none =>
    rw [hl] at f1
    rw [show es.toList.find? (·.key.isStr z) = none from f1, f2]
    exact ⟨none, rfl, rfl⟩
  | some dv =>
    rw [hl] at f1
    obtain ⟨e, he, hv⟩ := f1
    rw [he]
    exact ⟨_, rfl, e.val, rfl, hv⟩
section
variable {X : Cx} {x : Str} {d : Addr} {kvs : List (Str × DL.D)} {e f : Expr} {p apos pos : Pos} {te tf : TE}
/-- d.get(k, x) -/
def tKget (kvs : List (Str × DL.D)) (te tf : TE) : TE := fun σ H Q => te σ H fun k H1 => tf σ H1 fun y H2 => ∃ z : Str, k = .str z ∧ (match kvs.lookup z with | none => Q y H2 | some dv => ∀ v, (∀ K G, DL.Dn K G dv v) → Q v H2)
theorem pe_kget (D : KD X.K X.w d kvs) (hg : Gl X x) (hm : X.mg x = some (.ref d)) (he : PE X e te) (hf : PE X f tf) (m : M2 X (.Name x p) "get" apos e f pos) (hdb : (x == ("__debug__" : Str)) = false := by decide) :
    PE X (.Call (.Attribute (.Name x p) "get" apos) [e, f] [] pos) (tKget kvs te tf) := ⟨fun pins s σ H Q I h => by
  obtain ⟨es, n, kd⟩ := D.kd
  refine wpAny_Call_method m.base m.few m.line PySem.F.plainAttrs_dict PySem.F.slot_dict_get PySem.F.type_dict_get (ld_glob I hg hm ?_ hdb)
  refine ⟨kd_type kd I, fun b q => ?_, ?_⟩
  · cases q
    exact ⟨_, I.kIn _ _ kd.at_, rfl⟩
  rw [m.trees]
  refine Calls.callWith_builtin rfl (Calls.evalArgs_plain (Calls.spliced_cons (thn (he.run pins s σ H _ I h) fun iv s2 y => ?_)))
  obtain ⟨kx, H2, I2, rk, q2⟩ := y
  refine Calls.spliced_cons (thn (hf.run pins s2 σ H2 _ I2 q2) fun fv s3 y => Calls.spliced_nil ?_)
  obtain ⟨yv, H3, I3, ry, z, rfl, q3⟩ := y
  obtain ⟨t, rfl⟩ := rk
  obtain ⟨r, hr, hv⟩ := D.val z
  refine call_meetsIn PySem.F.slot_dict_get (kd_type kd I3) PySem.F.entry_dict_get (PySem.F.args_dict_get_3 _ _ _) (meets_dict_get_default (strKind X.prog X.w) d (strKind_is X.prog X.w z t) kd.low fv)
    ⟨_, PySem.W.mapOf_K (prog := X.prog) (w := X.w) I3.kIn kd.at_ kd.lit, ?_⟩
  show EP X pins σ Q ((findBy Value.isStrOf es z).getD fv) _
  rw [PySem.W.find_K kd.at_ hr]
  cases hl : kvs.lookup z with
  | none =>
    rw [hl] at hv q3
    subst hv
    exact ⟨yv, H3, I3.tok _, ry, q3⟩
  | some dv =>
    rw [hl] at hv q3
    obtain ⟨u, rfl, hu⟩ := hv
    obtain ⟨v, rv, hd⟩ := lit_rel hu
    exact ⟨v, H3, I3.tok _, rv, q3 v hd⟩⟩
end
end DLZ
namespace DL
open PySem L2 DLZ
open Evl (Ex)
section
variable {X : Cx} {B : Bs} {a b e f : Expr} {x : Str} {d : Addr} {kvs : List (Str × D)} {te tf : VE} {va : VA} {p apos pos : Pos}
/-- zip of a text and a tuple -/
def iZS (va : VA) : VI := fun ρ m Q => va ρ m fun ds m1 => match ds with
  | [.str z, .tup es] => Q (zipD (signs z) es) (fun _ => True) m1
  | _ => False
theorem ui_zipS {elts : List Expr} {kk : Nat} {tpos p : Pos} (hg : Gl X "zip") (hm : X.mg "zip" = none) (ha : UA X B [a, b] va)
    (hs : starEach [a, b] X.env = (false, eval a X.env) :: starEach [b] X.env := by rfl) (hpl : (backTo pos (starEach [b] X.env)).any (·.1) = false := by rfl) : UI X B (.Tuple elts kk tpos) (.Call (.Name "zip" p) [a, b] [] pos) (iZS va) :=
  ⟨(pi_zipS hg hm ha.pa hs hpl).weak fun σ H R h => by
    obtain ⟨G, ρ, m, P, e0, s, t, k⟩ := h
    refine ⟨G, ρ, m, _, e0, s, t, fun ds m1 G1 vs H1 q1 e1 s1 r1 => ?_⟩
    split at q1
    · rename_i z es
      obtain ⟨v, v', rfl, r, r'⟩ := r1.two
      cases r
      cases r' with
      | tup h3 h4 =>
        rename_i bx ys
        have hlen : (signs z).length = z.cps.size := by simp [signs]
        refine ⟨z, bx, ys, rfl, Evl.ex_t s1.ex h3, k _ _ m1 G1 H1 _ q1 e1 s1 ?_ trivial⟩
        refine ⟨fun i G m H e s _ hi => ?_, fun i G m H e s _ hi => ?_, fun i G m H x H' e s _ hi y => ?_⟩
        · rw [zipD_len, hlen] at hi
          refine ⟨⟨ys, Evl.ex_t s.ex (Evl.ex_t e h3), rfl⟩, ?_⟩
          rw [← h4.length]
          omega
        · rw [zipD_len, hlen] at hi
          obtain ⟨v, h5, h6⟩ := h4.get (List.getElem?_eq_getElem (show i < es.length by omega))
          exact ⟨by omega, ys, v, Evl.ex_t s.ex (Evl.ex_t e h3), rfl, h5⟩
        · obtain ⟨T, c, y', rfl, hT, rfl, hc, hy⟩ := y
          obtain ⟨d', h5', h6'⟩ := h4.getV (hy ys (Evl.ex_t s.ex (Evl.ex_t e h3)))
          obtain ⟨e2, s2⟩ := s.newG hT (.tup [.str ⟨#[c]⟩, y'])
          refine ⟨_, .tup [.str ⟨#[c]⟩, d'], e2, s2, zipD_at (by simp [signs, hc]) h5', .tup (.of upd_same) (.cons (.str _) (.cons (h6'.mono (e.trans e2.ex)) .nil))⟩
    · exact q1.elim⟩
/-- a dict of the module -/
abbrev KDm (X : Cx) (x : Str) (kvs : List (Str × D)) : Prop := ∃ d, X.mg x = some (.ref d) ∧ KD X.K X.w d kvs
def vKget (kvs : List (Str × D)) (te tf : VE) : VE := fun ρ m Q => te ρ m fun k m1 => tf ρ m1 fun y m2 => match k with | .str z => Q ((kvs.lookup z).getD y) m2 | _ => False
theorem ue_kget (D : KDm X x kvs) (hg : Gl X x) (he : UE X B e te) (hf : UE X B f tf) (m : M2 X (.Name x p) "get" apos e f pos) (hdb : (x == ("__debug__" : Str)) = false := by decide) :
    UE X B (.Call (.Attribute (.Name x p) "get" apos) [e, f] [] pos) (vKget kvs te tf) := by
  obtain ⟨d, hm, D⟩ := D
  refine ⟨(pe_kget D hg hm he.pe hf.pe m hdb).weak fun σ H Q h => ?_⟩
  obtain ⟨G, ρ, m, P, e0, s, t, k⟩ := h
  refine ⟨G, ρ, m, _, e0, s, t, fun x1 m1 G1 v1 H1 q1 e1 s1 r1 => ?_⟩
  refine ⟨G1, ρ, m1, _, e0.trans e1, ⟨s.fr.mono e1.ex, s1⟩, q1, fun x2 m2 G2 v2 H2 q2 e2 s2 r2 => ?_⟩
  cases r1 <;> first | exact q2.elim | skip
  rename_i z
  refine ⟨z, rfl, ?_⟩
  have q2 : P ((kvs.lookup z).getD x2) m2 := q2
  cases hl : kvs.lookup z with
  | none =>
    rw [hl] at q2
    exact k _ m2 G2 _ H2 q2 (e1.trans e2) s2 r2
  | some dv =>
    rw [hl] at q2
    intro v hv
    exact k _ m2 G2 _ H2 q2 (e1.trans e2) s2 (hv _ _)
/-- D[k] -/
def vKix (kvs : List (Str × D)) (te : VE) : VE := fun ρ m Q => te ρ m fun k m1 => match k with | .str z => ∃ dv, kvs.lookup z = some dv ∧ Q dv m1 | _ => False
theorem ue_kix (D : KDm X x kvs) (hg : Gl X x) (he : UE X B e te) (hs : PlainIx e := by exact fun _ _ => rfl) (hdb : (x == ("__debug__" : Str)) = false := by decide) :
    UE X B (.Subscript (.Name x p) e pos) (vKix kvs te) := by
  obtain ⟨d, hm, D⟩ := D
  refine ⟨(pe_ix ix_kdict (pe_glob hg hm (v := .ref d) rfl hdb) he.pe hs).weak fun σ H Q h => ?_⟩
  obtain ⟨G, ρ, m, P, e0, s, t, k⟩ := h
  refine ⟨G, ρ, m, _, e0, s, t, fun x1 m1 G1 v1 H1 q1 e1 s1 r1 => ?_⟩
  cases r1 <;> first | exact q1.elim | skip
  rename_i z
  obtain ⟨dv, hl, q1⟩ := q1
  obtain ⟨es, n, kd⟩ := D.kd
  obtain ⟨r, hr, hv⟩ := D.val z
  rw [hl] at hv
  obtain ⟨u, rfl, hu⟩ := hv
  obtain ⟨v, rv, hd⟩ := lit_rel hu
  exact ⟨d, z, v, rfl, rfl, ⟨es, n, u, kd.at_, kd.lit, hr, rv⟩, k _ m1 G1 _ H1 q1 e1 s1 (hd _ _)⟩
/-- k not in D -/
def vKno (kvs : List (Str × D)) (te : VE) : VE := fun ρ m Q => te ρ m fun k m1 => match k with | .str z => Q (.bl (!(kvs.lookup z).isSome)) m1 | _ => False
theorem ue_kno (D : KDm X x kvs) (hg : Gl X x) (he : UE X B e te) (hm2 : behindInMarks .NotIn (.Name x p) = false := by rfl) (hdb : (x == ("__debug__" : Str)) = false := by decide) :
    UE X B (.Compare e [.NotIn] [.Name x p] pos) (vKno kvs te) := by
  obtain ⟨d, hm, D⟩ := D
  obtain ⟨es, n, kd⟩ := D.kd
  refine ⟨(pe_cmpR (op_notIn_kd kd) he.pe (pe_glob hg hm (v := .ref d) rfl hdb) hm2).weak fun σ H Q h => ?_⟩
  obtain ⟨G, ρ, m, P, e0, s, t, k⟩ := h
  refine ⟨G, ρ, m, _, e0, s, t, fun x1 m1 G1 v1 H1 q1 e1 s1 r1 => ?_⟩
  cases r1 <;> first | exact q1.elim | skip
  rename_i z
  obtain ⟨r, hr, hv⟩ := D.val z
  have hq : r.isSome = (kvs.lookup z).isSome := by
    cases hl : kvs.lookup z with
    | none => rw [hl] at hv; rw [hv]; rfl
    | some dv => rw [hl] at hv; obtain ⟨u, rfl, _⟩ := hv; rfl
  exact ⟨z, r, rfl, rfl, hr, by rw [hq]; exact k _ m1 G1 _ H1 q1 e1 s1 (.bl _)⟩
/-! f-strings -/
def vFmt (te : VE) : VE := fun ρ m Q => te ρ m fun d m1 => match d with
  | .str y => y.length ≤ sizeLine ∧ Q (.str y) m1
  | .int i => i.natAbs.log2 < 1920 ∧ Q (.str (toString i)) m1
  | _ => False
theorem ue_fmt (he : UE X B e te) : UE X B (.FormattedValue e (-1) none pos) (vFmt te) := ⟨(pe_fmt he.pe).weak fun σ H Q h => by
  obtain ⟨G, ρ, m, P, e0, s, t, k⟩ := h
  refine ⟨G, ρ, m, _, e0, s, t, fun d m1 G1 v1 H1 q1 e1 s1 r1 => ?_⟩
  cases r1 <;> first | exact q1.elim | skip
  · exact .inr ⟨_, rfl, q1.1, k _ m1 G1 _ H1 q1.2 e1 s1 (.str _)⟩
  · exact .inl ⟨_, rfl, q1.1, k _ m1 G1 _ H1 q1.2 e1 s1 (.str _)⟩⟩
inductive UJ (X : Cx) (B : Bs) : List Expr → List VE → Prop
  | nil : UJ X B [] []
  | cons {e : Expr} {t : VE} {es : List Expr} {ts : List VE} (h : UE X B e t) (r : UJ X B es ts) : UJ X B (e :: es) (t :: ts)
theorem UJ.pj {es : List Expr} {ts : List VE} (h : UJ X B es ts) : PJ X es (ts.map (lowE X.K B)) := by
  induction h with
  | nil => exact .nil
  | cons h _ ih => exact .cons h.pe ih
def vJs : List VE → Str → VE
  | [], acc => fun _ m Q => Q (.str acc) m
  | t :: ts, acc => fun ρ m Q => t ρ m fun d m1 => match d with
    | .str y => (acc ++ y).length ≤ sizeLine ∧ vJs ts (acc ++ y) ρ m1 Q
    | _ => False
theorem low_js : ∀ (ts : List VE) (acc : Str) {σ : L2.St} {H : Hp} {Q : VK}, lowE X.K B (vJs ts acc) σ H Q → tJs (ts.map (lowE X.K B)) acc σ H fun out H1 => Q (.str out) H1
  | [], acc, σ, H, Q, h => by
    obtain ⟨G, ρ, m, P, e0, s, t, k⟩ := h
    exact k _ m G _ H t Stp.refl s.ms (.str _)
  | t1 :: ts, acc, σ, H, Q, h => by
    obtain ⟨G, ρ, m, P, e0, s, t, k⟩ := h
    refine ⟨G, ρ, m, _, e0, s, t, fun d m1 G1 v1 H1 q1 e1 s1 r1 => ?_⟩
    cases r1 <;> first | exact q1.elim | skip
    rename_i y
    refine ⟨y, rfl, q1.1, low_js ts (acc ++ y) ⟨G1, ρ, m1, P, e0.trans e1, ⟨s.fr.mono e1.ex, s1⟩, q1.2, fun d m2 G2 v H2 q2 e2 => k d m2 G2 v H2 q2 (e1.trans e2)⟩⟩
def vJoin : List VE → VE
  | [] => fun _ m Q => Q (.str Str.empty) m
  | t :: ts => fun ρ m Q => t ρ m fun d m1 => match d with
    | .str y => y.length ≤ sizeLine ∧ vJs ts y ρ m1 Q
    | _ => False
theorem empty_app (y : Str) : Str.empty ++ y = y := PySem.Str.ext' (by rw [PySem.Str.cps_append]; simp [Str.empty])
theorem ue_joined {v1 v2 : Expr} {rest : List Expr} {ts : List VE} (h : UJ X B (v1 :: v2 :: rest) ts) : UE X B (.JoinedStr (v1 :: v2 :: rest) pos) (vJoin ts) := ⟨(pe_joined h.pj).weak fun σ H Q z => by
  refine low_js ts Str.empty ?_
  obtain ⟨G, ρ, m, P, e0, s, t, k⟩ := z
  refine ⟨G, ρ, m, P, e0, s, ?_, k⟩
  cases h with
  | cons h1 h2 =>
    rename_i t1 ts
    have e : vJs (t1 :: ts) Str.empty = vJoin (t1 :: ts) := by
      funext ρ m Q
      show (t1 ρ m fun d m1 => match d with | .str y => (Str.empty ++ y).length ≤ sizeLine ∧ vJs ts (Str.empty ++ y) ρ m1 Q | _ => False) = t1 ρ m fun d m1 => match d with | .str y => y.length ≤ sizeLine ∧ vJs ts y ρ m1 Q | _ => False
      congr 1
      funext d m1
      cases d <;> first | rfl | skip
      dsimp only
      rw [empty_app]
    rw [e]
    exact t⟩
end
end DL

namespace DL
open PySem L2
open Evl (Ex)
/-- "a" * n with 0 ≤ n -/
theorem op_mulS0 {X : Cx} : OpR X (binaryOp .Mult) (fun x y H Q => ∃ (a : Str) (n : Int), x = .str a ∧ y = .int n ∧ (0 ≤ n ∧ n ≤ 1000 ∧ 1 ≤ a.length ∧ a.length ≤ 1000) ∧ Q (.str (repS a n)) H) := by
  intro pins s σ H x y v u Q I rx ry h
  obtain ⟨a, n, rfl, rfl, ⟨h1, h2, h3, h4⟩, q⟩ := h
  by_cases hn2 : 2 ≤ n
  · exact op_mulS pins s σ H _ _ v u Q I rx ry ⟨a, n, rfl, rfl, ⟨hn2, h2, h3, h4⟩, q⟩
  obtain ⟨t, rfl⟩ := rx
  obtain ⟨t', rfl⟩ := ry
  refine PySem.P.mul_str ?_ ?_ ?_ ?_
  · rw [decide_eq_false (by omega), decide_eq_false (by omega)]
    rfl
  · intro _ h5
    exfalso
    have : n = 1 := by omega
    subst this
    exact absurd h5 (by simp)
  · intro _ h5
    exfalso
    have : n = 1 := by omega
    subst this
    exact absurd h5 (by simp)
  · rcases (show n = 0 ∨ n = 1 by omega) with rfl | rfl
    · rw [if_pos (by decide)]
      refine ⟨by decide, .str (repS a 0), H, I.tok _, ⟨_, rfl⟩, q⟩
    · rw [if_neg (by decide), if_pos (by simp)]
      have e : repS a 1 = a := by
        unfold repS
        cases a
        simp
      rw [e] at q
      exact ⟨.str a, H, I, ⟨_, rfl⟩, q⟩
def oMulT : VO := fun x y _ Q => match x, y with
  | .str a, .int n => (0 ≤ n ∧ n ≤ 1000 ∧ 1 ≤ a.length ∧ a.length ≤ 1000) ∧ Q (.str (repS a n))
  | _, _ => False
theorem uo_mulT {X : Cx} : UO X (binaryOp .Mult) oMulT := opw op_mulS0 fun x y H Q h => by
  obtain ⟨G, m, dx, dy, P, s, hx, hy, t, k⟩ := h
  unfold oMulT at t
  split at t
  · cases hx
    cases hy
    exact ⟨_, _, rfl, rfl, t.1, k _ G _ H t.2 Stp.refl s (.str _)⟩
  · exact t.elim
end DL

/-! tuple(x), by a constructor -/
namespace DL
open PySem L2
open Evl (Ex)
def tupOf (m : MH) : D → Option (List D)
  | .tup es => some es
  | d => asL m d
theorem tupOf_ne {m : MH} {d : D} (h : ∀ es, d ≠ .tup es) : tupOf m d = asL m d := by
  cases d <;> first
    | rfl
    | exact absurd rfl (h _)
theorem bT_ne {m : MH} {d : D} {Q : D → Prop} (h : ∀ es, d ≠ .tup es) : bTuple [d] m Q = ∃ es, asL m d = some es ∧ Q (.tup es) := by
  cases d <;> first
    | rfl
    | exact absurd rfl (h _)
theorem tup_dec (d : D) : (∃ es, d = .tup es) ∨ ∀ es, d ≠ .tup es := by
  cases d <;> first
    | exact .inl ⟨_, rfl⟩
    | exact .inr fun _ h => nomatch h
theorem tupOf_l {m : MH} {d : D} {es : List D} (h : asL m d = some es) : tupOf m d = some es := by
  rw [tupOf_ne]
  · exact h
  · rintro es' rfl
    cases h
theorem tupOf_up {m : MH} {d : D} {es : List D} {p : Addr} {o : MO} (h : tupOf m d = some es) (hp : m p = none) : tupOf (mup m p o) d = some es := by
  rcases tup_dec d with ⟨es', rfl⟩ | hn
  · exact h
  · rw [tupOf_ne hn] at h ⊢
    exact asL_up h hp
inductive TupG (d : D) (m : MH) (Q : D → Prop) : Prop
  | mk {es : List D} (h : tupOf m d = some es) (q : Q (.tup es))
def bTupleG : VB := fun ds m Q => match ds with
  | [d] => TupG d m Q
  | _ => False
theorem ub_tupleG {X : Cx} : UB X (.type "tuple") bTupleG := callw ub_tuple fun vs H Q h => by
  obtain ⟨G, m, ds, P, s, r, t, k⟩ := h
  refine ⟨G, m, ds, P, s, r, ?_, k⟩
  unfold bTupleG at t
  split at t
  · rename_i d
    obtain ⟨h, q⟩ := t
    rcases tup_dec d with ⟨es', rfl⟩ | hn
    · cases h
      exact q
    · rw [bT_ne hn]
      rw [tupOf_ne hn] at h
      exact ⟨_, h, q⟩
  · exact t.elim
/-- a list that may stand in a cell or be frozen already -/
def vFrz2 (t : VE) : VE := fun ρ m Q => t ρ m fun d m1 => match d with
  | .adr a => ∃ ds, m1 a = some (.lst ds) ∧ Q (.lst ds) (mdel m1 a)
  | .lst ds => Q (.lst ds) m1
  | _ => False
theorem ue_frz2 {X : Cx} {B : Bs} {e : Expr} {te : VE} (h : UE X B e te) : UE X B e (vFrz2 te) := h.weak fun σ H Q h => by
  obtain ⟨G, ρ, m, P, e0, s, t, k⟩ := h
  refine ⟨G, ρ, m, _, e0, s, t, fun d m1 G1 v1 H1 q1 e1 s1 r1 => ?_⟩
  cases r1 <;> first | exact q1.elim | skip
  · rename_i a
    obtain ⟨ds, h1, h2⟩ := q1
    obtain ⟨ho, r, e2, s2⟩ := s1.freeze h1
    cases r with
    | lst r => exact k _ _ _ _ H1 h2 (e1.trans e2) s2 (.lst upd_same (r.mono e2.ex))
  · rename_i h1 h2
    exact k _ _ _ _ H1 q1 e1 s1 (.lst h1 h2)
end DL

/-! ### try .. except C, without a name; the body's errors may have any context, the suite raises nothing -/
namespace DL
open PySem L2
open Evl (Ex)
theorem us_tryOL {X : Cx} {B : Bs} {x : Str} {c : Value} {C0 : Addr} {body suite : List Stmt} {b₀ : Stmt} {np pos pos' : Pos} {tb : DXF → VS} {ts : VS}
    (hs : X.stack = X.env :: X.outer) (hf : X.env.frame = some X.env.locals) (hc : Names X x c) (hm : PySem.W.exmOne X.K (.ref C0) c = some true)
    (hb : ∀ (B : Bs) (PXF : DXF) (W : WX) (pn : List (Addr × Obj)) (xe : Value → Shared → Prop), L2.Takes (X.tr pn xe) W → WshF X.K B PXF W → USs (X.tr pn xe) B body (tb PXF))
    (hsu : ∀ (B : Bs) (a : Addr) (oe : Obj) (pn : List (Addr × Obj)), USs (X.suite a ((a, oe) :: pn)) B (b₀ :: suite) ts) :
    US X B (.Try body [.ExceptHandler (some (.Name x np)) none (b₀ :: suite) pos'] [] [] pos) (vTryO C0 tb ts) :=
  ⟨PS.weak (L2.ps_try_only (Wout := fun _ _ _ _ => False) (tb := fun W D σ H => ∃ (B : Bs) (PXF : DXF), WshF X.K B PXF W ∧ lowS X.K B (tb PXF) D σ H)
      (ts := fun a cls d D σ H => cls = .ref C0 ∧ ∃ B : Bs, lowS X.K B ts D σ H) hs hf hc takesL_no
      (fun W pn xe tk _ => ⟨fun pins s σ H D I h => by
        obtain ⟨B, PXF, wh, h⟩ := h
        exact (hb B PXF W pn xe tk wh).ps.run pins s σ H D I h⟩)
      (fun a oe cls d pn hz hv => ⟨fun pins s σ H D I h => by
        obtain ⟨rfl, B, h⟩ := h
        exact (hsu B a oe pn).ps.run pins s σ H D I h⟩)) fun D σ H h => by
    obtain ⟨G, ρ, m, E, e0, s, t, k1, k2, k3, k4⟩ := h
    refine ⟨⟨G, m, H⟩, _, ?_, G, ρ, m, E, Stp.refl, s, t, k1, k2, k3, k4⟩
    rintro ρ' C ks ds m' G' σ' H' ox ⟨rfl, hts⟩ e1 s1 xr
    have e1 : Stp G m H G' m' H' := e1
    refine ⟨true, hm, fun _ a ha => ⟨rfl, ⟨G', m', H'⟩, G', ρ', m', E, Stp.refl, s1, hts, ?_, ?_, ?_, ?_⟩, fun z => nomatch z⟩
    · intro ρ2 m2 G2 σ2 H2 q e2 s2
      exact k1 _ m2 G2 _ H2 q (e1.trans e2) s2
    · intro d m2 G2 v H2 q e2 s2 r2
      exact k2 d m2 G2 v H2 q (e1.trans e2) s2 r2
    · intro ρ2 m2 G2 σ2 H2 q e2 s2
      exact k3 _ m2 G2 _ H2 q (e1.trans e2) s2
    · intro ρ2 m2 G2 σ2 H2 q e2 s2
      exact k4 _ m2 G2 _ H2 q (e1.trans e2) s2⟩
/-- k not in D, as a test -/
theorem ut_kno {X : Cx} {B : Bs} {x : Str} {kvs : List (Str × D)} {e : Expr} {te : VE} {p pos : Pos} (D : KDm X x kvs) (hg : Gl X x) (he : UE X B e te) (hm2 : behindInMarks .NotIn (.Name x p) = false := by rfl) (hdb : (x == ("__debug__" : Str)) = false := by decide) :
    UT X B (.Compare e [.NotIn] [.Name x p] pos) (vTest (vKno kvs te)) := by
  obtain ⟨d, hm, D⟩ := D
  obtain ⟨es, n, kd⟩ := D.kd
  refine ⟨(pt_cmpR (op_notIn_kd kd) he.pe (pe_glob hg hm (v := .ref d) rfl hdb) hm2).weak fun σ H Q h => ?_⟩
  obtain ⟨G, ρ, m, P, e0, s, t, k⟩ := h
  refine ⟨G, ρ, m, _, e0, s, t, fun x1 m1 G1 v1 H1 q1 e1 s1 r1 => ?_⟩
  cases r1 <;> first | exact q1.elim | skip
  rename_i z
  obtain ⟨r, hr, hv⟩ := D.val z
  have hq : r.isSome = (kvs.lookup z).isSome := by
    cases hl : kvs.lookup z with
    | none => rw [hl] at hv; rw [hv]; rfl
    | some dv => rw [hl] at hv; obtain ⟨u, rfl, _⟩ := hv; rfl
  exact ⟨z, r, rfl, rfl, hr, _, rfl, by rw [hq]; exact k _ m1 G1 H1 q1 e1 s1⟩
end DL

/-! dicts of ints and texts: cells -/
namespace DLK
open PySem PySem.Spec PyProof.Rows L2
variable {X : Cx}
/-- sorted(d) of a dict, all keys ints, any number of them -/
theorem call_sortedD (hcalm : X.calm = true) : CallR X (.builtin "sorted") (fun xs H Q => ∃ (a : Addr) (kvs : List (Key × V)) (ks : List Int), xs = [.ref a] ∧ Rd H a (.dK kvs) ∧ kvs.map (·.1) = ks.map Sum.inl ∧
    ∀ (ys : List Int) (p : Addr), ys.Perm ks → ys.Pairwise (· ≤ ·) → H p = none → Q (.ref p) (upd H p (.lst (ys.map V.int)))) := by
  intro pins s σ H xs us Q I r q
  obtain ⟨a, kvs, ks, ex, hd, hks, q⟩ := q
  subst ex
  obtain ⟨u, eu, rx⟩ := vals1 r
  subst eu
  cases rx
  obtain ⟨z, lo, vs, rel, dd⟩ := dk_rd I.hok hd
  obtain ⟨ep, hat⟩ := dd.dictAt
  have hkeys : vs.map (·.1) = ks.map Sum.inl := rel.keys.symm.trans hks
  have hl : vs.length = ks.length := by
    have e := congrArg List.length hkeys
    rw [List.length_map, List.length_map] at e
    exact e
  have h16 : vs.length ≤ sizeLine := by rw [← rel.length]; exact z
  refine Calls.call_function_entry PyProof.Rows.kind_sorted PyProof.Rows.plain_sorted PyProof.Rows.entry_sorted (PyProof.Rows.args_sorted1 _) ?_
  unfold Builtin.«sorted»
  refine wpAny_bind (m := checkCount "sorted" 1 1 _) (wpAny_pure ?_)
  refine wpAny_bind (PySem.W.kdu_collect (A := X.A.in1) (PySem.W.kdl_dict (knd := mixKind X.prog X.w) (kvs := vs) (ep := ep) lo) (I.ok.hd hcalm) hat h16 fun h' tk acc hk hacc => ?_)
  have hal : acc.toList.length = ks.length := by rw [Array.length_toList, hacc.1, hl]
  have hS : IntsAre acc.toList ks := ints_each hal fun j v e => by
    obtain ⟨k, x, e1, e2⟩ := hacc.2 j v (by rw [← Array.getElem?_toList]; exact e)
    have e3 : (vs.map (·.1))[j]? = some k := by rw [List.getElem?_map, e1]; rfl
    rw [hkeys, List.getElem?_map] at e3
    cases e4 : ks[j]? with
    | none => rw [e4] at e3; cases e3
    | some y =>
      rw [e4] at e3
      have e5 : Sum.inl y = k := Option.some.inj e3
      subst e5
      rcases keyIs_shape (show keyIs (Sum.inl y) v = true from e2) with ⟨i, t, ek, ev⟩ | ⟨z, t, ek, ev⟩
      · cases ek
        exact ⟨y, t, rfl, ev⟩
      · cases ek
  have hz : acc.toList.length ≤ sizeLine := by rw [hal, ← hl]; exact h16
  have I1 : Inv X pins σ H { s with heap := h', toks := tk } := I.kept hk
  refine wpAny_bind (wpAny_newList ?_ hz)
  have hoL : (h'.push (seqObj "list" acc.toList.toArray 0)).get? h'.objs.size = some (seqObj "list" acc.toList.toArray 0) := Heap.get?_push_size _ rfl
  show wpAny _ _ _ _ _ { s with heap := h'.push (seqObj "list" acc.toList.toArray 0), toks := tk }
  refine wpAny_bind (wpAny_holding (wpAny_call_entry PyProof.Rows.slot_list_sort ⟨_, hoL, rfl⟩ PyProof.Rows.entry_list_sort
    (SrtO.list_sort_ord (s := { s with heap := h'.push (seqObj "list" acc.toList.toArray 0), toks := tk }) SrtO.swo_int hoL hz (fun h2 => SrtO.ints_sortable hS h2) fun out g1 g2 => ⟨_, rfl, ?_⟩) (PyProof.Rows.args_list_sort _)))
  obtain ⟨k1, k2, k3⟩ := SrtO.ints_out hS g1 g2
  obtain ⟨e', he'⟩ := PyProof.Rows.sortedHeap_at (vs := acc.toList) (out := out.toArray) hoL
  have hlen : ((out.map SrtO.iv).map V.int).length ≤ sizeLine := by
    rw [List.length_map, k2.length_eq, ← hal]
    exact hz
  refine wpAny_pure ⟨_, rfl, .ref h'.objs.size, upd H h'.objs.size (.lst ((out.map SrtO.iv).map V.int)), I1.laid (t' := tk) (fun b u e => ?_) (Nat.le_refl _)
    (show ObjOk X.prog X.w _ _ _ (.lst ((out.map SrtO.iv).map V.int)) from ⟨hlen, out, e', vals_of_ints k1, he'⟩), rfl, q _ _ k2 k3 (I1.hok.fresh (Nat.le_refl _))⟩
  have hb : b < h'.objs.size := Heap.lt_size e
  rw [PyProof.Rows.sortedHeap_old (Nat.ne_of_lt hb) (by rw [size_push']; exact Nat.lt_succ_of_lt hb)]
  exact Heap.get?_push_of_some _ e
end DLK
namespace DL
open PySem PySem.Spec L2
open Evl (Ex)
def getK {α : Type} (kds : List (Key × α)) (k : Key) : Option α := (kds.find? fun kv => decide (kv.1 = k)).map (·.2)
def setK {α : Type} (kds : List (Key × α)) (k : Key) (v : α) : List (Key × α) :=
  if (kds.any fun kv => decide (kv.1 = k)) = true then kds.map (fun kv => if kv.1 = k then (kv.1, v) else kv) else kds ++ [(k, v)]
def keyD : D → Option Key
  | .int i => some (.inl i)
  | .str x => some (.inr x)
  | _ => none
def dKey : Key → D
  | .inl i => .int i
  | .inr x => .str x
def gK (kds : List (Key × D)) (y : D) : Option D := (keyD y).bind (getK kds)
def sK (kds : List (Key × D)) (y d : D) : List (Key × D) := match keyD y with
  | some k => setK kds k d
  | none => kds
/-- the dict at x -/
def asK (m : MH) : D → Option (List (Key × D))
  | .adr a => match m a with
    | some (.dct kds) => some kds
    | some (.dkl _ _ kds) => some kds
    | _ => none
  | _ => none
theorem asK_cell {m : MH} {a : Addr} {kds : List (Key × D)} (h : m a = some (.dct kds)) : asK m (.adr a) = some kds := by simp only [asK, h]
theorem asK_lock {m : MH} {a : Addr} {o : Obj} {kvs : List (Key × V)} {kds : List (Key × D)} (h : m a = some (.dkl o kvs kds)) : asK m (.adr a) = some kds := by simp only [asK, h]
structure KD (K : PySem.W.Frag) (G : Hp) (kds : List (Key × D)) (kvs : List (Key × V)) : Prop where
  ks : kvs.map (·.1) = kds.map (·.1)
  vs : DnAll K G (kds.map (·.2)) (kvs.map (·.2))
section
variable {K : PySem.W.Frag} {G G' H : Hp} {m : MH} {d y : D} {v u : V} {k : Key}
theorem KD.mono {kds : List (Key × D)} {kvs : List (Key × V)} (r : KD K G kds kvs) (e : Ex G G') : KD K G' kds kvs := ⟨r.ks, r.vs.mono e⟩
theorem KD.cons {k : Key} {kds : List (Key × D)} {kvs : List (Key × V)} (h : Dn K G d v) (r : KD K G kds kvs) : KD K G ((k, d) :: kds) ((k, v) :: kvs) := ⟨by simp [r.ks], .cons h r.vs⟩
theorem KD.length {kds : List (Key × D)} {kvs : List (Key × V)} (r : KD K G kds kvs) : kvs.length = kds.length := by
  have := congrArg List.length r.ks
  simpa using this
theorem KD.inv {p : Key × D} {kds : List (Key × D)} {q : Key × V} {kvs : List (Key × V)} (r : KD K G (p :: kds) (q :: kvs)) : q.1 = p.1 ∧ Dn K G p.2 q.2 ∧ KD K G kds kvs := by
  obtain ⟨h1, h2⟩ := r
  simp only [List.map_cons, List.cons.injEq] at h1
  simp only [List.map_cons] at h2
  cases h2 with
  | cons h3 h4 => exact ⟨h1.1, h3, h1.2, h4⟩
theorem KD.get : ∀ {kds : List (Key × D)} {kvs : List (Key × V)}, KD K G kds kvs → (∀ d, getK kds k = some d → ∃ v, valV kvs k = some v ∧ Dn K G d v) ∧ (getK kds k = none → valV kvs k = none)
  | [], [], _ => ⟨fun d h => (by cases h), fun _ => rfl⟩
  | [], _ :: _, r => by have := r.length; simp at this
  | _ :: _, [], r => by have := r.length; simp at this
  | p :: kds, q :: kvs, r => by
    obtain ⟨h1, h2, h3⟩ := r.inv
    obtain ⟨i1, i2⟩ := KD.get h3
    by_cases e : p.1 = k
    · have e' : q.1 = k := h1.trans e
      refine ⟨fun d h => ⟨q.2, valV_pos e', ?_⟩, fun h => ?_⟩
      · have : getK (p :: kds) k = some p.2 := by simp [getK, List.find?_cons, e]
        rw [this] at h
        cases h
        exact h2
      · simp [getK, List.find?_cons, e] at h
    · have e' : ¬ q.1 = k := fun z => e (h1.symm.trans z)
      have : getK (p :: kds) k = getK kds k := by simp [getK, List.find?_cons, e]
      rw [this, valV_neg e']
      exact ⟨i1, i2⟩
theorem KD.any : ∀ {kds : List (Key × D)} {kvs : List (Key × V)}, KD K G kds kvs → (kvs.any fun kv => decide (kv.1 = k)) = (kds.any fun kv => decide (kv.1 = k))
  | [], [], _ => rfl
  | [], _ :: _, r => by have := r.length; simp at this
  | _ :: _, [], r => by have := r.length; simp at this
  | p :: kds, q :: kvs, r => by
    obtain ⟨h1, h2, h3⟩ := r.inv
    rw [List.any_cons, List.any_cons, KD.any h3, h1]
theorem KD.repl (hd : Dn K G d v) : ∀ {kds : List (Key × D)} {kvs : List (Key × V)}, KD K G kds kvs → KD K G (kds.map fun kv => if kv.1 = k then (kv.1, d) else kv) (kvs.map fun kv => if kv.1 = k then (kv.1, v) else kv)
  | [], [], _ => ⟨rfl, .nil⟩
  | [], _ :: _, r => by have := r.length; simp at this
  | _ :: _, [], r => by have := r.length; simp at this
  | (a, x) :: kds, (b, z) :: kvs, r => by
    obtain ⟨h1, h2, h3⟩ := r.inv
    replace h1 : b = a := h1
    subst h1
    rw [List.map_cons, List.map_cons]
    by_cases e : b = k
    · rw [if_pos e, if_pos e]
      exact .cons hd (KD.repl hd h3)
    · rw [if_neg e, if_neg e]
      exact .cons h2 (KD.repl hd h3)
theorem KD.put (hd : Dn K G d v) {kds : List (Key × D)} {kvs : List (Key × V)} (r : KD K G kds kvs) : KD K G (setK kds k d) (putK kvs k v) := by
  unfold setK putK
  rw [r.any]
  split
  · exact r.repl hd
  · refine ⟨by simp [r.ks], ?_⟩
    rw [List.map_append, List.map_append]
    exact r.vs.append (.cons hd .nil)
theorem key_dn (r : Dn K G y u) (h : keyD y = some k) : u = kV k := by
  cases r <;> first | (cases h; rfl) | cases h
theorem dn_key (k : Key) : Dn K G (dKey k) (kV k) := by
  cases k
  · exact .int _
  · exact .str _
theorem MSt.asK (s : MSt K G m H) {x : D} {v : V} {kds : List (Key × D)} (r : Dn K G x v) (h : asK m x = some kds) : ∃ a kvs, v = .ref a ∧ x = .adr a ∧ Rd H a (.dK kvs) ∧ KD K G kds kvs := by
  cases x with
  | adr a =>
    cases r
    simp only [DL.asK] at h
    cases q : m a with
    | none => rw [q] at h; cases h
    | some o =>
      rw [q] at h
      obtain ⟨_, ho, h1, h2⟩ := s.mr a _ q
      cases h2 with
      | dct h2 h3 => cases h; exact ⟨a, _, rfl, rfl, .inl h1, h2, h3⟩
      | dkl h2 h3 => cases h; exact ⟨a, _, rfl, rfl, .inr ⟨_, h1⟩, h2, h3⟩
      | lst _ => cases h
      | ins _ _ => cases h
  | _ => cases h
/-- what is read at a key -/
theorem KD.dget {a : Addr} {kds : List (Key × D)} {kvs : List (Key × V)} (r : KD K G kds kvs) (h : Rd H a (.dK kvs)) (ry : Dn K G y u) (hk : (keyD y).isSome = true) :
    (∀ d, gK kds y = some d → ∃ v, DGet H a u (some v) ∧ Dn K G d v) ∧ (gK kds y = none → DGet H a u none) ∧ (∃ o, DGet H a u o ∧ o.isSome = (gK kds y).isSome) := by
  obtain ⟨k, hk⟩ := Option.isSome_iff_exists.mp hk
  have e := key_dn ry hk
  subst e
  have eg : gK kds y = getK kds k := by simp [gK, hk]
  rw [eg]
  obtain ⟨i1, i2⟩ := r.get (k := k)
  refine ⟨fun d hd => ?_, fun hn => .inl ⟨kvs, k, h, rfl, (i2 hn).symm⟩, ?_⟩
  · obtain ⟨v, h1, h2⟩ := i1 d hd
    exact ⟨v, .inl ⟨kvs, k, h, rfl, h1.symm⟩, h2⟩
  · refine ⟨valV kvs k, .inl ⟨kvs, k, h, rfl, rfl⟩, ?_⟩
    cases e : getK kds k with
    | none => rw [i2 e]; rfl
    | some d => obtain ⟨v, h1, _⟩ := i1 d e; rw [h1]; rfl
end
section
variable {X : Cx} {B : Bs} {o i e f : Expr} {to ti te tx : VE} {va : VA} {pos pos' p apos cpos : Pos} {es : List Expr}
/-- d[k] -/
def vDix (to ti : VE) : VE := fun ρ m Q => to ρ m fun x m1 => ti ρ m1 fun y m2 => ∃ kds, asK m2 x = some kds ∧ (keyD y).isSome = true ∧ ∃ d, gK kds y = some d ∧ Q d m2
theorem ue_dix (hu : X.A.units + 1 < cLine) (ho : UE X B o to) (hi : UE X B i ti) (hs : NoSl i := by intro _ _; rfl) : UE X B (.Subscript o i pos) (vDix to ti) :=
  ⟨(pe_dget hu ho.pe hi.pe hs).weak fun σ H Q h => by
    obtain ⟨G, ρ, m, P, e0, s, t, k⟩ := h
    refine ⟨G, ρ, m, _, e0, s, t, fun x m1 G1 v1 H1 q1 e1 s1 r1 => ?_⟩
    refine ⟨G1, ρ, m1, _, e0.trans e1, ⟨s.fr.mono e1.ex, s1⟩, q1, fun y m2 G2 v2 H2 q2 e2 s2 r2 => ?_⟩
    obtain ⟨kds, h1, hk, d, h2, q⟩ := q2
    obtain ⟨a, kvs, rfl, rfl, h3, h4⟩ := s2.asK (r1.mono e2.ex) h1
    obtain ⟨v, h5, h6⟩ := (h4.dget h3 r2 hk).1 d h2
    exact ⟨a, v, rfl, h5, k _ m2 G2 v H2 q (e1.trans e2) s2 h6⟩⟩
/-- k in d, k not in d -/
def vDin (neg : Bool) (ti to : VE) : VE := fun ρ m Q => ti ρ m fun y m1 => to ρ m1 fun x m2 => ∃ kds, asK m2 x = some kds ∧ (keyD y).isSome = true ∧ Q (.bl (nb neg (gK kds y).isSome)) m2
theorem low_din {neg : Bool} {σ : L2.St} {H : Hp} {Q : VK} (h : lowE X.K B (vDin neg ti to) σ H Q) : (lowE X.K B ti) σ H fun y H1 => (lowE X.K B to) σ H1 fun x H2 => ∃ a o, x = .ref a ∧ DGet H2 a y o ∧ Q (.bl (nb neg o.isSome)) H2 := by
  obtain ⟨G, ρ, m, P, e0, s, t, k⟩ := h
  refine ⟨G, ρ, m, _, e0, s, t, fun y m1 G1 v1 H1 q1 e1 s1 r1 => ?_⟩
  refine ⟨G1, ρ, m1, _, e0.trans e1, ⟨s.fr.mono e1.ex, s1⟩, q1, fun x m2 G2 v2 H2 q2 e2 s2 r2 => ?_⟩
  obtain ⟨kds, h1, hk, q⟩ := q2
  obtain ⟨a, kvs, rfl, rfl, h3, h4⟩ := s2.asK r2 h1
  obtain ⟨ov, h5, h6⟩ := (h4.dget h3 (r1.mono e2.ex) hk).2.2
  refine ⟨a, ov, rfl, h5, ?_⟩
  rw [h6]
  exact k _ m2 G2 _ H2 q (e1.trans e2) s2 (.bl _)
theorem ue_din (hu : X.A.units + 1 < cLine) (hi : UE X B i ti) (ho : UE X B o to) (hm : behindInMarks .In o = false := by rfl) : UE X B (.Compare i [.In] [o] pos) (vDin false ti to) :=
  ⟨(pe_cmp (pc_din hu hi.pe ho.pe) hm).weak fun σ H Q h => low_din h⟩
theorem ue_dnotin (hu : X.A.units + 1 < cLine) (hi : UE X B i ti) (ho : UE X B o to) (hm : behindInMarks .NotIn o = false := by rfl) : UE X B (.Compare i [.NotIn] [o] pos) (vDin true ti to) :=
  ⟨(pe_cmp (pc_dnotin hu hi.pe ho.pe) hm).weak fun σ H Q h => low_din h⟩
theorem low_tB {t : VE} {σ : L2.St} {H : Hp} {Q : Bool → Hp → Prop} (h : lowT X.K B (vTest t) σ H Q) : ∃ G ρ m P, B.to G m H ∧ Sta X.K G ρ σ m H ∧ t ρ m P ∧ ∀ d m' G' v H', P d m' → Stp G m H G' m' H' → MSt X.K G' m' H' → Dn X.K G' d v → ∃ k, v = .bl k ∧ Q k H' := by
  obtain ⟨G, ρ, m, P, e0, s, t, k⟩ := h
  refine ⟨G, ρ, m, _, e0, s, t, fun d m' G' v H' q e1 s1 r1 => ?_⟩
  cases r1 <;> first | exact q.elim | exact ⟨_, rfl, k _ m' G' H' q e1 s1⟩
theorem ut_din (hu : X.A.units + 1 < cLine) (hi : UE X B i ti) (ho : UE X B o to) (hm : behindInMarks .In o = false := by rfl) : UT X B (.Compare i [.In] [o] pos) (vTest (vDin false ti to)) :=
  ⟨(pt_cmp (pc_din hu hi.pe ho.pe) hm).weak fun σ H Q h => by
    obtain ⟨G, ρ, m, P, e0, s, t, k⟩ := low_tB h
    exact low_din (neg := false) (Q := fun v H' => ∃ d, v = V.bl d ∧ Q d H') ⟨G, ρ, m, P, e0, s, t, k⟩⟩
theorem ut_dnotin (hu : X.A.units + 1 < cLine) (hi : UE X B i ti) (ho : UE X B o to) (hm : behindInMarks .NotIn o = false := by rfl) : UT X B (.Compare i [.NotIn] [o] pos) (vTest (vDin true ti to)) :=
  ⟨(pt_cmp (pc_dnotin hu hi.pe ho.pe) hm).weak fun σ H Q h => by
    obtain ⟨G, ρ, m, P, e0, s, t, k⟩ := low_tB h
    exact low_din (neg := true) (Q := fun v H' => ∃ d, v = V.bl d ∧ Q d H') ⟨G, ρ, m, P, e0, s, t, k⟩⟩
/-- d[k] = e -/
def vDset (to ti te : VE) : VS := fun E ρ m => te ρ m fun d m1 => to ρ m1 fun x m2 => ti ρ m2 fun y m3 => match x with
  | .adr a => ∃ kds, m3 a = some (.dct kds) ∧ (keyD y).isSome = true ∧ kds.length < sizeLine ∧ E.nx ρ (mup m3 a (.dct (sK kds y d)))
  | _ => False
theorem us_dset (hu : X.A.units + 1 < cLine) (ho : UE X B o to) (hi : UE X B i ti) (he : UE X B e te) (hs : swapsWith e (some (.Subscript o i pos')) pos.line X.env = pure false := by rfl) : US X B (.Assign [.Subscript o i pos'] e pos) (vDset to ti te) :=
  ⟨PS.weak (ps_dput hu ho.pe hi.pe he.pe hs) fun D σ H h => by
    obtain ⟨G, ρ, m, E, e0, s, t, k, _⟩ := h
    refine ⟨G, ρ, m, _, e0, s, t, fun d m1 G1 v H1 q1 e1 s1 r1 => ?_⟩
    refine ⟨G1, ρ, m1, _, e0.trans e1, ⟨s.fr.mono e1.ex, s1⟩, q1, fun x m2 G2 v2 H2 q2 e2 s2 r2 => ?_⟩
    refine ⟨G2, ρ, m2, _, (e0.trans e1).trans e2, ⟨s.fr.mono (e1.trans e2).ex, s2⟩, q2, fun y m3 G3 v3 H3 q3 e3 s3 r3 => ?_⟩
    split at q3
    · cases r2
      obtain ⟨kds, h1, hk, hl, q⟩ := q3
      obtain ⟨kk, hk⟩ := Option.isSome_iff_exists.mp hk
      obtain ⟨_, ho, h4, h5⟩ := s3.mr _ _ h1
      cases h5 with
      | dct h5 h6 =>
        rename_i kvs
        have r : KD X.K G3 kds kvs := ⟨h5, h6⟩
        have rp := r.put (k := kk) (r1.mono (e2.trans e3).ex)
        have es : sK kds y d = setK kds kk d := by simp [sK, hk]
        rw [es] at q
        obtain ⟨e4, s4⟩ := s3.write h1 (o := .dct (setK kds kk d)) (ho := .dK (putK kvs kk v)) (.dct rp.ks rp.vs)
        exact ⟨_, _, rfl, .inl ⟨kvs, kk, h4, key_dn r3 hk, by rw [r.length]; exact hl, rfl⟩, k ρ _ _ σ _ q (((e1.trans e2).trans e3).trans e4) ⟨s.fr.mono (((e1.trans e2).trans e3).trans e4).ex, s4⟩⟩
    · exact q3.elim⟩
/-- d.get(k, x) -/
def vDget2 (to ti tx : VE) : VE := fun ρ m Q => to ρ m fun x m1 => (∃ k0, asK m1 x = some k0) ∧ ti ρ m1 fun y m2 => tx ρ m2 fun z m3 => ∃ kds, asK m3 x = some kds ∧ (keyD y).isSome = true ∧ Q ((gK kds y).getD z) m3
theorem ue_dget2 (hu : X.A.units + 1 < cLine) (ho : UE X B o to) (hi : UE X B e ti) (hf : UE X B f tx)
    (hb : attributeBase o "get" X.env (eval o X.env) = eval o X.env := by rfl)
    (hw : ((backTo cpos (starEach [e, f] X.env)).all (fun x => !x.1) && (backToKw cpos (keywordEach [] X.env)).all (fun x => x.1.isSome)
      && decide (([e, f] : List Expr).length + ([] : List Keyword).length + (if ([] : List Keyword).isEmpty then 0 else 1) < 30)) = true := by rfl)
    (hl : (apos.endLine == cpos.line) = true := by rfl) (ht : backTo cpos (starEach [e, f] X.env) = [(false, eval e X.env), (false, eval f X.env)] := by rfl) :
    UE X B (.Call (.Attribute o "get" apos) [e, f] [] cpos) (vDget2 to ti tx) :=
  ⟨(pe_dget2 hu ho.pe hi.pe hf.pe ⟨hb, hw, hl, ht⟩).weak fun σ H Q h => by
    obtain ⟨G, ρ, m, P, e0, s, t, k⟩ := h
    refine ⟨G, ρ, m, _, e0, s, t, fun x m1 G1 v1 H1 q1 e1 s1 r1 => ?_⟩
    obtain ⟨⟨k0, h0⟩, q1⟩ := q1
    obtain ⟨a, kvs0, rfl, rfl, h3, _⟩ := s1.asK r1 h0
    refine ⟨a, rfl, .inl ⟨_, h3⟩, ?_⟩
    refine ⟨G1, ρ, m1, _, e0.trans e1, ⟨s.fr.mono e1.ex, s1⟩, q1, fun y m2 G2 v2 H2 q2 e2 s2 r2 => ?_⟩
    refine ⟨G2, ρ, m2, _, (e0.trans e1).trans e2, ⟨s.fr.mono (e1.trans e2).ex, s2⟩, q2, fun z m3 G3 v3 H3 q3 e3 s3 r3 => ?_⟩
    obtain ⟨kds, h1, hk, q⟩ := q3
    obtain ⟨a', kvs, ea, ex, h4, h5⟩ := s3.asK (r1.mono (e2.trans e3).ex) h1
    cases ea
    have dg := h5.dget h4 (r2.mono e3.ex) hk
    cases eg : gK kds y with
    | none =>
      rw [eg] at q
      exact ⟨none, dg.2.1 eg, k _ m3 G3 _ H3 q ((e1.trans e2).trans e3) s3 r3⟩
    | some d =>
      rw [eg] at q
      obtain ⟨v, h6, h7⟩ := dg.1 d eg
      exact ⟨some v, h6, k _ m3 G3 _ H3 q ((e1.trans e2).trans e3) s3 h7⟩⟩
/-- d.setdefault(k, x) -/
def vDsetd (to ti tx : VE) : VE := fun ρ m Q => to ρ m fun x m1 => (∃ k0, asK m1 x = some k0) ∧ ti ρ m1 fun y m2 => tx ρ m2 fun z m3 => match x with
  | .adr a => ∃ kds, m3 a = some (.dct kds) ∧ (keyD y).isSome = true ∧ kds.length < sizeLine ∧ (∀ d, gK kds y = some d → Q d m3) ∧ (gK kds y = none → Q z (mup m3 a (.dct (sK kds y z))))
  | _ => False
theorem ue_dsetd (ho : UE X B o to) (hi : UE X B e ti) (hf : UE X B f tx)
    (hb : attributeBase o "setdefault" X.env (eval o X.env) = eval o X.env := by rfl)
    (hw : ((backTo cpos (starEach [e, f] X.env)).all (fun x => !x.1) && (backToKw cpos (keywordEach [] X.env)).all (fun x => x.1.isSome)
      && decide (([e, f] : List Expr).length + ([] : List Keyword).length + (if ([] : List Keyword).isEmpty then 0 else 1) < 30)) = true := by rfl)
    (hl : (apos.endLine == cpos.line) = true := by rfl) (ht : backTo cpos (starEach [e, f] X.env) = [(false, eval e X.env), (false, eval f X.env)] := by rfl) :
    UE X B (.Call (.Attribute o "setdefault" apos) [e, f] [] cpos) (vDsetd to ti tx) :=
  ⟨(pe_dsetd ho.pe hi.pe hf.pe ⟨hb, hw, hl, ht⟩).weak fun σ H Q h => by
    obtain ⟨G, ρ, m, P, e0, s, t, k⟩ := h
    refine ⟨G, ρ, m, _, e0, s, t, fun x m1 G1 v1 H1 q1 e1 s1 r1 => ?_⟩
    obtain ⟨⟨k0, h0⟩, q1⟩ := q1
    obtain ⟨a, kvs0, rfl, rfl, h3, _⟩ := s1.asK r1 h0
    refine ⟨a, rfl, .inl ⟨_, h3⟩, ?_⟩
    refine ⟨G1, ρ, m1, _, e0.trans e1, ⟨s.fr.mono e1.ex, s1⟩, q1, fun y m2 G2 v2 H2 q2 e2 s2 r2 => ?_⟩
    refine ⟨G2, ρ, m2, _, (e0.trans e1).trans e2, ⟨s.fr.mono (e1.trans e2).ex, s2⟩, q2, fun z m3 G3 v3 H3 q3 e3 s3 r3 => ?_⟩
    obtain ⟨kds, h1, hk, hl, qs, qn⟩ := q3
    obtain ⟨kk, hk⟩ := Option.isSome_iff_exists.mp hk
    obtain ⟨_, ho, h4, h5⟩ := s3.mr _ _ h1
    cases h5 with
    | dct h5 h6 =>
      rename_i kvs
      have r : KD X.K G3 kds kvs := ⟨h5, h6⟩
      have eg : gK kds y = getK kds kk := by simp [gK, hk]
      have es : sK kds y z = setK kds kk z := by simp [sK, hk]
      rw [eg] at qs qn
      rw [es] at qn
      have ek := key_dn r2 hk
      obtain ⟨i1, i2⟩ := r.get (k := kk)
      refine ⟨kvs, kk, h4, ek, by rw [r.length]; exact hl, fun v hv => ?_, fun hn => ?_⟩
      · cases e : getK kds kk with
        | none => rw [i2 e] at hv; cases hv
        | some d =>
          obtain ⟨v', h6, h7⟩ := i1 d e
          rw [h6] at hv
          cases hv
          exact k _ m3 G3 _ H3 (qs d e) ((e1.trans e2).trans e3) s3 h7
      · cases e : getK kds kk with
        | some d => obtain ⟨v', h6, h7⟩ := i1 d e; rw [h6] at hn; cases hn
        | none =>
          have rp := r.put (k := kk) r3
          obtain ⟨e4, s4⟩ := s3.write h1 (o := .dct (setK kds kk z)) (ho := .dK (putK kvs kk v3)) (.dct rp.ks rp.vs)
          exact k _ _ _ _ _ (qn e) (((e1.trans e2).trans e3).trans e4) s4 (r3.mono e4.ex)⟩
/-- {} -/
def vDnew : VE := fun ρ m Q => ∀ p, m p = none → Q (.adr p) (mup m p (.dct []))
theorem ue_dnew : UE X B (.Dict [] [] pos) vDnew := ⟨PE.weak pe_dnewK fun σ H Q h p hp => by
  obtain ⟨G, ρ, m, P, e0, s, t, k⟩ := h
  obtain ⟨e1, s1⟩ := s.ms.newM hp (o := .dct []) (ho := .dK []) (.dct rfl .nil)
  exact k _ _ _ _ _ (t p (s.ms.free hp).2) e1 s1 (.adr p)⟩
/-- dict(d): a copy -/
def vDictM (va : VA) : VE := fun ρ m Q => va ρ m fun ds m1 => match ds with
  | [x] => ∃ kds, asK m1 x = some kds ∧ ∀ p, m1 p = none → Q (.adr p) (mup m1 p (.dct kds))
  | _ => False
theorem ue_dictM (hg : Gl X "dict") (hm : X.mg "dict" = none) (ha : UA X B (e :: es) va)
    (he : starEach (e :: es) X.env = (false, eval e X.env) :: starEach es X.env := by rfl) (hpl : (backTo pos (starEach es X.env)).any (·.1) = false := by rfl) : UE X B (.Call (.Name "dict" p) (e :: es) [] pos) (vDictM va) :=
  ⟨(pe_callTy call_dictD hg hm bt_dict ha.pa (by decide) (by decide) he hpl).weak fun σ H Q h => by
    obtain ⟨G, ρ, m, P, e0, s, t, k⟩ := h
    refine ⟨G, ρ, m, _, e0, s, t, fun ds m1 G1 vs H1 q1 e1 s1 r1 => ?_⟩
    split at q1
    · obtain ⟨kds, h1, q⟩ := q1
      obtain ⟨v, rfl, r2⟩ := r1.one
      obtain ⟨a, kvs, rfl, rfl, h3, h4⟩ := s1.asK r2 h1
      refine ⟨a, kvs, rfl, h3, fun p hp => ?_⟩
      obtain ⟨e2, s2⟩ := s1.newM hp (o := .dct kds) (ho := .dK kvs) (.dct h4.ks h4.vs)
      exact k _ _ _ _ _ (q p (s1.free hp).2) (e1.trans e2) s2 (.adr p)
    · exact q1.elim⟩
/-- sorted(d), all keys ints -/
def bSortD : VB := fun ds m Q => match ds with
  | [x] => ∃ kds, asK m x = some kds ∧ ∃ ks : List Int, kds.map (·.1) = ks.map Sum.inl ∧ Q (.lst ((sortI ks).map D.int))
  | _ => False
theorem ub_sortedD (hc : X.calm = true) : UB X (.builtin "sorted") bSortD := callw (DLK.call_sortedD hc) fun vs H Q h => by
  obtain ⟨G, m, ds, P, s, r, t, k⟩ := h
  unfold bSortD at t
  split at t
  · obtain ⟨kds, h1, ns, h2, q⟩ := t
    obtain ⟨v, rfl, r1⟩ := r.one
    obtain ⟨a, kvs, rfl, rfl, h3, h4⟩ := s.asK r1 h1
    refine ⟨a, kvs, ns, rfl, h3, h4.ks.trans h2, fun ns' p hp hs hn => ?_⟩
    have e : ns' = sortI ns := sorted_unique (hp.trans (sortI_perm ns).symm) hs (sortI_sorted ns)
    subst e
    obtain ⟨e, s'⟩ := s.newG hn (.lst ((sortI ns).map V.int))
    exact k _ _ _ _ q e s' (.lst upd_same (DnAll.of_ints _))
  · exact t.elim
/-- a.index(b), found -/
def oIndex : VM := fun d ds m Q => match d, ds with
  | .str a, [.str b] => ∃ i rest, PySem.Builtin.Str.occurrences a b 0 a.length 1 = i :: rest ∧ Q (.int (i : Nat)) m
  | _, _ => False
theorem um_index {X : Cx} : UM X "str.index" oIndex := fun T => mtw mt_sindex fun x vs H Q h => by
  obtain ⟨G, m, dx, ds, P, s, rx, r, t, k⟩ := h
  unfold oIndex at t
  split at t
  · obtain ⟨i, rest, ho, q⟩ := t
    cases rx
    obtain ⟨v, rfl, r2⟩ := r.one
    cases r2
    exact ⟨_, _, i, rest, rfl, rfl, ho, k _ m G _ H q Stp.refl s (.int _)⟩
  · exact t.elim
/-- the keys of a dict that is locked -/
def iDk (te : VE) : VI := fun ρ m Q => te ρ m fun d m1 => match d with
  | .adr a => ∃ o kvs kds, m1 a = some (.dkl o kvs kds) ∧ Q (kds.map fun p => dKey p.1) (fun m' => m' a = some (.dkl o kvs kds)) m1
  | _ => False
theorem wk_keys {K : PySem.W.Frag} {G1 : Hp} {a : Addr} {o : Obj} {kvs : List (Key × V)} {kds : List (Key × D)} : Wk K (Itk a o kvs) G1 (kds.map fun p => dKey p.1) (fun m' => m' a = some (.dkl o kvs kds)) := by
  have key : ∀ {G m H}, MSt K G m H → m a = some (.dkl o kvs kds) → H a = some (.frz o (.dK kvs)) ∧ KD K G kds kvs := fun s h => by
    obtain ⟨_, ho, h1, h2⟩ := s.mr _ _ h
    cases h2 with
    | dkl h2 h3 => exact ⟨h1, h2, h3⟩
  refine ⟨fun i G m H e s h hi => ?_, fun i G m H e s h hi => ?_, fun i G m H x H' e s h hi y => ?_⟩
  · obtain ⟨h1, h2⟩ := key s h
    exact ⟨h1, by rw [h2.length]; rwa [List.length_map] at hi⟩
  · obtain ⟨h1, h2⟩ := key s h
    exact ⟨h1, by rw [h2.length]; rwa [List.length_map] at hi⟩
  · obtain ⟨h1, h2⟩ := key s h
    obtain ⟨rfl, k, v, h3, rfl⟩ := y
    have e3 : (kvs.map (·.1))[i]? = some k := by rw [List.getElem?_map, h3]; rfl
    rw [h2.ks, List.getElem?_map] at e3
    obtain ⟨p, h4, rfl⟩ := Option.map_eq_some_iff.mp e3
    exact ⟨G, dKey p.1, Stp.refl, s, by rw [List.getElem?_map, h4]; rfl, dn_key _⟩
theorem ui_keys {tg : Expr} (he : UE X B e te) : UI X B tg e (iDk te) := ⟨(pi_keys he.pe).weak fun σ H R h => by
  obtain ⟨G, ρ, m, P, e0, s, t, k⟩ := h
  refine ⟨G, ρ, m, _, e0, s, t, fun d m1 G1 v1 H1 q1 e1 s1 r1 => ?_⟩
  split at q1
  · cases r1
    obtain ⟨o, kvs, kds, h1, q⟩ := q1
    obtain ⟨_, ho, h2, h3⟩ := s1.mr _ _ h1
    cases h3 with
    | dkl h3 h4 => exact ⟨_, o, rfl, .inl ⟨kvs, h2, k _ _ m1 G1 H1 _ q e1 s1 wk_keys h1⟩⟩
  · exact q1.elim⟩
theorem u1 {u : Nat} (h : u + 64 < cLine) : u + 1 < cLine := by omega
def pkV (i : Nat) (ρ : Frm) (_ : MH) : Option D := fget ρ i
def pkF (i j : Nat) (ρ : Frm) (m : MH) : Option D := match fget ρ i with
  | some (.ins _ _ ds) => ds[j]?
  | some (.adr a) => match m a with
    | some (.ins _ _ ds) => ds[j]?
    | _ => none
  | _ => none
def pkT (i j : Nat) (ρ : Frm) (_ : MH) : Option D := match fget ρ i with
  | some (.tup ds) => ds[j]?
  | _ => none
/-- an expression, a dict locked -/
def vLockD (pk : Frm → MH → Option D) (t : VE) : VE := fun ρ m Q => match pk ρ m with
  | some (.adr a) => ∃ kds, m a = some (.dct kds) ∧ ∀ o kvs, t ρ (mup m a (.dkl o kvs kds)) fun d m' => ∃ m2, m' = mup m2 a (.dkl o kvs kds) ∧ m2 a = some (.dct kds) ∧ Q d m2
  | _ => False
theorem mup_back {m : MH} {a : Addr} {o u : MO} (h : m a = some o) : mup (mup m a u) a o = m := by
  rw [mup_mup]
  funext b
  by_cases e : b = a
  · subst e; rw [mup_same, h]
  · rw [mup_ne e]
theorem ue_lock {pk : Frm → MH → Option D} {t : VE} (h : UE X B e t) : UE X B e (vLockD pk t) := ⟨(pe_lock h.pe).weak fun σ H Q h => by
  obtain ⟨G, ρ, m, P, e0, s, t, k⟩ := h
  unfold vLockD at t
  split at t
  · rename_i a _
    obtain ⟨kds, h1, t⟩ := t
    obtain ⟨hg, ho, h2, h3⟩ := s.ms.mr _ _ h1
    cases h3 with
    | dct h3 h4 =>
      rename_i kvs
      refine ⟨a, _, h2, trivial, fun o => ?_⟩
      obtain ⟨e1, s1⟩ := s.ms.write h1 (o := .dkl o kvs kds) (ho := .frz o (.dK kvs)) (.dkl h3 h4)
      refine ⟨G, ρ, _, _, e0.trans e1, ⟨s.fr, s1⟩, t o kvs, fun d m' G' v H' q e2 s2 r2 => ?_⟩
      obtain ⟨m2, rfl, hm2, q⟩ := q
      have h5 : mup m2 a (.dkl o kvs kds) a = some (.dkl o kvs kds) := mup_same
      obtain ⟨_, ho, h6, h7⟩ := s2.mr _ _ h5
      cases h7 with
      | dkl h7 h8 =>
        obtain ⟨e3, s3⟩ := s2.write h5 (o := .dct kds) (ho := .dK kvs) (.dct h7 h8)
        rw [mup_back hm2] at e3 s3
        exact ⟨h6, k _ _ _ _ _ q ((e1.trans e2).trans e3) s3 (r2.mono e3.ex)⟩
  · exact t.elim⟩
end
end DL

/-! dicts compared; tuples that hold dicts -/
namespace DLQ
open PySem PySem.SeqAt
open AutoSeq1 (wpAny_loadPart')
open MeetsSeq MeetsSeq2 MeetsSeq3 SeqRoads2
section
variable {prog : Program} {w : World}
theorem tuple_neP (l b : Addr) (items items2 : Array Value) (n n2 : Nat) (dd dd2 : Option Addr) (sl sl2 : Array (Option Value)) (e : Nat → Bool) :
    MeetsIn prog w (Builtin.«tuple.__ne__» ⟨[.ref l, .ref b], []⟩)
      (fun A R s => s.heap.get? l = some { cls := .type "tuple", dict := dd, data := .seq items n, slots := sl } ∧ s.heap.get? b = some { cls := .type "tuple", dict := dd2, data := .seq items2 n2, slots := sl2 } ∧
        (∀ j (h1 : j < items.size) (h2 : j < items2.size), EqP prog w A.in1 s items[j] items2[j] (e j)) ∧
        R (.ok (.ret (.bool (!((List.range (min items.size items2.size)).all e && items.size == items2.size))))) s) :=
  .of_wp fun A R s h => by
    obtain ⟨hp, g, d, tk, os⟩ := s; obtain ⟨hl, hb, he, h⟩ := h
    have f2 := AutoSeq1.sub_tuple_tuple
    have hZ : (items.toList.zip items2.toList).length = min items.size items2.size := by simp
    wp_walk using wpAny_loadPart' hl, wpAny_loadPart' hb, wpAny_forIn_list _ (fun rest b s' => b.1 = none ∧ s' = ⟨hp, g, d, tk, os⟩ ∧ ∃ i, rest = (items.toList.zip items2.toList).drop i ∧
      R (.ok (.ret (.bool (!(((List.range (min items.size items2.size)).drop i).all e && items.size == items2.size))))) ⟨hp, g, d, tk, os⟩) _
    case turn =>
      rintro ⟨y, x⟩ rest b s' ⟨hb', rfl, i, hz, hR⟩
      have hlt : i < (items.toList.zip items2.toList).length := by
        rcases Nat.lt_or_ge i (items.toList.zip items2.toList).length with h' | h'
        · exact h'
        · rw [List.drop_of_length_le h'] at hz; cases hz
      have hm : i < min items.size items2.size := hZ ▸ hlt
      have h1 : i < items.size := Nat.lt_of_lt_of_le hm (Nat.min_le_left _ _)
      have h2 : i < items2.size := Nat.lt_of_lt_of_le hm (Nat.min_le_right _ _)
      rw [List.drop_eq_getElem_cons hlt] at hz
      injection hz with hyx hrest
      have hy : y = items[i] := by have := congrArg Prod.fst hyx; simpa using this
      have hx : x = items2[i] := by have := congrArg Prod.snd hyx; simpa using this
      subst hy hx
      have hd : (List.range (min items.size items2.size)).drop i = i :: (List.range (min items.size items2.size)).drop (i + 1) := by simp [List.drop_eq_getElem_cons, hm]
      rw [hd, List.all_cons] at hR
      refine wpAny_bind (he i h1 h2 _ _ ?_)
      cases hy : e i with
      | true =>
        rw [hy] at hR
        wp_walk
        exact ⟨rfl, rfl, i + 1, hrest, by simpa using hR⟩
      | false =>
        rw [hy] at hR
        wp_walk
        exact ⟨_, rfl, by simpa using hR⟩
    case fin =>
      rintro ⟨b1, b2⟩ s' ⟨hb', rfl, i, hz, hR⟩
      simp only at hb'
      subst hb'
      have hge : min items.size items2.size ≤ i := by
        rcases Nat.lt_or_ge i (items.toList.zip items2.toList).length with h' | h'
        · rw [List.drop_eq_getElem_cons h'] at hz; cases hz
        · exact hZ ▸ h'
      rw [List.drop_of_length_le (by simpa using hge)] at hR
      wp_walk
      exact ⟨_, rfl, by simpa [Builtin.Tuple.tupleCompareSizes, bne] using hR⟩
    case h =>
      exact ⟨rfl, rfl, 0, rfl, by simpa using h⟩
theorem rcNe_tuplesP {A : Around} {s : Shared} {E : Value → Shared → Prop} {l b : Addr} {items items2 : Array Value} {e : Nat → Bool} {Q : Value → Shared → Prop} (hl : s.heap.IsTuple l items) (hb : s.heap.IsTuple b items2) (hu : A.units < cLine)
    (he : ∀ j (h1 : j < items.size) (h2 : j < items2.size), EqP prog w A.in1 s items[j] items2[j] (e j)) (h : Q (.bool (!((List.range (min items.size items2.size)).all e && items.size == items2.size))) s) :
    wpAny (model prog w) A (richCompare .NotEq (.ref l) (.ref b)) Q E s := by
  obtain ⟨⟨cls, dd, data, sl⟩, ho, hc, n, hd⟩ := id hl
  obtain ⟨⟨cls2, dd2, data2, sl2⟩, ho2, hc2, n2, hd2⟩ := id hb
  simp only at hc hd hc2 hd2
  subst hc hd hc2 hd2
  exact wpAny_richCompare_same_room (T := "tuple") (op := .NotEq) ⟨_, ho, rfl⟩ ⟨_, ho2, rfl⟩ F.slot_tuple_ne (call_meetsIn F.slot_tuple_ne ⟨_, ho, rfl⟩ F.entry_tuple_ne (F.args_tuple_ne_2 _ _) (tuple_neP l b items items2 n n2 dd dd2 sl sl2 e)
    ⟨ho, ho2, he, show Value.bool (!((List.range (min items.size items2.size)).all e && items.size == items2.size)) ≠ Value.notImplemented ∧ Q (.bool (!((List.range (min items.size items2.size)).all e && items.size == items2.size))) s from ⟨(fun x => nomatch x), h⟩⟩) hu
end
end DLQ
namespace DL
open PySem PySem.Spec L2
open Evl (Ex)
/-- equal dicts of ints -/
structure DcE (kds kds' : List (Key × D)) : Prop where
  len : kds.length = kds'.length
  all : ∀ p ∈ kds, ∃ i, p.2 = .int i ∧ getK kds' p.1 = some (.int i)
/-- equal, by the cells: scalars, dicts -/
inductive EqD (m : MH) : D → D → Prop
  | sc {x y : D} : x = y → x.flat = true → EqD m x y
  | dc {a b : Addr} {kds kds' : List (Key × D)} : m a = some (.dct kds) → m b = some (.dct kds') → DcE kds kds' → EqD m (.adr a) (.adr b)
inductive EqDs (m : MH) : List D → List D → Prop
  | nil : EqDs m [] []
  | cons {x y : D} {xs ys : List D} : EqD m x y → EqDs m xs ys → EqDs m (x :: xs) (y :: ys)
section
variable {X : Cx} {B : Bs}
theorem DcE.vals {K : PySem.W.Frag} {G : Hp} {kds kds' : List (Key × D)} {kvs kvs' : List (Key × V)} (h0 : DcE kds kds') (r : KD K G kds kvs) (r' : KD K G kds' kvs') : kvs.length = kvs'.length ∧ ∀ p ∈ kvs, valV kvs' p.1 = some p.2 ∧ flatB p.2 = true := by
  refine ⟨by rw [r.length, r'.length]; exact h0.len, ?_⟩
  have h := h0.all
  clear h0
  induction kds generalizing kvs with
  | nil =>
    cases kvs with
    | nil => intro p hp; cases hp
    | cons _ _ => have := r.length; simp at this
  | cons q kds ih =>
    cases kvs with
    | nil => have := r.length; simp at this
    | cons p kvs =>
      obtain ⟨e1, e2, e3⟩ := r.inv
      intro z hz
      rcases List.mem_cons.mp hz with rfl | hz
      · obtain ⟨i, h1, h2⟩ := h q List.mem_cons_self
        obtain ⟨v, h3, h4⟩ := (r'.get (k := q.1)).1 _ h2
        rw [h1] at e2
        rw [e1, h3]
        generalize z.2 = u at e2 ⊢
        cases e2
        cases h4
        exact ⟨rfl, rfl⟩
      · exact ih e3 (fun p hp => h p (List.mem_cons_of_mem _ hp)) z hz
theorem flat_V {v : V} (h : flatV v = true) : flatB v = true := by
  cases v <;> first | rfl | cases h
theorem dn_fun {K : PySem.W.Frag} {G : Hp} {x : D} {v u : V} (hx : Dn K G x v) (hy : Dn K G x u) (f : x.flat = true) : v = u := by
  cases hx <;> cases hy <;> first | rfl | cases f
theorem cell_dct {K : PySem.W.Frag} {G H : Hp} {m : MH} (s : MSt K G m H) {a : Addr} {kds : List (Key × D)} (h : m a = some (.dct kds)) : ∃ kvs, H a = some (.dK kvs) ∧ KD K G kds kvs := by
  obtain ⟨_, ho, h1, h2⟩ := s.mr _ _ h
  cases h2 with
  | dct h3 h4 => exact ⟨_, h1, h3, h4⟩
theorem EqD.eqV {K : PySem.W.Frag} {G H : Hp} {m : MH} (s : MSt K G m H) {x y : D} {v u : V} (hx : Dn K G x v) (hy : Dn K G y u) (h : EqD m x y) : EqV K H 2 v u := by
  cases h with
  | sc e f =>
    subst e
    exact .inl ⟨dn_fun hx hy f, flat_V (flat_ok hx f)⟩
  | dc h1 h2 h3 =>
    cases hx
    cases hy
    obtain ⟨kvs, k1, k2⟩ := cell_dct s h1
    obtain ⟨kvs', k3, k4⟩ := cell_dct s h2
    obtain ⟨e1, e2⟩ := h3.vals k2 k4
    exact .inr (.inr (.inr ⟨_, _, _, _, rfl, rfl, k1, k3, e1, fun p hp => ⟨p.2, (e2 p hp).1, .inl ⟨rfl, (e2 p hp).2⟩⟩⟩))
theorem EqDs.eqV {K : PySem.W.Frag} {G H : Hp} {m : MH} (s : MSt K G m H) : ∀ {xs ys : List D} {vs us : List V}, DnAll K G xs vs → DnAll K G ys us → EqDs m xs ys → Paired (EqV K H 2) vs us
  | _, _, _, _, .nil, .nil, .nil => .nil
  | _, _, _, _, .cons h hs, .cons k ks, .cons e es => .cons (e.eqV s h k) (EqDs.eqV s hs ks es)
/-- a != b, both dicts, equal -/
def oNeK : VO := fun x y m Q => ∃ a b kds kds', x = .adr a ∧ y = .adr b ∧ m a = some (.dct kds) ∧ m b = some (.dct kds') ∧ DcE kds kds' ∧ Q (.bl false)
theorem uo_neK (hu : X.A.units + 64 < cLine) : UO X (compareOp .NotEq) oNeK := opw (op_ne_dictA (by omega)) fun x y H Q h => by
  obtain ⟨G, m, dx, dy, P, s, hx, hy, t, k⟩ := h
  obtain ⟨a, b, kds, kds', rfl, rfl, h1, h2, h3, q⟩ := t
  cases hx
  cases hy
  obtain ⟨kvs, k1, k2⟩ := cell_dct s h1
  obtain ⟨kvs', k3, k4⟩ := cell_dct s h2
  obtain ⟨e1, e2⟩ := h3.vals k2 k4
  exact ⟨a, b, kvs, kvs', rfl, rfl, k1, k3, e1, e2, k _ G _ H q Stp.refl s (.bl _)⟩
/-- (..) != (..), equal -/
def oNeTK : VO := fun x y m Q => ∃ xs ys, x = .tup xs ∧ y = .tup ys ∧ EqDs m xs ys ∧ Q (.bl false)
theorem uo_neTK (hu : X.A.units + 64 < cLine) : UO X (compareOp .NotEq) oNeTK := by
  intro pins s σ H x y v u Q I rx ry h
  obtain ⟨G, m, dx, dy, P, s0, hx, hy, t, k⟩ := h
  obtain ⟨xs, ys, rfl, rfl, h1, q⟩ := t
  cases hx with
  | tup a1 a2 =>
    cases hy with
    | tup b1 b2 =>
      have hp := h1.eqV s0 a2 b2
      cases rx
      cases ry
      obtain ⟨its, r, e, z⟩ := I.tuple (Evl.ex_t s0.ex a1)
      obtain ⟨its2, r2, e2, z2⟩ := I.tuple (Evl.ex_t s0.ex b1)
      have hl : its.toArray.size = its2.toArray.size := by
        rw [List.size_toArray, List.size_toArray, ← r.length, ← r2.length]
        exact Paired.length hp
      refine DLQ.rcNe_tuplesP (e := fun _ => true) e e2 (by omega) (fun j k1 k2 => ?_) ?_
      · have := items_run (eqV_run I 2 X.A.in1 (by show X.A.units + 1 + 2 < cLine; omega)) hp r r2 j (by simpa using k1) (by simpa using k2)
        simpa using this
      · rw [hl, show ((List.range (min its2.toArray.size its2.toArray.size)).all fun _ => true) = true from List.all_eq_true.mpr fun _ _ => rfl]
        rw [beq_self_eq_true]
        exact ⟨.bl false, H, I, rfl, k _ G _ H q Stp.refl s0 (.bl _)⟩
end
theorem dty_dct {m : MH} {a : Addr} {kds : List (Key × D)} (h : m a = some (.dct kds)) : dty m (.adr a) = some "dict" := by simp only [dty, h]
section
variable {X : Cx}
/-- "" * n -/
theorem op_mulE : OpR X (binaryOp .Mult) (fun x y H Q => ∃ (a : Str) (n : Int), x = .str a ∧ y = .int n ∧ (1 ≤ n ∧ n ≤ 1000 ∧ a.length = 0) ∧ Q (.str a) H) := by
  intro pins s σ H x y v u Q I rx ry h
  obtain ⟨a, n, rfl, rfl, ⟨h1, h2, h3⟩, q⟩ := h
  obtain ⟨t, rfl⟩ := rx
  obtain ⟨t', rfl⟩ := ry
  have e : (n == 1 || a.length == 0) = true := by rw [h3]; simp
  refine PySem.P.mul_str ?_ ?_ ?_ ?_
  · rw [decide_eq_false (by omega), decide_eq_false (by omega)]
    rfl
  · intro _ h5
    rw [e] at h5
    cases h5
  · intro _ h5
    rw [e] at h5
    cases h5
  · rw [if_neg (by omega), if_pos e]
    exact ⟨.str a, H, I, ⟨_, rfl⟩, q⟩
theorem repS_nil {a : Str} {n : Int} (h : a.length = 0) : repS a n = a := by
  unfold repS
  obtain ⟨c⟩ := a
  have e : c = #[] := Array.eq_empty_of_size_eq_zero h
  subst e
  have : ∀ k : Nat, (List.replicate k (#[] : Array Nat)).foldl (· ++ ·) #[] = #[] := fun k => by
    induction k with
    | zero => rfl
    | succ k ih => rw [List.replicate_succ, List.foldl_cons, Array.append_empty, ih]
  rw [this]
def oMulU : VO := fun x y _ Q => match x, y with
  | .str a, .int n => (1 ≤ n ∧ n ≤ 1000 ∧ a.length ≤ 1000) ∧ Q (.str (repS a n))
  | _, _ => False
theorem uo_mulU : UO X (binaryOp .Mult) oMulU := opsplit op_mulS0 op_mulE fun x y H Q h => by
  obtain ⟨G, m, dx, dy, P, s, hx, hy, t, k⟩ := h
  unfold oMulU at t
  split at t
  · rename_i a n
    cases hx
    cases hy
    obtain ⟨⟨h1, h2, h3⟩, q⟩ := t
    by_cases h : a.length = 0
    · rw [repS_nil h] at q
      exact .inr ⟨_, _, rfl, rfl, ⟨h1, h2, h⟩, k _ G _ H q Stp.refl s (.str _)⟩
    · exact .inl ⟨_, _, rfl, rfl, ⟨by omega, h2, by omega, h3⟩, k _ G _ H q Stp.refl s (.str _)⟩
  · exact t.elim
end
end DL

/-! short words for readings -/
namespace DL
open PySem L2
theorem fin_bl {Q : D → MH → Prop} {b b' : Bool} {m : MH} (q : Q (.bl b) m) (e : b = b') : Q (.bl b') m := by
  subst e; exact q
theorem fin_d {Q : D → MH → Prop} {b b' : D} {m : MH} (q : Q b m) (e : b = b') : Q b' m := by
  subst e; exact q
theorem isN_non : isN .non = true := rfl
theorem isN_int (i : Int) : isN (.int i) = false := rfl
theorem isN_str (i : Str) : isN (.str i) = false := rfl
theorem isN_ins (C : Addr) (ks : List Str) (i : List D) : isN (.ins C ks i) = false := rfl
theorem isN_tup (i : List D) : isN (.tup i) = false := rfl
theorem isN_lst (i : List D) : isN (.lst i) = false := rfl
theorem irng_get {n i : Nat} {x : D} {lo : Int} (h : (irng lo n)[i]? = some x) : x = .int (lo + (i : Nat)) ∧ i < n := by
  have hi : i < n := by
    have := (List.getElem?_eq_some_iff.mp h).1
    rwa [irng_len] at this
  rw [irng_at hi] at h
  exact ⟨(Option.some.inj h).symm, hi⟩
theorem deq_refl (d : D) (h : d.dat = true) : deq d d = true := PySem.SeqAt.eqv_refl _ (D.lay d h)
theorem view_lst {m : MH} {ds : List D} : view m (.lst ds) = .lst ds := rfl
theorem view_fz {m : MH} {ds : List D} : view m (.fz ds) = .lst ds := rfl
theorem view_tup {m : MH} {ds : List D} : view m (.tup ds) = .tup ds := rfl
theorem ne_at {m : MH} {a p : Addr} {o : MO} (h : m a = some o) (k : m p = none) : a ≠ p := fun e => by rw [e, k] at h; cases h
theorem mup_under {m : MH} {a b : Addr} {o x u : MO} (h : b ≠ a) : mup (mup (mup m a o) b x) a u = mup (mup m a u) b x := by
  funext c
  unfold mup
  by_cases e : c = a
  · subst e
    simp [h.symm]
  · by_cases e2 : c = b <;> simp [e, e2, h]
theorem mup_comm {m : MH} {a b : Addr} {x y : MO} (h : b ≠ a) : mup (mup m a x) b y = mup (mup m b y) a x := by
  funext c
  unfold mup
  by_cases e : c = a
  · subst e
    simp [h.symm]
  · simp [e]
theorem atI0 {α : Type} {x : α} {xs : List α} : atI (x :: xs) 0 = some x := by
  have h : atI (x :: xs) ((0 : Nat) : Int) = some x := atI_nat (j := 0) rfl
  exact h
theorem consEq {x y : D} {xs ys : List D} (h : x = y) (hs : xs = ys) : x :: xs = y :: ys := by rw [h, hs]
theorem sz {n : Nat} (h : n ≤ 16777216) : n ≤ sizeLine := h
end DL

/-! data: statements -/
namespace Toy
open PySem L2 DL
def obD : Option Str → D
  | none => .non
  | some b => .str b
def oiD : Option Int → D
  | none => .non
  | some b => .int b
inductive Stm where
  | pro (h t : Int) (b : Option Str)
  | vote (h t : Int) (b : Option Str) (l : Option Int)
  | com (h t : Int) (b : Option Str)
  deriving DecidableEq
def Stm.d : Stm → D
  | .pro h t b => .tup [.str "proposal", .int h, .int t, obD b]
  | .vote h t b l => .tup [.str "prevote", .int h, .int t, obD b, oiD l]
  | .com h t b => .tup [.str "precommit", .int h, .int t, obD b]
def Stm.h : Stm → Int
  | .pro h _ _ | .vote h _ _ _ | .com h _ _ => h
def Stm.t : Stm → Int
  | .pro _ t _ | .vote _ t _ _ | .com _ t _ => t
def Stm.b : Stm → Option Str
  | .pro _ _ b | .vote _ _ b _ | .com _ _ b => b
def Stm.isVote : Stm → Bool
  | .pro _ _ _ => false
  | _ => true
def leansOn (l : Option Int) (t : Int) : Bool := match l with
  | none => false
  | some l => decide (t ≤ l)
/-- point 9 -/
def clash : Stm → Stm → Bool
  | .vote h t b _, .vote h' t' b' _ => decide (h = h') && (decide (t = t') && !decide (b = b'))
  | .com h t b, .com h' t' b' => decide (h = h') && (decide (t = t') && !decide (b = b'))
  | .com h t b, .vote h' t' b' l => decide (h = h') && (!decide (b = none) && !decide (b' = none) && !decide (b = b') && (decide (t < t') && !leansOn l t))
  | .vote h' t' b' l, .com h t b => decide (h' = h) && (!decide (b = none) && !decide (b' = none) && !decide (b = b') && (decide (t < t') && !leansOn l t))
  | _, _ => false
theorem dcomm {α : Type} [DecidableEq α] (a b : α) : decide (a = b) = decide (b = a) := by
  by_cases h : a = b
  · subst h; rfl
  · rw [decide_eq_false h, decide_eq_false (Ne.symm h)]
theorem clash_comm (s t : Stm) : clash s t = clash t s := by
  rcases s with ⟨h, t1, b⟩ | ⟨h, t1, b, l⟩ | ⟨h, t1, b⟩ <;> rcases t with ⟨h', t2, b'⟩ | ⟨h', t2, b', l'⟩ | ⟨h', t2, b'⟩ <;> simp only [clash]
  all_goals (rw [dcomm h h'])
  all_goals (rw [dcomm t1 t2, dcomm b b'])
theorem kpv : ((Str.ofString "proposal") = Str.ofString "prevote") = False := eq_false (by decide +kernel)
theorem kpc : ((Str.ofString "proposal") = Str.ofString "precommit") = False := eq_false (by decide +kernel)
theorem kvp : ((Str.ofString "prevote") = Str.ofString "proposal") = False := eq_false (by decide +kernel)
theorem kvc : ((Str.ofString "prevote") = Str.ofString "precommit") = False := eq_false (by decide +kernel)
theorem kcp : ((Str.ofString "precommit") = Str.ofString "proposal") = False := eq_false (by decide +kernel)
theorem kcv : ((Str.ofString "precommit") = Str.ofString "prevote") = False := eq_false (by decide +kernel)
/-- a block's name is of code points -/
def okB (b : Option Str) : Prop := ∀ x, b = some x → PyData.strOk x = true
theorem obD_dat {b : Option Str} (h : okB b) : (obD b).dat = true := by
  cases b with
  | none => rfl
  | some x => exact h x rfl
theorem oiD_dat (l : Option Int) : (oiD l).dat = true := by cases l <;> rfl
theorem obD_dep (b : Option Str) : (obD b).dep = 0 := by cases b <;> simp [obD, D.dep]
theorem oiD_dep (l : Option Int) : (oiD l).dep = 0 := by cases l <;> simp [oiD, D.dep]
theorem kP_ok : PyData.strOk "proposal" = true := by decide +kernel
theorem kV_ok : PyData.strOk "prevote" = true := by decide +kernel
theorem kC_ok : PyData.strOk "precommit" = true := by decide +kernel
theorem Stm.fit {s : Stm} (h : okB s.b) : s.d.fit = true := by
  cases s <;> simp [Stm.d, D.fit, D.dat, D.dats, D.dep, D.deps, obD_dep, oiD_dep, oiD_dat, kP_ok, kV_ok, kC_ok] <;> exact obD_dat h
/-- a cell of the script -/
def cell (ns : List Int) (k : Nat) : Int := ns.getD k 0
theorem atI_of {α : Type} {xs : List α} {i : Int} {j : Nat} {v : α} (e : i = (j : Int)) (h : xs[j]? = some v) : atI xs i = some v := by
  subst e; exact atI_nat h
theorem atI_mod {xs : List D} {x n : Int} {d : D} (h0 : 0 < n) (hn : n = (xs.length : Int)) : atI xs (x % n) = some (xs.getD (x % n).toNat d) := by
  have h1 := Int.emod_nonneg x (show n ≠ 0 by omega)
  have h2 := Int.emod_lt_of_pos x h0
  have hl : (x % n).toNat < xs.length := by omega
  refine atI_of (j := (x % n).toNat) (by omega) ?_
  rw [List.getD_eq_getElem?_getD, List.getElem?_eq_getElem hl]
  rfl
end Toy
theorem Toy.dsc_ob (a b : Option PySem.Str) : DL.dsc (Toy.obD a) (Toy.obD b) = some (decide (a = b)) := by
  cases a <;> cases b <;> simp [DL.dsc, Toy.obD]
theorem Toy.dsc_oi (a b : Option Int) : DL.dsc (Toy.oiD a) (Toy.oiD b) = some (decide (a = b)) := by
  cases a <;> cases b <;> simp [DL.dsc, Toy.oiD]
theorem Toy.isN_ob (a : Option PySem.Str) : DL.isN (Toy.obD a) = decide (a = none) := by cases a <;> simp [DL.isN, Toy.obD]
theorem Toy.isN_oi (a : Option Int) : DL.isN (Toy.oiD a) = decide (a = none) := by cases a <;> simp [DL.isN, Toy.oiD]

/-! data: committees, rows of digits -/
namespace Toy
open PySem L2 DL
def validW (ws : List Int) : Prop := ws ≠ [] ∧ ws.length ≤ 16 ∧ ∀ w ∈ ws, 1 ≤ w ∧ w ≤ 1000000000000
def comF (ws : List Int) : List D := [.tup (ws.map .int), .int ws.length, .int ws.sum]
theorem enum_get {ws : List Int} {i : Nat} {x : D} (h : (enumD (ws.map D.int))[i]? = some x) : ∃ w, w ∈ ws ∧ x = .tup [.int i, .int w] ∧ i < ws.length := by
  unfold enumD at h
  rw [List.getElem?_map, List.length_map] at h
  cases e : (List.range ws.length)[i]? with
  | none => rw [e] at h; cases h
  | some j =>
    rw [e] at h
    cases h
    have hj := List.getElem?_eq_some_iff.mp e
    obtain ⟨hj, rfl⟩ := hj
    rw [List.getElem_range]
    rw [List.length_range] at hj
    exact ⟨ws[i], List.getElem_mem hj, by simp [List.getD_eq_getElem?_getD, hj], hj⟩
/-- the weight of the listed -/
def wsum (f : Nat → Int) (p : Nat → Bool) : List Nat → Int
  | [] => 0
  | k :: ks => (if p k then f k else 0) + wsum f p ks
def wp (ws : List Int) (p : Nat → Bool) : Int := wsum (fun k => ws.getD k 0) p (List.range ws.length)
def wt (ws ms : List Int) : Int := wp ws fun k => decide ((k : Int) ∈ ms)
theorem sel_sum (f : Nat → Int) (p : Nat → Bool) : ∀ ks : List Nat, ((ks.filter p).map f).sum = wsum f p ks
  | [] => rfl
  | k :: ks => by
    unfold wsum
    cases e : p k with
    | true => rw [List.filter_cons_of_pos e, List.map_cons, List.sum_cons, sel_sum f p ks]; rfl
    | false => rw [List.filter_cons_of_neg (by rw [e]; exact Bool.false_ne_true), sel_sum f p ks]; simp
def comD (C : Addr) (ws : List Int) : D := .ins C ["weights", "size", "total"] (comF ws)
def rowI (c : Int) : Nat → Int → Int → Int → List Int
  | 0, _, _, _ => []
  | n + 1, k, s, z => if 1000000000000000000 ≤ c then s % z :: rowI c n (k + 1) (s / z) z
    else ((s * 48271 + 12345) % 2147483647 * 69621 + k * 7919) % 2147483647 % z :: rowI c n (k + 1) ((s * 48271 + 12345) % 2147483647) z
theorem rowI_len (c : Int) : ∀ (n : Nat) (k s z : Int), (rowI c n k s z).length = n
  | 0, _, _, _ => rfl
  | n + 1, k, s, z => by
    unfold rowI
    split
    · rw [List.length_cons, rowI_len c n]
    · rw [List.length_cons, rowI_len c n]
theorem rowI_rng (c : Int) : ∀ (n : Nat) (k s z : Int), 0 < z → ∀ x ∈ rowI c n k s z, 0 ≤ x ∧ x < z
  | 0, _, _, _, _, _, h => nomatch h
  | n + 1, k, s, z, hz, x, h => by
    unfold rowI at h
    split at h
    all_goals
      rcases List.mem_cons.mp h with rfl | h
      · exact ⟨Int.emod_nonneg _ (by omega), Int.emod_lt_of_pos _ hz⟩
      · exact rowI_rng c n _ _ z hz x h
def row (c : Int) (n : Nat) (z : Int) : List Int := rowI c n 0 c z
theorem row_len {c : Int} {n : Nat} {z : Int} : (row c n z).length = n := rowI_len _ _ _ _ _
theorem row_rng {c : Int} {n : Nat} {z : Int} (h : 0 < z) {x : Int} (hx : x ∈ row c n z) : 0 ≤ x ∧ x < z := rowI_rng _ _ _ _ _ h _ hx
def weights (c z : Int) : List Int :=
  if c / 100 % 3 = 0 then List.replicate (1 + c % z).toNat 1 else (row (c / 300) (1 + c % z).toNat 4).map (1 + ·)
theorem weights_ok {c z : Int} (h : 0 < z) (h2 : z ≤ 16) : validW (weights c z) := by
  have h3 := Int.emod_nonneg c (show z ≠ 0 by omega)
  have h4 := Int.emod_lt_of_pos c h
  have hl : (weights c z).length = (1 + c % z).toNat := by
    unfold weights
    split
    · simp
    · rw [List.length_map, row_len]
  refine ⟨fun e => ?_, by omega, fun w hw => ?_⟩
  · rw [e] at hl
    simp at hl
    omega
  · unfold weights at hw
    split at hw
    · rw [List.mem_replicate] at hw
      omega
    · obtain ⟨x, hx, rfl⟩ := List.mem_map.mp hw
      have := row_rng (by decide) hx
      omega
end Toy
namespace Toy
open PySem L2 DL
theorem wsum_congr {f : Nat → Int} {p q : Nat → Bool} : ∀ {ks : List Nat}, (∀ k ∈ ks, p k = q k) → wsum f p ks = wsum f q ks
  | [], _ => rfl
  | k :: ks, h => by
    unfold wsum
    rw [h k (List.mem_cons_self ..), wsum_congr fun j hj => h j (List.mem_cons_of_mem _ hj)]
theorem wsum_not {f : Nat → Int} {p : Nat → Bool} : ∀ {ks : List Nat}, wsum f p ks + wsum f (fun k => !p k) ks = wsum f (fun _ => true) ks
  | [] => rfl
  | k :: ks => by
    have := wsum_not (f := f) (p := p) (ks := ks)
    unfold wsum
    cases p k
    all_goals simp
    all_goals omega
theorem wsum_and {f : Nat → Int} {p q : Nat → Bool} : ∀ {ks : List Nat}, (∀ k ∈ ks, 0 ≤ f k) → wsum f p ks + wsum f q ks ≤ wsum f (fun k => p k && q k) ks + wsum f (fun _ => true) ks
  | [], _ => Int.le_refl _
  | k :: ks, h => by
    have := wsum_and (f := f) (p := p) (q := q) (ks := ks) fun j hj => h j (List.mem_cons_of_mem _ hj)
    have h0 := h k (List.mem_cons_self ..)
    unfold wsum
    cases p k <;> cases q k
    all_goals simp
    all_goals omega
theorem wsum_nn {f : Nat → Int} {p : Nat → Bool} : ∀ {ks : List Nat}, (∀ k ∈ ks, 0 ≤ f k) → 0 ≤ wsum f p ks
  | [], _ => Int.le_refl _
  | k :: ks, h => by
    have := wsum_nn (f := f) (p := p) (ks := ks) fun j hj => h j (List.mem_cons_of_mem _ hj)
    have h0 := h k (List.mem_cons_self ..)
    unfold wsum
    cases p k
    all_goals simp
    all_goals omega
theorem wsum_true (f : Nat → Int) : ∀ ks : List Nat, wsum f (fun _ => true) ks = (ks.map f).sum
  | [] => rfl
  | k :: ks => by
    unfold wsum
    rw [wsum_true f ks]
    simp
theorem range_getD (ws : List Int) : (List.range ws.length).map (fun k => ws.getD k 0) = ws := by
  refine List.ext_getElem (by simp) fun i h1 h2 => ?_
  rw [List.getElem_map, List.getElem_range, List.getD_eq_getElem?_getD, List.getElem?_eq_getElem h2]
  rfl
theorem wp_true (ws : List Int) : wp ws (fun _ => true) = ws.sum := by
  unfold wp
  rw [wsum_true, range_getD]
theorem ws_nn {ws : List Int} (hv : validW ws) {k : Nat} (hk : k ∈ List.range ws.length) : 0 ≤ ws.getD k 0 := by
  have hk := List.mem_range.mp hk
  rw [List.getD_eq_getElem?_getD, List.getElem?_eq_getElem hk]
  have := hv.2.2 ws[k] (List.getElem_mem hk)
  show 0 ≤ ws[k]
  omega
/-- the members that are not listed -/
def restOf (ws ms : List Int) : List Int := ((List.range ws.length).filter fun k : Nat => !decide ((k : Int) ∈ ms)).map fun k : Nat => (k : Int)
theorem wt_rest (ws ms : List Int) : wt ws ms + wt ws (restOf ws ms) = ws.sum := by
  have e : wt ws (restOf ws ms) = wp ws fun k => !decide ((k : Int) ∈ ms) := by
    refine wsum_congr fun k hk => ?_
    have hk := List.mem_range.mp hk
    show decide _ = !decide _
    rw [Bool.eq_iff_iff, decide_eq_true_iff, Bool.not_eq_true', decide_eq_false_iff_not]
    constructor
    · intro h
      obtain ⟨j, hj, e⟩ := List.mem_map.mp h
      have hj := (List.mem_filter.mp hj).2
      rw [← e]
      simpa using hj
    · intro h
      exact List.mem_map.mpr ⟨k, List.mem_filter.mpr ⟨List.mem_range.mpr hk, by simpa using h⟩, rfl⟩
  rw [e, ← wp_true]
  exact wsum_not
theorem wt_both {ws l1 l2 : List Int} (hv : validW ws) : wt ws l1 + wt ws l2 ≤ wt ws (l1.filter fun x => decide (x ∈ l2)) + ws.sum := by
  have e : wt ws (l1.filter fun x => decide (x ∈ l2)) = wp ws fun k => decide ((k : Int) ∈ l1) && decide ((k : Int) ∈ l2) := by
    refine wsum_congr fun k hk => ?_
    rw [Bool.eq_iff_iff]
    simp
  rw [e, ← wp_true]
  exact wsum_and fun k hk => ws_nn hv hk
end Toy

/-! data: letters -/
namespace Toy
open PySem L2 DL
def menuB (i : Nat) : Option Str := [some "a", some "b", some "a", some "b", none].getD i none
theorem menuB_d {i : Nat} : [D.str "a", D.str "b", D.str "a", D.str "b", D.non].getD i .non = obD (menuB i) := by
  match i with
  | 0 | 1 | 2 | 3 | 4 => rfl
  | n + 5 => rfl
theorem menuB_ok (i : Nat) : okB (menuB i) := by
  match i with
  | 0 | 2 => intro x h; cases h; decide +kernel
  | 1 | 3 => intro x h; cases h; decide +kernel
  | 4 => intro x h; cases h
  | n + 5 => intro x h; cases h

structure Let where
  who : Int
  st : Stm
  deriving DecidableEq
def Let.d (l : Let) : D := .tup [.int l.who, l.st.d]
/-- a drawn statement -/
def stm (g h : Int) : Stm :=
  if g / 20 % 2 = 0 then .com h (g / 5 % 4) (menuB (g % 5).toNat)
  else .vote h (g / 5 % 4) (menuB (g % 5).toNat) (if menuB (g % 5).toNat ≠ none ∧ 0 < g / 5 % 4 ∧ g / 40 % 2 = 1 then some (g / 80 % (g / 5 % 4)) else none)
theorem stm_ok (g h : Int) : okB (stm g h).b := by
  unfold stm
  split
  · exact menuB_ok _
  · exact menuB_ok _
def chD (C : Addr) (who : Int) (x y : Let) : D := .ins C ["who", "first", "second"] [.int who, x.d, y.d]
/-- the first letter that clashes with an earlier one, and the earliest of these -/
def findC (pre : List Let) : List Let → Option (Let × Let)
  | [] => none
  | s :: post => match pre.find? fun f => clash f.st s.st with
    | some f => some (f, s)
    | none => findC (pre ++ [s]) post
def chargeP (ls : List Let) (who : Int) : Option (Let × Let) := findC [] (ls.filter fun l => decide (l.who = who))
def ochD (C : Addr) (who : Int) : Option (Let × Let) → D
  | none => .non
  | some (x, y) => chD C who x y
def opairD : Option (Let × Let) → D
  | none => .non
  | some (x, y) => .tup [x.d, y.d]
/-- the charges against all members, by member -/
def chargesP (ls : List Let) (n : Nat) : List (Int × Let × Let) := (List.range n).filterMap fun k : Nat => (chargeP ls k).map fun p => ((k : Int), p)
def chD3 (C : Addr) (c : Int × Let × Let) : D := chD C c.1 c.2.1 c.2.2
theorem chargesP_succ (ls : List Let) (n : Nat) : chargesP ls (n + 1) = chargesP ls n ++ (match chargeP ls n with | none => [] | some p => [((n : Int), p)]) := by
  unfold chargesP
  rw [List.range_succ, List.filterMap_append]
  cases e : chargeP ls n <;> simp [e]
theorem chargesP_len (ls : List Let) (n : Nat) : (chargesP ls n).length ≤ n := by
  unfold chargesP
  exact Nat.le_trans (List.length_filterMap_le ..) (by simp)
theorem chargesP_mem {ls : List Let} {n : Nat} {c : Int × Let × Let} (h : c ∈ chargesP ls n) : chargeP ls c.1 = some c.2 := by
  obtain ⟨k, _, e⟩ := List.mem_filterMap.mp h
  cases e2 : chargeP ls k with
  | none => rw [e2] at e; cases e
  | some p => rw [e2] at e; cases e; exact e2
theorem enum_at {α : Type} {f : α → D} {xs : List α} {i : Nat} {x : D} (h : (enumD (xs.map f))[i]? = some x) : ∃ w, xs[i]? = some w ∧ x = .tup [.int i, f w] := by
  unfold enumD at h
  rw [List.getElem?_map, List.length_map] at h
  cases e : (List.range xs.length)[i]? with
  | none => rw [e] at h; cases h
  | some j =>
    rw [e] at h
    cases h
    obtain ⟨hj, rfl⟩ := List.getElem?_eq_some_iff.mp e
    rw [List.getElem_range]
    rw [List.length_range] at hj
    exact ⟨xs[i], List.getElem?_eq_getElem hj, by simp [List.getD_eq_getElem?_getD, hj]⟩
theorem enum_len (ds : List D) : (enumD ds).length = ds.length := by simp [enumD]
theorem cut_take {α : Type} {f : α → D} (xs : List α) (n : Nat) (h : n ≤ xs.length) : cutD (xs.map f) none (some (n : Int)) = (xs.take n).map f := by
  have e : HT.sIx (xs.map f).length (xs.map f).length (some (n : Int)) = n := by
    rw [List.length_map, HT.sIx_nat]
    omega
  have e2 : HT.sIx (xs.map f).length 0 none = 0 := rfl
  unfold cutD
  rw [e, e2, List.drop_zero, Nat.sub_zero, List.map_take]
theorem Let.fit {x : Let} (h : okB x.st.b) : x.d.fit = true := by
  have h1 := Stm.fit h
  have hd := fit_dat h1
  cases x with
  | mk w s =>
    have : s.d.dep ≤ 1 := by cases s <;> simp [Stm.d, D.dep, D.deps, obD_dep, oiD_dep]
    have h2 : D.dep (Let.d ⟨w, s⟩) ≤ 64 := by simp only [Let.d, D.dep, D.deps]; omega
    have h3 : D.dat (Let.d ⟨w, s⟩) = true := by simp only [Let.d, D.dat, D.dats, Bool.true_and, Bool.and_true]; exact hd
    unfold D.fit
    rw [Bool.and_eq_true]
    exact ⟨h3, decide_eq_true h2⟩
theorem lets_fit {ls : List Let} (h : ∀ l ∈ ls, okB l.st.b) : (D.lst (ls.map Let.d)).fit = true := fit_of 2 (by decide) _ fun d hd => by
  obtain ⟨l, hl, rfl⟩ := List.mem_map.mp hd
  refine ⟨fit_dat (Let.fit (h l hl)), ?_⟩
  cases l with
  | mk w s => cases s <;> simp [Let.d, Stm.d, D.dep, D.deps, obD_dep, oiD_dep]
theorem findC_ok : ∀ {post pre : List Let} {x y : Let}, findC pre post = some (x, y) → x ∈ pre ++ post ∧ y ∈ pre ++ post ∧ clash x.st y.st = true
  | [], _, _, _, h => nomatch h
  | s :: post, pre, x, y, h => by
    unfold findC at h
    cases e : pre.find? fun f => clash f.st s.st with
    | some f =>
      rw [e] at h
      cases h
      exact ⟨List.mem_append_left _ (List.mem_of_find?_eq_some e), List.mem_append_right _ (List.mem_cons_self ..), by simpa using List.find?_some e⟩
    | none =>
      rw [e] at h
      have := findC_ok h
      rw [List.append_assoc] at this
      exact this
theorem chargeP_ok {ls : List Let} {who : Int} {x y : Let} (h : chargeP ls who = some (x, y)) : x ∈ ls ∧ y ∈ ls ∧ x.who = who ∧ y.who = who ∧ clash x.st y.st = true := by
  obtain ⟨h1, h2, h3⟩ := findC_ok h
  rw [List.nil_append] at h1 h2
  have h1 := List.mem_filter.mp h1
  have h2 := List.mem_filter.mp h2
  exact ⟨h1.1, h2.1, by simpa using h1.2, by simpa using h2.2, h3⟩
theorem clash_self (s : Stm) : clash s s = false := by
  cases s <;> simp [clash]
end Toy

/-! data: certificates by definition -/
namespace Toy
open PySem L2 DL
theorem obD_nob (b : Option Str) : (obD b).nob = true := by cases b <;> rfl
theorem oiD_nob (b : Option Int) : (oiD b).nob = true := by cases b <;> rfl
theorem obD_inj {a b : Option Str} (h : obD a = obD b) : a = b := by cases a <;> cases b <;> cases h <;> rfl
theorem oiD_inj {a b : Option Int} (h : oiD a = oiD b) : a = b := by cases a <;> cases b <;> cases h <;> rfl
theorem Stm.nob (s : Stm) : s.d.nob = true := by cases s <;> simp [Stm.d, D.nob, D.nobs, obD_nob, oiD_nob]
theorem Stm.d_inj {s t : Stm} (h : s.d = t.d) : s = t := by
  cases s <;> cases t <;> simp only [Stm.d, D.tup.injEq, List.cons.injEq, D.str.injEq, D.int.injEq, and_true] at h
  · obtain ⟨_, rfl, rfl, h⟩ := h
    rw [obD_inj h]
  · exact absurd h.2.2.2.2 (by simp)
  · exact absurd h.1 (by decide +kernel)
  · exact absurd h.2.2.2.2 (by simp)
  · obtain ⟨_, rfl, rfl, h, h2⟩ := h
    rw [obD_inj h, oiD_inj h2]
  · exact absurd h.2.2.2.2 (by simp)
  · exact absurd h.1 (by decide +kernel)
  · exact absurd h.2.2.2.2 (by simp)
  · obtain ⟨_, rfl, rfl, h⟩ := h
    rw [obD_inj h]
theorem deq_stm (s t : Stm) : deq s.d t.d = decide (s = t) := by
  rw [Bool.eq_iff_iff, deq_iff _ _ (Stm.nob s) (Stm.nob t), decide_eq_true_iff]
  exact ⟨Stm.d_inj, fun h => by rw [h]⟩
def lettersP (c : Int) (n : Nat) (z : Int) : List Let := (List.range n).map fun k => ⟨(row c (2 * n) 960).getD (2 * k) 0 % z, stm ((row c (2 * n) 960).getD (2 * k + 1) 0) 0⟩
def plantK (dg : List Int) (z : Nat) (k : Nat) : List Let :=
  let dig := fun i : Nat => dg.getD i 0
  let early := dig 0 % 3
  let late := early + dig 1 % 2
  (if dig (8 + k) % 8 ≠ 0 then [⟨k, .vote 0 early (some "a") none⟩, ⟨k, .com 0 early (some "a")⟩] else []) ++
  (if dig (8 + z + k) % 8 ≠ 0 then (if early < late ∧ dig 2 % 3 = 1 then [⟨k, .vote 0 early (some "b") none⟩, ⟨k, .vote 0 late (some "b") (some early)⟩] else [⟨k, .vote 0 late (some "b") none⟩]) ++ [⟨k, .com 0 late (some "b")⟩] else [])
def plantedP (c : Int) (z : Nat) : List Let := (List.range z).flatMap (plantK (row c (2 * z + 8) 60) z)
/-- a vote that counts -/
def voteOk (h : Int) (b : Option Str) (t : Int) (L : List (Option Int)) : Stm → Bool
  | .vote h' t' b' l => decide (h' = h) && decide (t' = t) && decide (b' = b) && decide (l ∈ L) && (match l with | none => true | some x => decide (x < t))
  | _ => false
def votersP (ls : List Let) (h : Int) (b : Option Str) (t : Int) (L : List (Option Int)) : List Int := (ls.filter fun l => voteOk h b t L l.st).map Let.who
def quorumP (ws ms : List Int) : Bool := decide (2 * ws.sum < 3 * wt ws ms)
def leansP (ws : List Int) (ls : List Let) (h : Int) (b : Option Str) : Nat → List (Option Int)
  | 0 => [none]
  | t + 1 => if quorumP ws (votersP ls h b t (leansP ws ls h b t)) then leansP ws ls h b t ++ [some (t : Int)] else leansP ws ls h b t
/-- point 10 -/
def certP (ws : List Int) (ls : List Let) (h : Int) (t : Nat) (b : Option Str) : Bool := quorumP ws (votersP ls h b t (leansP ws ls h b t))
def signersP (ls : List Let) (h t : Int) (b : Option Str) : List Int := (ls.filter fun l => decide (l.st = .com h t b)).map Let.who
/-- point 11 -/
def commP (ws : List Int) (ls : List Let) (h : Int) (t : Nat) (b : Option Str) : Bool := quorumP ws (signersP ls h t b) && certP ws ls h t b
theorem leansP_len (ws : List Int) (ls : List Let) (h : Int) (b : Option Str) : ∀ t, (leansP ws ls h b t).length ≤ t + 1
  | 0 => by simp [leansP]
  | t + 1 => by
    have := leansP_len ws ls h b t
    unfold leansP
    split
    · rw [List.length_append]; simp; omega
    · omega
theorem din_oi {l : Option Int} : ∀ {L : List (Option Int)}, din (oiD l) (L.map oiD) = decide (l ∈ L)
  | [] => rfl
  | m :: L => by
    have ih := din_oi (l := l) (L := L)
    unfold din at ih ⊢
    rw [List.map_cons, List.any_cons, ih]
    have : deq (oiD m) (oiD l) = decide (m = l) := by
      rw [Bool.eq_iff_iff, deq_iff _ _ (by cases m <;> rfl) (by cases l <;> rfl), decide_eq_true_iff]
      cases m <;> cases l <;> simp [oiD]
    rw [this]
    by_cases h : m = l
    · subst h; simp
    · have h2 : ¬ l = m := fun e => h e.symm
      simp [h, h2]
theorem fit_ois (L : List (Option Int)) : (D.lst (L.map oiD)).fit = true := fit_of 0 (by decide) _ fun d hd => by
  obtain ⟨l, _, rfl⟩ := List.mem_map.mp hd
  exact ⟨oiD_dat l, by rw [oiD_dep]; exact Nat.le_refl _⟩
theorem fit_oi (l : Option Int) : (oiD l).fit = true := by cases l <;> simp [oiD, D.fit, D.dat, D.dep]
end Toy

/-! the plain law: two commits of different blocks convict more than a third -/
namespace Toy
open PySem L2 DL
theorem wt_mono {ws l1 l2 : List Int} (hv : validW ws) (h : ∀ k : Nat, k < ws.length → (k : Int) ∈ l1 → (k : Int) ∈ l2) : wt ws l1 ≤ wt ws l2 := by
  have : ∀ ks : List Nat, (∀ k ∈ ks, k ∈ List.range ws.length) → wsum (fun k => ws.getD k 0) (fun k => decide ((k : Int) ∈ l1)) ks ≤ wsum (fun k => ws.getD k 0) (fun k => decide ((k : Int) ∈ l2)) ks := fun ks => by
    induction ks with
    | nil => intro _; exact Int.le_refl _
    | cons k ks ih =>
      intro hk
      have i := ih fun j hj => hk j (List.mem_cons_of_mem _ hj)
      have h0 := ws_nn hv (hk k (List.mem_cons_self ..))
      have hlt := List.mem_range.mp (hk k (List.mem_cons_self ..))
      unfold wsum
      by_cases e1 : (k : Int) ∈ l1
      · have e2 := h k hlt e1
        simp only [e1, e2, decide_true, if_true]
        omega
      · by_cases e2 : (k : Int) ∈ l2
        · simp only [e1, e2, decide_true, decide_false, if_true]
          simp only [Bool.false_eq_true, if_false]
          omega
        · simp only [e1, e2, decide_false, Bool.false_eq_true, if_false]
          omega
  exact this _ fun _ h => h
theorem findC_none : ∀ {post pre : List Let}, findC pre post = none → (∀ x ∈ pre, ∀ y ∈ pre, clash x.st y.st = false) → ∀ x ∈ pre ++ post, ∀ y ∈ pre ++ post, clash x.st y.st = false
  | [], pre, _, h => by rw [List.append_nil]; exact h
  | s :: post, pre, e, h => by
    unfold findC at e
    cases f : pre.find? fun f => clash f.st s.st with
    | some z => rw [f] at e; cases e
    | none =>
      rw [f] at e
      have hn := List.find?_eq_none.mp f
      have hs : ∀ x ∈ pre, clash x.st s.st = false := fun x hx => by simpa using hn x hx
      have := findC_none e (fun x hx y hy => by
        rcases List.mem_append.mp hx with hx | hx <;> rcases List.mem_append.mp hy with hy | hy
        · exact h x hx y hy
        · rw [List.mem_singleton.mp hy]; exact hs x hx
        · rw [List.mem_singleton.mp hx, clash_comm]; exact hs y hy
        · rw [List.mem_singleton.mp hx, List.mem_singleton.mp hy]; exact clash_self _)
      rw [List.append_assoc] at this
      exact this
theorem chargeP_some {ls : List Let} {x y : Let} (hx : x ∈ ls) (hy : y ∈ ls) (hw : x.who = y.who) (hc : clash x.st y.st = true) : chargeP ls x.who ≠ none := fun e => by
  have := findC_none e (by simp) x (by simp [hx]) y (by simp [hy, hw])
  rw [hc] at this
  cases this
/-- who is charged -/
def accused (ls : List Let) (n : Nat) : List Int := (chargesP ls n).map fun c => c.1
theorem mem_accused {ls : List Let} {n k : Nat} (hk : k < n) (h : chargeP ls k ≠ none) : (k : Int) ∈ accused ls n := by
  cases e : chargeP ls k with
  | none => exact absurd e h
  | some p => exact List.mem_map.mpr ⟨((k : Int), p), List.mem_filterMap.mpr ⟨k, List.mem_range.mpr hk, by rw [e]; rfl⟩, rfl⟩
/-- two quorums whose common members have letters that clash -/
theorem third_of {ws : List Int} {ls : List Let} (hv : validW ws) {l1 l2 : List Int} (h1 : quorumP ws l1 = true) (h2 : quorumP ws l2 = true)
    (h : ∀ k ∈ l1, k ∈ l2 → ∃ x ∈ ls, ∃ y ∈ ls, x.who = k ∧ y.who = k ∧ clash x.st y.st = true) : ws.sum < 3 * wt ws (accused ls ws.length) := by
  have b := wt_both (l1 := l1) (l2 := l2) hv
  have m := wt_mono (l1 := l1.filter fun x => decide (x ∈ l2)) (l2 := accused ls ws.length) hv fun k hk hm => by
    obtain ⟨m1, m2⟩ := List.mem_filter.mp hm
    obtain ⟨x, hx, y, hy, e1, e2, c⟩ := h _ m1 (by simpa using m2)
    refine mem_accused hk ?_
    rw [← e1]
    exact chargeP_some hx hy (e1.trans e2.symm) c
  have q1 : 2 * ws.sum < 3 * wt ws l1 := of_decide_eq_true h1
  have q2 : 2 * ws.sum < 3 * wt ws l2 := of_decide_eq_true h2
  omega
theorem leansP_mem {ws : List Int} {ls : List Let} {h : Int} {b : Option Str} {l : Option Int} : ∀ {t : Nat}, l ∈ leansP ws ls h b t → l = none ∨ ∃ s : Nat, s < t ∧ l = some (s : Int) ∧ certP ws ls h s b = true
  | 0, m => .inl (List.mem_singleton.mp m)
  | t + 1, m => by
    unfold leansP at m
    split at m
    next q =>
      rcases List.mem_append.mp m with m | m
      · rcases leansP_mem m with e | ⟨s, h1, h2, h3⟩
        · exact .inl e
        · exact .inr ⟨s, by omega, h2, h3⟩
      · exact .inr ⟨t, by omega, List.mem_singleton.mp m, q⟩
    next q =>
      rcases leansP_mem m with e | ⟨s, h1, h2, h3⟩
      · exact .inl e
      · exact .inr ⟨s, by omega, h2, h3⟩
theorem voters_mem {ls : List Let} {h t k : Int} {b : Option Str} {L : List (Option Int)} (m : k ∈ votersP ls h b t L) : ∃ x ∈ ls, x.who = k ∧ ∃ l, x.st = .vote h t b l ∧ l ∈ L := by
  obtain ⟨x, hx, e⟩ := List.mem_map.mp m
  obtain ⟨h1, h2⟩ := List.mem_filter.mp hx
  refine ⟨x, h1, e, ?_⟩
  rcases x with ⟨w, _ | ⟨h', t', b', l⟩ | _⟩
  · cases h2
  · simp only [voteOk, Bool.and_eq_true, decide_eq_true_iff] at h2
    obtain ⟨⟨⟨⟨rfl, rfl⟩, rfl⟩, hl⟩, _⟩ := h2
    exact ⟨l, rfl, hl⟩
  · cases h2
theorem signers_mem {ls : List Let} {h t k : Int} {b : Option Str} (m : k ∈ signersP ls h t b) : ∃ x ∈ ls, x.who = k ∧ x.st = .com h t b := by
  obtain ⟨x, hx, e⟩ := List.mem_map.mp m
  obtain ⟨h1, h2⟩ := List.mem_filter.mp hx
  exact ⟨x, h1, e, of_decide_eq_true h2⟩
theorem same_turn {ws : List Int} {ls : List Let} (hv : validW ws) {h : Int} {t : Nat} {a b : Str} (hab : a ≠ b) (h1 : certP ws ls h t (some a) = true) (h2 : certP ws ls h t (some b) = true) :
    ws.sum < 3 * wt ws (accused ls ws.length) := third_of hv h1 h2 fun k m1 m2 => by
  obtain ⟨x, hx, e1, l1, s1, _⟩ := voters_mem m1
  obtain ⟨y, hy, e2, l2, s2, _⟩ := voters_mem m2
  exact ⟨x, hx, y, hy, e1, e2, by rw [s1, s2]; simp [clash, hab]⟩
theorem two_commits {ws : List Int} {ls : List Let} (hv : validW ws) {h : Int} {t1 : Nat} {a b : Str} (hab : a ≠ b) (h1 : commP ws ls h t1 (some a) = true) :
    ∀ {t2 : Nat}, t1 ≤ t2 → certP ws ls h t2 (some b) = true → ws.sum < 3 * wt ws (accused ls ws.length) := by
  have h1 := Bool.and_eq_true_iff.mp h1
  intro t2
  induction t2 using Nat.strongRecOn with
  | ind t2 ih =>
    intro hle h2
    by_cases e : t1 = t2
    · subst e
      exact same_turn hv hab h1.2 h2
    · by_cases ex : ∃ s : Nat, s < t2 ∧ t1 ≤ s ∧ certP ws ls h s (some b) = true
      · obtain ⟨s, e1, e2, e3⟩ := ex
        exact ih s e1 e2 e3
      · refine third_of hv h1.1 h2 fun k m1 m2 => ?_
        obtain ⟨x, hx, e1, s1⟩ := signers_mem m1
        obtain ⟨y, hy, e2, l, s2, hl⟩ := voters_mem m2
        refine ⟨x, hx, y, hy, e1, e2, ?_⟩
        rw [s1, s2]
        have hlean : leansOn l t1 = false := by
          rcases leansP_mem hl with rfl | ⟨s, q1, rfl, q3⟩
          · rfl
          · have : ¬ t1 ≤ s := fun z => ex ⟨s, q1, z, q3⟩
            simp [leansOn]
            omega
        have hlt : (t1 : Int) < t2 := by omega
        simp [clash, hab, hlean, hlt]
theorem Let.d_inj {x y : Let} (h : x.d = y.d) : x = y := by
  cases x; cases y
  simp only [Let.d, D.tup.injEq, List.cons.injEq, D.int.injEq, and_true] at h
  obtain ⟨rfl, h⟩ := h
  rw [Stm.d_inj h]
theorem Let.nob (x : Let) : x.d.nob = true := by simp [Let.d, D.nob, D.nobs, Stm.nob]
theorem deq_let (x y : Let) : deq x.d y.d = decide (x = y) := by
  rw [Bool.eq_iff_iff, deq_iff _ _ (Let.nob x) (Let.nob y), decide_eq_true_iff]
  exact ⟨Let.d_inj, fun h => by rw [h]⟩
theorem din_let {x : Let} : ∀ {ls : List Let}, din x.d (ls.map Let.d) = decide (x ∈ ls)
  | [] => rfl
  | m :: ls => by
    have ih := din_let (x := x) (ls := ls)
    unfold din at ih ⊢
    rw [List.map_cons, List.any_cons, ih, deq_let]
    by_cases h : m = x
    · subst h; simp
    · have h2 : ¬ x = m := fun e => h e.symm
      simp [h, h2]
theorem chargesP_lt {ls : List Let} {n : Nat} {c : Int × Let × Let} (h : c ∈ chargesP ls n) : 0 ≤ c.1 ∧ c.1 < n := by
  obtain ⟨k, hk, e⟩ := List.mem_filterMap.mp h
  have := List.mem_range.mp hk
  cases e2 : chargeP ls k with
  | none => rw [e2] at e; cases e
  | some p => rw [e2] at e; cases e; exact ⟨Int.natCast_nonneg k, Int.ofNat_lt.mpr this⟩
theorem chargesP_pair {ls : List Let} : ∀ n : Nat, (chargesP ls n).Pairwise fun c d => c.1 < d.1
  | 0 => by simp [chargesP]
  | n + 1 => by
    rw [chargesP_succ]
    refine List.pairwise_append.mpr ⟨chargesP_pair n, ?_, fun c hc d hd => ?_⟩
    · cases chargeP ls n <;> simp
    · have := (chargesP_lt hc).2
      cases e : chargeP ls n with
      | none => rw [e] at hd; cases hd
      | some p => rw [e] at hd; rw [List.mem_singleton.mp hd]; exact this
theorem chargesP_new {ls : List Let} {n : Nat} {pre post : List (Int × Let × Let)} {c : Int × Let × Let} (h : chargesP ls n = pre ++ c :: post) : c.1 ∉ pre.map fun d => d.1 := fun m => by
  obtain ⟨d, hd, e⟩ := List.mem_map.mp m
  have p := chargesP_pair (ls := ls) n
  rw [h] at p
  have := (List.pairwise_append.mp p).2.2 d hd c (List.mem_cons_self ..)
  omega
theorem fit_str {b : Str} (h : okB (some b)) : (D.str b).fit = true := by
  have := h b rfl
  simp [D.fit, D.dat, D.dep, this]
theorem fit_strs {bs : List Str} (h : ∀ b ∈ bs, okB (some b)) : (D.lst (bs.map D.str)).fit = true := fit_of 0 (by decide) _ fun d hd => by
  obtain ⟨b, hb, rfl⟩ := List.mem_map.mp hd
  exact ⟨h b hb b rfl, by simp [D.dep]⟩
theorem din_str {k : Str} : ∀ {ms : List Str}, din (.str k) (ms.map D.str) = decide (k ∈ ms)
  | [] => rfl
  | m :: ms => by
    have ih := din_str (k := k) (ms := ms)
    unfold din at ih ⊢
    rw [List.map_cons, List.any_cons, ih]
    have : deq (.str m) (.str k) = decide (m = k) := by
      rw [Bool.eq_iff_iff, deq_iff _ _ rfl rfl]
      simp
    rw [this]
    by_cases h : m = k
    · subst h; simp
    · have h2 : ¬ k = m := fun e => h e.symm
      simp [h, h2]
theorem two_of {ws : List Int} {ls : List Let} (hv : validW ws) {bs : List Str} (hnd : bs.Nodup) (hl : bs.length = 2) (h : ∀ b ∈ bs, ∃ t : Nat, commP ws ls 0 t (some b) = true) : ws.sum < 3 * wt ws (accused ls ws.length) := by
  match bs, hl with
  | [x, y], _ =>
    obtain ⟨t1, h1⟩ := h x (by simp)
    obtain ⟨t2, h2⟩ := h y (by simp)
    have hne : x ≠ y := by
      intro e
      subst e
      simp at hnd
    rcases Nat.le_total t1 t2 with z | z
    · exact two_commits hv hne h1 z (Bool.and_eq_true_iff.mp h2).2
    · exact two_commits hv hne.symm h2 z (Bool.and_eq_true_iff.mp h1).2
end Toy

/-! data: letters drawn and planted -/
namespace Toy
open PySem L2 DL
theorem plantedP_len (c : Int) (z : Nat) : (plantedP c z).length ≤ 5 * z := by
  have : ∀ (dg : List Int) (l : List Nat), (l.flatMap (plantK dg z)).length ≤ 5 * l.length := fun dg l => by
    induction l with
    | nil => simp
    | cons a l ih =>
      rw [List.flatMap_cons, List.length_append, List.length_cons]
      have : (plantK dg z a).length ≤ 5 := by
        simp only [plantK]
        split <;> split <;> (try split) <;> simp
      omega
  have := this (row c (2 * z + 8) 60) (List.range z)
  rw [List.length_range] at this
  exact this
theorem lettersP_len (c : Int) (n : Nat) (z : Int) : (lettersP c n z).length = n := by simp [lettersP]
theorem lettersP_ok (c : Int) (n : Nat) (z : Int) : ∀ l ∈ lettersP c n z, okB l.st.b := fun l hl => by
  obtain ⟨k, _, rfl⟩ := List.mem_map.mp hl
  exact stm_ok _ _
theorem okA : okB (some "a") := fun x h => by cases h; decide +kernel
theorem okBb : okB (some "b") := fun x h => by cases h; decide +kernel
theorem plantedP_ok (c : Int) (z : Nat) : ∀ l ∈ plantedP c z, okB l.st.b := fun l hl => by
  obtain ⟨k, _, hk⟩ := List.mem_flatMap.mp hl
  simp only [plantK] at hk
  rcases List.mem_append.mp hk with hk | hk
  · split at hk
    · simp only [List.mem_cons, List.not_mem_nil, or_false] at hk
      rcases hk with rfl | rfl <;> exact okA
    · cases hk
  · split at hk
    · rcases List.mem_append.mp hk with hk | hk
      · split at hk
        · simp only [List.mem_cons, List.not_mem_nil, or_false] at hk
          rcases hk with rfl | rfl <;> exact okBb
        · simp only [List.mem_cons, List.not_mem_nil, or_false] at hk
          rcases hk with rfl
          exact okBb
      · simp only [List.mem_cons, List.not_mem_nil, or_false] at hk
        rcases hk with rfl
        exact okBb
    · cases hk
end Toy
namespace Toy
open PySem L2 DL
theorem ab_ok {b : Str} (h : b ∈ (["a", "b"] : List Str)) : okB (some b) := by
  simp only [List.mem_cons, List.not_mem_nil, or_false] at h
  rcases h with rfl | rfl
  · exact okA
  · exact okBb
end Toy

/-! data: books -/
namespace Toy
open PySem L2 DL
structure BookS where
  kept : List Let
  certs : List (Int × Str)
  commits : List (Int × Str)
theorem pD_inj {c d : Int × Str} (h : pD c = pD d) : c = d := by
  obtain ⟨a, b⟩ := c
  obtain ⟨a', b'⟩ := d
  simp only [pD, D.tup.injEq, List.cons.injEq, D.int.injEq, D.str.injEq, and_true] at h
  rw [h.1, h.2]
theorem deq_pD (c d : Int × Str) : deq (pD c) (pD d) = decide (c = d) := by
  rw [Bool.eq_iff_iff, deq_iff _ _ (by simp [pD, D.nob, D.nobs]) (by simp [pD, D.nob, D.nobs]), decide_eq_true_iff]
  exact ⟨pD_inj, fun h => by rw [h]⟩
/-- membership, of any data by an injection -/
theorem din_iff {α : Type} [DecidableEq α] {f : α → D} (h : ∀ x y : α, deq (f x) (f y) = decide (x = y)) {x : α} : ∀ {xs : List α}, din (f x) (xs.map f) = true ↔ x ∈ xs
  | [] => by simp [din]
  | m :: ms => by
    have ih := din_iff h (x := x) (xs := ms)
    unfold din at ih ⊢
    rw [List.map_cons, List.any_cons, Bool.or_eq_true, ih, h, decide_eq_true_iff, List.mem_cons]
    exact ⟨fun z => z.elim (fun e => .inl e.symm) .inr, fun z => z.elim (fun e => .inl e.symm) .inr⟩
theorem din_pD {c : Int × Str} {cs : List (Int × Str)} : din (pD c) (cs.map pD) = decide (c ∈ cs) := by
  rw [Bool.eq_iff_iff, decide_eq_true_iff]
  exact din_iff deq_pD
theorem din_pD' {t : Int} {b : Str} {cs : List (Int × Str)} : din (.tup [.int t, .str b]) (cs.map pD) = decide ((t, b) ∈ cs) := din_pD (c := (t, b))
theorem pD_fit {c : Int × Str} (h : okB (some c.2)) : (pD c).fit = true := by
  have := h c.2 rfl
  simp [pD, D.fit, D.dat, D.dats, D.dep, D.deps, this]
theorem pD_fit' {t : Int} {b : Str} (h : okB (some b)) : (D.tup [.int t, .str b]).fit = true := pD_fit (c := (t, b)) h
theorem pDs_fit {cs : List (Int × Str)} (h : ∀ c ∈ cs, okB (some c.2)) : (D.lst (cs.map pD)).fit = true := fit_of 1 (by decide) _ fun d hd => by
  obtain ⟨c, hc, rfl⟩ := List.mem_map.mp hd
  refine ⟨fit_dat (pD_fit (h c hc)), ?_⟩
  simp [pD, D.dep, D.deps]
/-- a prevote that counts, by the certificates found -/
def countsP (certs : List (Int × Str)) (l : Option Int) (t : Int) (b : Str) : Bool := match l with
  | none => true
  | some x => decide (x < t) && decide ((x, b) ∈ certs)
def voterB (certs : List (Int × Str)) (t : Int) (b : Str) : Stm → Bool
  | .vote _ t' b' l => decide (t' = t) && (decide (b' = some b) && countsP certs l t b)
  | _ => false
def signerB (t : Int) (b : Str) : Stm → Bool
  | .com _ t' b' => decide (t' = t) && decide (b' = some b)
  | _ => false
def votersB (kept : List Let) (certs : List (Int × Str)) (t : Int) (b : Str) : List Int := (kept.filter fun l => voterB certs t b l.st).map Let.who
def signersB (kept : List Let) (t : Int) (b : Str) : List Int := (kept.filter fun l => signerB t b l.st).map Let.who
/-- one turn looked at -/
def lookC (ws : List Int) (x : BookS) (t : Int) (b : Str) : List (Int × Str) := if (t, b) ∉ x.certs ∧ quorumP ws (votersB x.kept x.certs t b) = true then x.certs ++ [(t, b)] else x.certs
def lookP (ws : List Int) (x : BookS) (t : Int) (b : Str) : BookS :=
  { kept := x.kept, certs := lookC ws x t b, commits := if (t, b) ∈ lookC ws x t b ∧ quorumP ws (signersB x.kept t b) = true ∧ (t, b) ∉ x.commits then x.commits ++ [(t, b)] else x.commits }
def turnsB (kept : List Let) (b : Str) : List Int := ascI ((kept.filter fun l => decide (l.st.b = some b)).map fun l => l.st.t)
def spreadP (ws : List Int) (x : BookS) (t : Int) (b : Str) : BookS := (turnsB x.kept b).foldl (fun y u => if t ≤ u then lookP ws y u b else y) x
def keepsP (ws : List Int) (h : Int) (x : BookS) (l : Let) : Bool := decide (0 ≤ l.who) && (decide (l.who < ws.length) && (l.st.isVote && (decide (l.st.h = h) && decide (l ∉ x.kept))))
def addP (ws : List Int) (h : Int) (x : BookS) (l : Let) : BookS :=
  if keepsP ws h x l = true then (match l.st.b with
    | none => { x with kept := x.kept ++ [l] }
    | some b => spreadP ws { x with kept := x.kept ++ [l] } l.st.t b) else x
def latestP (certs : List (Int × Str)) (b : Str) (t : Int) : Option Int := certs.foldl (fun f c => if c.2 = b ∧ c.1 < t ∧ (∀ x, f = some x → x < c.1) then some c.1 else f) none
theorem lookP_kept (ws : List Int) (x : BookS) (t : Int) (b : Str) : (lookP ws x t b).kept = x.kept := rfl
theorem spreadP_kept (ws : List Int) (x : BookS) (t : Int) (b : Str) : (spreadP ws x t b).kept = x.kept := by
  unfold spreadP
  generalize turnsB x.kept b = us
  have : ∀ (us : List Int) (y : BookS), (us.foldl (fun y u => if t ≤ u then lookP ws y u b else y) y).kept = y.kept := fun us => by
    induction us with
    | nil => intro y; rfl
    | cons u us ih =>
      intro y
      rw [List.foldl_cons, ih]
      split <;> rfl
  exact this us x
/-- what stands in a book -/
structure BookOk (x : BookS) (n : Nat) : Prop where
  len : x.kept.length ≤ n
  ok : ∀ l ∈ x.kept, okB l.st.b
  vote : ∀ l ∈ x.kept, l.st.isVote = true
  cok : ∀ c ∈ x.certs, okB (some c.2)
  mok : ∀ c ∈ x.commits, okB (some c.2)
  clen : x.certs.length ≤ n * n
  mlen : x.commits.length ≤ n * n
end Toy
namespace Toy
open PySem L2 DL
theorem votersB_snoc (pre : List Let) (l : Let) (certs : List (Int × Str)) (t : Int) (b : Str) : votersB (pre ++ [l]) certs t b = votersB pre certs t b ++ (if voterB certs t b l.st = true then [l.who] else []) := by
  simp only [votersB, List.filter_append, List.map_append]
  by_cases e : voterB certs t b l.st = true <;> simp [e]
theorem signersB_snoc (pre : List Let) (l : Let) (t : Int) (b : Str) : signersB (pre ++ [l]) t b = signersB pre t b ++ (if signerB t b l.st = true then [l.who] else []) := by
  simp only [signersB, List.filter_append, List.map_append]
  by_cases e : signerB t b l.st = true <;> simp [e]
theorem votersB_len (pre : List Let) (certs : List (Int × Str)) (t : Int) (b : Str) : (votersB pre certs t b).length ≤ pre.length := by
  rw [votersB, List.length_map]
  exact List.length_filter_le ..
theorem signersB_len (pre : List Let) (t : Int) (b : Str) : (signersB pre t b).length ≤ pre.length := by
  rw [signersB, List.length_map]
  exact List.length_filter_le ..
end Toy
namespace Toy
open PySem L2 DL
theorem din_let' {w : Int} {s : Stm} {ls : List Let} : din (.tup [.int w, s.d]) (ls.map Let.d) = decide ((⟨w, s⟩ : Let) ∈ ls) := din_let (x := ⟨w, s⟩)
theorem deq_let' {w v : Int} {s t : Stm} : deq (.tup [.int w, s.d]) (.tup [.int v, t.d]) = decide ((⟨w, s⟩ : Let) = ⟨v, t⟩) := deq_let ⟨w, s⟩ ⟨v, t⟩
theorem fit_let' {w : Int} {s : Stm} (h : okB s.b) : (D.tup [.int w, s.d]).fit = true := Let.fit (x := ⟨w, s⟩) h
end Toy
namespace Toy
open PySem L2 DL
theorem keepsP_iff {ws : List Int} {h : Int} {x : BookS} {w : Int} {s : Stm} : keepsP ws h x ⟨w, s⟩ = true ↔ 0 ≤ w ∧ w < ws.length ∧ s.isVote = true ∧ s.h = h ∧ (⟨w, s⟩ : Let) ∉ x.kept := by
  simp only [keepsP, Bool.and_eq_true, decide_eq_true_eq]
end Toy
namespace Toy
open PySem L2 DL
/-- letters of different senders, until they are a quorum -/
def pickQ (ws : List Int) (ls : List Let) : List Let := ls.foldl (fun acc l => if l.who ∉ acc.map Let.who ∧ quorumP ws (acc.map Let.who) = false then acc ++ [l] else acc) []
theorem pickQ_len (ws : List Int) (ls : List Let) : (pickQ ws ls).length ≤ ls.length := by
  have : ∀ (ls acc : List Let), (ls.foldl (fun acc l => if l.who ∉ acc.map Let.who ∧ quorumP ws (acc.map Let.who) = false then acc ++ [l] else acc) acc).length ≤ acc.length + ls.length := fun ls => by
    induction ls with
    | nil => intro acc; exact Nat.le_refl _
    | cons l ls ih =>
      intro acc
      rw [List.foldl_cons, List.length_cons]
      refine Nat.le_trans (ih _) ?_
      split
      · rw [List.length_append, List.length_singleton]; omega
      · omega
  have h := this ls []
  rw [List.length_nil, Nat.zero_add] at h
  exact h
theorem pickQ_sub (ws : List Int) (ls : List Let) : ∀ l ∈ pickQ ws ls, l ∈ ls := by
  have : ∀ (ls acc : List Let), ∀ l ∈ ls.foldl (fun acc l => if l.who ∉ acc.map Let.who ∧ quorumP ws (acc.map Let.who) = false then acc ++ [l] else acc) acc, l ∈ acc ∨ l ∈ ls := fun ls => by
    induction ls with
    | nil => intro acc l h; exact .inl h
    | cons l ls ih =>
      intro acc x h
      rw [List.foldl_cons] at h
      rcases ih _ x h with z | z
      · split at z
        · rcases List.mem_append.mp z with z | z
          · exact .inl z
          · exact .inr (by rw [List.mem_singleton.mp z]; exact List.mem_cons_self)
        · exact .inl z
      · exact .inr (List.mem_cons_of_mem _ z)
  intro l h
  exact (this ls [] l h).elim (fun z => nomatch z) id
def Stm.isCom : Stm → Bool
  | .com _ _ _ => true
  | _ => false
def Stm.isPv : Stm → Bool
  | .vote _ _ _ _ => true
  | _ => false
def Stm.l : Stm → Option Int
  | .vote _ _ _ l => l
  | _ => none
/-- the prevotes of a turn that count -/
def leanB (votes : List Let) (certs : List (Int × Str)) (b : Str) (t : Int) : List Let := (votes.filter fun l => l.st.isPv && decide (l.st.t = t)).filter fun l => countsP certs l.st.l l.st.t b
/-- one turn of the way back: the paper so far, the turns wanted -/
def paperStep (ws : List Int) (votes : List Let) (certs : List (Int × Str)) (b : Str) (s : List Let × List Int) (t : Int) : List Let × List Int :=
  if t ∈ s.2 then (s.1 ++ pickQ ws (leanB votes certs b t), s.2 ++ (pickQ ws (leanB votes certs b t)).filterMap fun l => l.st.l) else s
def votesB (kept : List Let) (b : Str) : List Let := kept.filter fun l => decide (l.st.b = some b)
def commitTurns (x : BookS) (b : Str) : List Int := sortI ((x.commits.filter fun c => decide (c.2 = b)).map fun c => c.1)
def backTurns (t : Int) : List Int := (List.range (t + 1).toNat).map fun i : Nat => t - (i : Int)
/-- point 20 -/
def paperP (ws : List Int) (x : BookS) (b : Str) (t : Int) : List Let :=
  ((backTurns t).foldl (paperStep ws (votesB x.kept b) x.certs b) (pickQ ws ((votesB x.kept b).filter fun l => l.st.isCom && decide (l.st.t = t)), [t])).1
end Toy
namespace Toy
open PySem L2 DL
theorem leans_map (ch : List Let) : (ch.filter fun l => decide (l.st.l ≠ none)).map (fun l => oiD l.st.l) = (ch.filterMap fun l => l.st.l).map D.int := by
  induction ch with
  | nil => rfl
  | cons l ls ih =>
    cases e : l.st.l with
    | none => rw [List.filter_cons_of_neg (by simp [e]), List.filterMap_cons_none (f := fun l : Let => l.st.l) e, ih]
    | some x => rw [List.filter_cons_of_pos (by simp [e]), List.filterMap_cons_some (f := fun l : Let => l.st.l) e, List.map_cons, List.map_cons, ih, e]; rfl
end Toy

/-! data: what a book has found -/
namespace Toy
open PySem L2 DL
theorem quorum_mono {ws l1 l2 : List Int} (hv : validW ws) (h : ∀ k ∈ l1, k ∈ l2) (q : quorumP ws l1 = true) : quorumP ws l2 = true := by
  have := wt_mono (l1 := l1) (l2 := l2) hv fun k _ m => h k m
  have q2 := of_decide_eq_true q
  exact decide_eq_true (by omega)
theorem quorum_nil {ws : List Int} (hv : validW ws) : quorumP ws [] = false := by
  refine decide_eq_false ?_
  have h1 := wt_rest ws []
  have h2 : wt ws [] = 0 := by
    unfold wt wp
    have : ∀ l : List Nat, wsum (fun k => ws.getD k 0) (fun k : Nat => decide ((k : Int) ∈ ([] : List Int))) l = 0 := fun l => by
      induction l with
      | nil => rfl
      | cons a l ih => simp only [wsum]; rw [ih]; simp
    exact this _
  have h3 : 0 ≤ ws.sum := by
    rw [← wp_true]
    exact wsum_nn fun k hk => ws_nn hv hk
  omega
theorem mem_leans {ws : List Int} {ls : List Let} {h : Int} {b : Option Str} {l : Option Int} : ∀ {t : Nat}, l ∈ leansP ws ls h b t ↔ l = none ∨ ∃ s : Nat, s < t ∧ l = some (s : Int) ∧ certP ws ls h s b = true
  | 0 => by simp [leansP]
  | t + 1 => by
    have ih := mem_leans (ws := ws) (ls := ls) (h := h) (b := b) (l := l) (t := t)
    have hc : certP ws ls h t b = quorumP ws (votersP ls h b t (leansP ws ls h b t)) := rfl
    unfold leansP
    rw [← hc]
    constructor
    · intro m
      split at m
      · rcases List.mem_append.mp m with m | m
        · rcases ih.mp m with rfl | ⟨s, h1, h2, h3⟩
          · exact .inl rfl
          · exact .inr ⟨s, by omega, h2, h3⟩
        · exact .inr ⟨t, by omega, List.mem_singleton.mp m, by assumption⟩
      · rcases ih.mp m with rfl | ⟨s, h1, h2, h3⟩
        · exact .inl rfl
        · exact .inr ⟨s, by omega, h2, h3⟩
    · rintro (rfl | ⟨s, h1, h2, h3⟩)
      · have := ih.mpr (.inl rfl)
        split
        · exact List.mem_append_left _ this
        · exact this
      · by_cases e : s = t
        · rw [if_pos (by rw [← e]; exact h3)]
          exact List.mem_append_right _ (by rw [h2, e]; exact List.mem_singleton.mpr rfl)
        · have := ih.mpr (.inr ⟨s, by omega, h2, h3⟩)
          split
          · exact List.mem_append_left _ this
          · exact this
theorem voteOk_iff {h t : Int} {b : Option Str} {L : List (Option Int)} {s : Stm} : voteOk h b t L s = true ↔ ∃ l, s = .vote h t b l ∧ l ∈ L ∧ ∀ x, l = some x → x < t := by
  cases s with
  | vote h' t' b' l =>
    cases l with
    | none => simp [voteOk]; constructor <;> (rintro ⟨h1, h2⟩; simp_all)
    | some x => simp [voteOk]; constructor <;> (rintro ⟨h1, h2⟩; simp_all)
  | _ => simp [voteOk]
theorem mem_voters {ls : List Let} {h t k : Int} {b : Option Str} {L : List (Option Int)} : k ∈ votersP ls h b t L ↔ ∃ x ∈ ls, x.who = k ∧ voteOk h b t L x.st = true := by
  simp only [votersP, List.mem_map, List.mem_filter]
  exact ⟨fun ⟨x, ⟨h1, h2⟩, h3⟩ => ⟨x, h1, h3, h2⟩, fun ⟨x, h1, h3, h2⟩ => ⟨x, ⟨h1, h2⟩, h3⟩⟩
theorem cert_mono {ws : List Int} {ls ls' : List Let} (hv : validW ws) (hs : ∀ x ∈ ls, x ∈ ls') {h : Int} {b : Option Str} : ∀ (n t : Nat), t ≤ n → certP ws ls h t b = true → certP ws ls' h t b = true
  | n, t, hn, hc => by
    refine quorum_mono hv (fun k m => ?_) hc
    obtain ⟨x, h1, h2, h3⟩ := mem_voters.mp m
    obtain ⟨l, h4, h5, h6⟩ := voteOk_iff.mp h3
    refine mem_voters.mpr ⟨x, hs x h1, h2, voteOk_iff.mpr ⟨l, h4, ?_, h6⟩⟩
    rcases mem_leans.mp h5 with rfl | ⟨s, h7, rfl, h9⟩
    · exact mem_leans.mpr (.inl rfl)
    · cases n with
      | zero => omega
      | succ n => exact mem_leans.mpr (.inr ⟨s, h7, rfl, cert_mono hv hs n s (by omega) h9⟩)
theorem cert_up {ws : List Int} {ls ls' : List Let} (hv : validW ws) (hs : ∀ x ∈ ls, x ∈ ls') {h : Int} {b : Option Str} {t : Nat} (hc : certP ws ls h t b = true) : certP ws ls' h t b = true := cert_mono hv hs t t (Nat.le_refl t) hc
theorem leans_same {ws : List Int} {ls ls' : List Let} {h : Int} {b : Option Str} : ∀ {t : Nat}, (∀ u : Nat, u < t → ∀ L, votersP ls' h b u L = votersP ls h b u L) → leansP ws ls' h b t = leansP ws ls h b t
  | 0, _ => rfl
  | t + 1, hs => by
    unfold leansP
    rw [leans_same fun u hu => hs u (by omega), hs t (by omega)]
theorem cert_same {ws : List Int} {ls ls' : List Let} {h : Int} {b : Option Str} {t : Nat} (hs : ∀ u : Nat, u ≤ t → ∀ L, votersP ls' h b u L = votersP ls h b u L) : certP ws ls' h t b = certP ws ls h t b := by
  unfold certP
  rw [leans_same fun u hu => hs u (by omega), hs t (Nat.le_refl _)]
theorem voters_snoc_same {ls : List Let} {l : Let} {h t : Int} {b : Option Str} {L : List (Option Int)} (e : l.st.t = t → l.st.b = b → False) : votersP (ls ++ [l]) h b t L = votersP ls h b t L := by
  have : voteOk h b t L l.st = false := Bool.eq_false_iff.mpr fun z => by
    obtain ⟨x, h1, _⟩ := voteOk_iff.mp z
    exact e (by rw [h1]; rfl) (by rw [h1]; rfl)
  simp [votersP, List.filter_append, this]
theorem signers_snoc_same {ls : List Let} {l : Let} {h t : Int} {b : Option Str} (e : l.st.t = t → l.st.b = b → False) : signersP (ls ++ [l]) h t b = signersP ls h t b := by
  have : ¬ l.st = .com h t b := fun z => e (by rw [z]; rfl) (by rw [z]; rfl)
  simp [signersP, List.filter_append, this]
theorem comm_up {ws : List Int} {ls ls' : List Let} (hv : validW ws) (hs : ∀ x ∈ ls, x ∈ ls') {h : Int} {b : Option Str} {t : Nat} (hc : commP ws ls h t b = true) : commP ws ls' h t b = true := by
  obtain ⟨h1, h2⟩ := (Bool.and_eq_true _ _).mp hc
  refine (Bool.and_eq_true _ _).mpr ⟨quorum_mono hv (fun k m => ?_) h1, cert_up hv hs h2⟩
  simp only [signersP, List.mem_map, List.mem_filter] at m ⊢
  obtain ⟨x, ⟨z1, z2⟩, z3⟩ := m
  exact ⟨x, ⟨hs x z1, z2⟩, z3⟩
/-- what a book has found is what the letters certify and commit -/
structure BInv (ws : List Int) (h : Int) (x : BookS) : Prop where
  hs : ∀ l ∈ x.kept, l.st.h = h
  vs : ∀ l ∈ x.kept, l.st.isVote = true
  t0 : ∀ l ∈ x.kept, 0 ≤ l.st.t
  cert : ∀ (u : Int) (b : Str), (u, b) ∈ x.certs ↔ 0 ≤ u ∧ certP ws x.kept h u.toNat (some b) = true
  com : ∀ (u : Int) (b : Str), (u, b) ∈ x.commits ↔ 0 ≤ u ∧ commP ws x.kept h u.toNat (some b) = true
  nc : x.certs.Nodup
  no : x.commits.Nodup
theorem cert_turn {ws : List Int} {ls : List Let} {h : Int} {t : Nat} {b : Option Str} (hv : validW ws) (hc : certP ws ls h t b = true) : ∃ l ∈ ls, l.st.t = t ∧ l.st.b = b := by
  have hne : votersP ls h b t (leansP ws ls h b t) ≠ [] := fun e => by
    unfold certP at hc
    rw [e, quorum_nil hv] at hc
    cases hc
  obtain ⟨k, hk⟩ := List.exists_mem_of_ne_nil _ hne
  obtain ⟨x, h1, _, h3⟩ := mem_voters.mp hk
  obtain ⟨l, h4, _, _⟩ := voteOk_iff.mp h3
  exact ⟨x, h1, by rw [h4]; rfl, by rw [h4]; rfl⟩
theorem mem_turnsB {kept : List Let} {b : Str} {u : Int} : u ∈ turnsB kept b ↔ ∃ l ∈ kept, l.st.t = u ∧ l.st.b = some b := by
  simp only [turnsB, ascI_mem, List.mem_map, List.mem_filter, decide_eq_true_iff]
  exact ⟨fun ⟨x, ⟨h1, h2⟩, h3⟩ => ⟨x, h1, h3, h2⟩, fun ⟨x, h1, h3, h2⟩ => ⟨x, ⟨h1, h2⟩, h3⟩⟩
theorem votersB_eq {ws : List Int} {kept : List Let} {certs : List (Int × Str)} {h : Int} {t : Nat} {b : Str} (hk : ∀ l ∈ kept, l.st.h = h) (hc : ∀ u : Int, u < t → ((u, b) ∈ certs ↔ 0 ≤ u ∧ certP ws kept h u.toNat (some b) = true)) :
    votersB kept certs t b = votersP kept h (some b) t (leansP ws kept h (some b) t) := by
  unfold votersB votersP
  congr 1
  refine List.filter_congr fun x hx => ?_
  have hx := hk x hx
  rw [Bool.eq_iff_iff, voteOk_iff]
  rcases x with ⟨w, ⟨h', t', b'⟩ | ⟨h', t', b', l⟩ | ⟨h', t', b'⟩⟩
  · simp [voterB]
  · have hx : h' = h := hx
    subst hx
    simp only [voterB, Bool.and_eq_true, decide_eq_true_iff, Stm.vote.injEq, true_and]
    constructor
    · rintro ⟨rfl, rfl, hl⟩
      refine ⟨l, ⟨rfl, rfl, rfl⟩, ?_, ?_⟩
      · cases l with
        | none => exact mem_leans.mpr (.inl rfl)
        | some x =>
          obtain ⟨k1, k2⟩ := (Bool.and_eq_true _ _).mp hl
          have k1 := of_decide_eq_true k1
          obtain ⟨k3, k4⟩ := (hc x k1).mp (of_decide_eq_true k2)
          exact mem_leans.mpr (.inr ⟨x.toNat, by omega, by rw [Int.toNat_of_nonneg k3], k4⟩)
      · rintro x rfl
        exact of_decide_eq_true ((Bool.and_eq_true _ _).mp hl).1
    · rintro ⟨l', ⟨rfl, rfl, rfl⟩, hl, hlt⟩
      refine ⟨rfl, rfl, ?_⟩
      rcases mem_leans.mp hl with rfl | ⟨s, k1, rfl, k3⟩
      · rfl
      · have := hlt s rfl
        exact (Bool.and_eq_true _ _).mpr ⟨decide_eq_true this, decide_eq_true ((hc s this).mpr ⟨by omega, by simpa using k3⟩)⟩
  · simp [voterB]
theorem signersB_eq {kept : List Let} {h t : Int} {b : Str} (hk : ∀ l ∈ kept, l.st.h = h) : signersB kept t b = signersP kept h t (some b) := by
  unfold signersB signersP
  congr 1
  refine List.filter_congr fun x hx => ?_
  have hx := hk x hx
  rcases x with ⟨w, ⟨h', t', b'⟩ | ⟨h', t', b', l⟩ | ⟨h', t', b'⟩⟩
  · simp [signerB]
  · simp [signerB]
  · have hx : h' = h := hx
    subst hx
    rw [Bool.eq_iff_iff]
    simp [signerB]
/-- a book on its way: some turns are still to be looked at -/
structure Mid (ws : List Int) (h : Int) (kept : List Let) (t : Int) (b : Str) (post : List Int) (y : BookS) : Prop where
  kp : y.kept = kept
  c1 : ∀ (u : Int) (b' : Str), (u, b') ∈ y.certs → 0 ≤ u ∧ certP ws kept h u.toNat (some b') = true
  c2 : ∀ (u : Int) (b' : Str), 0 ≤ u → certP ws kept h u.toNat (some b') = true → (u, b') ∈ y.certs ∨ b' = b ∧ t ≤ u ∧ u ∈ post
  m1 : ∀ (u : Int) (b' : Str), (u, b') ∈ y.commits → 0 ≤ u ∧ commP ws kept h u.toNat (some b') = true
  m2 : ∀ (u : Int) (b' : Str), 0 ≤ u → commP ws kept h u.toNat (some b') = true → (u, b') ∈ y.commits ∨ b' = b ∧ t ≤ u ∧ u ∈ post
  nc : y.certs.Nodup
  no : y.commits.Nodup
theorem nodup_snoc {α : Type} {xs : List α} {x : α} (h : xs.Nodup) (hx : x ∉ xs) : (xs ++ [x]).Nodup :=
  List.nodup_append.mpr ⟨h, by simp, fun a ha b hb => by rw [List.mem_singleton.mp hb]; exact fun e => hx (e ▸ ha)⟩
theorem Mid.step {ws : List Int} {h : Int} {kept : List Let} {t u : Int} {b : Str} {post : List Int} {y : BookS} (hk : ∀ l ∈ kept, l.st.h = h) (hu0 : 0 ≤ u) (asc : ∀ v ∈ post, u < v)
    (i : Mid ws h kept t b (u :: post) y) : Mid ws h kept t b post (if t ≤ u then lookP ws y u b else y) := by
  by_cases htu : t ≤ u
  · rw [if_pos htu]
    obtain ⟨kp, c1, c2, m1, m2, nc, no⟩ := i
    have e0 : (u.toNat : Int) = u := Int.toNat_of_nonneg hu0
    have ev : votersB kept y.certs u b = votersP kept h (some b) u.toNat (leansP ws kept h (some b) u.toNat) := by
      have := votersB_eq (ws := ws) (certs := y.certs) (t := u.toNat) (b := b) hk fun v hv => ⟨c1 v b, fun ⟨z1, z2⟩ => (c2 v b z1 z2).elim id fun ⟨_, _, z⟩ => by
        rcases List.mem_cons.mp z with z | z
        · omega
        · have := asc v z; omega⟩
      rw [e0] at this
      rw [this, e0]
    have es := signersB_eq (t := u) (b := b) hk
    have ec : quorumP ws (votersB kept y.certs u b) = certP ws kept h u.toNat (some b) := by rw [ev]; rfl
    have em : commP ws kept h u.toNat (some b) = (quorumP ws (signersB kept u b) && certP ws kept h u.toNat (some b)) := by rw [es, commP, e0]
    have hC : ∀ (v : Int) (b' : Str), (v, b') ∈ lookC ws y u b ↔ (v, b') ∈ y.certs ∨ (v = u ∧ b' = b ∧ certP ws kept h u.toNat (some b) = true) := fun v b' => by
      unfold lookC
      rw [kp, ec]
      by_cases hin : (u, b) ∈ y.certs
      · rw [if_neg fun z => z.1 hin]
        exact ⟨.inl, fun z => z.elim id fun ⟨z1, z2, _⟩ => by rw [z1, z2]; exact hin⟩
      · by_cases hce : certP ws kept h u.toNat (some b) = true
        · rw [if_pos ⟨hin, hce⟩, List.mem_append, List.mem_singleton, Prod.mk.injEq]
          exact ⟨fun z => z.imp id fun z => ⟨z.1, z.2, hce⟩, fun z => z.imp id fun z => ⟨z.1, z.2.1⟩⟩
        · rw [if_neg fun z => hce z.2]
          exact ⟨.inl, fun z => z.elim id fun ⟨_, _, z⟩ => absurd z hce⟩
    have hCu : (u, b) ∈ lookC ws y u b ↔ certP ws kept h u.toNat (some b) = true := by
      rw [hC]
      exact ⟨fun z => z.elim (fun z => (c1 u b z).2) fun z => z.2.2, fun z => .inr ⟨rfl, rfl, z⟩⟩
    have hM : ∀ (v : Int) (b' : Str), (v, b') ∈ (lookP ws y u b).commits ↔ (v, b') ∈ y.commits ∨ (v = u ∧ b' = b ∧ commP ws kept h u.toNat (some b) = true) := fun v b' => by
      show (v, b') ∈ (if _ then _ else _) ↔ _
      rw [kp]
      by_cases hin : (u, b) ∈ y.commits
      · rw [if_neg fun z => z.2.2 hin]
        exact ⟨.inl, fun z => z.elim id fun ⟨z1, z2, _⟩ => by rw [z1, z2]; exact hin⟩
      · by_cases hce : commP ws kept h u.toNat (some b) = true
        · have hce2 := hce
          rw [em] at hce2
          obtain ⟨z1, z2⟩ := (Bool.and_eq_true _ _).mp hce2
          rw [if_pos ⟨hCu.mpr z2, z1, hin⟩, List.mem_append, List.mem_singleton, Prod.mk.injEq]
          exact ⟨fun z => z.imp id fun z => ⟨z.1, z.2, hce⟩, fun z => z.imp id fun z => ⟨z.1, z.2.1⟩⟩
        · rw [if_neg fun z => hce (by rw [em]; exact (Bool.and_eq_true _ _).mpr ⟨z.2.1, hCu.mp z.1⟩)]
          exact ⟨.inl, fun z => z.elim id fun ⟨_, _, z⟩ => absurd z hce⟩
    refine ⟨kp, fun v b' z => ?_, fun v b' z1 z2 => ?_, fun v b' z => ?_, fun v b' z1 z2 => ?_, ?_, ?_⟩
    · rcases (hC v b').mp z with z | ⟨rfl, rfl, z⟩
      · exact c1 v b' z
      · exact ⟨hu0, z⟩
    · rcases c2 v b' z1 z2 with z | ⟨rfl, z3, z4⟩
      · exact .inl ((hC v b').mpr (.inl z))
      · rcases List.mem_cons.mp z4 with rfl | z4
        · exact .inl ((hC v b').mpr (.inr ⟨rfl, rfl, z2⟩))
        · exact .inr ⟨rfl, z3, z4⟩
    · rcases (hM v b').mp z with z | ⟨rfl, rfl, z⟩
      · exact m1 v b' z
      · exact ⟨hu0, z⟩
    · rcases m2 v b' z1 z2 with z | ⟨rfl, z3, z4⟩
      · exact .inl ((hM v b').mpr (.inl z))
      · rcases List.mem_cons.mp z4 with rfl | z4
        · exact .inl ((hM v b').mpr (.inr ⟨rfl, rfl, z2⟩))
        · exact .inr ⟨rfl, z3, z4⟩
    · show (lookC ws y u b).Nodup
      unfold lookC
      split
      · rename_i z; exact nodup_snoc nc z.1
      · exact nc
    · show (if _ then _ else _ : List (Int × Str)).Nodup
      split
      · rename_i z; exact nodup_snoc no z.2.2
      · exact no
  · rw [if_neg htu]
    exact ⟨i.kp, i.c1, fun v b' z1 z2 => (i.c2 v b' z1 z2).imp id fun ⟨z3, z4, z5⟩ => ⟨z3, z4, (List.mem_cons.mp z5).elim (fun z => by omega) id⟩, i.m1,
      fun v b' z1 z2 => (i.m2 v b' z1 z2).imp id fun ⟨z3, z4, z5⟩ => ⟨z3, z4, (List.mem_cons.mp z5).elim (fun z => by omega) id⟩, i.nc, i.no⟩
theorem Mid.go {ws : List Int} {h : Int} {kept : List Let} {t : Int} {b : Str} (hk : ∀ l ∈ kept, l.st.h = h) : ∀ (post : List Int) (y : BookS), (∀ u ∈ post, 0 ≤ u) → post.Pairwise (· < ·) → Mid ws h kept t b post y →
    Mid ws h kept t b [] (post.foldl (fun y u => if t ≤ u then lookP ws y u b else y) y)
  | [], _, _, _, i => i
  | u :: post, y, h0, hp, i => by
    rw [List.foldl_cons]
    rw [List.pairwise_cons] at hp
    exact Mid.go hk post _ (fun v hv => h0 v (List.mem_cons_of_mem _ hv)) hp.2 (i.step hk (h0 u (by simp)) hp.1)
theorem BInv.nil (ws : List Int) (hv : validW ws) (h : Int) : BInv ws h ⟨[], [], []⟩ := by
  have hc : ∀ (t : Nat) (b : Option Str), certP ws [] h t b = false := fun t b => Bool.eq_false_iff.mpr fun z => by
    obtain ⟨l, hl, _⟩ := cert_turn hv z
    cases hl
  refine ⟨by simp, by simp, by simp, fun u b => ?_, fun u b => ?_, by simp, by simp⟩
  · simp [hc]
  · simp [hc, commP]
theorem BInv.add {ws : List Int} {h : Int} {x : BookS} {l : Let} (hv : validW ws) (i : BInv ws h x) (ht : 0 ≤ l.st.t) : BInv ws h (addP ws h x l) := by
  unfold addP
  by_cases hk : keepsP ws h x l = true
  · rw [if_pos hk]
    obtain ⟨_, _, kv, kh, _⟩ := keepsP_iff.mp hk
    have hs : ∀ y ∈ x.kept ++ [l], y.st.h = h := fun y hy => (List.mem_append.mp hy).elim (i.hs y) fun z => by rw [List.mem_singleton.mp z]; exact kh
    have vs : ∀ y ∈ x.kept ++ [l], y.st.isVote = true := fun y hy => (List.mem_append.mp hy).elim (i.vs y) fun z => by rw [List.mem_singleton.mp z]; exact kv
    have t0 : ∀ y ∈ x.kept ++ [l], 0 ≤ y.st.t := fun y hy => (List.mem_append.mp hy).elim (i.t0 y) fun z => by rw [List.mem_singleton.mp z]; exact ht
    have sub : ∀ y ∈ x.kept, y ∈ x.kept ++ [l] := fun y hy => List.mem_append_left _ hy
    have same : ∀ (u : Nat) (b : Str), (∀ v : Nat, v ≤ u → l.st.t = (v : Int) → l.st.b = some b → False) → certP ws (x.kept ++ [l]) h u (some b) = certP ws x.kept h u (some b) := fun u b z =>
      cert_same fun v hv L => voters_snoc_same (z v hv)
    have same2 : ∀ (u : Nat) (b : Str), (∀ v : Nat, v ≤ u → l.st.t = (v : Int) → l.st.b = some b → False) → commP ws (x.kept ++ [l]) h u (some b) = commP ws x.kept h u (some b) := fun u b z => by
      unfold commP
      rw [same u b z, signers_snoc_same (z u (Nat.le_refl _))]
    cases hb : l.st.b with
    | none =>
      have nb : ∀ (b : Str), l.st.b = some b → False := fun b z => by rw [hb] at z; cases z
      refine ⟨hs, vs, t0, fun u b => ?_, fun u b => ?_, i.nc, i.no⟩
      · show _ ↔ 0 ≤ u ∧ certP ws (x.kept ++ [l]) h u.toNat (some b) = true
        rw [same u.toNat b fun _ _ _ z => nb b z]
        exact i.cert u b
      · show _ ↔ 0 ≤ u ∧ commP ws (x.kept ++ [l]) h u.toNat (some b) = true
        rw [same2 u.toNat b fun _ _ _ z => nb b z]
        exact i.com u b
    | some b =>
      have new : ∀ (u : Int) (b' : Str), 0 ≤ u → (b' = b → ¬ l.st.t ≤ u) → ∀ v : Nat, v ≤ u.toNat → l.st.t = (v : Int) → l.st.b = some b' → False := fun u b' hu z v hv e1 e2 => by
        rw [hb] at e2
        cases e2
        exact z rfl (by omega)
      have base : Mid ws h (x.kept ++ [l]) l.st.t b (turnsB (x.kept ++ [l]) b) { x with kept := x.kept ++ [l] } := by
        have old : ∀ (u : Int) (b' : Str), 0 ≤ u → certP ws (x.kept ++ [l]) h u.toNat (some b') = true → (b' = b → ¬ l.st.t ≤ u) ∨ b' = b ∧ l.st.t ≤ u ∧ u ∈ turnsB (x.kept ++ [l]) b := fun u b' hu hc => by
          by_cases e : b' = b ∧ l.st.t ≤ u
          · obtain ⟨rfl, e2⟩ := e
            obtain ⟨y, hy, e3, e4⟩ := cert_turn hv hc
            exact .inr ⟨rfl, e2, mem_turnsB.mpr ⟨y, hy, by omega, e4⟩⟩
          · exact .inl fun z1 z2 => e ⟨z1, z2⟩
        refine ⟨rfl, fun u b' z => ?_, fun u b' hu hc => ?_, fun u b' z => ?_, fun u b' hu hc => ?_, i.nc, i.no⟩
        · obtain ⟨z1, z2⟩ := (i.cert u b').mp z
          exact ⟨z1, cert_up hv sub z2⟩
        · refine (old u b' hu hc).imp (fun z => ?_) id
          rw [same u.toNat b' (new u b' hu z)] at hc
          exact (i.cert u b').mpr ⟨hu, hc⟩
        · obtain ⟨z1, z2⟩ := (i.com u b').mp z
          exact ⟨z1, comm_up hv sub z2⟩
        · refine (old u b' hu ((Bool.and_eq_true _ _).mp hc).2).imp (fun z => ?_) id
          rw [same2 u.toNat b' (new u b' hu z)] at hc
          exact (i.com u b').mpr ⟨hu, hc⟩
      have fin := Mid.go hs (turnsB (x.kept ++ [l]) b) _ (fun u hu => by
        obtain ⟨y, hy, e, _⟩ := mem_turnsB.mp hu
        rw [← e]; exact t0 y hy) (ascI_lt _) base
      show BInv ws h (spreadP ws { x with kept := x.kept ++ [l] } l.st.t b)
      have kp : (spreadP ws { x with kept := x.kept ++ [l] } l.st.t b).kept = x.kept ++ [l] := spreadP_kept ..
      refine ⟨by rw [kp]; exact hs, by rw [kp]; exact vs, by rw [kp]; exact t0, fun u b' => ?_, fun u b' => ?_, fin.nc, fin.no⟩
      · rw [kp]
        exact ⟨fin.c1 u b', fun ⟨z1, z2⟩ => (fin.c2 u b' z1 z2).elim id fun z => nomatch z.2.2⟩
      · rw [kp]
        exact ⟨fin.m1 u b', fun ⟨z1, z2⟩ => (fin.m2 u b' z1 z2).elim id fun z => nomatch z.2.2⟩
  · rw [if_neg hk]
    exact i
end Toy

/-! data: papers by definition -/
namespace Toy
open PySem L2 DL
/-- a prevote that counts, by definition -/
def countsD (ws : List Int) (kept : List Let) (b : Str) (u : Int) (l : Let) : Bool := l.st.isPv && (decide (l.st.t = u) && (decide (l.st.b = some b) && (match l.st.l with | none => true | some x => certP ws kept 0 x.toNat (some b))))
def dueStep (ws : List Int) (kept : List Let) (b : Str) (s : List Let × List Int) (u : Int) : List Let × List Int :=
  if u ∈ s.2 then (s.1 ++ pickQ ws (kept.filter (countsD ws kept b u)), s.2 ++ (pickQ ws (kept.filter (countsD ws kept b u))).filterMap fun l => l.st.l) else s
def dueP (ws : List Int) (kept : List Let) (b : Str) (t : Int) : List Let :=
  ((backTurns t).foldl (dueStep ws kept b) (pickQ ws (kept.filter fun l => decide (l.st = .com 0 t (some b))), [t])).1
theorem due_paper {ws : List Int} {x : BookS} (i : BInv ws 0 x) (hl : ∀ l ∈ x.kept, ∀ y, l.st.l = some y → 0 ≤ y ∧ y < l.st.t) (b : Str) (t : Int) : paperP ws x b t = dueP ws x.kept b t := by
  unfold paperP dueP
  have e1 : ((votesB x.kept b).filter fun l => l.st.isCom && decide (l.st.t = t)) = x.kept.filter fun l => decide (l.st = .com 0 t (some b)) := by
    unfold votesB
    rw [List.filter_filter]
    refine List.filter_congr fun y hy => ?_
    have hh := i.hs y hy
    rcases y with ⟨w, ⟨h', t', b'⟩ | ⟨h', t', b', l⟩ | ⟨h', t', b'⟩⟩
    · simp [Stm.isCom]
    · simp [Stm.isCom]
    · have hh : h' = 0 := hh
      subst hh
      simp [Stm.isCom, Stm.t, Stm.b, Bool.and_comm]
      rfl
  have e2 : paperStep ws (votesB x.kept b) x.certs b = dueStep ws x.kept b := by
    funext s u
    unfold paperStep dueStep
    have : leanB (votesB x.kept b) x.certs b u = x.kept.filter (countsD ws x.kept b u) := by
      unfold leanB votesB
      rw [List.filter_filter, List.filter_filter]
      refine List.filter_congr fun y hy => ?_
      have hly := hl y hy
      rcases y with ⟨w, ⟨h', t', b'⟩ | ⟨h', t', b', l⟩ | ⟨h', t', b'⟩⟩
      · simp [Stm.isPv, countsD]
      · cases l with
        | none => simp [Stm.isPv, countsD, countsP, Stm.t, Stm.b, Stm.l]
        | some z =>
          obtain ⟨h1, h2⟩ := hly z rfl
          have h2 : z < t' := h2
          have hc := i.cert z b
          have hc2 : decide ((z, b) ∈ x.certs) = certP ws x.kept 0 z.toNat (some b) := by
            rw [Bool.eq_iff_iff, decide_eq_true_iff, hc]
            exact ⟨fun w => w.2, fun w => ⟨h1, w⟩⟩
          simp only [Stm.isPv, countsD, countsP, Stm.t, Stm.b, Stm.l, hc2, decide_eq_true h2, Bool.true_and]
          by_cases k1 : t' = u <;> by_cases k2 : b' = some b <;> simp [k1, k2]
          exact fun _ => k1 ▸ h2
      · simp [Stm.isPv, countsD]
    rw [this]
  rw [e1, e2]
/-- the letters that the laws draw -/
structure WfL (z : Int) (l : Let) : Prop where
  w0 : 0 ≤ l.who
  wz : l.who < z
  h : l.st.h = 0
  v : l.st.isVote = true
  t0 : 0 ≤ l.st.t
  t4 : l.st.t < 4
  b : okB l.st.b
  ln : ∀ y, l.st.l = some y → 0 ≤ y ∧ y < l.st.t
theorem lettersP_wf {c : Int} {n : Nat} {z : Int} (hz : 0 < z) : ∀ l ∈ lettersP c n z, WfL z l := fun l hl => by
  obtain ⟨k, _, rfl⟩ := List.mem_map.mp hl
  generalize (row c (2 * n) 960).getD (2 * k + 1) 0 = g
  generalize (row c (2 * n) 960).getD (2 * k) 0 = d
  refine ⟨Int.emod_nonneg _ (by omega), Int.emod_lt_of_pos _ hz, ?_, ?_, ?_, ?_, stm_ok _ _, ?_⟩
  all_goals (unfold stm; dsimp only; split)
  all_goals first | rfl | (simp only [Stm.t]; omega) | skip
  · intro y e; cases e
  · intro y e
    simp only [Stm.l, Stm.t] at e ⊢
    split at e
    · cases e
      rename_i hc
      exact ⟨Int.emod_nonneg _ (by omega), Int.emod_lt_of_pos _ (by omega)⟩
    · cases e
theorem plantedP_wf {c : Int} {z : Nat} : ∀ l ∈ plantedP c z, WfL z l := fun l hl => by
  have hb := plantedP_ok c z l hl
  obtain ⟨k, hk1, hk⟩ := List.mem_flatMap.mp hl
  have hk1 := List.mem_range.mp hk1
  simp only [plantK] at hk
  generalize (row c (2 * z + 8) 60) = dg at hk
  have e0 : 0 ≤ dg.getD 0 0 % 3 := Int.emod_nonneg _ (by decide)
  have e1 : dg.getD 0 0 % 3 < 3 := Int.emod_lt_of_pos _ (by decide)
  have e2 : 0 ≤ dg.getD 1 0 % 2 := Int.emod_nonneg _ (by decide)
  have e3 : dg.getD 1 0 % 2 < 2 := Int.emod_lt_of_pos _ (by decide)
  generalize dg.getD 0 0 % 3 = ea at e0 e1 hk
  generalize dg.getD 1 0 % 2 = la at e2 e3 hk
  rcases List.mem_append.mp hk with hk | hk
  · split at hk
    · simp only [List.mem_cons, List.not_mem_nil, or_false] at hk
      rcases hk with rfl | rfl <;> refine ⟨?_, ?_, rfl, rfl, ?_, ?_, hb, fun y e => ?_⟩ <;> first | (cases e; done) | (simp only [Stm.t]; omega) | (dsimp only; omega)
    · cases hk
  · split at hk
    · rcases List.mem_append.mp hk with hk | hk
      · split at hk
        · rename_i hl2
          simp only [List.mem_cons, List.not_mem_nil, or_false] at hk
          rcases hk with rfl | rfl <;> refine ⟨?_, ?_, rfl, rfl, ?_, ?_, hb, fun y e => ?_⟩ <;> first | (cases e; done) | (cases e; simp only [Stm.t]; omega) | (simp only [Stm.t]; omega) | (dsimp only; omega)
        · simp only [List.mem_cons, List.not_mem_nil, or_false] at hk
          rcases hk with rfl
          refine ⟨?_, ?_, rfl, rfl, ?_, ?_, hb, fun y e => ?_⟩ <;> first | (cases e; done) | (simp only [Stm.t]; omega) | (dsimp only; omega)
      · simp only [List.mem_cons, List.not_mem_nil, or_false] at hk
        rcases hk with rfl
        refine ⟨?_, ?_, rfl, rfl, ?_, ?_, hb, fun y e => ?_⟩ <;> first | (cases e; done) | (simp only [Stm.t]; omega) | (dsimp only; omega)
    · cases hk
theorem nodup_turn {α : Type} {xs : List α} {f : α → Int} (n : Nat) (hn : (xs.map f).Nodup) (h : ∀ x ∈ xs, 0 ≤ f x ∧ f x < n) : xs.length ≤ n := by
  have := hn.length_le_of_subset (l₂ := (List.range n).map fun i : Nat => (i : Int)) fun y hy => by
    obtain ⟨x, hx, rfl⟩ := List.mem_map.mp hy
    obtain ⟨h1, h2⟩ := h x hx
    exact List.mem_map.mpr ⟨(f x).toNat, List.mem_range.mpr (by omega), Int.toNat_of_nonneg h1⟩
  simpa using this
theorem turnsB_len {kept : List Let} (n : Nat) (h : ∀ l ∈ kept, 0 ≤ l.st.t ∧ l.st.t < n) (b : Str) : (turnsB kept b).length ≤ n := by
  refine nodup_turn (f := id) n ?_ fun u hu => ?_
  · rw [List.map_id]
    exact (ascI_lt _).imp fun e1 e2 => by omega
  · obtain ⟨l, hl, e, _⟩ := mem_turnsB.mp hu
    have := h l hl
    rw [e] at this
    exact this
theorem pairs_len {kept : List Let} {cs : List (Int × Str)} (hn : cs.Nodup) (h : ∀ c ∈ cs, ∃ l ∈ kept, l.st.t = c.1 ∧ l.st.b = some c.2) : cs.length ≤ kept.length := by
  have hn2 : (cs.map fun c => (c.1, some c.2)).Nodup := List.Pairwise.map _ (fun a b e z => e (by
    obtain ⟨a1, a2⟩ := a
    obtain ⟨b1, b2⟩ := b
    simp only [Prod.mk.injEq, Option.some.injEq] at z ⊢
    exact z)) hn
  have := hn2.length_le_of_subset (l₂ := kept.map fun l => (l.st.t, l.st.b)) fun y hy => by
    obtain ⟨c, hc, rfl⟩ := List.mem_map.mp hy
    obtain ⟨l, hl, e1, e2⟩ := h c hc
    exact List.mem_map.mpr ⟨l, hl, by rw [e1, e2]⟩
  simpa using this
theorem BInv.cert_mem {ws : List Int} {h : Int} {x : BookS} (hv : validW ws) (i : BInv ws h x) : ∀ c ∈ x.certs, ∃ l ∈ x.kept, l.st.t = c.1 ∧ l.st.b = some c.2 := fun c hc => by
  obtain ⟨h1, h2⟩ := (i.cert c.1 c.2).mp hc
  obtain ⟨l, hl, e1, e2⟩ := cert_turn hv h2
  exact ⟨l, hl, by omega, e2⟩
theorem BInv.com_mem {ws : List Int} {h : Int} {x : BookS} (hv : validW ws) (i : BInv ws h x) : ∀ c ∈ x.commits, ∃ l ∈ x.kept, l.st.t = c.1 ∧ l.st.b = some c.2 := fun c hc => by
  obtain ⟨h1, h2⟩ := (i.com c.1 c.2).mp hc
  obtain ⟨l, hl, e1, e2⟩ := cert_turn hv ((Bool.and_eq_true _ _).mp h2).2
  exact ⟨l, hl, by omega, e2⟩
theorem addP_kept (ws : List Int) (h : Int) (x : BookS) (l : Let) : (addP ws h x l).kept = if keepsP ws h x l = true then x.kept ++ [l] else x.kept := by
  unfold addP
  split
  · cases l.st.b with
    | none => rfl
    | some b => exact spreadP_kept ..
  · rfl
theorem keepsP_wf {ws : List Int} {x : BookS} {l : Let} (w : WfL ws.length l) : keepsP ws 0 x l = decide (l ∉ x.kept) := by
  rw [Bool.eq_iff_iff, decide_eq_true_iff]
  exact ⟨fun z => (keepsP_iff.mp z).2.2.2.2, fun z => keepsP_iff.mpr ⟨w.w0, w.wz, w.v, w.h, z⟩⟩
def comTurns (ws : List Int) (kept : List Let) (b : Str) : List Nat := (List.range 4).filter fun t => commP ws kept 0 t (some b)
theorem commitTurns_eq {ws : List Int} {x : BookS} (hv : validW ws) (i : BInv ws 0 x) (h4 : ∀ l ∈ x.kept, l.st.t < 4) (b : Str) : commitTurns x b = (comTurns ws x.kept b).map fun t : Nat => (t : Int) := by
  have m1 : ∀ k : Int, k ∈ commitTurns x b ↔ (k, b) ∈ x.commits := fun k => by
    unfold commitTurns
    rw [(sortI_perm _).mem_iff, List.mem_map]
    constructor
    · rintro ⟨⟨c1, c2⟩, hc, rfl⟩
      obtain ⟨z1, z2⟩ := List.mem_filter.mp hc
      have z2 : c2 = b := of_decide_eq_true z2
      subst z2
      exact z1
    · intro hc
      exact ⟨(k, b), List.mem_filter.mpr ⟨hc, decide_eq_true rfl⟩, rfl⟩
  refine asc_unique ?_ ?_ fun k => ?_
  · unfold commitTurns
    have hsr := sortI_sorted ((x.commits.filter fun c => decide (c.2 = b)).map fun c => c.1)
    have hnd : (sortI ((x.commits.filter fun c => decide (c.2 = b)).map fun c => c.1)).Nodup := (sortI_perm _).nodup_iff.mpr ?_
    · exact (hsr.and hnd).imp fun e => by omega
    refine List.Pairwise.map _ (S := fun a b : Int => a ≠ b) (R := fun a c : Int × Str => a ≠ c ∧ a.2 = b ∧ c.2 = b) (fun a c e z => e.1 (by
      obtain ⟨a1, a2⟩ := a
      obtain ⟨b1, b2⟩ := c
      obtain ⟨_, rfl, h2⟩ := e
      have h2 : b2 = a2 := h2
      have z : a1 = b1 := z
      rw [h2, z])) ?_
    have := i.no.filter fun c => decide (c.2 = b)
    refine List.Pairwise.imp_of_mem (fun ha hb e => ⟨e, ?_, ?_⟩) this
    · exact of_decide_eq_true (List.mem_filter.mp ha).2
    · exact of_decide_eq_true (List.mem_filter.mp hb).2
  · refine List.Pairwise.map _ (R := (· < ·)) (fun a b e => by omega) ?_
    exact List.Pairwise.filter _ List.pairwise_lt_range
  · rw [m1, i.com, List.mem_map]
    constructor
    · rintro ⟨z1, z2⟩
      obtain ⟨l, hl, e1, e2⟩ := cert_turn hv ((Bool.and_eq_true _ _).mp z2).2
      have := h4 l hl
      exact ⟨k.toNat, List.mem_filter.mpr ⟨List.mem_range.mpr (by omega), z2⟩, Int.toNat_of_nonneg z1⟩
    · rintro ⟨n, hn, rfl⟩
      exact ⟨by omega, by simpa using (List.mem_filter.mp hn).2⟩
end Toy
namespace Toy
open PySem L2 DL
theorem dueP_sub (ws : List Int) (kept : List Let) (b : Str) (t : Int) : ∀ l ∈ dueP ws kept b t, l ∈ kept := by
  have : ∀ (us : List Int) (s : List Let × List Int), (∀ l ∈ s.1, l ∈ kept) → ∀ l ∈ (us.foldl (dueStep ws kept b) s).1, l ∈ kept := fun us => by
    induction us with
    | nil => intro s hs; exact hs
    | cons u us ih =>
      intro s hs
      rw [List.foldl_cons]
      refine ih _ fun l hl => ?_
      unfold dueStep at hl
      split at hl
      · rcases List.mem_append.mp hl with z | z
        · exact hs l z
        · exact (List.mem_filter.mp (pickQ_sub _ _ l z)).1
      · exact hs l hl
  exact this _ _ fun l hl => (List.mem_filter.mp (pickQ_sub _ _ l hl)).1
theorem deq_lets {ls : List Let} (h : ∀ l ∈ ls, okB l.st.b) : deq (.lst (ls.map Let.d)) (.lst (ls.map Let.d)) = true := deq_refl _ (fit_dat (lets_fit h))
end Toy
namespace Toy
open PySem L2 DL
def pairsP (ws : List Int) (kept : List Let) (com : Bool) : List (Int × Str) :=
  (List.range 4).flatMap fun t : Nat => (["a", "b"] : List Str).filterMap fun b => if (if com = true then commP ws kept 0 t (some b) else certP ws kept 0 t (some b)) = true then some ((t : Int), b) else none
end Toy
namespace Toy
open PySem L2 DL
/-- the latest: none of none, else the greatest of the earlier ones -/
def LatOk (es : List Int) : Option Int → Prop
  | none => es = []
  | some k => k ∈ es ∧ ∀ j ∈ es, j ≤ k
theorem latest_go {b : Str} {t : Int} : ∀ (post pre : List (Int × Str)), LatOk ((pre.filter fun c : Int × Str => decide (c.2 = b) && decide (c.1 < t)).map fun c => c.1) (latestP pre b t) → LatOk (((pre ++ post).filter fun c : Int × Str => decide (c.2 = b) && decide (c.1 < t)).map fun c => c.1) (latestP (pre ++ post) b t)
  | [], pre, h => by rw [List.append_nil]; exact h
  | c :: post, pre, h => by
    rw [show pre ++ c :: post = (pre ++ [c]) ++ post by simp]
    refine latest_go post _ ?_
    have hs : latestP (pre ++ [c]) b t = if c.2 = b ∧ c.1 < t ∧ (∀ x, latestP pre b t = some x → x < c.1) then some c.1 else latestP pre b t := by unfold latestP; rw [List.foldl_append]; rfl
    rw [hs, List.filter_append, List.map_append]
    generalize latestP pre b t = L at h ⊢
    generalize ((pre.filter fun c : Int × Str => decide (c.2 = b) && decide (c.1 < t)).map fun c => c.1) = es at h ⊢
    by_cases h1 : c.2 = b ∧ c.1 < t
    · rw [List.filter_cons_of_pos (by simp [h1]), List.filter_nil, List.map_cons, List.map_nil]
      cases L with
      | none =>
        rw [if_pos ⟨h1.1, h1.2, fun _ z => nomatch z⟩, show es = [] from h]
        exact ⟨by simp, by simp⟩
      | some k =>
        obtain ⟨h2, h3⟩ := h
        by_cases h4 : k < c.1
        · rw [if_pos ⟨h1.1, h1.2, fun x z => by cases z; exact h4⟩]
          refine ⟨by simp, fun j hj => ?_⟩
          rcases List.mem_append.mp hj with z | z
          · have := h3 j z; omega
          · rw [List.mem_singleton.mp z]; omega
        · rw [if_neg fun z => h4 (z.2.2 k rfl)]
          refine ⟨List.mem_append_left _ h2, fun j hj => ?_⟩
          rcases List.mem_append.mp hj with z | z
          · exact h3 j z
          · rw [List.mem_singleton.mp z]; omega
    · rw [List.filter_cons_of_neg (by simpa using h1), List.filter_nil, List.map_nil, List.append_nil, if_neg fun z => h1 ⟨z.1, z.2.1⟩]
      exact h
theorem latestP_of {b : Str} {t : Int} {xs cs : List (Int × Str)} (h : xs.Perm cs) : LatOk ((cs.filter fun c : Int × Str => decide (c.2 = b) && decide (c.1 < t)).map fun c => c.1) (latestP xs b t) := by
  have h1 := latest_go (b := b) (t := t) xs [] (show LatOk _ none from rfl)
  rw [List.nil_append] at h1
  have pm := (h.filter fun c : Int × Str => decide (c.2 = b) && decide (c.1 < t)).map fun c => c.1
  generalize latestP xs b t = L at h1 ⊢
  cases L with
  | none =>
    have h1 : _ = [] := h1
    rw [h1] at pm
    exact (List.nil_perm.mp pm)
  | some k => exact ⟨pm.mem_iff.mp h1.1, fun j hj => h1.2 j (pm.mem_iff.mpr hj)⟩
theorem maxI_eq {e k : Int} {es : List Int} (h1 : k ∈ e :: es) (h2 : ∀ j ∈ e :: es, j ≤ k) : maxI e es = k := by
  obtain ⟨g1, g2⟩ := maxI_ge es e
  have g3 : maxI e es ≤ k := by
    rcases maxI_mem es e with z | z
    · rw [z]; exact h2 e (by simp)
    · exact h2 _ (List.mem_cons_of_mem _ z)
  have g4 : k ≤ maxI e es := by
    rcases List.mem_cons.mp h1 with rfl | z
    · exact g1
    · exact g2 k z
  omega
end Toy
namespace Toy
open PySem L2 DL
/-- letters that may be of any height -/
structure WfA (l : Let) : Prop where
  w0 : 0 ≤ l.who
  t0 : 0 ≤ l.st.t
  t4 : l.st.t < 4
  b : okB l.st.b
  ab : ∀ c, l.st.b = some c → DLS.abS c
theorem stm_ab (g h : Int) : ∀ c, (stm g h).b = some c → DLS.abS c := fun c e => by
  have : ∀ i : Nat, ∀ c, menuB i = some c → DLS.abS c := fun i c e => by
    match i, e with
    | 0, e => cases e; exact .inl rfl
    | 1, e => cases e; exact .inr rfl
    | 2, e => cases e; exact .inl rfl
    | 3, e => cases e; exact .inr rfl
    | 4, e => cases e
    | n + 5, e => simp [menuB] at e
  unfold stm at e
  split at e
  · exact this _ c e
  · exact this _ c e
theorem lettersP_wfa {c : Int} {n : Nat} {z : Int} (hz : 0 < z) : ∀ l ∈ lettersP c n z, WfA l := fun l hl => by
  have w := lettersP_wf hz l hl
  obtain ⟨k, _, rfl⟩ := List.mem_map.mp hl
  exact ⟨w.w0, w.t0, w.t4, w.b, stm_ab _ _⟩
theorem plantedP_wfa {c : Int} {z : Nat} : ∀ l ∈ plantedP c z, WfA l := fun l hl => by
  have w := plantedP_wf l hl
  refine ⟨w.w0, w.t0, w.t4, w.b, ?_⟩
  obtain ⟨k, _, hk⟩ := List.mem_flatMap.mp hl
  simp only [plantK] at hk
  rcases List.mem_append.mp hk with hk | hk
  · split at hk
    · simp only [List.mem_cons, List.not_mem_nil, or_false] at hk
      rcases hk with rfl | rfl <;> (intro c e; cases e; exact .inl rfl)
    · cases hk
  · split at hk
    · rcases List.mem_append.mp hk with hk | hk
      · split at hk
        · simp only [List.mem_cons, List.not_mem_nil, or_false] at hk
          rcases hk with rfl | rfl <;> (intro c e; cases e; exact .inr rfl)
        · simp only [List.mem_cons, List.not_mem_nil, or_false] at hk
          rcases hk with rfl
          intro c e; cases e; exact .inr rfl
      · simp only [List.mem_cons, List.not_mem_nil, or_false] at hk
        rcases hk with rfl
        intro c e; cases e; exact .inr rfl
    · cases hk
theorem cut_any {α : Type} {f : α → D} (xs : List α) (n : Nat) : cutD (xs.map f) none (some (n : Int)) = (xs.take n).map f := by
  by_cases h : n ≤ xs.length
  · exact cut_take xs n h
  · have h : xs.length ≤ n := by omega
    rw [List.take_of_length_le h]
    unfold cutD
    have e1 : HT.sIx (xs.map f).length 0 none = 0 := rfl
    have e2 : HT.sIx (xs.map f).length (xs.map f).length (some (n : Int)) = (xs.map f).length := by
      rw [List.length_map, HT.sIx_nat]
      omega
    rw [e1, e2, List.drop_zero, Nat.sub_zero, List.take_of_length_le (Nat.le_refl _)]
end Toy
namespace Toy
open PySem L2 DL
theorem lookP_grow (ws : List Int) (x : BookS) (t : Int) (b : Str) : (∃ rs, (lookP ws x t b).certs = x.certs ++ rs) ∧ ∃ rs, (lookP ws x t b).commits = x.commits ++ rs := by
  constructor
  · show ∃ rs, lookC ws x t b = x.certs ++ rs
    unfold lookC
    split
    · exact ⟨_, rfl⟩
    · exact ⟨[], (List.append_nil _).symm⟩
  · unfold lookP
    dsimp only
    split
    · exact ⟨_, rfl⟩
    · exact ⟨[], (List.append_nil _).symm⟩
theorem spreadP_grow (ws : List Int) (x : BookS) (t : Int) (b : Str) : (∃ rs, (spreadP ws x t b).certs = x.certs ++ rs) ∧ ∃ rs, (spreadP ws x t b).commits = x.commits ++ rs := by
  unfold spreadP
  generalize turnsB x.kept b = us
  have : ∀ (us : List Int) (y : BookS), (∃ rs, y.certs = x.certs ++ rs) ∧ (∃ rs, y.commits = x.commits ++ rs) → (∃ rs, (us.foldl (fun y u => if t ≤ u then lookP ws y u b else y) y).certs = x.certs ++ rs) ∧ ∃ rs, (us.foldl (fun y u => if t ≤ u then lookP ws y u b else y) y).commits = x.commits ++ rs := fun us => by
    induction us with
    | nil => intro y h; exact h
    | cons u us ih =>
      intro y h
      rw [List.foldl_cons]
      refine ih _ ?_
      split
      · obtain ⟨⟨r1, e1⟩, r2, e2⟩ := h
        obtain ⟨⟨r3, e3⟩, r4, e4⟩ := lookP_grow ws y u b
        exact ⟨⟨r1 ++ r3, by rw [e3, e1, List.append_assoc]⟩, r2 ++ r4, by rw [e4, e2, List.append_assoc]⟩
      · exact h
  exact this us x ⟨⟨[], (List.append_nil _).symm⟩, [], (List.append_nil _).symm⟩
theorem addP_grow (ws : List Int) (h : Int) (x : BookS) (l : Let) : (∃ rs, (addP ws h x l).certs = x.certs ++ rs) ∧ ∃ rs, (addP ws h x l).commits = x.commits ++ rs := by
  unfold addP
  split
  · cases l.st.b with
    | none => exact ⟨⟨[], (List.append_nil _).symm⟩, [], (List.append_nil _).symm⟩
    | some b => exact spreadP_grow ws { x with kept := x.kept ++ [l] } l.st.t b
  · exact ⟨⟨[], (List.append_nil _).symm⟩, [], (List.append_nil _).symm⟩
theorem mem_pairsP {ws : List Int} {ls : List Let} {com : Bool} {u : Int} {b : Str} : (u, b) ∈ pairsP ws ls com ↔ 0 ≤ u ∧ u < 4 ∧ DLS.abS b ∧ (if com = true then commP ws ls 0 u.toNat (some b) else certP ws ls 0 u.toNat (some b)) = true := by
  simp only [pairsP, List.mem_flatMap, List.mem_range, List.mem_filterMap]
  constructor
  · rintro ⟨t, ht, c, hc, e⟩
    by_cases hq : (if com = true then commP ws ls 0 t (some c) else certP ws ls 0 t (some c)) = true
    · rw [if_pos hq] at e
      simp only [Option.some.injEq, Prod.mk.injEq] at e
      obtain ⟨rfl, rfl⟩ := e
      refine ⟨by omega, by omega, ?_, by simpa using hq⟩
      simp only [List.mem_cons, List.not_mem_nil, or_false] at hc
      exact hc
    · rw [if_neg hq] at e
      cases e
  · rintro ⟨h0, h4, hb, hq⟩
    refine ⟨u.toNat, by omega, b, ?_, ?_⟩
    · simp only [List.mem_cons, List.not_mem_nil, or_false]
      exact hb
    · rw [if_pos hq, Int.toNat_of_nonneg h0]
theorem ite_some {α : Type} {c : Prop} [Decidable c] {x y : α} (h : (if c then some x else none) = some y) : x = y := by
  by_cases hc : c
  · rw [if_pos hc] at h
    exact Option.some.inj h
  · rw [if_neg hc] at h
    cases h
theorem nodup_pairsP (ws : List Int) (ls : List Let) (com : Bool) : (pairsP ws ls com).Nodup := by
  unfold pairsP
  refine List.pairwise_flatMap.mpr ⟨fun t _ => ?_, ?_⟩
  · refine List.Pairwise.filterMap _ (R := (· ≠ ·)) (fun b c e x hx y hy => ?_) (by decide +kernel)
    rw [← ite_some hx, ← ite_some hy]
    exact fun z => e (by simpa using z)
  · refine List.Pairwise.imp (fun {s t} e x hx y hy => ?_) List.nodup_range
    obtain ⟨b, _, hb⟩ := List.mem_filterMap.mp hx
    obtain ⟨c, _, hc⟩ := List.mem_filterMap.mp hy
    rw [← ite_some hb, ← ite_some hc]
    exact fun z => e (by simp only [Prod.mk.injEq] at z; omega)
theorem BInv.certs_perm {ws : List Int} {x : BookS} (hv : validW ws) (i : BInv ws 0 x) (hw : ∀ l ∈ x.kept, WfA l) : x.certs.Perm (pairsP ws x.kept false) := by
  refine (List.perm_ext_iff_of_nodup i.nc (nodup_pairsP ..)).mpr fun ⟨u, b⟩ => ?_
  rw [mem_pairsP, if_neg (by decide), i.cert]
  constructor
  · rintro ⟨h0, h1⟩
    obtain ⟨l, hl, e1, e2⟩ := cert_turn hv h1
    have w := hw l hl
    exact ⟨h0, by have := w.t4; omega, w.ab b e2, h1⟩
  · exact fun z => ⟨z.1, z.2.2.2⟩
theorem BInv.commits_perm {ws : List Int} {x : BookS} (hv : validW ws) (i : BInv ws 0 x) (hw : ∀ l ∈ x.kept, WfA l) : x.commits.Perm (pairsP ws x.kept true) := by
  refine (List.perm_ext_iff_of_nodup i.no (nodup_pairsP ..)).mpr fun ⟨u, b⟩ => ?_
  rw [mem_pairsP, if_pos rfl, i.com]
  constructor
  · rintro ⟨h0, h1⟩
    obtain ⟨l, hl, e1, e2⟩ := cert_turn hv ((Bool.and_eq_true _ _).mp h1).2
    have w := hw l hl
    exact ⟨h0, by have := w.t4; omega, w.ab b e2, h1⟩
  · exact fun z => ⟨z.1, z.2.2.2⟩
theorem pairsP_len (ws : List Int) (ls : List Let) (com : Bool) : (pairsP ws ls com).length ≤ 8 := by
  have : (pairsP ws ls com).length ≤ ((List.range 4).flatMap fun t : Nat => [((t : Int), Str.ofString "a"), ((t : Int), Str.ofString "b")]).length := (nodup_pairsP ws ls com).length_le_of_subset fun ⟨u, b⟩ hu => by
    obtain ⟨h0, h4, hb, _⟩ := mem_pairsP.mp hu
    refine List.mem_flatMap.mpr ⟨u.toNat, List.mem_range.mpr (by omega), ?_⟩
    rw [Int.toNat_of_nonneg h0]
    rcases hb with rfl | rfl <;> simp
  exact this
end Toy

/-! data: what letters show -/
namespace Toy
open PySem L2 DL
theorem asL_gc {m m' : MH} {d : D} {ds : List D} (h : asL m d = some ds) (g : Gc m' m) : asL m' d = some ds := by
  rcases asL_cases h with rfl | rfl | ⟨p, rfl, hp⟩
  · rfl
  · rfl
  · exact asL_adr (g _ _ hp)
def bookP (ws : List Int) (h : Int) (ls : List Let) : BookS := ls.foldl (addP ws h) ⟨[], [], []⟩
def shownP (ws : List Int) (h : Int) (b : Str) (ls : List Let) : Option Int := (commitTurns (bookP ws h ls) b).head?
theorem bookP_snoc (ws : List Int) (h : Int) (ls : List Let) (l : Let) : bookP ws h (ls ++ [l]) = addP ws h (bookP ws h ls) l := by
  unfold bookP
  rw [List.foldl_append]
  rfl
theorem snoc_ind {α : Type} {P : List α → Prop} (h0 : P []) (h1 : ∀ xs x, P xs → P (xs ++ [x])) : ∀ xs, P xs := fun xs => by
  have : ∀ ys : List α, P ys.reverse := fun ys => by
    induction ys with
    | nil => exact h0
    | cons y ys ih => rw [List.reverse_cons]; exact h1 _ _ ih
  have := this xs.reverse
  rwa [List.reverse_reverse] at this
theorem bookP_inv {ws : List Int} {h : Int} (hv : validW ws) : ∀ ls : List Let, (∀ l ∈ ls, 0 ≤ l.st.t) → BInv ws h (bookP ws h ls) := by
  refine snoc_ind (fun _ => BInv.nil ws hv h) fun xs x ih ht => ?_
  rw [bookP_snoc]
  exact (ih fun l hl => ht l (List.mem_append_left _ hl)).add hv (ht x (by simp))
theorem bookP_mem {ws : List Int} {h : Int} {y : Let} : ∀ ls : List Let, y ∈ (bookP ws h ls).kept ↔ y ∈ ls ∧ 0 ≤ y.who ∧ y.who < ws.length ∧ y.st.isVote = true ∧ y.st.h = h := by
  refine snoc_ind (by simp [bookP]) fun xs x ih => ?_
  rw [bookP_snoc, addP_kept]
  have e : keepsP ws h (bookP ws h xs) x = true ↔ _ := keepsP_iff (w := x.who) (s := x.st)
  by_cases hk : keepsP ws h (bookP ws h xs) x = true
  · rw [if_pos hk, List.mem_append, List.mem_append, List.mem_singleton, ih]
    have := e.mp hk
    constructor
    · rintro (z | rfl)
      · exact ⟨.inl z.1, z.2⟩
      · exact ⟨.inr rfl, this.1, this.2.1, this.2.2.1, this.2.2.2.1⟩
    · rintro ⟨z | z, w⟩
      · exact .inl ⟨z, w⟩
      · exact .inr z
  · rw [if_neg hk, ih, List.mem_append, List.mem_singleton]
    constructor
    · exact fun z => ⟨.inl z.1, z.2⟩
    · rintro ⟨z | rfl, w⟩
      · exact ⟨z, w⟩
      · by_cases hy : y ∈ (bookP ws h xs).kept
        · exact ih.mp hy
        · exact absurd (e.mpr ⟨w.1, w.2.1, w.2.2.1, w.2.2.2, hy⟩) hk
theorem bookP_len {ws : List Int} {h : Int} : ∀ ls : List Let, (bookP ws h ls).kept.length ≤ ls.length := by
  refine snoc_ind (by simp [bookP]) fun xs x ih => ?_
  rw [bookP_snoc, addP_kept, List.length_append, List.length_singleton]
  split
  · rw [List.length_append, List.length_singleton]; omega
  · omega
theorem quorum_of {ws l1 l2 : List Int} (hv : validW ws) (h : ∀ k : Nat, k < ws.length → (k : Int) ∈ l1 → (k : Int) ∈ l2) (q : quorumP ws l1 = true) : quorumP ws l2 = true := by
  have := wt_mono hv h
  have q := of_decide_eq_true q
  exact decide_eq_true (by omega)
section
variable {ws : List Int} {ls ls' : List Let} {h : Int} {b : Option Str}
theorem cert_of0 (hv : validW ws) (hs : ∀ x ∈ ls, 0 ≤ x.who → x.who < ws.length → x.st.h = h → x.st.isVote = true → x ∈ ls') : ∀ (n t : Nat), t ≤ n → certP ws ls h t b = true → certP ws ls' h t b = true
  | n, t, hn, hc => by
    refine quorum_of hv (fun k hk m => ?_) hc
    obtain ⟨x, h1, h2, h3⟩ := mem_voters.mp m
    obtain ⟨l, h4, h5, h6⟩ := voteOk_iff.mp h3
    refine mem_voters.mpr ⟨x, hs x h1 (by omega) (by omega) (by rw [h4]; rfl) (by rw [h4]; rfl), h2, voteOk_iff.mpr ⟨l, h4, ?_, h6⟩⟩
    rcases mem_leans.mp h5 with rfl | ⟨s, h7, rfl, h9⟩
    · exact mem_leans.mpr (.inl rfl)
    · cases n with
      | zero => omega
      | succ n => exact mem_leans.mpr (.inr ⟨s, h7, rfl, cert_of0 hv hs n s (by omega) h9⟩)
theorem comm_of {t : Nat} (hv : validW ws) (hs : ∀ x ∈ ls, 0 ≤ x.who → x.who < ws.length → x.st.h = h → x.st.isVote = true → x ∈ ls') (hc : commP ws ls h t b = true) : commP ws ls' h t b = true := by
  obtain ⟨h1, h2⟩ := (Bool.and_eq_true _ _).mp hc
  refine (Bool.and_eq_true _ _).mpr ⟨quorum_of hv (fun k hk m => ?_) h1, cert_of0 hv hs t t (Nat.le_refl t) h2⟩
  simp only [signersP, List.mem_map, List.mem_filter] at m ⊢
  obtain ⟨x, ⟨z1, z2⟩, z3⟩ := m
  have z4 := of_decide_eq_true z2
  exact ⟨x, ⟨hs x z1 (by omega) (by omega) (by rw [z4]; rfl) (by rw [z4]; rfl), z2⟩, z3⟩
theorem comm_book {t : Nat} (hv : validW ws) : commP ws (bookP ws h ls).kept h t b = commP ws ls h t b := by
  rw [Bool.eq_iff_iff]
  exact ⟨comm_of hv fun x hx _ _ _ _ => ((bookP_mem ls).mp hx).1, comm_of hv fun x hx h1 h2 h3 h4 => (bookP_mem ls).mpr ⟨hx, h1, h2, h4, h3⟩⟩
end
theorem mem_commitTurns {x : BookS} {b : Str} {k : Int} : k ∈ commitTurns x b ↔ (k, b) ∈ x.commits := by
  unfold commitTurns
  rw [(sortI_perm _).mem_iff, List.mem_map]
  constructor
  · rintro ⟨⟨c1, c2⟩, hc, rfl⟩
    obtain ⟨z1, z2⟩ := List.mem_filter.mp hc
    have z2 : c2 = b := of_decide_eq_true z2
    subst z2
    exact z1
  · intro hc
    exact ⟨(k, b), List.mem_filter.mpr ⟨hc, decide_eq_true rfl⟩, rfl⟩
/-- the earliest turn in which the letters commit the block -/
theorem shown_none {ws : List Int} {h : Int} {b : Str} {ls : List Let} (hv : validW ws) (ht : ∀ l ∈ ls, 0 ≤ l.st.t) : shownP ws h b ls = none ↔ ∀ t : Nat, commP ws ls h t (some b) = false := by
  have i := bookP_inv (h := h) hv ls ht
  unfold shownP
  rw [List.head?_eq_none_iff]
  constructor
  · intro e t
    refine Bool.eq_false_iff.mpr fun z => ?_
    rw [← comm_book hv] at z
    have : ((t : Int), b) ∈ (bookP ws h ls).commits := (i.com _ _).mpr ⟨by omega, by simpa using z⟩
    have := mem_commitTurns.mpr this
    rw [e] at this
    cases this
  · intro e
    refine List.eq_nil_iff_forall_not_mem.mpr fun k hk => ?_
    obtain ⟨h1, h2⟩ := (i.com _ _).mp (mem_commitTurns.mp hk)
    rw [comm_book hv, e] at h2
    cases h2
theorem shown_some {ws : List Int} {h : Int} {b : Str} {ls : List Let} {t : Int} (hv : validW ws) (ht : ∀ l ∈ ls, 0 ≤ l.st.t) (e : shownP ws h b ls = some t) :
    0 ≤ t ∧ commP ws ls h t.toNat (some b) = true ∧ ∀ u : Nat, commP ws ls h u (some b) = true → t ≤ u := by
  have i := bookP_inv (h := h) hv ls ht
  unfold shownP at e
  have hm : t ∈ commitTurns (bookP ws h ls) b := List.mem_of_mem_head? e
  obtain ⟨h1, h2⟩ := (i.com _ _).mp (mem_commitTurns.mp hm)
  rw [comm_book hv] at h2
  refine ⟨h1, h2, fun u hu => ?_⟩
  rw [← comm_book hv] at hu
  have : ((u : Int), b) ∈ (bookP ws h ls).commits := (i.com _ _).mpr ⟨by omega, by simpa using hu⟩
  have hu := mem_commitTurns.mpr this
  have hs : (commitTurns (bookP ws h ls) b).Pairwise (· ≤ ·) := sortI_sorted _
  cases q : commitTurns (bookP ws h ls) b with
  | nil => rw [q] at e; cases e
  | cons y ys =>
    rw [q] at e hu hs
    cases e
    rcases List.mem_cons.mp hu with z | z
    · omega
    · exact (List.pairwise_cons.mp hs).1 _ z
/-- what the walk asks of a book of letters -/
structure BookF (ws : List Int) (h : Int) (x : BookS) (n : Nat) : Prop where
  iv : BInv ws h x
  kl : x.kept.length ≤ n
  ok : ∀ l ∈ x.kept, okB l.st.b ∧ l.st.isVote = true
  tr : ∀ l ∈ x.kept, 0 ≤ l.st.t ∧ l.st.t < 60
  co : ∀ c ∈ x.certs, okB (some c.2)
  mo : ∀ c ∈ x.commits, okB (some c.2)
  cl : x.certs.length ≤ n
  ml : x.commits.length ≤ n
theorem bookF {ws : List Int} {h : Int} {ls : List Let} (hv : validW ws) (hok : ∀ l ∈ ls, okB l.st.b ∧ 0 ≤ l.st.t ∧ l.st.t < 60) : BookF ws h (bookP ws h ls) ls.length := by
  have iv := bookP_inv (h := h) hv ls fun l hl => (hok l hl).2.1
  have kl := bookP_len (ws := ws) (h := h) ls
  have hk : ∀ l ∈ (bookP ws h ls).kept, l ∈ ls := fun l hl => ((bookP_mem ls).mp hl).1
  refine ⟨iv, kl, fun l hl => ⟨(hok l (hk l hl)).1, iv.vs l hl⟩, fun l hl => (hok l (hk l hl)).2, fun c hc => ?_, fun c hc => ?_, Nat.le_trans (pairs_len iv.nc (iv.cert_mem hv)) kl, Nat.le_trans (pairs_len iv.no (iv.com_mem hv)) kl⟩
  · obtain ⟨l, hl, _, e⟩ := iv.cert_mem hv c hc
    rw [← e]; exact (hok l (hk l hl)).1
  · obtain ⟨l, hl, _, e⟩ := iv.com_mem hv c hc
    rw [← e]; exact (hok l (hk l hl)).1
theorem BookF.t64 {ws : List Int} {h : Int} {x : BookS} {n : Nat} {l : Let} (f : BookF ws h x n) (ht : 0 ≤ l.st.t ∧ l.st.t < 60) : ∀ b, (turnsB (x.kept ++ [l]) b).length < 64 := fun b =>
  Nat.lt_of_le_of_lt (turnsB_len 60 (fun y hy => (List.mem_append.mp hy).elim (f.tr y) fun z => by rw [List.mem_singleton.mp z]; exact ht) b) (by decide)
theorem cut_drop {α : Type} {f : α → D} (xs : List α) (n : Nat) : cutD (xs.map f) (some (n : Int)) none = (xs.drop n).map f := by
  have e1 : HT.sIx (xs.map f).length (xs.map f).length none = (xs.map f).length := rfl
  have e2 : HT.sIx (xs.map f).length 0 (some (n : Int)) = min n xs.length := by
    rw [HT.sIx_nat, List.length_map]
  unfold cutD
  rw [e1, e2, ← List.map_drop, ← List.map_take]
  by_cases h : n ≤ xs.length
  · rw [Nat.min_eq_left h, List.take_of_length_le (by simp)]
  · rw [Nat.min_eq_right (by omega), List.drop_length, List.drop_of_length_le (by omega)]
    simp
/-- two papers accuse -/
def accP (ws : List Int) (h : Int) (b1 : Str) (l1 : List Let) (b2 : Str) (l2 : List Let) : Bool := (shownP ws h b1 l1).isSome && ((shownP ws h b2 l2).isSome && !decide (b1 = b2))
end Toy

/-! data: what the paper made from a book shows -/
namespace Toy
open PySem L2 DL
theorem pickQ_snoc (ws : List Int) (xs : List Let) (x : Let) : pickQ ws (xs ++ [x]) = if x.who ∉ (pickQ ws xs).map Let.who ∧ quorumP ws ((pickQ ws xs).map Let.who) = false then pickQ ws xs ++ [x] else pickQ ws xs := by
  unfold pickQ
  rw [List.foldl_append]
  rfl
theorem pickQ_nodup (ws : List Int) : ∀ ls, ((pickQ ws ls).map Let.who).Nodup := by
  refine snoc_ind (by simp [pickQ]) fun xs x ih => ?_
  rw [pickQ_snoc]
  split
  · rename_i h
    rw [List.map_append]
    exact nodup_snoc ih h.1
  · exact ih
theorem pickQ_all (ws : List Int) : ∀ ls, ∀ l ∈ ls, quorumP ws ((pickQ ws ls).map Let.who) = true ∨ l.who ∈ (pickQ ws ls).map Let.who := by
  refine snoc_ind (by simp) fun xs x ih l hl => ?_
  rw [pickQ_snoc]
  by_cases h : x.who ∉ (pickQ ws xs).map Let.who ∧ quorumP ws ((pickQ ws xs).map Let.who) = false
  · rw [if_pos h]
    rcases List.mem_append.mp hl with z | z
    · rcases ih l z with w | w
      · rw [h.2] at w; cases w
      · exact .inr (by rw [List.map_append]; exact List.mem_append_left _ w)
    · rw [List.mem_singleton.mp z]
      exact .inr (by simp)
  · rw [if_neg h]
    rcases List.mem_append.mp hl with z | z
    · exact ih l z
    · rw [List.mem_singleton.mp z]
      by_cases hm : x.who ∈ (pickQ ws xs).map Let.who
      · exact .inr hm
      · exact .inl (by
          cases e : quorumP ws ((pickQ ws xs).map Let.who) with
          | true => rfl
          | false => exact absurd ⟨hm, e⟩ h)
theorem pickQ_last (ws : List Int) : ∀ ls, pickQ ws ls = [] ∨ ∃ init l, pickQ ws ls = init ++ [l] ∧ quorumP ws (init.map Let.who) = false := by
  refine snoc_ind (.inl (by simp [pickQ])) fun xs x ih => ?_
  rw [pickQ_snoc]
  split
  · rename_i h
    exact .inr ⟨_, _, rfl, h.2⟩
  · exact ih
theorem pickQ_quorum {ws : List Int} {ls : List Let} (hv : validW ws) (h : quorumP ws (ls.map Let.who) = true) : quorumP ws ((pickQ ws ls).map Let.who) = true := by
  cases e : quorumP ws ((pickQ ws ls).map Let.who) with
  | true => rfl
  | false =>
    have : quorumP ws ((pickQ ws ls).map Let.who) = true := quorum_mono hv (fun k hk => by
      obtain ⟨l, hl, rfl⟩ := List.mem_map.mp hk
      rcases pickQ_all ws ls l hl with z | z
      · rw [e] at z; cases z
      · exact z) h
    rw [e] at this
    exact this
section
variable {ws : List Int} {kept : List Let} {b : Str} {z : Int}
theorem countsD_iff {u : Int} {l : Let} : countsD ws kept b u l = true ↔ l.st.isPv = true ∧ l.st.t = u ∧ l.st.b = some b ∧ ∀ x, l.st.l = some x → certP ws kept 0 x.toNat (some b) = true := by
  unfold countsD
  simp only [Bool.and_eq_true, decide_eq_true_iff]
  cases e : l.st.l with
  | none => simp
  | some x => simp
theorem counts_quorum {u : Nat} (hv : validW ws) (hc : certP ws kept 0 u (some b) = true) : quorumP ws ((kept.filter (countsD ws kept b u)).map Let.who) = true := by
  refine quorum_mono hv (fun k hk => ?_) hc
  obtain ⟨x, h1, h2, h3⟩ := mem_voters.mp hk
  obtain ⟨l, h4, h5, h6⟩ := voteOk_iff.mp h3
  refine List.mem_map.mpr ⟨x, List.mem_filter.mpr ⟨h1, countsD_iff.mpr ?_⟩, h2⟩
  rw [h4]
  refine ⟨rfl, rfl, rfl, fun y hy => ?_⟩
  have hy : l = some y := hy
  rcases mem_leans.mp h5 with rfl | ⟨s, _, rfl, h8⟩
  · cases hy
  · cases hy
    simpa using h8
/-- the turns wanted, closed under leaning -/
def ClosedP (ws : List Int) (kept : List Let) (b : Str) (P : List Let) (wn : List Int) : Prop :=
  ∀ w ∈ wn, 0 ≤ w ∧ certP ws kept 0 w.toNat (some b) = true ∧ ∀ l ∈ pickQ ws (kept.filter (countsD ws kept b w)), l ∈ P ∧ ∀ y, l.st.l = some y → y ∈ wn
theorem cert_closed (hv : validW ws) (hw : ∀ l ∈ kept, WfL z l) {P : List Let} {wn : List Int} (hc : ClosedP ws kept b P wn) : ∀ (n : Nat) (w : Int), w ∈ wn → w.toNat ≤ n → certP ws P 0 w.toNat (some b) = true := by
  intro n
  induction n using Nat.strongRecOn with
  | ind n ih =>
    intro w hwn hn
    obtain ⟨h0, h1, h2⟩ := hc w hwn
    have e0 : (w.toNat : Int) = w := Int.toNat_of_nonneg h0
    have hq := pickQ_quorum hv (counts_quorum hv h1)
    rw [e0] at hq
    refine quorum_mono hv (fun k hk => ?_) hq
    obtain ⟨l, hl, rfl⟩ := List.mem_map.mp hk
    obtain ⟨h3, h4⟩ := h2 l hl
    obtain ⟨h5, h6⟩ := List.mem_filter.mp (pickQ_sub _ _ l hl)
    obtain ⟨k1, k2, k3, k4⟩ := countsD_iff.mp h6
    have wf := hw l h5
    refine mem_voters.mpr ⟨l, h3, rfl, voteOk_iff.mpr ?_⟩
    have hln := wf.ln
    have hh := wf.h
    rcases l with ⟨v, ⟨h', t', b'⟩ | ⟨h', t', b', ln⟩ | ⟨h', t', b'⟩⟩
    · cases k1
    · have hh : h' = 0 := hh
      have k2 : t' = w := k2
      have k3 : b' = some b := k3
      subst hh k2 k3
      refine ⟨ln, by rw [e0]; rfl, ?_, fun x hx => ?_⟩
      · cases ln with
        | none => exact mem_leans.mpr (.inl rfl)
        | some y =>
          obtain ⟨y0, y1⟩ := hln y rfl
          have y1 : y < t' := y1
          exact mem_leans.mpr (.inr ⟨y.toNat, by omega, by rw [Int.toNat_of_nonneg y0], ih y.toNat (by omega) y (h4 y rfl) (Nat.le_refl _)⟩)
      · have := (hln x hx).2
        have : x < t' := this
        omega
    · cases k1
theorem due_go (hw : ∀ l ∈ kept, WfL z l) {t : Int} : ∀ (us pre : List Int) (s : List Let × List Int), (pre ++ us).Pairwise (fun a c => c < a) → (∀ w, 0 ≤ w → w ≤ t → w ∈ pre ∨ w ∈ us) →
    (∀ w ∈ s.2, 0 ≤ w ∧ w ≤ t ∧ certP ws kept 0 w.toNat (some b) = true) → (∀ w ∈ s.2, w ∈ pre → ∀ l ∈ pickQ ws (kept.filter (countsD ws kept b w)), l ∈ s.1 ∧ ∀ y, l.st.l = some y → y ∈ s.2) →
    ClosedP ws kept b (us.foldl (dueStep ws kept b) s).1 (us.foldl (dueStep ws kept b) s).2 ∧ ∀ w ∈ s.2, w ∈ (us.foldl (dueStep ws kept b) s).2
  | [], pre, s, _, hall, hA, hB => ⟨fun w hw' => by
      obtain ⟨h1, h2, h3⟩ := hA w hw'
      exact ⟨h1, h3, hB w hw' ((hall w h1 h2).elim id fun e => nomatch e)⟩, fun w h => h⟩
  | u :: us, pre, s, hp, hall, hA, hB => by
    rw [List.foldl_cons]
    have hp2 : ((pre ++ [u]) ++ us).Pairwise (fun a c => c < a) := by rw [List.append_assoc]; exact hp
    have hall2 : ∀ w, 0 ≤ w → w ≤ t → w ∈ pre ++ [u] ∨ w ∈ us := fun w h1 h2 => (hall w h1 h2).elim (fun e => .inl (List.mem_append_left _ e)) fun e => (List.mem_cons.mp e).elim (fun e => .inl (by rw [e]; simp)) .inr
    have hpu : ∀ w ∈ pre, u < w := fun w hw' => (List.pairwise_append.mp hp).2.2 w hw' u (List.mem_cons_self ..)
    by_cases hu : u ∈ s.2
    · have e : dueStep ws kept b s u = (s.1 ++ pickQ ws (kept.filter (countsD ws kept b u)), s.2 ++ (pickQ ws (kept.filter (countsD ws kept b u))).filterMap fun l => l.st.l) := if_pos hu
      have hlt : ∀ l ∈ pickQ ws (kept.filter (countsD ws kept b u)), ∀ y, l.st.l = some y → 0 ≤ y ∧ y < u ∧ certP ws kept 0 y.toNat (some b) = true := fun l hl y hy => by
        obtain ⟨h5, h6⟩ := List.mem_filter.mp (pickQ_sub _ _ l hl)
        obtain ⟨_, k2, _, k4⟩ := countsD_iff.mp h6
        obtain ⟨y0, y1⟩ := (hw l h5).ln y hy
        exact ⟨y0, by omega, k4 y hy⟩
      have hle := (hA u hu).2.1
      obtain ⟨r1, r2⟩ := due_go hw us (pre ++ [u]) (dueStep ws kept b s u) hp2 hall2 (fun w hw' => by
        rw [e] at hw'
        rcases List.mem_append.mp hw' with z | z
        · exact hA w z
        · obtain ⟨l, hl, hy⟩ := List.mem_filterMap.mp z
          obtain ⟨y0, y1, y2⟩ := hlt l hl w hy
          exact ⟨y0, by omega, y2⟩) (fun w hw' hpre l hl => by
        rw [e] at hw' ⊢
        rcases List.mem_append.mp hw' with z | z
        · rcases List.mem_append.mp hpre with q | q
          · obtain ⟨i1, i2⟩ := hB w z q l hl
            exact ⟨List.mem_append_left _ i1, fun y hy => List.mem_append_left _ (i2 y hy)⟩
          · have q := List.mem_singleton.mp q
            subst q
            exact ⟨List.mem_append_right _ hl, fun y hy => List.mem_append_right _ (List.mem_filterMap.mpr ⟨l, hl, hy⟩)⟩
        · obtain ⟨l', hl', hy⟩ := List.mem_filterMap.mp z
          have y1 := (hlt l' hl' w hy).2.1
          rcases List.mem_append.mp hpre with q | q
          · have := hpu w q; omega
          · have q := List.mem_singleton.mp q; omega)
      exact ⟨r1, fun w hw' => r2 w (by rw [e]; exact List.mem_append_left _ hw')⟩
    · have e : dueStep ws kept b s u = s := if_neg hu
      rw [e]
      exact due_go hw us (pre ++ [u]) s hp2 hall2 hA fun w hw' hpre => (List.mem_append.mp hpre).elim (hB w hw') fun q => by
        have q := List.mem_singleton.mp q
        subst q
        exact absurd hw' hu
theorem nodup_of_map {α β : Type} {f : α → β} {xs : List α} (h : (xs.map f).Nodup) : xs.Nodup := (List.pairwise_map.mp h).imp fun e z => e (by rw [z])
theorem due_go2 : ∀ (us : List Int) (s : List Let × List Int), us.Pairwise (fun a c => c < a) → ∃ vs, (us.foldl (dueStep ws kept b) s).1 = s.1 ++ vs ∧ vs.Nodup ∧ ∀ l ∈ vs, l.st.isPv = true ∧ l.st.t ∈ us
  | [], s, _ => ⟨[], by simp, by simp, by simp⟩
  | u :: us, s, hp => by
    rw [List.foldl_cons]
    obtain ⟨h1, h2⟩ := List.pairwise_cons.mp hp
    obtain ⟨vs, e, hn, hm⟩ := due_go2 us (dueStep ws kept b s u) h2
    by_cases hu : u ∈ s.2
    · have e1 : (dueStep ws kept b s u).1 = s.1 ++ pickQ ws (kept.filter (countsD ws kept b u)) := by unfold dueStep; rw [if_pos hu]
      have hc : ∀ l ∈ pickQ ws (kept.filter (countsD ws kept b u)), l.st.isPv = true ∧ l.st.t = u := fun l hl => by
        obtain ⟨k1, k2, _⟩ := countsD_iff.mp (List.mem_filter.mp (pickQ_sub _ _ l hl)).2
        exact ⟨k1, k2⟩
      refine ⟨pickQ ws (kept.filter (countsD ws kept b u)) ++ vs, by rw [e, e1, List.append_assoc], List.nodup_append.mpr ⟨nodup_of_map (pickQ_nodup ws _), hn, fun x hx y hy e => ?_⟩, fun l hl => ?_⟩
      · have := h1 _ (hm y hy).2
        rw [← e, (hc x hx).2] at this
        omega
      · rcases List.mem_append.mp hl with z | z
        · exact ⟨(hc l z).1, by rw [(hc l z).2]; simp⟩
        · exact ⟨(hm l z).1, List.mem_cons_of_mem _ (hm l z).2⟩
    · have e1 : dueStep ws kept b s u = s := if_neg hu
      rw [e1] at e ⊢
      exact ⟨vs, e, hn, fun l hl => ⟨(hm l hl).1, List.mem_cons_of_mem _ (hm l hl).2⟩⟩
theorem backTurns_pair (t : Int) : (backTurns t).Pairwise (fun a c => c < a) := by
  unfold backTurns
  refine List.pairwise_map.mpr (List.pairwise_lt_range.imp fun h => by omega)
theorem mem_backTurns {t w : Int} (h0 : 0 ≤ w) (h1 : w ≤ t) : w ∈ backTurns t := List.mem_map.mpr ⟨(t - w).toNat, List.mem_range.mpr (by omega), by omega⟩
/-- point 20: the paper -/
structure PaperOk (ws : List Int) (kept : List Let) (b : Str) (t : Nat) (P init : List Let) (l : Let) (vs : List Let) : Prop where
  eq : P = init ++ l :: vs
  com : ∀ x ∈ init ++ [l], x.st = .com 0 t (some b)
  pv : ∀ x ∈ vs, x.st.isPv = true
  sub : ∀ x ∈ P, x ∈ kept
  nd : P.Nodup
  yes : commP ws P 0 t (some b) = true
  no : commP ws (init ++ vs) 0 t (some b) = false
theorem signers_app (l1 l2 : List Let) (h t : Int) (b : Option Str) : signersP (l1 ++ l2) h t b = signersP l1 h t b ++ signersP l2 h t b := by simp [signersP]
theorem signers_com {ls : List Let} {h t : Int} {b : Option Str} (hc : ∀ x ∈ ls, x.st = .com h t b) : signersP ls h t b = ls.map Let.who := by
  unfold signersP
  rw [List.filter_eq_self.mpr fun x hx => decide_eq_true (hc x hx)]
theorem signers_pv {ls : List Let} {h t : Int} {b : Option Str} (hc : ∀ x ∈ ls, x.st.isPv = true) : signersP ls h t b = [] := by
  unfold signersP
  rw [List.filter_eq_nil_iff.mpr fun x hx e => by
    have e := of_decide_eq_true e
    have := hc x hx
    rw [e] at this
    cases this]
  rfl
theorem paper_ok (hv : validW ws) (hw : ∀ l ∈ kept, WfL z l) {t : Nat} (hc : commP ws kept 0 t (some b) = true) : ∃ init l vs, PaperOk ws kept b t (dueP ws kept b t) init l vs := by
  obtain ⟨h1, h2⟩ := (Bool.and_eq_true _ _).mp hc
  have hq := pickQ_quorum (ls := kept.filter fun l => decide (l.st = .com 0 t (some b))) hv h1
  have hcom : ∀ x ∈ pickQ ws (kept.filter fun l => decide (l.st = .com 0 t (some b))), x.st = .com 0 t (some b) := fun x hx => of_decide_eq_true (List.mem_filter.mp (pickQ_sub _ _ x hx)).2
  have hnd := pickQ_nodup ws (kept.filter fun l => decide (l.st = .com 0 t (some b)))
  have hsub := dueP_sub ws kept b t
  have hlast := pickQ_last ws (kept.filter fun l => decide (l.st = .com 0 t (some b)))
  have go1 := due_go (ws := ws) (b := b) hw (t := t) (backTurns t) [] (pickQ ws (kept.filter fun l => decide (l.st = .com 0 t (some b))), [(t : Int)]) (by rw [List.nil_append]; exact backTurns_pair t) (fun w h0 h1 => .inr (mem_backTurns h0 h1))
    (fun w hw' => by rw [List.mem_singleton.mp hw']; exact ⟨by omega, by omega, by simpa using h2⟩) (fun w _ e => nomatch e)
  have go2 := due_go2 (ws := ws) (kept := kept) (b := b) (backTurns t) (pickQ ws (kept.filter fun l => decide (l.st = .com 0 t (some b))), [(t : Int)]) (backTurns_pair t)
  have eP : dueP ws kept b t = ((backTurns t).foldl (dueStep ws kept b) (pickQ ws (kept.filter fun l => decide (l.st = .com 0 t (some b))), [(t : Int)])).1 := rfl
  rw [eP] at hsub ⊢
  have hcert := cert_closed hv hw go1.1 t t (go1.2 t (by simp)) (by simp)
  generalize ((backTurns t).foldl (dueStep ws kept b) (pickQ ws (kept.filter fun l => decide (l.st = .com 0 t (some b))), [(t : Int)])).1 = P at hsub go2 hcert ⊢
  generalize pickQ ws (kept.filter fun l => decide (l.st = .com 0 t (some b))) = cs at hq hcom hnd hlast go2 ⊢
  obtain ⟨vs, e, hvn, hvm⟩ := go2
  have e : P = cs ++ vs := e
  rcases hlast with rfl | ⟨init, l, rfl, hno⟩
  · rw [List.map_nil, quorum_nil hv] at hq
    cases hq
  have e2 : P = init ++ l :: vs := by rw [e, List.append_assoc]; rfl
  have hpv : ∀ x ∈ vs, x.st.isPv = true := fun x hx => (hvm x hx).1
  refine ⟨init, l, vs, e2, hcom, hpv, hsub, ?_, ?_, ?_⟩
  · rw [e]
    refine List.nodup_append.mpr ⟨nodup_of_map hnd, hvn, fun x hx y hy ez => ?_⟩
    have h3 := hcom x hx
    have h4 := hpv y hy
    rw [← ez, h3] at h4
    cases h4
  · refine (Bool.and_eq_true _ _).mpr ⟨?_, by simpa using hcert⟩
    rw [e, signers_app, signers_com hcom, signers_pv hpv, List.append_nil]
    exact hq
  · unfold commP
    rw [signers_app, signers_com fun x hx => hcom x (List.mem_append_left _ hx), signers_pv hpv, List.append_nil, hno]
    rfl
end
theorem shown_turns {ws : List Int} {ls : List Let} {b : Str} {z : Int} (hv : validW ws) (hw : ∀ l ∈ ls, WfL z l) : shownP ws 0 b ls = (comTurns ws ls b).head?.map fun t : Nat => (t : Int) := by
  have h0 : ∀ l ∈ ls, 0 ≤ l.st.t := fun l hl => (hw l hl).t0
  cases e : shownP ws 0 b ls with
  | none =>
    have := (shown_none hv h0).mp e
    have e2 : comTurns ws ls b = [] := List.filter_eq_nil_iff.mpr fun t _ => by rw [this t]; decide
    rw [e2]
    rfl
  | some t =>
    obtain ⟨h1, h2, h3⟩ := shown_some hv h0 e
    obtain ⟨l, hl, e1, _⟩ := cert_turn hv ((Bool.and_eq_true _ _).mp h2).2
    have h4 := (hw l hl).t4
    have hm : t.toNat ∈ comTurns ws ls b := List.mem_filter.mpr ⟨List.mem_range.mpr (by omega), h2⟩
    have hp : (comTurns ws ls b).Pairwise (· < ·) := List.Pairwise.filter _ List.pairwise_lt_range
    have hc : ∀ u ∈ comTurns ws ls b, t ≤ u := fun u hu => h3 u (List.mem_filter.mp hu).2
    generalize comTurns ws ls b = us at hm hp hc
    cases us with
    | nil => cases hm
    | cons y ys =>
      have := hc y (by simp)
      rcases List.mem_cons.mp hm with q | q
      · simp only [List.head?_cons, Option.map_some]
        congr 1
        omega
      · have := (List.pairwise_cons.mp hp).1 _ q
        omega
end Toy

/-! letters as lines of text -/
namespace Toy
open PySem L2 DL
/-- what is written for a part: - for none -/
def partS : D → Str
  | .int i => toString i
  | .str s => s
  | _ => "-"
def partOk : D → Prop
  | .int i => i.natAbs.log2 < 1920
  | .str _ => True
  | .non => True
  | _ => False
theorem log_small {i : Int} (h0 : -2000000000 ≤ i) (h1 : i ≤ 2000000000) : i.natAbs.log2 < 1920 := by
  have h2 : i.natAbs < 2 ^ 1920 := Nat.lt_of_lt_of_le (show i.natAbs < 2 ^ 31 by omega) (Nat.pow_le_pow_right (by decide) (by decide))
  by_cases e : i.natAbs = 0
  · rw [e]; decide
  · exact (Nat.log2_lt e).mpr h2
/-- the numbers of a letter are small -/
structure SmallL (who : Int) (s : Stm) (len : Nat) : Prop where
  w0 : 0 ≤ who
  w1 : who < 1000000000
  h0 : 0 ≤ s.h
  h1 : s.h < 1000000000
  t0 : 0 ≤ s.t
  t1 : s.t < 1000000000
  l : ∀ y, s.l = some y → 0 ≤ y ∧ y < 1000000000
  b : ∀ x, s.b = some x → x.length ≤ len
def Stm.parts : Stm → List D
  | .pro h t b => [.str "proposal", .int h, .int t, obD b]
  | .vote h t b l => [.str "prevote", .int h, .int t, obD b, oiD l]
  | .com h t b => [.str "precommit", .int h, .int t, obD b]
theorem Stm.d_parts (s : Stm) : s.d = .tup s.parts := by cases s <;> rfl
/-- the words of a letter -/
def wordsP (who : Int) (s : Stm) : List Str := toString who :: s.parts.map partS
def lineP (who : Int) (s : Stm) : Str := Txt.join " " (wordsP who s)
theorem strOk_of {x : Str} (h : ∀ c ∈ x.cps.toList, c < 0x110000) : PyData.strOk x = true := by
  unfold PyData.strOk
  rw [← Array.all_toList]
  exact List.all_eq_true.mpr fun c hc => decide_eq_true (h c hc)
theorem of_strOk {x : Str} (h : PyData.strOk x = true) : ∀ c ∈ x.cps.toList, c < 0x110000 := fun c hc => by
  unfold PyData.strOk at h
  rw [← Array.all_toList] at h
  exact of_decide_eq_true (List.all_eq_true.mp h c hc)
theorem strOk_num (i : Int) : PyData.strOk (toString i) = true := strOk_of fun c hc => by
  by_cases h : c < 0x110000
  · exact h
  · exact absurd hc (PyProof.Rows.int_text_free' c ⟨by omega, .inr (by omega)⟩ i)
theorem strOk_app {x y : Str} (hx : PyData.strOk x = true) (hy : PyData.strOk y = true) : PyData.strOk (x ++ y) = true := strOk_of fun c hc => by
  rw [PySem.Str.cps_append, Array.toList_append, List.mem_append] at hc
  exact hc.elim (of_strOk hx c) (of_strOk hy c)
theorem strOk_joined {sep : Str} (hs : PyData.strOk sep = true) : ∀ l : List Str, (∀ a ∈ l, PyData.strOk a = true) → PyData.strOk (PySem.Str.join sep l) = true
  | [], _ => strOk_of fun c hc => by simp [PySem.Str.join, PySem.Str.empty] at hc
  | [x], h => h x (by simp)
  | x :: y :: r, h => by
    show PyData.strOk (x ++ sep ++ PySem.Str.join sep (y :: r)) = true
    exact strOk_app (strOk_app (h x (by simp)) hs) (strOk_joined hs (y :: r) fun a ha => h a (List.mem_cons_of_mem _ ha))
theorem strOk_join {sep : Str} (hs : PyData.strOk sep = true) {l : List Str} (h : ∀ a ∈ l, PyData.strOk a = true) : PyData.strOk (Txt.join sep l) = true := by
  show PyData.strOk (PySem.Builtin.Str.glued sep l) = true
  rw [StrLaws.glued_eq_join]
  exact strOk_joined hs l h
theorem lineP_ok {who : Int} {s : Stm} (h : okB s.b) : PyData.strOk (lineP who s) = true := by
  have hd : PyData.strOk "-" = true := by decide +kernel
  have ho : PyData.strOk (partS (obD s.b)) = true := by
    cases e : s.b with
    | none => exact hd
    | some x => exact h x e
  have hi : ∀ l, PyData.strOk (partS (oiD l)) = true := fun l => by
    cases l with
    | none => exact hd
    | some y => exact strOk_num y
  refine strOk_join (by decide +kernel) fun w hw => ?_
  cases s with
  | pro h' t' b' =>
    simp only [wordsP, Stm.parts, List.map_cons, List.map_nil, List.mem_cons, List.not_mem_nil, or_false] at hw
    rcases hw with rfl | rfl | rfl | rfl | rfl
    · exact strOk_num _
    · exact kP_ok
    · exact strOk_num _
    · exact strOk_num _
    · exact ho
  | vote h' t' b' l' =>
    simp only [wordsP, Stm.parts, List.map_cons, List.map_nil, List.mem_cons, List.not_mem_nil, or_false] at hw
    rcases hw with rfl | rfl | rfl | rfl | rfl | rfl
    · exact strOk_num _
    · exact kV_ok
    · exact strOk_num _
    · exact strOk_num _
    · exact ho
    · exact hi _
  | com h' t' b' =>
    simp only [wordsP, Stm.parts, List.map_cons, List.map_nil, List.mem_cons, List.not_mem_nil, or_false] at hw
    rcases hw with rfl | rfl | rfl | rfl | rfl
    · exact strOk_num _
    · exact kC_ok
    · exact strOk_num _
    · exact strOk_num _
    · exact ho
theorem wordsP_len {who : Int} {s : Stm} {n : Nat} (h : SmallL who s n) : (∀ w ∈ wordsP who s, w.length ≤ n + 9) ∧ (wordsP who s).length ≤ 6 ∧ ∀ d ∈ s.parts, partOk d := by
  have di : ∀ i : Int, 0 ≤ i → i < 1000000000 → (toString i : Str).length ≤ n + 9 := fun i h0 h1 => Nat.le_trans (PyProof.Rows.toString_length_le (k := 9) h0 (by decide) (by simpa using h1)) (by omega)
  have ok : ∀ i : Int, 0 ≤ i → i < 1000000000 → partOk (.int i) := fun i h0 h1 => log_small (by omega) (by omega)
  have ob : ∀ b : Option Str, (∀ x, b = some x → x.length ≤ n) → (partS (obD b)).length ≤ n + 9 ∧ partOk (obD b) := fun b hb => by
    cases b with
    | none => exact ⟨by show (1 : Nat) ≤ _; omega, trivial⟩
    | some x => exact ⟨by have := hb x rfl; show x.length ≤ _; omega, trivial⟩
  have oi : ∀ l : Option Int, (∀ y, l = some y → 0 ≤ y ∧ y < 1000000000) → (partS (oiD l)).length ≤ n + 9 ∧ partOk (oiD l) := fun l hl => by
    cases l with
    | none => exact ⟨by show (1 : Nat) ≤ _; omega, trivial⟩
    | some y => exact ⟨di y (hl y rfl).1 (hl y rfl).2, ok y (hl y rfl).1 (hl y rfl).2⟩
  have k8 : ∀ x : Str, x.length ≤ 9 → x.length ≤ n + 9 := fun x hx => by omega
  obtain ⟨w0, w1, h0, h1, t0, t1, hl, hb⟩ := h
  have a1 := di _ w0 w1
  have a2 := di _ h0 h1
  have a3 := di _ t0 t1
  have b2 := ok _ h0 h1
  have b3 := ok _ t0 t1
  have a4 := ob _ hb
  have kP : (partS (.str "proposal")).length ≤ n + 9 := k8 _ (by decide +kernel)
  have kV : (partS (.str "prevote")).length ≤ n + 9 := k8 _ (by decide +kernel)
  have kC : (partS (.str "precommit")).length ≤ n + 9 := k8 _ (by decide +kernel)
  cases s with
  | pro h' t' b' =>
    refine ⟨fun w hw => ?_, by simp [wordsP, Stm.parts], fun d hd => ?_⟩
    · simp only [wordsP, Stm.parts, List.map_cons, List.map_nil, List.mem_cons, List.not_mem_nil, or_false] at hw
      rcases hw with rfl | rfl | rfl | rfl | rfl
      · exact a1
      · exact kP
      · exact a2
      · exact a3
      · exact a4.1
    · simp only [Stm.parts, List.mem_cons, List.not_mem_nil, or_false] at hd
      rcases hd with rfl | rfl | rfl | rfl
      · trivial
      · exact b2
      · exact b3
      · exact a4.2
  | vote h' t' b' l' =>
    have a5 := oi _ hl
    refine ⟨fun w hw => ?_, by simp [wordsP, Stm.parts], fun d hd => ?_⟩
    · simp only [wordsP, Stm.parts, List.map_cons, List.map_nil, List.mem_cons, List.not_mem_nil, or_false] at hw
      rcases hw with rfl | rfl | rfl | rfl | rfl | rfl
      · exact a1
      · exact kV
      · exact a2
      · exact a3
      · exact a4.1
      · exact a5.1
    · simp only [Stm.parts, List.mem_cons, List.not_mem_nil, or_false] at hd
      rcases hd with rfl | rfl | rfl | rfl | rfl
      · trivial
      · exact b2
      · exact b3
      · exact a4.2
      · exact a5.2
  | com h' t' b' =>
    refine ⟨fun w hw => ?_, by simp [wordsP, Stm.parts], fun d hd => ?_⟩
    · simp only [wordsP, Stm.parts, List.map_cons, List.map_nil, List.mem_cons, List.not_mem_nil, or_false] at hw
      rcases hw with rfl | rfl | rfl | rfl | rfl
      · exact a1
      · exact kC
      · exact a2
      · exact a3
      · exact a4.1
    · simp only [Stm.parts, List.mem_cons, List.not_mem_nil, or_false] at hd
      rcases hd with rfl | rfl | rfl | rfl
      · trivial
      · exact b2
      · exact b3
      · exact a4.2
theorem sum_len {ws : List Str} {n : Nat} (h : ∀ w ∈ ws, w.length ≤ n) : (ws.map Str.length).sum ≤ ws.length * n := by
  induction ws with
  | nil => simp
  | cons w ws ih =>
    have h1 := h w (by simp)
    have h2 := ih fun x hx => h x (List.mem_cons_of_mem _ hx)
    simp only [List.map_cons, List.sum_cons, List.length_cons, Nat.succ_mul]
    omega
end Toy

/-! words of a line: numbers, names -/
namespace Toy
open PySem L2 DL
def isDig (c : Nat) : Bool := decide (48 ≤ c ∧ c ≤ 57)
def isLow (c : Nat) : Bool := decide (97 ≤ c ∧ c ≤ 122)
/-- a word that writes a number -/
def isNum (w : Str) : Bool := match w.cps.toList with
  | [] => false
  | c :: cs => decide (cs.length ≤ 8) && (c :: cs).all isDig && (decide (c ≠ 48) || decide (cs = []))
/-- a word that is a name -/
def isName (w : Str) : Bool := match w.cps.toList with
  | [] => false
  | c :: cs => decide (cs.length ≤ 59) && isLow c && (c :: cs).all fun c => isLow c || isDig c
def numV (w : Str) : Int := ((NumText.digitsVal w.cps.toList : Nat) : Int)
def numP (w : Str) : Option Int := if isNum w = true then some (numV w) else none
theorem str_len (w : Str) : w.length = w.cps.toList.length := by
  rw [Array.length_toList]
  rfl
theorem str_ext {a b : Str} (h : a.cps.toList = b.cps.toList) : a = b := PySem.Str.ext' (Array.toList_inj.mp h)
theorem str_nil {w : Str} (h : w.cps.toList = []) : w = Str.ofString "" := str_ext (by rw [h]; rfl)
theorem isNum_int {w : Str} (h : isNum w = true) : PySem.intText? w = some (numV w) ∧ w.length ≤ 9 := by
  unfold isNum at h
  have hl := str_len w
  split at h
  · cases h
  · rename_i c cs e
    simp only [Bool.and_eq_true, decide_eq_true_eq] at h
    rw [e, List.length_cons] at hl
    have hd : NumText.AllDigits w.cps.toList := fun x hx => by
      rw [e] at hx
      have := List.all_eq_true.mp h.1.2 x hx
      exact of_decide_eq_true this
    exact ⟨PySem.intText_digits hd (by rw [e]; simp) (by omega), by omega⟩
theorem ascii_iff (w : Str) : Txt.isascii w = w.cps.toList.all fun c => decide (c < 128) := by
  unfold Txt.isascii
  rw [← Array.all_toList]
theorem digit_iff {w : Str} (h : Txt.isascii w = true) : Txt.isdigit w = (decide (0 < w.cps.toList.length) && w.cps.toList.all isDig) := by
  rw [ascii_iff] at h
  unfold Txt.isdigit
  rw [← Array.all_toList, str_len]
  congr 1
  have ha := List.all_eq_true.mp h
  have k : ∀ c, c < 128 → PySem.Unicode.isDigit c = isDig c := by decide +kernel
  rw [Bool.eq_iff_iff, List.all_eq_true, List.all_eq_true]
  constructor
  · intro hx c hc
    rw [← k c (of_decide_eq_true (ha c hc))]
    exact hx c hc
  · intro hx c hc
    rw [k c (of_decide_eq_true (ha c hc))]
    exact hx c hc
theorem dig_lt {c : Nat} (h : isDig c = true) : c < 128 := by
  have := of_decide_eq_true h
  omega
theorem num_ascii {w : Str} (h : isNum w = true) : Txt.isascii w = true := by
  unfold isNum at h
  rw [ascii_iff]
  split at h
  · cases h
  · rename_i c cs e
    rw [e]
    simp only [Bool.and_eq_true] at h
    exact List.all_eq_true.mpr fun x hx => decide_eq_true (dig_lt (List.all_eq_true.mp h.1.2 x hx))
theorem lower_one {c : Nat} (h : c < 128) : Txt.islower ⟨#[c]⟩ = isLow c := by
  have k : ∀ n : _root_.Fin 128, Txt.islower ⟨#[n.val]⟩ = isLow n.val := by decide +kernel
  exact k ⟨c, h⟩
theorem str_one {c : Nat} {w : Str} {cs : List Nat} (hc : w.cps.toList = c :: cs) {d : Nat} {z : Str} (hz : z.cps.toList = [d]) : w = z ↔ c = d ∧ cs = [] := by
  constructor
  · intro h
    rw [h, hz] at hc
    cases hc
    exact ⟨rfl, rfl⟩
  · rintro ⟨rfl, rfl⟩
    exact str_ext (hc.trans hz.symm)
theorem one_eq {c d : Nat} {z : Str} (hz : z.cps.toList = [d]) : (⟨#[c]⟩ : Str) = z ↔ c = d := by
  rw [str_one (w := ⟨#[c]⟩) (c := c) (cs := []) rfl hz]
  simp
theorem zero_l : (Str.ofString "0").cps.toList = [48] := by decide +kernel
theorem digs_l : (Str.ofString "0123456789").cps.toList = [48, 49, 50, 51, 52, 53, 54, 55, 56, 57] := by decide +kernel
theorem mem_digs {c : Nat} : c ∈ (Str.ofString "0123456789").cps.toList ↔ isDig c = true := by
  rw [digs_l]
  unfold isDig
  simp only [List.mem_cons, List.not_mem_nil, or_false, decide_eq_true_eq]
  omega
theorem mem_digs' {c : Nat} : c ∈ (Str.ofString "0123456789").cps ↔ isDig c = true := by
  rw [← mem_digs, Array.mem_toList_iff]
theorem isNum_cons {w : Str} {c : Nat} {cs : List Nat} (hc : w.cps.toList = c :: cs) : isNum w = (decide (cs.length ≤ 8) && (c :: cs).all isDig && (decide (c ≠ 48) || decide (cs = []))) := by
  unfold isNum
  rw [hc]
theorem num_digit {w : Str} (h : isNum w = true) : Txt.isdigit w = true := by
  rw [digit_iff (num_ascii h)]
  unfold isNum at h
  split at h
  · cases h
  · rename_i c cs e
    rw [e]
    simp only [Bool.and_eq_true] at h ⊢
    exact ⟨decide_eq_true (by simp), h.1.2⟩
theorem num_zero {w : Str} {c : Nat} {cs : List Nat} (hc : w.cps.toList = c :: cs) (h : isNum w = true) (h0 : (⟨#[c]⟩ : Str) = Str.ofString "0") : w = Str.ofString "0" := by
  rw [one_eq zero_l] at h0
  rw [isNum_cons hc] at h
  simp only [Bool.and_eq_true, Bool.or_eq_true, decide_eq_true_eq] at h
  exact (str_one hc zero_l).mpr ⟨h0, h.2.resolve_left fun k => k h0⟩
theorem isNum_of {w : Str} {c : Nat} {cs : List Nat} (hc : w.cps.toList = c :: cs) (h1 : w.length ≤ 9) (h2 : Txt.isascii w = true) (h3 : Txt.isdigit w = true) (h4 : (⟨#[c]⟩ : Str) = Str.ofString "0" → w = Str.ofString "0") : isNum w = true := by
  rw [digit_iff h2, hc] at h3
  rw [str_len, hc, List.length_cons] at h1
  rw [one_eq zero_l, str_one hc zero_l] at h4
  rw [isNum_cons hc]
  simp only [Bool.and_eq_true, Bool.or_eq_true, decide_eq_true_eq] at h3 ⊢
  refine ⟨⟨by omega, h3.2⟩, ?_⟩
  by_cases e : c = 48
  · exact .inr (h4 e).2
  · exact .inl e
theorem isNum_of' {w : Str} {c : Nat} {cs : List Nat} (hc : w.cps.toList = c :: cs) (h1 : w.length ≤ 9) (h3 : ∀ x ∈ w.cps.toList, isDig x = true) (h4 : (⟨#[c]⟩ : Str) = Str.ofString "0" → w = Str.ofString "0") : isNum w = true := by
  have ha : Txt.isascii w = true := by
    rw [ascii_iff]
    exact List.all_eq_true.mpr fun x hx => decide_eq_true (dig_lt (h3 x hx))
  refine isNum_of hc h1 ha ?_ h4
  rw [digit_iff ha, List.all_eq_true.mpr h3, hc]
  rfl
theorem num_all {w : Str} (h : isNum w = true) : ∀ x ∈ w.cps.toList, isDig x = true := by
  unfold isNum at h
  split at h
  · cases h
  · rename_i c cs e
    rw [e]
    simp only [Bool.and_eq_true] at h
    exact List.all_eq_true.mp h.1.2
theorem lets_l : (Str.ofString "abcdefghijklmnopqrstuvwxyz0123456789").cps.toList = [97, 98, 99, 100, 101, 102, 103, 104, 105, 106, 107, 108, 109, 110, 111, 112, 113, 114, 115, 116, 117, 118, 119, 120, 121, 122, 48, 49, 50, 51, 52, 53, 54, 55, 56, 57] := by decide +kernel
theorem lows_l : (Str.ofString "abcdefghijklmnopqrstuvwxyz").cps.toList = [97, 98, 99, 100, 101, 102, 103, 104, 105, 106, 107, 108, 109, 110, 111, 112, 113, 114, 115, 116, 117, 118, 119, 120, 121, 122] := by decide +kernel
theorem mem_lets {c : Nat} : c ∈ (Str.ofString "abcdefghijklmnopqrstuvwxyz0123456789").cps ↔ (isLow c || isDig c) = true := by
  rw [← Array.mem_toList_iff, lets_l, Bool.or_eq_true]
  unfold isDig isLow
  simp only [List.mem_cons, List.not_mem_nil, or_false, decide_eq_true_eq]
  omega
theorem mem_lows {c : Nat} : c ∈ (Str.ofString "abcdefghijklmnopqrstuvwxyz").cps ↔ isLow c = true := by
  rw [← Array.mem_toList_iff, lows_l]
  unfold isLow
  simp only [List.mem_cons, List.not_mem_nil, or_false, decide_eq_true_eq]
  omega
theorem isName_cons {w : Str} {c : Nat} {cs : List Nat} (hc : w.cps.toList = c :: cs) : isName w = (decide (cs.length ≤ 59) && isLow c && w.cps.toList.all fun c => isLow c || isDig c) := by
  unfold isName
  rw [hc]
theorem lets_lt {c : Nat} (h : (isLow c || isDig c) = true) : c < 128 := by
  rw [Bool.or_eq_true] at h
  rcases h with h | h <;> (have := of_decide_eq_true h; omega)
theorem spl_mem {S : List Nat} : ∀ (L : List Nat) (k : Nat) (acc p : List Nat), p ∈ TL.spl S k acc L → p.length ≤ acc.length + L.length ∧ ∀ c ∈ p, c ∈ acc ∨ c ∈ L
  | [], k, acc, p, h => by
    rw [TL.spl_nil] at h
    rw [List.mem_singleton.mp h]
    exact ⟨Nat.le_refl _, fun c hc => .inl hc⟩
  | c :: r, 0, acc, p, h => by
    unfold TL.spl at h
    split at h
    · rcases List.mem_cons.mp h with rfl | h
      · exact ⟨Nat.le_add_right _ _, fun c hc => .inl hc⟩
      · obtain ⟨h1, h2⟩ := spl_mem r _ _ p h
        rw [List.length_nil] at h1
        exact ⟨by rw [List.length_cons]; omega, fun x hx => .inr (List.mem_cons_of_mem _ ((h2 x hx).resolve_left (fun z => nomatch z)))⟩
    · obtain ⟨h1, h2⟩ := spl_mem r _ _ p h
      rw [List.length_append, List.length_singleton] at h1
      refine ⟨by rw [List.length_cons]; omega, fun x hx => ?_⟩
      rcases h2 x hx with h3 | h3
      · rcases List.mem_append.mp h3 with h4 | h4
        · exact .inl h4
        · exact .inr (by rw [List.mem_singleton.mp h4]; simp)
      · exact .inr (List.mem_cons_of_mem _ h3)
  | c :: r, k + 1, acc, p, h => by
    unfold TL.spl at h
    obtain ⟨h1, h2⟩ := spl_mem r _ _ p h
    exact ⟨by rw [List.length_cons]; omega, fun x hx => (h2 x hx).imp_right (List.mem_cons_of_mem _)⟩
theorem spl_ne {S : List Nat} : ∀ (L : List Nat) (k : Nat) (acc : List Nat), TL.spl S k acc L ≠ []
  | [], k, acc => by rw [TL.spl_nil]; simp
  | c :: r, 0, acc => by
    unfold TL.spl
    split
    · simp
    · exact spl_ne r _ _
  | c :: r, k + 1, acc => by
    unfold TL.spl
    exact spl_ne r _ _
/-- the words of a line -/
def wordsL (z : Str) : List Str := Txt.split z " "
theorem blank_l : TL.tl (Str.ofString " ") = [32] := by decide +kernel
theorem blank_k : (Str.ofString " ").cps.all (· < 256) = true := by decide +kernel
theorem words_spl (z : Str) : (wordsL z).map TL.tl = TL.spl [32] 0 [] (TL.tl z) := by
  unfold wordsL
  rw [TL.split_spl z " " (by rw [blank_l]; simp) (TL.kind_ok blank_k), blank_l]
theorem words_mem {z w : Str} (h : w ∈ wordsL z) : w.length ≤ z.length ∧ ∀ c ∈ w.cps.toList, c ∈ z.cps.toList := by
  have hm : TL.tl w ∈ (wordsL z).map TL.tl := List.mem_map.mpr ⟨w, h, rfl⟩
  rw [words_spl] at hm
  obtain ⟨h1, h2⟩ := spl_mem _ _ _ _ hm
  rw [List.length_nil, Nat.zero_add] at h1
  exact ⟨by rw [TL.len_tl, TL.len_tl z]; exact h1, fun c hc => (h2 c hc).resolve_left fun z => nomatch z⟩
theorem words_ne (z : Str) : wordsL z ≠ [] := fun e => by
  have h := words_spl z
  rw [e] at h
  exact spl_ne _ _ _ h.symm
theorem words_len (z : Str) : (wordsL z).length ≤ z.length + 2 := PyProof.Rows.split_le z " "
end Toy

/-! the letter that a line writes -/
namespace Toy
open PySem L2 DL
def atP (ws : List Str) (i : Nat) : Option Int := (ws[i]?).bind numP
theorem atW {ws : List Str} {i : Nat} {w : Str} (h : ws[i]? = some w) : atI (ws.map D.str) (i : Int) = some (.str w) := atI_nat (by rw [List.getElem?_map, h]; rfl)
def blockP (ws : List Str) (i : Nat) (free : Bool) : Option (Option Str) := match ws[i]? with
  | none => none
  | some w => if free = true ∧ w = Str.ofString "-" then some none else if isName w = true then some (some w) else none
def leanP (ws : List Str) (i : Nat) (t : Int) : Option (Option Int) := match ws[i]? with
  | none => none
  | some w => if w = Str.ofString "-" then some none else match numP w with
    | none => none
    | some n => if n < t then some (some n) else none
def kindB (k : Str) : Bool := decide (k = "proposal" ∨ k = "prevote" ∨ k = "precommit")
/-- the letter that the words write, or the index of the first wrong one -/
def readP (ws : List Str) : Except Nat Let := match atP ws 0 with
  | none => .error 0
  | some who => if kindB (ws.getD 1 "") = false then .error 1 else match atP ws 2 with
    | none => .error 2
    | some h => match atP ws 3 with
      | none => .error 3
      | some t => match blockP ws 4 (decide (ws.getD 1 "" ≠ "proposal")) with
        | none => .error 4
        | some b => if ws.getD 1 "" = "prevote" then match leanP ws 5 t with
            | none => .error 5
            | some l => if 6 < ws.length then .error 6 else .ok ⟨who, .vote h t b l⟩
          else if 5 < ws.length then .error 5 else .ok ⟨who, if ws.getD 1 "" = "proposal" then .pro h t b else .com h t b⟩
theorem din_kind (k : Str) : din (.str k) [.str "proposal", .str "prevote", .str "precommit"] = kindB k := by
  rw [Bool.eq_iff_iff, show ([.str "proposal", .str "prevote", .str "precommit"] : List D) = (["proposal", "prevote", "precommit"] : List Str).map D.str from rfl, din_str]
  unfold kindB
  simp
def fitsP (ws : List Str) (i : Nat) : Bool :=
  if i = 0 ∨ i = 2 ∨ i = 3 then isNum (ws.getD i "")
  else if i = 1 then kindB (ws.getD 1 "")
  else if i = 4 then isName (ws.getD 4 "") || (decide (ws.getD 4 "" = "-") && decide (ws.getD 1 "" ≠ "proposal"))
  else if i = 5 ∧ ws.getD 1 "" = "prevote" then decide (ws.getD 5 "" = "-") || (isNum (ws.getD 5 "") && decide (numV (ws.getD 5 "") < numV (ws.getD 3 "")))
  else false
theorem getW {ws : List Str} {i : Nat} (h : i < ws.length) : ws[i]? = some (ws.getD i "") := by rw [List.getD_eq_getElem?_getD, List.getElem?_eq_getElem h]; rfl
/-- the index of the first word that is wrong, by the law's own reader -/
def wrongP (ws : List Str) : Option Nat := match (List.range ws.length).find? fun i => !fitsP ws i with
  | some i => some i
  | none => if ws.length < (if ws.getD 1 "" = "prevote" then 6 else 5) then some ws.length else none
theorem wrongP_at {ws : List Str} {i : Nat} (hi : i < ws.length) (h : ∀ j, j < i → fitsP ws j = true) (hf : fitsP ws i = false) : wrongP ws = some i := by
  unfold wrongP
  have e : (List.range ws.length).find? (fun i => !fitsP ws i) = some i := by
    rw [List.find?_range_eq_some]
    exact ⟨by rw [hf]; rfl, by simpa using hi, fun j hj => by rw [h j hj]; rfl⟩
  rw [e]
theorem wrongP_end {ws : List Str} (h : ∀ j, j < ws.length → fitsP ws j = true) : wrongP ws = if ws.length < (if ws.getD 1 "" = "prevote" then 6 else 5) then some ws.length else none := by
  unfold wrongP
  have e : (List.range ws.length).find? (fun i => !fitsP ws i) = none := by
    rw [List.find?_eq_none]
    intro j hj
    rw [h j (List.mem_range.mp hj)]
    decide
  rw [e]
theorem cut12 (ws : List Str) : cutD (ws.map D.str) (some 1) (some 2) = ((ws.drop 1).take 1).map D.str := by
  have e1 : HT.sIx (ws.map D.str).length 0 (some ((1 : Nat) : Int)) = min 1 ws.length := by rw [HT.sIx_nat, List.length_map]
  have e2 : HT.sIx (ws.map D.str).length (ws.map D.str).length (some ((2 : Nat) : Int)) = min 2 ws.length := by rw [HT.sIx_nat, List.length_map]
  have e1' : HT.sIx (ws.map D.str).length 0 (some 1) = min 1 ws.length := e1
  have e2' : HT.sIx (ws.map D.str).length (ws.map D.str).length (some 2) = min 2 ws.length := e2
  unfold cutD
  rw [e1', e2', ← List.map_drop, ← List.map_take]
  congr 1
  cases ws with
  | nil => rfl
  | cons a ws =>
    cases ws with
    | nil => rfl
    | cons b ws =>
      rw [show min 1 (a :: b :: ws).length = 1 by simp, show min 2 (a :: b :: ws).length = 2 by simp]
theorem nobs_strs : ∀ xs : List Str, D.nobs (xs.map D.str) = true
  | [] => rfl
  | x :: xs => by simp [D.nobs, D.nob, nobs_strs xs]
theorem strs_inj : ∀ {xs ys : List Str}, xs.map D.str = ys.map D.str → xs = ys
  | [], [], _ => rfl
  | x :: xs, y :: ys, h => by
    rw [List.map_cons, List.map_cons, List.cons.injEq] at h
    obtain ⟨h1, h2⟩ := h
    cases h1
    rw [strs_inj h2]
theorem deq_strs (xs ys : List Str) : deq (D.lst (xs.map D.str)) (D.lst (ys.map D.str)) = decide (xs = ys) := by
  rw [Bool.eq_iff_iff, deq_iff _ _ (by simp [D.nob, nobs_strs]) (by simp [D.nob, nobs_strs]), decide_eq_true_iff]
  exact ⟨fun h => strs_inj (D.lst.inj h), fun h => by rw [h]⟩
theorem fit_strL {xs : List Str} (h : ∀ x ∈ xs, PyData.strOk x = true) : (D.lst (xs.map D.str)).fit = true := fit_of 1 (by decide) _ fun d hd => by
  obtain ⟨l, hl, rfl⟩ := List.mem_map.mp hd
  exact ⟨h l hl, by simp [D.dep]⟩
theorem cut12_eq (ws : List Str) : (ws.drop 1).take 1 = (["prevote"] : List Str) ↔ ws.getD 1 "" = "prevote" := by
  cases ws with
  | nil => exact ⟨fun h => (nomatch h), fun h => absurd h (by decide +kernel)⟩
  | cons a ws =>
    cases ws with
    | nil => exact ⟨fun h => (nomatch h), fun h => absurd h (by show ¬("" : Str) = "prevote"; decide +kernel)⟩
    | cons b ws =>
      constructor
      · intro h
        have : b = "prevote" := (List.cons.inj h).1
        exact this
      · intro h
        have : b = "prevote" := h
        rw [this]
        rfl
/-- the words as the law's own reader tells them -/
def partD (i : Nat) (w : Str) : D := if w = "-" then .non else if i = 1 ∨ i = 4 then .str w else .int (numV w)
def valueP (ws : List Str) : D := .tup [.int (numV (ws.getD 0 "")), .tup ((List.range (ws.length - 1)).map fun k => partD (k + 1) (ws.getD (k + 1) ""))]
end Toy

/-! the reader and the law's own reader agree -/
namespace Toy
open PySem L2 DL
def need (ws : List Str) : Nat := if ws.getD 1 "" = "prevote" then 6 else 5
theorem wrong_stop {ws : List Str} {i : Nat} (hi : i ≤ ws.length) (h : ∀ j, j < i → fitsP ws j = true) (hs : i < ws.length → fitsP ws i = false) (hn : i < need ws) : wrongP ws = some i := by
  by_cases e : i < ws.length
  · exact wrongP_at e h (hs e)
  · have e : i = ws.length := by omega
    subst e
    rw [wrongP_end h]
    exact if_pos hn
theorem need_ge (ws : List Str) : 5 ≤ need ws := by
  unfold need
  split <;> omega
theorem numP_some {w : Str} {n : Int} (h : numP w = some n) : isNum w = true ∧ n = numV w := by
  unfold numP at h
  split at h
  · rename_i hn
    cases h
    exact ⟨hn, rfl⟩
  · cases h
theorem numP_none {w : Str} (h : numP w = none) : isNum w = false := by
  unfold numP at h
  split at h
  · cases h
  · rename_i hn
    simpa using hn
theorem atP_some {ws : List Str} {i : Nat} {n : Int} (h : atP ws i = some n) : i < ws.length ∧ isNum (ws.getD i "") = true ∧ n = numV (ws.getD i "") := by
  unfold atP at h
  cases e : ws[i]? with
  | none => rw [e] at h; cases h
  | some w =>
    rw [e] at h
    have hw : ws.getD i "" = w := by rw [List.getD_eq_getElem?_getD, e]; rfl
    obtain ⟨h1, h2⟩ := numP_some h
    rw [hw]
    exact ⟨(List.getElem?_eq_some_iff.mp e).1, h1, h2⟩
theorem atP_none {ws : List Str} {i : Nat} (h : atP ws i = none) (hi : i < ws.length) : isNum (ws.getD i "") = false := by
  unfold atP at h
  rw [getW hi] at h
  exact numP_none h
theorem fits_num {ws : List Str} {i : Nat} (h : i = 0 ∨ i = 2 ∨ i = 3) : fitsP ws i = isNum (ws.getD i "") := by
  unfold fitsP
  rw [if_pos h]
theorem fits_big {ws : List Str} {i : Nat} (h : 5 < i) : fitsP ws i = false := by
  unfold fitsP
  rw [if_neg (by omega), if_neg (by omega), if_neg (by omega), if_neg (by omega)]
theorem fits_four (ws : List Str) : fitsP ws 4 = (isName (ws.getD 4 "") || (decide (ws.getD 4 "" = "-") && decide (ws.getD 1 "" ≠ "proposal"))) := rfl
theorem fits_five {ws : List Str} (h : ws.getD 1 "" = "prevote") : fitsP ws 5 = (decide (ws.getD 5 "" = "-") || (isNum (ws.getD 5 "") && decide (numV (ws.getD 5 "") < numV (ws.getD 3 "")))) := by
  unfold fitsP
  rw [if_neg (by omega), if_neg (by omega), if_neg (by omega), if_pos ⟨rfl, h⟩]
theorem fits_five' {ws : List Str} (h : ws.getD 1 "" ≠ "prevote") : fitsP ws 5 = false := by
  unfold fitsP
  rw [if_neg (by omega), if_neg (by omega), if_neg (by omega), if_neg fun z => h z.2]
theorem name_minus : isName (Str.ofString "-") = false := by decide +kernel
theorem num_minus : isNum (Str.ofString "-") = false := by decide +kernel
theorem block_none {ws : List Str} (h : blockP ws 4 (decide (ws.getD 1 "" ≠ "proposal")) = none) (hi : 4 < ws.length) : fitsP ws 4 = false := by
  unfold blockP at h
  rw [getW hi] at h
  dsimp only at h
  rw [fits_four]
  split at h
  · cases h
  · rename_i h1
    split at h
    · cases h
    · rename_i h2
      rw [Bool.or_eq_false_iff]
      refine ⟨by simpa using h2, ?_⟩
      rw [Bool.and_eq_false_iff]
      by_cases k : ws.getD 4 "" = "-"
      · right
        exact decide_eq_false fun z => h1 ⟨decide_eq_true z, k⟩
      · left
        exact decide_eq_false k
theorem block_some {ws : List Str} {b : Option Str} (h : blockP ws 4 (decide (ws.getD 1 "" ≠ "proposal")) = some b) : 4 < ws.length ∧ fitsP ws 4 = true ∧ partD 4 (ws.getD 4 "") = obD b := by
  unfold blockP at h
  cases e : ws[4]? with
  | none => rw [e] at h; cases h
  | some w =>
    have hw : ws.getD 4 "" = w := by rw [List.getD_eq_getElem?_getD, e]; rfl
    rw [e] at h
    dsimp only at h
    refine ⟨(List.getElem?_eq_some_iff.mp e).1, ?_⟩
    rw [fits_four, hw]
    split at h
    · rename_i h1
      cases h
      obtain ⟨h2, h3⟩ := h1
      rw [h3, name_minus, h2]
      exact ⟨rfl, rfl⟩
    · split at h
      · rename_i h1 h2
        cases h
        rw [h2]
        refine ⟨rfl, ?_⟩
        unfold partD
        rw [if_neg (fun z => by rw [z, name_minus] at h2; cases h2), if_pos (Or.inr rfl)]
        rfl
      · cases h
theorem lean_none {ws : List Str} {t : Int} (h : leanP ws 5 t = none) (hi : 5 < ws.length) (ht : t = numV (ws.getD 3 "")) (hp : ws.getD 1 "" = "prevote") : fitsP ws 5 = false := by
  unfold leanP at h
  rw [getW hi] at h
  dsimp only at h
  rw [fits_five hp, Bool.or_eq_false_iff, Bool.and_eq_false_iff]
  split at h
  · cases h
  · rename_i h1
    refine ⟨decide_eq_false h1, ?_⟩
    split at h
    · rename_i h2
      exact .inl (numP_none h2)
    · rename_i n h2
      obtain ⟨_, h3⟩ := numP_some h2
      split at h
      · cases h
      · rename_i h4
        right
        rw [← h3, ← ht]
        exact decide_eq_false h4
theorem lean_some {ws : List Str} {t : Int} {l : Option Int} (h : leanP ws 5 t = some l) (ht : t = numV (ws.getD 3 "")) (hp : ws.getD 1 "" = "prevote") : 5 < ws.length ∧ fitsP ws 5 = true ∧ partD 5 (ws.getD 5 "") = oiD l := by
  unfold leanP at h
  cases e : ws[5]? with
  | none => rw [e] at h; cases h
  | some w =>
    have hw : ws.getD 5 "" = w := by rw [List.getD_eq_getElem?_getD, e]; rfl
    rw [e] at h
    dsimp only at h
    refine ⟨(List.getElem?_eq_some_iff.mp e).1, ?_⟩
    rw [fits_five hp, hw]
    split at h
    · rename_i h1
      cases h
      rw [decide_eq_true h1, h1]
      exact ⟨rfl, rfl⟩
    · rename_i h1
      split at h
      · cases h
      · rename_i n h2
        obtain ⟨h3, h4⟩ := numP_some h2
        split at h
        · rename_i h5
          cases h
          refine ⟨?_, ?_⟩
          · rw [h3, ← h4, ← ht, decide_eq_true h5, Bool.true_and, Bool.or_true]
          · unfold partD
            rw [if_neg h1, if_neg (by omega), h4]
            rfl
        · cases h
theorem kind_part {k : Str} (h : kindB k = true) : partD 1 k = .str k := by
  have h := of_decide_eq_true h
  unfold partD
  rw [if_neg (fun z => by rw [z] at h; revert h; decide +kernel), if_pos (Or.inl rfl)]
theorem num_part {ws : List Str} {i : Nat} (h : isNum (ws.getD i "") = true) (h2 : ¬(i = 1 ∨ i = 4)) : partD i (ws.getD i "") = .int (numV (ws.getD i "")) := by
  unfold partD
  rw [if_neg (fun z => by rw [z, num_minus] at h; cases h), if_neg h2]
theorem read_wrong {ws : List Str} (hne : ws ≠ []) : match readP ws with
    | .ok l => wrongP ws = none ∧ valueP ws = l.d
    | .error i => wrongP ws = some i := by
  have hl : 0 < ws.length := List.length_pos_iff.mpr hne
  have hn := need_ge ws
  unfold readP
  cases h0 : atP ws 0 with
  | none =>
    refine wrong_stop (Nat.zero_le _) (fun j hj => absurd hj (by omega)) (fun h => ?_) (by omega)
    rw [fits_num (.inl rfl)]
    exact atP_none h0 h
  | some who =>
    obtain ⟨_, n0, v0⟩ := atP_some h0
    have f0 : fitsP ws 0 = true := by rw [fits_num (.inl rfl)]; exact n0
    dsimp only
    cases h1 : kindB (ws.getD 1 "") with
    | false =>
      rw [if_pos rfl]
      refine wrong_stop (by omega) (fun j hj => ?_) (fun h => h1) (by omega)
      rw [show j = 0 by omega]
      exact f0
    | true =>
      rw [if_neg (by decide)]
      have l1 : 1 < ws.length := by
        by_cases k : 1 < ws.length
        · exact k
        · rw [List.getD_eq_getElem?_getD, List.getElem?_eq_none (by omega)] at h1
          have hk : kindB ((none : Option Str).getD "") = false := by decide +kernel
          rw [hk] at h1
          cases h1
      have f1 : ∀ j, j < 2 → fitsP ws j = true := fun j hj => by
        have : j = 0 ∨ j = 1 := by omega
        rcases this with rfl | rfl
        · exact f0
        · exact h1
      cases h2 : atP ws 2 with
      | none =>
        refine wrong_stop (by omega) f1 (fun h => ?_) (by omega)
        rw [fits_num (.inr (.inl rfl))]
        exact atP_none h2 h
      | some h =>
        obtain ⟨l2, n2, v2⟩ := atP_some h2
        have f2 : ∀ j, j < 3 → fitsP ws j = true := fun j hj => by
          by_cases k : j = 2
          · rw [k, fits_num (.inr (.inl rfl))]
            exact n2
          · exact f1 j (by omega)
        dsimp only
        cases h3 : atP ws 3 with
        | none =>
          refine wrong_stop (by omega) f2 (fun h => ?_) (by omega)
          rw [fits_num (.inr (.inr rfl))]
          exact atP_none h3 h
        | some t =>
          obtain ⟨l3, n3, v3⟩ := atP_some h3
          have f3 : ∀ j, j < 4 → fitsP ws j = true := fun j hj => by
            by_cases k : j = 3
            · rw [k, fits_num (.inr (.inr rfl))]
              exact n3
            · exact f2 j (by omega)
          dsimp only
          cases h4 : blockP ws 4 (decide (ws.getD 1 "" ≠ "proposal")) with
          | none => exact wrong_stop (by omega) f3 (fun h => block_none h4 h) (by omega)
          | some b =>
            obtain ⟨l4, n4, v4⟩ := block_some h4
            have f4 : ∀ j, j < 5 → fitsP ws j = true := fun j hj => by
              by_cases k : j = 4
              · rw [k]
                exact n4
              · exact f3 j (by omega)
            dsimp only
            have p1 := kind_part h1
            have p2 := num_part n2 (by omega)
            have p3 := num_part n3 (by omega)
            have hkb : ws.getD 1 "" = "proposal" ∨ ws.getD 1 "" = "prevote" ∨ ws.getD 1 "" = "precommit" := of_decide_eq_true h1
            by_cases hp : ws.getD 1 "" = "prevote"
            · rw [if_pos hp]
              have hnd : need ws = 6 := if_pos hp
              cases h5 : leanP ws 5 t with
              | none => exact wrong_stop (by omega) f4 (fun h => lean_none h5 h v3 hp) (by omega)
              | some l =>
                obtain ⟨l5, n5, v5⟩ := lean_some h5 v3 hp
                have f5 : ∀ j, j < 6 → fitsP ws j = true := fun j hj => by
                  by_cases k : j = 5
                  · rw [k]
                    exact n5
                  · exact f4 j (by omega)
                dsimp only
                by_cases h6 : 6 < ws.length
                · rw [if_pos h6]
                  exact wrongP_at h6 f5 (fits_big (by omega))
                · rw [if_neg h6]
                  have hw : ws.length = 6 := by omega
                  refine ⟨?_, ?_⟩
                  · rw [wrongP_end (by rw [hw]; exact f5)]
                    exact if_neg (by show ¬_ < need ws; omega)
                  · unfold valueP
                    rw [hw]
                    show D.tup [_, .tup [partD 1 _, partD 2 _, partD 3 _, partD 4 _, partD 5 _]] = _
                    rw [p1, p2, p3, v4, v5, hp, v0, v2, v3]
                    rfl
            · rw [if_neg hp]
              have hnd : need ws = 5 := if_neg hp
              by_cases h6 : 5 < ws.length
              · rw [if_pos h6]
                exact wrongP_at h6 f4 (fits_five' hp)
              · rw [if_neg h6]
                have hw : ws.length = 5 := by omega
                refine ⟨?_, ?_⟩
                · rw [wrongP_end (by rw [hw]; exact f4)]
                  exact if_neg (by show ¬_ < need ws; omega)
                · unfold valueP
                  rw [hw]
                  show D.tup [_, .tup [partD 1 _, partD 2 _, partD 3 _, partD 4 _]] = _
                  rw [p1, p2, p3, v4, v0, v2, v3]
                  rcases hkb with k | k | k
                  · rw [k]
                    rfl
                  · exact absurd k hp
                  · rw [k]
                    rfl
theorem block_mem {ws : List Str} {i : Nat} {f : Bool} {b : Option Str} (h : blockP ws i f = some b) : ∀ x, b = some x → x ∈ ws ∧ isName x = true := fun x hx => by
  unfold blockP at h
  split at h
  · cases h
  · rename_i w e
    split at h
    · cases h
      cases hx
    · split at h
      · rename_i h2
        cases h
        cases hx
        exact ⟨List.mem_of_getElem? e, h2⟩
      · cases h
theorem read_b {ws : List Str} {l : Let} (h : readP ws = .ok l) : ∀ x, l.st.b = some x → x ∈ ws ∧ isName x = true := by
  unfold readP at h
  split at h
  · cases h
  split at h
  · cases h
  split at h
  · cases h
  split at h
  · cases h
  split at h
  · cases h
  rename_i b hb
  have hm := block_mem hb
  split at h
  · split at h
    · cases h
    split at h
    · cases h
    cases h
    exact hm
  · split at h
    · cases h
    cases h
    split
    · exact hm
    · exact hm
end Toy

/-! what a letter's line is read as -/
namespace Toy
open PySem L2 DL
theorem numL_head : ∀ n : Nat, 0 < n → ∃ c r, TL.numL n = c :: r ∧ c ≠ 48 := by
  intro n
  induction n using Nat.strongRecOn with
  | ind n ih =>
    intro h
    by_cases k : n < 10
    · exact ⟨_, _, TL.numL_lt k, by omega⟩
    · obtain ⟨c, r, e, hc⟩ := ih (n / 10) (by omega) (by omega)
      exact ⟨c, r ++ [48 + n % 10], by rw [TL.numL_step (by omega), e]; rfl, hc⟩
theorem num_of_int {n : Int} (h0 : 0 ≤ n) (h1 : n < 1000000000) : numP (toString n) = some n := by
  obtain ⟨k, rfl⟩ := Int.eq_ofNat_of_zero_le h0
  have e : (toString ((k : Nat) : Int) : Str).cps.toList = TL.numL k := TL.tl_num k
  have hl : (TL.numL k).length ≤ 9 := TL.numL_len (by decide) (by omega)
  have hd := TL.numL_digits k
  have hall : (TL.numL k).all isDig = true := List.all_eq_true.mpr fun c hc => decide_eq_true (hd c hc)
  have hN : isNum (toString ((k : Nat) : Int)) = true := by
    unfold isNum
    rw [e]
    cases hk : TL.numL k with
    | nil => exact absurd hk (TL.numL_ne k)
    | cons c r =>
      rw [hk] at hl hall
      rw [List.length_cons] at hl
      dsimp only
      rw [hall, decide_eq_true (show r.length ≤ 8 by omega), Bool.true_and, Bool.true_and, Bool.or_eq_true, decide_eq_true_iff, decide_eq_true_iff]
      by_cases z : 0 < k
      · obtain ⟨c', r', e', h'⟩ := numL_head k z
        rw [hk] at e'
        cases e'
        exact .inl h'
      · have : k = 0 := by omega
        subst this
        rw [TL.numL_lt (by decide)] at hk
        cases hk
        exact .inr rfl
  unfold numP
  rw [if_pos hN]
  unfold numV
  rw [e, TL.numL_val]
theorem name_free {w : Str} (h : isName w = true) : 32 ∉ w.cps.toList := fun hm => by
  unfold isName at h
  split at h
  · cases h
  · rename_i c cs e
    rw [e] at hm
    simp only [Bool.and_eq_true] at h
    have := List.all_eq_true.mp h.2 32 hm
    revert this
    decide
def kindG : Stm → Prop
  | .pro _ _ b => b ≠ none
  | .vote _ t _ y => ∀ z, y = some z → z < t
  | .com _ _ _ => True
/-- a letter that can be written -/
structure GoodL (l : Let) : Prop where
  small : SmallL l.who l.st 60
  name : ∀ x, l.st.b = some x → isName x = true
  kind : kindG l.st
theorem blank_free {l : Let} (h : GoodL l) : ∀ w ∈ wordsP l.who l.st, 32 ∉ w.cps.toList := by
  have hi : ∀ i : Int, 32 ∉ (toString i : Str).cps.toList := fun i => PyProof.Rows.int_text_free' 32 ⟨by decide, by decide⟩ i
  have hb : ∀ b : Option Str, (∀ x, b = some x → isName x = true) → 32 ∉ (partS (obD b)).cps.toList := fun b hx => by
    cases b with
    | none => show 32 ∉ (Str.ofString "-").cps.toList; decide +kernel
    | some x => exact name_free (hx x rfl)
  have hl : ∀ y : Option Int, 32 ∉ (partS (oiD y)).cps.toList := fun y => by
    cases y with
    | none => show 32 ∉ (Str.ofString "-").cps.toList; decide +kernel
    | some y => exact hi y
  have k1 : 32 ∉ (Str.ofString "proposal").cps.toList := by decide +kernel
  have k2 : 32 ∉ (Str.ofString "prevote").cps.toList := by decide +kernel
  have k3 : 32 ∉ (Str.ofString "precommit").cps.toList := by decide +kernel
  obtain ⟨who, st⟩ := l
  have hn := h.name
  intro w hw
  cases st with
  | pro h' t' b' =>
    simp only [wordsP, Stm.parts, List.map_cons, List.map_nil, List.mem_cons, List.not_mem_nil, or_false] at hw
    rcases hw with rfl | rfl | rfl | rfl | rfl
    · exact hi _
    · exact k1
    · exact hi _
    · exact hi _
    · exact hb _ hn
  | vote h' t' b' l' =>
    simp only [wordsP, Stm.parts, List.map_cons, List.map_nil, List.mem_cons, List.not_mem_nil, or_false] at hw
    rcases hw with rfl | rfl | rfl | rfl | rfl | rfl
    · exact hi _
    · exact k2
    · exact hi _
    · exact hi _
    · exact hb _ hn
    · exact hl _
  | com h' t' b' =>
    simp only [wordsP, Stm.parts, List.map_cons, List.map_nil, List.mem_cons, List.not_mem_nil, or_false] at hw
    rcases hw with rfl | rfl | rfl | rfl | rfl
    · exact hi _
    · exact k3
    · exact hi _
    · exact hi _
    · exact hb _ hn
theorem words_line {l : Let} (h : GoodL l) : wordsL (lineP l.who l.st) = wordsP l.who l.st :=
  TL.split_join blank_l blank_k (by unfold wordsP; simp) (blank_free h)
theorem block_back {ws : List Str} {i : Nat} {f : Bool} {b : Option Str} (hw : ws[i]? = some (partS (obD b))) (hn : ∀ x, b = some x → isName x = true) (hf : b = none → f = true) : blockP ws i f = some b := by
  unfold blockP
  rw [hw]
  dsimp only
  cases b with
  | none => rw [if_pos ⟨hf rfl, rfl⟩]
  | some x =>
    have hx := hn x rfl
    have h1 : ¬(f = true ∧ partS (obD (some x)) = Str.ofString "-") := fun z => by
      have k : x = Str.ofString "-" := z.2
      rw [k, name_minus] at hx
      exact nomatch hx
    have h2 : isName (partS (obD (some x))) = true := hx
    rw [if_neg h1, if_pos h2]
    rfl
theorem lean_back {ws : List Str} {i : Nat} {t : Int} {y : Option Int} (hw : ws[i]? = some (partS (oiD y))) (hn : ∀ z, y = some z → (0 ≤ z ∧ z < 1000000000) ∧ z < t) : leanP ws i t = some y := by
  unfold leanP
  rw [hw]
  dsimp only
  cases y with
  | none => exact if_pos rfl
  | some z =>
    obtain ⟨⟨h0, h1⟩, h2⟩ := hn z rfl
    have e := num_of_int h0 h1
    have e' : numP (partS (oiD (some z))) = some z := e
    have hm : numP (Str.ofString "-") = none := by decide +kernel
    have h3 : ¬partS (oiD (some z)) = Str.ofString "-" := fun k => by
      rw [k, hm] at e'
      exact nomatch e'
    rw [if_neg h3, e']
    exact if_pos h2
theorem read_back {l : Let} (h : GoodL l) : readP (wordsL (lineP l.who l.st)) = .ok l := by
  rw [words_line h]
  obtain ⟨hs, hn, hk⟩ := h
  obtain ⟨w0, w1, h0, h1, t0, t1, hl, hb⟩ := hs
  obtain ⟨who, st⟩ := l
  have e0 := num_of_int w0 w1
  have e2 := num_of_int h0 h1
  have e3 := num_of_int t0 t1
  cases st with
  | pro h t b =>
    have a0 : atP (wordsP who (.pro h t b)) 0 = some who := e0
    have a2 : atP (wordsP who (.pro h t b)) 2 = some h := e2
    have a3 : atP (wordsP who (.pro h t b)) 3 = some t := e3
    have a1 : (wordsP who (.pro h t b)).getD 1 "" = "proposal" := rfl
    have a4 := block_back (ws := wordsP who (.pro h t b)) (i := 4) (f := decide (Str.ofString "proposal" ≠ Str.ofString "proposal")) (b := b) rfl hn fun z => absurd z hk
    unfold readP
    rw [a0]
    dsimp only
    rw [a1, if_neg (by decide +kernel), a2]
    dsimp only
    rw [a3]
    dsimp only
    rw [a4]
    dsimp only
    rw [if_neg (by decide +kernel), if_neg (by show ¬5 < 5; omega), if_pos rfl]
  | vote h t b y =>
    have a0 : atP (wordsP who (.vote h t b y)) 0 = some who := e0
    have a2 : atP (wordsP who (.vote h t b y)) 2 = some h := e2
    have a3 : atP (wordsP who (.vote h t b y)) 3 = some t := e3
    have a1 : (wordsP who (.vote h t b y)).getD 1 "" = "prevote" := rfl
    have a4 := block_back (ws := wordsP who (.vote h t b y)) (i := 4) (f := decide (Str.ofString "prevote" ≠ Str.ofString "proposal")) (b := b) rfl hn fun z => by decide +kernel
    have a5 := lean_back (ws := wordsP who (.vote h t b y)) (i := 5) (t := t) (y := y) rfl fun z hz => ⟨hl z hz, hk z hz⟩
    unfold readP
    rw [a0]
    dsimp only
    rw [a1, if_neg (by decide +kernel), a2]
    dsimp only
    rw [a3]
    dsimp only
    rw [a4]
    dsimp only
    rw [if_pos rfl, a5]
    dsimp only
    rw [if_neg (by show ¬6 < 6; omega)]
  | com h t b =>
    have a0 : atP (wordsP who (.com h t b)) 0 = some who := e0
    have a2 : atP (wordsP who (.com h t b)) 2 = some h := e2
    have a3 : atP (wordsP who (.com h t b)) 3 = some t := e3
    have a1 : (wordsP who (.com h t b)).getD 1 "" = "precommit" := rfl
    have a4 := block_back (ws := wordsP who (.com h t b)) (i := 4) (f := decide (Str.ofString "precommit" ≠ Str.ofString "proposal")) (b := b) rfl hn fun z => by decide +kernel
    unfold readP
    rw [a0]
    dsimp only
    rw [a1, if_neg (by decide +kernel), a2]
    dsimp only
    rw [a3]
    dsimp only
    rw [a4]
    dsimp only
    rw [if_neg (by decide +kernel), if_neg (by show ¬5 < 5; omega), if_neg (by decide +kernel)]
end Toy

/-! parts of texts -/
namespace Toy
open PySem L2 DL
theorem take_lt {w : Str} {n : Nat} : (cutS w none (some ((n : Nat) : Int))).cps.toList = w.cps.toList.take n := by
  unfold cutS
  rw [HT.sIx_none, HT.sIx_nat, str_len, List.drop_zero, Nat.sub_zero, Nat.min_def]
  split
  · rfl
  · rw [List.take_length, List.take_of_length_le (by omega)]
theorem cut_ok {z : Str} (lo hi : Option Int) (h : PyData.strOk z = true) : PyData.strOk (cutS z lo hi) = true := strOk_of fun c hc => of_strOk h c (by
  unfold cutS at hc
  exact List.mem_of_mem_drop (List.mem_of_mem_take hc))
theorem cut_len (z : Str) (lo hi : Option Int) : (cutS z lo hi).length ≤ z.length := by
  rw [str_len, str_len]
  unfold cutS
  show ((z.cps.toList.drop _).take _).length ≤ _
  rw [List.length_take, List.length_drop]
  omega
theorem qpw : ((Str.ofString "p") = Str.ofString "w") = False := eq_false (by decide +kernel)
theorem qpd : ((Str.ofString "p") = Str.ofString "d") = False := eq_false (by decide +kernel)
theorem qpk : ((Str.ofString "p") = Str.ofString "k") = False := eq_false (by decide +kernel)
theorem qwp : ((Str.ofString "w") = Str.ofString "p") = False := eq_false (by decide +kernel)
theorem qwd : ((Str.ofString "w") = Str.ofString "d") = False := eq_false (by decide +kernel)
theorem qwk : ((Str.ofString "w") = Str.ofString "k") = False := eq_false (by decide +kernel)
theorem qdp : ((Str.ofString "d") = Str.ofString "p") = False := eq_false (by decide +kernel)
theorem qdw : ((Str.ofString "d") = Str.ofString "w") = False := eq_false (by decide +kernel)
theorem qdk : ((Str.ofString "d") = Str.ofString "k") = False := eq_false (by decide +kernel)
theorem qkp : ((Str.ofString "k") = Str.ofString "p") = False := eq_false (by decide +kernel)
theorem qkw : ((Str.ofString "k") = Str.ofString "w") = False := eq_false (by decide +kernel)
theorem qkd : ((Str.ofString "k") = Str.ofString "d") = False := eq_false (by decide +kernel)
theorem letter_len : (Str.ofString "p").length ≤ 9 ∧ (Str.ofString "q").length ≤ 9 ∧ (Str.ofString "r").length ≤ 9 ∧ (Str.ofString "w").length ≤ 9 ∧ (Str.ofString "x").length ≤ 9 ∧ (Str.ofString "d").length ≤ 9 ∧ (Str.ofString "z").length ≤ 9 ∧ (Str.ofString "k").length ≤ 9 ∧ (Str.ofString "b").length ≤ 9 ∧ (Str.ofString "v").length ≤ 9 := by decide +kernel
theorem int_len {i : Int} (h : i.natAbs.log2 < 1920) : (Str.ofString (toString i)).length ≤ 1921 := PyProof.Rows.int_text_len_1921 h
theorem joinL_one : ∀ l : List Nat, TL.joinL [] (l.map fun x => [x]) = l
  | [] => rfl
  | [x] => rfl
  | x :: y :: l => by
    have := joinL_one (y :: l)
    show [x] ++ ([] ++ TL.joinL [] ((y :: l).map fun x => [x])) = _
    rw [this]
    rfl
theorem join_signs (l : List Nat) : Txt.join (Str.ofString "") (l.map fun c => (⟨#[c]⟩ : Str)) = ⟨l.toArray⟩ := str_ext (by
  have he : TL.tl (Str.ofString "") = [] := by decide +kernel
  show TL.tl _ = l
  rw [TL.join_eq, TL.tl_join, he, List.map_map]
  exact joinL_one l)
theorem atI_rng {α : Type} {L : List α} {x n : Int} (h0 : 0 < n) (hn : n = (L.length : Int)) : ∃ c, atI L (x % n) = some c ∧ c ∈ L := by
  have h1 : 0 ≤ x % n := Int.emod_nonneg _ (by omega)
  have h2 : x % n < n := Int.emod_lt_of_pos _ h0
  obtain ⟨k, hk⟩ := Int.eq_ofNat_of_zero_le h1
  have hl : k < L.length := by omega
  exact ⟨L[k], by rw [hk]; exact atI_nat (List.getElem?_eq_getElem hl), List.getElem_mem hl⟩
end Toy

/-! the machine of point 29 -/
namespace Toy
open PySem L2 DL
/-- a dict of ints -/
def dI (s : List (Int × Int)) : List (Key × D) := s.map fun p => (Sum.inl p.1, D.int p.2)
def getI (s : List (Int × Int)) (k : Int) : Option Int := (s.find? fun p => decide (p.1 = k)).map (·.2)
def setI (s : List (Int × Int)) (k v : Int) : List (Int × Int) := if (s.any fun p => decide (p.1 = k)) = true then s.map (fun p => if p.1 = k then (p.1, v) else p) else s ++ [(k, v)]
theorem gK_dI (s : List (Int × Int)) (k : Int) : gK (dI s) (.int k) = (getI s k).map D.int := by
  unfold gK keyD dI getI
  show getK _ (Sum.inl k) = _
  unfold getK
  induction s with
  | nil => rfl
  | cons p s ih =>
    rw [List.map_cons, List.find?_cons, List.find?_cons]
    by_cases e : p.1 = k
    · have e' : ((Sum.inl p.1 : Key) = Sum.inl k) := by rw [e]
      simp only [e, decide_true]
      rfl
    · have e' : ¬ ((Sum.inl p.1 : Key) = Sum.inl k) := fun z => e (Sum.inl.inj z)
      simp only [e, e', decide_false]
      exact ih
theorem sK_dI (s : List (Int × Int)) (k v : Int) : sK (dI s) (.int k) (.int v) = dI (setI s k v) := by
  unfold sK keyD dI setI
  show setK _ (Sum.inl k) _ = _
  unfold setK
  have e : ((s.map fun p => ((Sum.inl p.1 : Key), D.int p.2)).any fun kv => decide (kv.1 = Sum.inl k)) = s.any fun p => decide (p.1 = k) := by
    induction s with
    | nil => rfl
    | cons p s ih =>
      rw [List.map_cons, List.any_cons, List.any_cons, ih]
      congr 1
      by_cases e : p.1 = k <;> simp [e]
  rw [e]
  split
  · rw [List.map_map, List.map_map]
    refine List.map_congr_left fun p _ => ?_
    by_cases e : p.1 = k
    · simp [e]
    · have e' : ¬ ((Sum.inl p.1 : Key) = Sum.inl k) := fun z => e (Sum.inl.inj z)
      simp [e]
  · rw [List.map_append]
    rfl
theorem dI_keys (s : List (Int × Int)) : (dI s).map (·.1) = (s.map (·.1)).map Sum.inl := by
  unfold dI
  rw [List.map_map, List.map_map]
  rfl
theorem dI_len (s : List (Int × Int)) : (dI s).length = s.length := by simp [dI]
theorem setI_len (s : List (Int × Int)) (k v : Int) : (setI s k v).length ≤ s.length + 1 := by
  unfold setI
  split
  · simp
  · simp
def stR : Str := Str.ofString "running"
def stF : Str := Str.ofString "failed"
def stE : Str := Str.ofString "ended"
/-- the program's machine; the stack's top first -/
structure Mc where
  stk : List Int
  sto : List (Int × Int)
  paid : Int
  place : Int
  steps : Int
  st : Str
def Mc.popV (M : Mc) : Int := M.stk.headD 0
def Mc.pop (M : Mc) : Mc := match M.stk with
  | [] => { M with st := stF }
  | _ :: t => { M with stk := t }
def Mc.push (v : Int) (M : Mc) : Mc := if 16 ≤ M.stk.length then { M with st := stF } else { M with stk := v % 1000000 :: M.stk }
def sg (c : Nat) : Str := ⟨#[c]⟩
def reckonP (c : Nat) (l r : Int) : Int :=
  if sg c = Str.ofString "a" then l + r else if sg c = Str.ofString "s" then (if l - r > 0 then l - r else 0) else if sg c = Str.ofString "m" then l * r else if sg c = Str.ofString "t" then 10 * l + r
  else if sg c = Str.ofString "c" then (if decide (l < r) = true then 1 else 0) else (if decide (l = r) = true then 1 else 0)
def Mc.reckon (c : Nat) (M : Mc) : Mc := M.pop.pop.push (reckonP c M.pop.popV M.popV)
def Mc.act (c : Nat) (M : Mc) : Mc :=
  if sg c = Str.ofString "h" then (M.pop.push M.popV).push M.popV
  else if sg c = Str.ofString "l" then M.pop.push ((getI M.pop.sto M.popV).getD 0)
  else if sg c = Str.ofString "u" then { M.pop.pop with sto := setI M.pop.pop.sto M.popV M.pop.popV }
  else if sg c = Str.ofString "j" then { M.pop with place := M.popV }
  else if sg c = Str.ofString "f" then (if M.pop.popV = 0 then { M.pop.pop with place := M.popV } else M.pop.pop)
  else if sg c = Str.ofString "y" then { M.pop with paid := M.pop.paid + M.popV }
  else if sg c = Str.ofString "o" then (if M.popV = 0 then { M.pop with st := stF } else M.pop)
  else M.pop
def ginP (c : Nat) (g am : Int) (n : Nat) : Int := if c = 103 then g else if c = 105 then am else n
def inS (z : Str) (c : Nat) : Prop := c ∈ z.cps.toList
instance (z : Str) (c : Nat) : Decidable (inS z c) := inferInstanceAs (Decidable (_ ∈ _))
def Mc.step (code : Str) (g am : Int) (M : Mc) : Mc :=
  if (code.length : Int) ≤ M.place then { M with st := stE }
  else if 200 ≤ M.steps then { M with st := stF }
  else
    let c := code.cps.toList.getD M.place.toNat 0
    let M1 : Mc := { M with place := M.place + 1, steps := M.steps + 1 }
    if inS (Str.ofString "0123456789") c then M1.push ((c : Int) - 48)
    else if inS (Str.ofString "gin") c then M1.push (ginP c g am M1.stk.length)
    else if inS (Str.ofString "asmtce") c then M1.reckon c
    else M1.act c
/-- numbers on the stack and in the store -/
def NumOk (x : Int) : Prop := 0 ≤ x ∧ x < 1000000
structure Mc.Ok (M : Mc) : Prop where
  stk : ∀ x ∈ M.stk, NumOk x
  len : M.stk.length ≤ 16
  sto : ∀ p ∈ M.sto, NumOk p.2
  place : 0 ≤ M.place
theorem Mc.Ok.pop {M : Mc} (h : M.Ok) : M.pop.Ok := by
  unfold Mc.pop
  split
  · exact ⟨h.stk, h.len, h.sto, h.place⟩
  · rename_i x t e
    refine ⟨fun y hy => h.stk y (by rw [e]; exact List.mem_cons_of_mem _ hy), ?_, h.sto, h.place⟩
    have := h.len
    rw [e, List.length_cons] at this
    show t.length ≤ 16
    omega
theorem Mc.Ok.popV {M : Mc} (h : M.Ok) : NumOk M.popV := by
  unfold Mc.popV
  cases e : M.stk with
  | nil => exact ⟨by decide, by decide⟩
  | cons x t => exact h.stk x (by rw [e]; exact List.mem_cons_self)
theorem Mc.Ok.push {M : Mc} (h : M.Ok) (v : Int) : (M.push v).Ok := by
  unfold Mc.push
  split
  · exact ⟨h.stk, h.len, h.sto, h.place⟩
  · refine ⟨fun y hy => ?_, ?_, h.sto, h.place⟩
    · rcases List.mem_cons.mp hy with rfl | hy
      · exact ⟨Int.emod_nonneg _ (by decide), Int.emod_lt_of_pos _ (by decide)⟩
      · exact h.stk y hy
    · show (_ :: M.stk).length ≤ 16
      rw [List.length_cons]
      omega
theorem setI_mem {s : List (Int × Int)} {k v : Int} {p : Int × Int} (h : p ∈ setI s k v) : p.2 = v ∨ p ∈ s := by
  unfold setI at h
  split at h
  · obtain ⟨q, hq, rfl⟩ := List.mem_map.mp h
    by_cases e : q.1 = k
    · rw [if_pos e]; exact .inl rfl
    · rw [if_neg e]; exact .inr hq
  · rcases List.mem_append.mp h with h | h
    · exact .inr h
    · rw [List.mem_singleton.mp h]; exact .inl rfl
theorem Mc.Ok.act {M : Mc} (h : M.Ok) (c : Nat) : (M.act c).Ok := by
  have p1 := h.pop
  have p2 := p1.pop
  have v1 := h.popV
  have v2 := p1.popV
  unfold Mc.act
  repeat' split
  · exact (p1.push _).push _
  · exact p1.push _
  · refine ⟨p2.stk, p2.len, fun p hp => ?_, p2.place⟩
    rcases setI_mem hp with e | hp
    · rw [e]; exact v2
    · exact p2.sto p hp
  · exact ⟨p1.stk, p1.len, p1.sto, v1.1⟩
  · exact ⟨p2.stk, p2.len, p2.sto, v1.1⟩
  · exact p2
  · exact ⟨p1.stk, p1.len, p1.sto, p1.place⟩
  · exact ⟨p1.stk, p1.len, p1.sto, p1.place⟩
  · exact p1
  · exact p1
theorem Mc.Ok.step {M : Mc} (h : M.Ok) (code : Str) (g am : Int) : (M.step code g am).Ok := by
  unfold Mc.step
  have h1 : ({ M with place := M.place + 1, steps := M.steps + 1 } : Mc).Ok := ⟨h.stk, h.len, h.sto, by show 0 ≤ M.place + 1; have := h.place; omega⟩
  split
  · exact ⟨h.stk, h.len, h.sto, h.place⟩
  · split
    · exact ⟨h.stk, h.len, h.sto, h.place⟩
    · dsimp only
      repeat' split
      · exact h1.push _
      · exact h1.push _
      · exact h1.pop.pop.push _
      · exact h1.act _
/-- the law's interpreter -/
structure Lw where
  stk : List Int
  sto : List (Int × Int)
  place : Int
  paid : Int
def needP (c : Nat) : Nat := if inS (Str.ofString "0123456789gin") c then 0 else if inS (Str.ofString "asmtceuf") c then 2 else 1
/-- behind the top t; the rest of the stack s -/
def actL (c : Nat) (t : Int) (s : List Int) (L : Lw) : Lw :=
  if sg c = Str.ofString "h" then { L with stk := t :: t :: s }
  else if sg c = Str.ofString "l" then { L with stk := (getI L.sto t).getD 0 :: s }
  else if sg c = Str.ofString "u" then { L with stk := s.tail, sto := setI L.sto t (s.headD 0) }
  else if sg c = Str.ofString "j" then { L with stk := s, place := t }
  else if sg c = Str.ofString "f" then (if s.headD 0 = 0 then { L with stk := s.tail, place := t } else { L with stk := s.tail })
  else if sg c = Str.ofString "y" then { L with stk := s, paid := L.paid + t }
  else { L with stk := s }
def signL (c : Nat) (g am : Int) (L : Lw) : Option Lw :=
  if L.stk.length < needP c then none
  else if inS (Str.ofString "0123456789") c then (if L.stk.length + 1 ≤ 16 then some { L with stk := ((c : Int) - 48) :: L.stk } else none)
  else if inS (Str.ofString "gin") c then (if L.stk.length + 1 ≤ 16 then some { L with stk := ginP c g am L.stk.length % 1000000 :: L.stk } else none)
  else if inS (Str.ofString "asmtce") c then some { L with stk := reckonP c (L.stk.tail.headD 0) (L.stk.headD 0) % 1000000 :: L.stk.tail.tail }
  else
    let L1 := actL c (L.stk.headD 0) L.stk.tail L
    if (sg c ≠ Str.ofString "o" ∨ L.stk.headD 0 ≠ 0) ∧ L1.stk.length ≤ 16 then some L1 else none
def Mc.lw (M : Mc) : Lw := ⟨M.stk, M.sto, M.place, M.paid⟩
theorem sg_iff {c n : Nat} {z : Str} (h : z.cps.toList = [n]) : sg c = z ↔ c = n := by
  constructor
  · intro e
    have : (sg c).cps.toList = z.cps.toList := by rw [e]
    rw [h] at this
    exact List.singleton_inj.mp this
  · rintro rfl
    exact str_ext h.symm
theorem sg_a (c : Nat) : sg c = Str.ofString "a" ↔ c = 97 := sg_iff (by decide +kernel)
theorem sg_s (c : Nat) : sg c = Str.ofString "s" ↔ c = 115 := sg_iff (by decide +kernel)
theorem sg_m (c : Nat) : sg c = Str.ofString "m" ↔ c = 109 := sg_iff (by decide +kernel)
theorem sg_t (c : Nat) : sg c = Str.ofString "t" ↔ c = 116 := sg_iff (by decide +kernel)
theorem sg_c (c : Nat) : sg c = Str.ofString "c" ↔ c = 99 := sg_iff (by decide +kernel)
theorem sg_h (c : Nat) : sg c = Str.ofString "h" ↔ c = 104 := sg_iff (by decide +kernel)
theorem sg_l (c : Nat) : sg c = Str.ofString "l" ↔ c = 108 := sg_iff (by decide +kernel)
theorem sg_u (c : Nat) : sg c = Str.ofString "u" ↔ c = 117 := sg_iff (by decide +kernel)
theorem sg_j (c : Nat) : sg c = Str.ofString "j" ↔ c = 106 := sg_iff (by decide +kernel)
theorem sg_f (c : Nat) : sg c = Str.ofString "f" ↔ c = 102 := sg_iff (by decide +kernel)
theorem sg_y (c : Nat) : sg c = Str.ofString "y" ↔ c = 121 := sg_iff (by decide +kernel)
theorem sg_o (c : Nat) : sg c = Str.ofString "o" ↔ c = 111 := sg_iff (by decide +kernel)
theorem in_dig (c : Nat) : inS (Str.ofString "0123456789") c ↔ 48 ≤ c ∧ c ≤ 57 := by
  unfold inS
  rw [show (Str.ofString "0123456789").cps.toList = [48, 49, 50, 51, 52, 53, 54, 55, 56, 57] by decide +kernel]
  simp only [List.mem_cons, List.not_mem_nil, or_false]
  omega
theorem in_gin (c : Nat) : inS (Str.ofString "gin") c ↔ c = 103 ∨ c = 105 ∨ c = 110 := by
  unfold inS
  rw [show (Str.ofString "gin").cps.toList = [103, 105, 110] by decide +kernel]
  simp
theorem in_dgin (c : Nat) : inS (Str.ofString "0123456789gin") c ↔ (48 ≤ c ∧ c ≤ 57) ∨ c = 103 ∨ c = 105 ∨ c = 110 := by
  unfold inS
  rw [show (Str.ofString "0123456789gin").cps.toList = [48, 49, 50, 51, 52, 53, 54, 55, 56, 57, 103, 105, 110] by decide +kernel]
  simp only [List.mem_cons, List.not_mem_nil, or_false]
  omega
theorem in_ops (c : Nat) : inS (Str.ofString "asmtce") c ↔ c = 97 ∨ c = 115 ∨ c = 109 ∨ c = 116 ∨ c = 99 ∨ c = 101 := by
  unfold inS
  rw [show (Str.ofString "asmtce").cps.toList = [97, 115, 109, 116, 99, 101] by decide +kernel]
  simp
theorem in_two (c : Nat) : inS (Str.ofString "asmtceuf") c ↔ (c = 97 ∨ c = 115 ∨ c = 109 ∨ c = 116 ∨ c = 99 ∨ c = 101) ∨ c = 117 ∨ c = 102 := by
  unfold inS
  rw [show (Str.ofString "asmtceuf").cps.toList = [97, 115, 109, 116, 99, 101, 117, 102] by decide +kernel]
  simp only [List.mem_cons, List.not_mem_nil, or_false]
  omega
theorem num_mod {x : Int} (h : NumOk x) : x % 1000000 = x := Int.emod_eq_of_lt h.1 h.2
/-- one sign: the machine does what the law's interpreter does -/
def Same (r : Option Lw) (M : Mc) (n : Int) : Prop := M.steps = n ∧ match r with
  | some L => M.lw = L ∧ M.st = stR
  | none => M.st = stF
theorem push_ok {M : Mc} (v : Int) (h : M.stk.length < 16) : M.push v = { M with stk := v % 1000000 :: M.stk } := by
  unfold Mc.push
  rw [if_neg (by omega)]
theorem push_no {M : Mc} (v : Int) (h : 16 ≤ M.stk.length) : M.push v = { M with st := stF } := by
  unfold Mc.push
  rw [if_pos h]
theorem push_st {M : Mc} (v : Int) (h : M.st = stF) : (M.push v).st = stF := by
  unfold Mc.push
  split
  · rfl
  · exact h
theorem pop_st {M : Mc} (h : M.st = stF) : M.pop.st = stF := by
  unfold Mc.pop
  split
  · rfl
  · exact h
theorem push_steps (M : Mc) (v : Int) : (M.push v).steps = M.steps := by
  unfold Mc.push
  split <;> rfl
theorem pop_steps (M : Mc) : M.pop.steps = M.steps := by
  unfold Mc.pop
  split <;> rfl
theorem Same.no {M : Mc} {n : Int} (h : M.steps = n) (k : M.st = stF) : Same none M n := ⟨h, k⟩
theorem Same.yes {L : Lw} {M : Mc} {n : Int} (h : M.steps = n) (e : M.lw = L) (k : M.st = stR) : Same (some L) M n := ⟨h, e, k⟩
theorem act_same {M : Mc} (h : M.Ok) (hr : M.st = stR) {c : Nat} (h1 : ¬ inS (Str.ofString "0123456789") c) (h2 : ¬ inS (Str.ofString "gin") c) (h3 : ¬ inS (Str.ofString "asmtce") c) (g am : Int) : Same (signL c g am M.lw) (M.act c) M.steps := by
  have n0 : ¬ inS (Str.ofString "0123456789gin") c := fun z => by
    rw [in_dgin] at z
    rcases z with z | z
    · exact h1 ((in_dig c).mpr z)
    · exact h2 ((in_gin c).mpr z)
  have hneed : needP c = if c = 117 ∨ c = 102 then 2 else 1 := by
    unfold needP
    rw [if_neg n0]
    by_cases e : c = 117 ∨ c = 102
    · rw [if_pos ((in_two c).mpr (.inr e)), if_pos e]
    · rw [if_neg fun z => ((in_two c).mp z).elim (fun z => h3 ((in_ops c).mpr z)) e, if_neg e]
  unfold signL
  rw [hneed, if_neg h1, if_neg h2, if_neg h3]
  clear h1 h2 h3 n0 hneed
  obtain ⟨stk, sto, paid, place, steps, st⟩ := M
  simp only at hr
  subst hr
  obtain ⟨hs, hl, hso, hp⟩ := h
  simp only at hs hl hso hp
  unfold actL Mc.act Mc.lw
  simp only [sg_h, sg_l, sg_u, sg_j, sg_f, sg_y, sg_o, ne_eq]
  cases stk with
  | nil =>
    simp only [List.length_nil]
    rw [if_pos (by split <;> decide)]
    have e1 : (Mc.pop ⟨[], sto, paid, place, steps, stR⟩).st = stF := rfl
    refine Same.no ?_ ?_
    · repeat' split
      all_goals first | rfl | (simp only [push_steps, pop_steps])
    · repeat' split
      all_goals first | rfl | exact push_st _ (push_st _ e1) | exact push_st _ e1
  | cons x t =>
    have hx := hs x List.mem_cons_self
    have hlt : t.length + 1 ≤ 16 := hl
    by_cases e : c = 117 ∨ c = 102
    · cases t with
      | nil =>
        rw [if_pos (by rw [if_pos e]; show 1 < 2; decide)]
        rcases e with rfl | rfl
        · exact Same.no rfl rfl
        · simp only [reduceIte, Nat.reduceEqDiff]
          split
          · exact Same.no rfl rfl
          · exact Same.no rfl rfl
      | cons y t =>
        have hlt : t.length + 2 ≤ 16 := hl
        rw [if_neg (by rw [if_pos e]; simp only [List.length_cons]; omega)]
        rcases e with rfl | rfl
        · simp only [reduceIte, Nat.reduceEqDiff, List.headD_cons, List.tail_cons, not_false_eq_true, true_or, true_and]
          rw [if_pos (by omega)]
          exact Same.yes rfl rfl rfl
        · simp only [reduceIte, Nat.reduceEqDiff, List.headD_cons, List.tail_cons, not_false_eq_true, true_or, true_and]
          have ep : (Mc.pop ⟨x :: y :: t, sto, paid, place, steps, stR⟩).popV = y := rfl
          have ht : t.length ≤ 16 := by omega
          by_cases ey : y = 0
          · simp only [ep, ey, if_true, ht]
            exact Same.yes rfl rfl rfl
          · simp only [ep, ey, if_false, ht, if_true]
            exact Same.yes rfl rfl rfl
    · rw [if_neg (by rw [if_neg e]; simp only [List.length_cons]; omega)]
      have e1 : ¬ c = 117 := fun z => e (.inl z)
      have e2 : ¬ c = 102 := fun z => e (.inr z)
      have ep : Mc.pop ⟨x :: t, sto, paid, place, steps, stR⟩ = ⟨t, sto, paid, place, steps, stR⟩ := rfl
      have ev : Mc.popV ⟨x :: t, sto, paid, place, steps, stR⟩ = x := rfl
      simp only [e1, e2, if_false, List.headD_cons, List.tail_cons, ep, ev]
      by_cases a1 : c = 104
      · subst a1
        simp only [reduceIte, Nat.reduceEqDiff, not_false_eq_true, true_or, true_and, List.length_cons]
        have q1 : Mc.push x ⟨t, sto, paid, place, steps, stR⟩ = ⟨x :: t, sto, paid, place, steps, stR⟩ := by rw [push_ok _ (by show t.length < 16; omega), num_mod hx]
        rw [q1]
        by_cases hl2 : t.length + 1 + 1 ≤ 16
        · rw [if_pos hl2, push_ok _ (by show t.length + 1 < 16; omega), num_mod hx]
          exact Same.yes rfl rfl rfl
        · rw [if_neg hl2, push_no _ (by show 16 ≤ t.length + 1; omega)]
          exact Same.no rfl rfl
      simp only [a1, if_false]
      by_cases a2 : c = 108
      · subst a2
        simp only [reduceIte, Nat.reduceEqDiff, not_false_eq_true, true_or, true_and, List.length_cons]
        have hv : NumOk ((getI sto x).getD 0) := by
          unfold getI
          cases e : sto.find? fun p => decide (p.1 = x) with
          | none => exact ⟨by decide, by decide⟩
          | some p => exact hso p (List.mem_of_find?_eq_some e)
        rw [if_pos hlt, push_ok _ (by show t.length < 16; omega), num_mod hv]
        exact Same.yes rfl rfl rfl
      simp only [a2, if_false]
      by_cases a3 : c = 106
      · subst a3
        simp only [reduceIte, Nat.reduceEqDiff, not_false_eq_true, true_or, true_and, List.length_cons]
        rw [if_pos (by omega)]
        exact Same.yes rfl rfl rfl
      simp only [a3, if_false]
      by_cases a4 : c = 121
      · subst a4
        simp only [reduceIte, Nat.reduceEqDiff, not_false_eq_true, true_or, true_and, List.length_cons]
        rw [if_pos (by omega)]
        exact Same.yes rfl rfl rfl
      simp only [a4, if_false]
      by_cases a5 : c = 111
      · subst a5
        simp only [reduceIte, not_true_eq_false, false_or]
        by_cases ex : x = 0
        · rw [if_pos ex, if_neg (fun z => z.1 ex)]
          exact Same.no rfl rfl
        · rw [if_neg ex, if_pos ⟨ex, by omega⟩]
          exact Same.yes rfl rfl rfl
      simp only [a5, if_false, not_false_eq_true, true_or, true_and]
      rw [if_pos (by omega)]
      exact Same.yes rfl rfl rfl
theorem Same.to {r : Option Lw} {M : Mc} {n : Int} (h : Same r M n) : (∃ L, r = some L ∧ M.steps = n ∧ M.lw = L ∧ M.st = stR) ∨ (r = none ∧ M.steps = n ∧ M.st = stF) := by
  obtain ⟨h1, h2⟩ := h
  cases r with
  | none => exact .inr ⟨rfl, h1, h2⟩
  | some L => exact .inl ⟨L, rfl, h1, h2⟩
theorem step_same {M : Mc} (h : M.Ok) (hr : M.st = stR) {code : Str} (g am : Int) (hp : ¬ (code.length : Int) ≤ M.place) (hs : ¬ 200 ≤ M.steps) :
    Same (signL (code.cps.toList.getD M.place.toNat 0) g am { M.lw with place := M.place + 1 }) (M.step code g am) (M.steps + 1) := by
  unfold Mc.step
  rw [if_neg hp, if_neg hs]
  generalize code.cps.toList.getD M.place.toNat 0 = c
  have h1 : ({ M with place := M.place + 1, steps := M.steps + 1 } : Mc).Ok := ⟨h.stk, h.len, h.sto, by show 0 ≤ M.place + 1; have := h.place; omega⟩
  suffices H : ∀ M1 : Mc, M1.Ok → M1.st = stR → Same (signL c g am M1.lw) (if inS (Str.ofString "0123456789") c then M1.push ((c : Int) - 48) else if inS (Str.ofString "gin") c then M1.push (ginP c g am M1.stk.length) else if inS (Str.ofString "asmtce") c then M1.reckon c else M1.act c) M1.steps from H _ h1 hr
  clear h1 hp hs hr h
  intro M1 h1 r1
  by_cases k1 : inS (Str.ofString "0123456789") c
  · rw [if_pos k1]
    have n0 : needP c = 0 := by
      unfold needP
      rw [if_pos ((in_dgin c).mpr (.inl ((in_dig c).mp k1)))]
    have hd := (in_dig c).mp k1
    unfold signL
    rw [n0, if_neg (Nat.not_lt_zero _), if_pos k1]
    by_cases hl : M1.lw.stk.length + 1 ≤ 16
    · rw [if_pos hl, push_ok _ (by show M1.stk.length < 16; exact hl), num_mod ⟨by omega, by omega⟩]
      exact Same.yes rfl rfl r1
    · rw [if_neg hl, push_no _ (by show 16 ≤ M1.stk.length; exact Nat.le_of_not_lt hl)]
      exact Same.no rfl rfl
  rw [if_neg k1]
  by_cases k2 : inS (Str.ofString "gin") c
  · rw [if_pos k2]
    have n0 : needP c = 0 := by
      unfold needP
      rw [if_pos ((in_dgin c).mpr (.inr ((in_gin c).mp k2)))]
    unfold signL
    rw [n0, if_neg (Nat.not_lt_zero _), if_neg k1, if_pos k2]
    by_cases hl : M1.lw.stk.length + 1 ≤ 16
    · rw [if_pos hl, push_ok _ (by show M1.stk.length < 16; exact hl)]
      exact Same.yes rfl rfl r1
    · rw [if_neg hl, push_no _ (by show 16 ≤ M1.stk.length; exact Nat.le_of_not_lt hl)]
      exact Same.no rfl rfl
  rw [if_neg k2]
  by_cases k3 : inS (Str.ofString "asmtce") c
  · rw [if_pos k3]
    have n2 : needP c = 2 := by
      unfold needP
      rw [if_neg fun z => ((in_dgin c).mp z).elim (fun z => k1 ((in_dig c).mpr z)) fun z => k2 ((in_gin c).mpr z), if_pos ((in_two c).mpr (.inl ((in_ops c).mp k3)))]
    unfold signL
    rw [n2, if_neg k1, if_neg k2, if_pos k3]
    unfold Mc.reckon
    obtain ⟨stk, sto, paid, place, steps, st⟩ := M1
    simp only at r1
    subst r1
    have hl := h1.len
    simp only at hl
    match stk, hl with
    | [], _ => exact Same.no rfl rfl
    | [x], _ => exact Same.no rfl rfl
    | x :: y :: t, hl =>
      simp only [List.length_cons] at hl
      rw [if_neg (by show ¬ (x :: y :: t).length < 2; simp only [List.length_cons]; omega)]
      rw [push_ok _ (by show t.length < 16; omega)]
      exact Same.yes rfl rfl rfl
  rw [if_neg k3]
  exact act_same h1 r1 k1 k2 k3 g am
/-- at most n steps -/
def Mc.runN (code : Str) (g am : Int) : Nat → Mc → Mc
  | 0, M => M
  | n + 1, M => if M.st = stR then Mc.runN code g am n (M.step code g am) else M
theorem runN_done {code : Str} {g am : Int} {M : Mc} (h : M.st ≠ stR) (n : Nat) : Mc.runN code g am n M = M := by
  cases n with
  | zero => rfl
  | succ n => rw [Mc.runN, if_neg h]
theorem step_len {M : Mc} (code : Str) (g am : Int) : (M.step code g am).sto.length ≤ M.sto.length + 1 := by
  have pp : ∀ M : Mc, M.pop.sto = M.sto := fun M => by unfold Mc.pop; split <;> rfl
  have pu : ∀ (M : Mc) (v : Int), (M.push v).sto = M.sto := fun M v => by unfold Mc.push; split <;> rfl
  unfold Mc.step
  split
  · exact Nat.le_succ _
  split
  · exact Nat.le_succ _
  dsimp only
  split
  · rw [pu]; exact Nat.le_succ _
  split
  · rw [pu]; exact Nat.le_succ _
  split
  · unfold Mc.reckon; rw [pu, pp, pp]; exact Nat.le_succ _
  · unfold Mc.act
    repeat' split
    all_goals first
      | (rw [pu, pu, pp]; exact Nat.le_succ _)
      | (rw [pu, pp]; exact Nat.le_succ _)
      | (show (setI _ _ _).length ≤ _; rw [pp, pp]; exact setI_len _ _ _)
      | (show (Mc.pop (Mc.pop _)).sto.length ≤ _; rw [pp, pp]; exact Nat.le_succ _)
      | (show (Mc.pop _).sto.length ≤ _; rw [pp]; exact Nat.le_succ _)
/-- the store behind a run: the keys in order, the values not 0 -/
def keepP (s : List (Int × Int)) : List Int → List (Int × Int) → List (Int × Int)
  | [], acc => acc
  | k :: ks, acc => keepP s ks (if (getI s k).getD 0 ≠ 0 then setI acc k ((getI s k).getD 0) else acc)
def keptP (s : List (Int × Int)) : List (Int × Int) := keepP s (sortI (s.map (·.1))) []
theorem st_ne : stF ≠ stR ∧ stE ≠ stR ∧ stE ≠ stF := by decide +kernel
theorem step_run {M : Mc} (h : M.Ok) (hr : M.st = stR) (code : Str) (g am : Int) (k : (M.step code g am).st = stR) : M.steps < 200 ∧ (M.step code g am).steps = M.steps + 1 := by
  by_cases hp : (code.length : Int) ≤ M.place
  · unfold Mc.step at k
    rw [if_pos hp] at k
    exact absurd k st_ne.2.1
  by_cases hs : 200 ≤ M.steps
  · unfold Mc.step at k
    rw [if_neg hp, if_pos hs] at k
    exact absurd k st_ne.1
  rcases (step_same h hr g am hp hs).to with ⟨_, _, e, _⟩ | ⟨_, e, _⟩
  · exact ⟨by omega, e⟩
  · exact ⟨by omega, e⟩
theorem step_steps {M : Mc} (code : Str) (g am : Int) : M.steps ≤ (M.step code g am).steps := by
  unfold Mc.step
  split
  · exact Int.le_refl _
  split
  · exact Int.le_refl _
  have e : M.steps ≤ M.steps + 1 := by omega
  dsimp only
  split
  · rw [push_steps]; exact e
  split
  · rw [push_steps]; exact e
  split
  · unfold Mc.reckon; rw [push_steps, pop_steps, pop_steps]; exact e
  · unfold Mc.act
    repeat' split
    all_goals first
      | (rw [push_steps, push_steps, pop_steps]; exact e)
      | (rw [push_steps, pop_steps]; exact e)
      | (show _ ≤ (Mc.pop (Mc.pop _)).steps; rw [pop_steps, pop_steps]; exact e)
      | (show _ ≤ (Mc.pop _).steps; rw [pop_steps]; exact e)
theorem keepP_snoc (s : List (Int × Int)) (k : Int) : ∀ (ks : List Int) (acc : List (Int × Int)), keepP s (ks ++ [k]) acc = if (getI s k).getD 0 ≠ 0 then setI (keepP s ks acc) k ((getI s k).getD 0) else keepP s ks acc
  | [], acc => rfl
  | x :: ks, acc => keepP_snoc s k ks _
theorem getI_mem {s : List (Int × Int)} {k : Int} (h : k ∈ s.map (·.1)) : ∃ v, getI s k = some v := by
  obtain ⟨p, hp, rfl⟩ := List.mem_map.mp h
  unfold getI
  cases e : s.find? fun q => decide (q.1 = p.1) with
  | some q => exact ⟨_, rfl⟩
  | none =>
    have := List.find?_eq_none.mp e p hp
    simp at this
theorem keepP_len (s : List (Int × Int)) : ∀ (ks : List Int) (acc : List (Int × Int)), (keepP s ks acc).length ≤ acc.length + ks.length
  | [], acc => Nat.le_refl _
  | k :: ks, acc => by
    have h := keepP_len s ks (if (getI s k).getD 0 ≠ 0 then setI acc k ((getI s k).getD 0) else acc)
    have h2 : (if (getI s k).getD 0 ≠ 0 then setI acc k ((getI s k).getD 0) else acc).length ≤ acc.length + 1 := by
      split
      · exact setI_len _ _ _
      · exact Nat.le_succ _
    rw [List.length_cons]
    exact Nat.le_trans h (by omega)
def Mc.init (s0 : List (Int × Int)) : Mc := ⟨[], s0, 0, 0, 0, stR⟩
def runF (code : Str) (g am : Int) (s0 : List (Int × Int)) : Mc := Mc.runN code g am 202 (Mc.init s0)
def runS (F : Mc) (s0 : List (Int × Int)) : List (Int × Int) := if F.st = stF then s0 else keptP F.sto
theorem getI_nodup : ∀ {s : List (Int × Int)}, (s.map (·.1)).Nodup → ∀ p ∈ s, getI s p.1 = some p.2
  | [], _, p, hp => by cases hp
  | q :: s, h, p, hp => by
    rw [List.map_cons, List.nodup_cons] at h
    unfold getI
    rw [List.find?_cons]
    rcases List.mem_cons.mp hp with rfl | hp
    · simp
    · have e : ¬ q.1 = p.1 := fun z => h.1 (by rw [z]; exact List.mem_map_of_mem hp)
      simp only [e, decide_false]
      exact getI_nodup h.2 p hp
theorem setI_nodup {s : List (Int × Int)} (k v : Int) (h : (s.map (·.1)).Nodup) : ((setI s k v).map (·.1)).Nodup := by
  unfold setI
  split
  · rw [List.map_map]
    have e : ((fun p : Int × Int => p.1) ∘ fun p : Int × Int => if p.1 = k then (p.1, v) else p) = fun p => p.1 := by
      funext p
      show (if p.1 = k then (p.1, v) else p).1 = p.1
      split <;> rfl
    rw [e]
    exact h
  · rename_i hn
    rw [List.map_append, List.nodup_append]
    refine ⟨h, by simp, fun a ha b hb e => ?_⟩
    subst e
    simp only [List.map_cons, List.map_nil, List.mem_singleton] at hb
    subst hb
    obtain ⟨p, hp, e⟩ := List.mem_map.mp ha
    exact hn (List.any_eq_true.mpr ⟨p, hp, by simpa using e⟩)
theorem keepP_nodup (s : List (Int × Int)) : ∀ (ks : List Int) (acc : List (Int × Int)), (acc.map (·.1)).Nodup → ((keepP s ks acc).map (·.1)).Nodup
  | [], _, h => h
  | k :: ks, acc, h => by
    rw [keepP]
    refine keepP_nodup s ks _ ?_
    split
    · exact setI_nodup _ _ h
    · exact h
theorem runS_nodup {F : Mc} {s0 : List (Int × Int)} (h : (s0.map (·.1)).Nodup) : ((runS F s0).map (·.1)).Nodup := by
  unfold runS
  split
  · exact h
  · exact keepP_nodup _ _ _ (by simp)
theorem dcE_dI {s : List (Int × Int)} (h : (s.map (·.1)).Nodup) : DcE (dI s) (dI s) := ⟨rfl, fun p hp => by
  obtain ⟨q, hq, rfl⟩ := List.mem_map.mp hp
  refine ⟨q.2, rfl, ?_⟩
  have := gK_dI s q.1
  rw [getI_nodup h q hq] at this
  exact this⟩
theorem runN_steps {code : Str} {g am : Int} : ∀ (n : Nat) (M : Mc), M.Ok → (M.st = stR → M.steps ≤ 200) → (M.st ≠ stR → 0 ≤ M.steps ∧ M.steps ≤ 200) → 0 ≤ M.steps → (Mc.runN code g am n M).steps ≤ 200
  | 0, M, ok, h1, h2, h0 => by
    by_cases e : M.st = stR
    · exact h1 e
    · exact (h2 e).2
  | n + 1, M, ok, h1, h2, h0 => by
    rw [Mc.runN]
    split
    · rename_i e
      have hs := h1 e
      have key : (M.step code g am).steps ≤ 200 := by
        by_cases hp : (code.length : Int) ≤ M.place
        · unfold Mc.step; rw [if_pos hp]; exact hs
        by_cases hk : 200 ≤ M.steps
        · unfold Mc.step; rw [if_neg hp, if_pos hk]; exact hs
        rcases (step_same ok e g am hp hk).to with ⟨_, _, e2, _⟩ | ⟨_, e2, _⟩ <;> omega
      have k0 : 0 ≤ (M.step code g am).steps := Int.le_trans h0 (step_steps code g am)
      exact runN_steps n _ (ok.step code g am) (fun _ => key) (fun _ => ⟨k0, key⟩) k0
    · rename_i e
      exact (h2 e).2
theorem runF_steps {code : Str} {g am : Int} {s0 : List (Int × Int)} (h : ∀ p ∈ s0, NumOk p.2) : (runF code g am s0).steps ≤ 200 :=
  runN_steps 202 _ ⟨fun y hy => (by cases hy), by show 0 ≤ 16; decide, h, by show (0 : Int) ≤ 0; decide⟩ (fun _ => by show (0 : Int) ≤ 200; decide) (fun _ => ⟨by show (0 : Int) ≤ 0; decide, by show (0 : Int) ≤ 200; decide⟩) (by show (0 : Int) ≤ 0; decide)
theorem runN_len {code : Str} {g am : Int} : ∀ (n : Nat) (M : Mc), (Mc.runN code g am n M).sto.length ≤ M.sto.length + n
  | 0, M => Nat.le_refl _
  | n + 1, M => by
    rw [Mc.runN]
    split
    · have h1 := runN_len (code := code) (g := g) (am := am) n (M.step code g am)
      have h2 := step_len (M := M) code g am
      omega
    · omega
theorem runS_len {code : Str} {g am : Int} {s0 : List (Int × Int)} : (runS (runF code g am s0) s0).length ≤ s0.length + 202 := by
  unfold runS
  split
  · omega
  · unfold keptP
    have h1 := keepP_len (runF code g am s0).sto (sortI ((runF code g am s0).sto.map (·.1))) []
    rw [(sortI_perm _).length_eq, List.length_map] at h1
    have h2 := runN_len (code := code) (g := g) (am := am) 202 (Mc.init s0)
    have h3 : (Mc.init s0).sto.length = s0.length := rfl
    unfold runF at h1 ⊢
    rw [h3] at h2
    simp only [List.length_nil, Nat.zero_add] at h1
    omega
end Toy

local macro_rules | `(tactic| walk_at "w") => `(tactic| conv => whnf)
-- a way's test made short; a way that cannot be is closed
set_option hygiene false in
local macro_rules | `(tactic| walk_at "k") => `(tactic| simp [DL.isN_non, DL.isN_int, DL.isN_str, DL.isN_tup, DL.isN_lst, DL.isN_ins, Toy.Stm.isVote, Toy.isN_ob, Toy.isN_oi, Toy.kpv, Toy.kpc, Toy.kvp, Toy.kvc, Toy.kcp, Toy.kcv, Toy.qpw, Toy.qpd, Toy.qpk, Toy.qwp, Toy.qwd, Toy.qwk, Toy.qdp, Toy.qdw, Toy.qdk, Toy.qkp, Toy.qkw, Toy.qkd, DL.nb] at hb)
local macro_rules | `(tactic| walk_at "x") => `(tactic| fail)
local macro_rules | `(tactic| walk_at "F") => `(tactic| fail)
local macro_rules | `(tactic| walk_at "E") => `(tactic| fail)
local macro_rules | `(tactic| walk_at "Q") => `(tactic| fail)
local macro_rules | `(tactic| walk_at "D") => `(tactic| fail)
local macro_rules | `(tactic| walk_at "I") => `(tactic| fail)
local macro_rules | `(tactic| walk_at "R") => `(tactic| fail)
local macro_rules | `(tactic| walk_at "P") => `(tactic| fail)
local macro_rules | `(tactic| walk_at "o") => `(tactic| (first | omega | (simp only [List.length_map, List.length_range, List.length_cons, List.length_nil, List.length_append]; omega)))
local macro_rules | `(tactic| walk_at "ne") => `(tactic| (first | assumption | exact Ne.symm (by assumption) | exact DL.ne_at (by assumption) (by (first | assumption | exact DL.fresh_up (by assumption) | exact DL.fresh_dn (by assumption) | exact DL.fresh_dn (DL.fresh_dn (by assumption)) | exact DL.fresh_dn (DL.fresh_dn (DL.fresh_dn (by assumption))))) | exact Ne.symm (DL.ne_at (by assumption) (by (first | assumption | exact DL.fresh_up (by assumption) | exact DL.fresh_dn (by assumption) | exact DL.fresh_dn (DL.fresh_dn (by assumption)) | exact DL.fresh_dn (DL.fresh_dn (DL.fresh_dn (by assumption)))))) | exact DL.fresh_ne (by assumption) | exact Ne.symm (DL.fresh_ne (by assumption)) | exact DL.fresh_ne (DL.fresh_dn (by assumption)) | exact Ne.symm (DL.fresh_ne (DL.fresh_dn (by assumption))) | exact DL.fresh_ne (DL.fresh_dn (DL.fresh_dn (by assumption))) | exact Ne.symm (DL.fresh_ne (DL.fresh_dn (DL.fresh_dn (by assumption))))))
local macro_rules | `(tactic| walk_at "H") => `(tactic| (first | exact DL.mup_same | assumption | (refine (DL.mup_ne (by (first | assumption | exact Ne.symm (by assumption) | exact DL.ne_at (by assumption) (by (first | assumption | exact DL.fresh_up (by assumption) | exact DL.fresh_dn (by assumption) | exact DL.fresh_dn (DL.fresh_dn (by assumption)) | exact DL.fresh_dn (DL.fresh_dn (DL.fresh_dn (by assumption))))) | exact Ne.symm (DL.ne_at (by assumption) (by (first | assumption | exact DL.fresh_up (by assumption) | exact DL.fresh_dn (by assumption) | exact DL.fresh_dn (DL.fresh_dn (by assumption)) | exact DL.fresh_dn (DL.fresh_dn (DL.fresh_dn (by assumption)))))) | exact DL.fresh_ne (by assumption) | exact Ne.symm (DL.fresh_ne (by assumption)) | exact DL.fresh_ne (DL.fresh_dn (by assumption)) | exact Ne.symm (DL.fresh_ne (DL.fresh_dn (by assumption))) | exact DL.fresh_ne (DL.fresh_dn (DL.fresh_dn (by assumption))) | exact Ne.symm (DL.fresh_ne (DL.fresh_dn (DL.fresh_dn (by assumption))))))).trans ?_; first | exact DL.mup_same | assumption | (refine (DL.mup_ne (by (first | assumption | exact Ne.symm (by assumption) | exact DL.ne_at (by assumption) (by (first | assumption | exact DL.fresh_up (by assumption) | exact DL.fresh_dn (by assumption) | exact DL.fresh_dn (DL.fresh_dn (by assumption)) | exact DL.fresh_dn (DL.fresh_dn (DL.fresh_dn (by assumption))))) | exact Ne.symm (DL.ne_at (by assumption) (by (first | assumption | exact DL.fresh_up (by assumption) | exact DL.fresh_dn (by assumption) | exact DL.fresh_dn (DL.fresh_dn (by assumption)) | exact DL.fresh_dn (DL.fresh_dn (DL.fresh_dn (by assumption)))))) | exact DL.fresh_ne (by assumption) | exact Ne.symm (DL.fresh_ne (by assumption)) | exact DL.fresh_ne (DL.fresh_dn (by assumption)) | exact Ne.symm (DL.fresh_ne (DL.fresh_dn (by assumption))) | exact DL.fresh_ne (DL.fresh_dn (DL.fresh_dn (by assumption))) | exact Ne.symm (DL.fresh_ne (DL.fresh_dn (DL.fresh_dn (by assumption))))))).trans ?_; first | exact DL.mup_same | assumption | (refine (DL.mup_ne (by (first | assumption | exact Ne.symm (by assumption) | exact DL.ne_at (by assumption) (by (first | assumption | exact DL.fresh_up (by assumption) | exact DL.fresh_dn (by assumption) | exact DL.fresh_dn (DL.fresh_dn (by assumption)) | exact DL.fresh_dn (DL.fresh_dn (DL.fresh_dn (by assumption))))) | exact Ne.symm (DL.ne_at (by assumption) (by (first | assumption | exact DL.fresh_up (by assumption) | exact DL.fresh_dn (by assumption) | exact DL.fresh_dn (DL.fresh_dn (by assumption)) | exact DL.fresh_dn (DL.fresh_dn (DL.fresh_dn (by assumption)))))) | exact DL.fresh_ne (by assumption) | exact Ne.symm (DL.fresh_ne (by assumption)) | exact DL.fresh_ne (DL.fresh_dn (by assumption)) | exact Ne.symm (DL.fresh_ne (DL.fresh_dn (by assumption))) | exact DL.fresh_ne (DL.fresh_dn (DL.fresh_dn (by assumption))) | exact Ne.symm (DL.fresh_ne (DL.fresh_dn (DL.fresh_dn (by assumption))))))).trans ?_; first | exact DL.mup_same | assumption | (refine (DL.mup_ne (by (first | assumption | exact Ne.symm (by assumption) | exact DL.ne_at (by assumption) (by (first | assumption | exact DL.fresh_up (by assumption) | exact DL.fresh_dn (by assumption) | exact DL.fresh_dn (DL.fresh_dn (by assumption)) | exact DL.fresh_dn (DL.fresh_dn (DL.fresh_dn (by assumption))))) | exact Ne.symm (DL.ne_at (by assumption) (by (first | assumption | exact DL.fresh_up (by assumption) | exact DL.fresh_dn (by assumption) | exact DL.fresh_dn (DL.fresh_dn (by assumption)) | exact DL.fresh_dn (DL.fresh_dn (DL.fresh_dn (by assumption)))))) | exact DL.fresh_ne (by assumption) | exact Ne.symm (DL.fresh_ne (by assumption)) | exact DL.fresh_ne (DL.fresh_dn (by assumption)) | exact Ne.symm (DL.fresh_ne (DL.fresh_dn (by assumption))) | exact DL.fresh_ne (DL.fresh_dn (DL.fresh_dn (by assumption))) | exact Ne.symm (DL.fresh_ne (DL.fresh_dn (DL.fresh_dn (by assumption))))))).trans ?_; first | exact DL.mup_same | assumption | (refine (DL.mup_ne (by (first | assumption | exact Ne.symm (by assumption) | exact DL.ne_at (by assumption) (by (first | assumption | exact DL.fresh_up (by assumption) | exact DL.fresh_dn (by assumption) | exact DL.fresh_dn (DL.fresh_dn (by assumption)) | exact DL.fresh_dn (DL.fresh_dn (DL.fresh_dn (by assumption))))) | exact Ne.symm (DL.ne_at (by assumption) (by (first | assumption | exact DL.fresh_up (by assumption) | exact DL.fresh_dn (by assumption) | exact DL.fresh_dn (DL.fresh_dn (by assumption)) | exact DL.fresh_dn (DL.fresh_dn (DL.fresh_dn (by assumption)))))) | exact DL.fresh_ne (by assumption) | exact Ne.symm (DL.fresh_ne (by assumption)) | exact DL.fresh_ne (DL.fresh_dn (by assumption)) | exact Ne.symm (DL.fresh_ne (DL.fresh_dn (by assumption))) | exact DL.fresh_ne (DL.fresh_dn (DL.fresh_dn (by assumption))) | exact Ne.symm (DL.fresh_ne (DL.fresh_dn (DL.fresh_dn (by assumption))))))).trans ?_; first | exact DL.mup_same | assumption)))))))
local macro_rules | `(tactic| walk_at "L") => `(tactic| (first | exact rfl | assumption | exact DL.asL_same | exact DL.asL_adr (by (first | exact DL.mup_same | assumption | (refine (DL.mup_ne (by (first | assumption | exact Ne.symm (by assumption) | exact DL.ne_at (by assumption) (by (first | assumption | exact DL.fresh_up (by assumption) | exact DL.fresh_dn (by assumption) | exact DL.fresh_dn (DL.fresh_dn (by assumption)) | exact DL.fresh_dn (DL.fresh_dn (DL.fresh_dn (by assumption))))) | exact Ne.symm (DL.ne_at (by assumption) (by (first | assumption | exact DL.fresh_up (by assumption) | exact DL.fresh_dn (by assumption) | exact DL.fresh_dn (DL.fresh_dn (by assumption)) | exact DL.fresh_dn (DL.fresh_dn (DL.fresh_dn (by assumption)))))) | exact DL.fresh_ne (by assumption) | exact Ne.symm (DL.fresh_ne (by assumption)) | exact DL.fresh_ne (DL.fresh_dn (by assumption)) | exact Ne.symm (DL.fresh_ne (DL.fresh_dn (by assumption))) | exact DL.fresh_ne (DL.fresh_dn (DL.fresh_dn (by assumption))) | exact Ne.symm (DL.fresh_ne (DL.fresh_dn (DL.fresh_dn (by assumption))))))).trans ?_; first | exact DL.mup_same | assumption | (refine (DL.mup_ne (by (first | assumption | exact Ne.symm (by assumption) | exact DL.ne_at (by assumption) (by (first | assumption | exact DL.fresh_up (by assumption) | exact DL.fresh_dn (by assumption) | exact DL.fresh_dn (DL.fresh_dn (by assumption)) | exact DL.fresh_dn (DL.fresh_dn (DL.fresh_dn (by assumption))))) | exact Ne.symm (DL.ne_at (by assumption) (by (first | assumption | exact DL.fresh_up (by assumption) | exact DL.fresh_dn (by assumption) | exact DL.fresh_dn (DL.fresh_dn (by assumption)) | exact DL.fresh_dn (DL.fresh_dn (DL.fresh_dn (by assumption)))))) | exact DL.fresh_ne (by assumption) | exact Ne.symm (DL.fresh_ne (by assumption)) | exact DL.fresh_ne (DL.fresh_dn (by assumption)) | exact Ne.symm (DL.fresh_ne (DL.fresh_dn (by assumption))) | exact DL.fresh_ne (DL.fresh_dn (DL.fresh_dn (by assumption))) | exact Ne.symm (DL.fresh_ne (DL.fresh_dn (DL.fresh_dn (by assumption))))))).trans ?_; first | exact DL.mup_same | assumption | (refine (DL.mup_ne (by (first | assumption | exact Ne.symm (by assumption) | exact DL.ne_at (by assumption) (by (first | assumption | exact DL.fresh_up (by assumption) | exact DL.fresh_dn (by assumption) | exact DL.fresh_dn (DL.fresh_dn (by assumption)) | exact DL.fresh_dn (DL.fresh_dn (DL.fresh_dn (by assumption))))) | exact Ne.symm (DL.ne_at (by assumption) (by (first | assumption | exact DL.fresh_up (by assumption) | exact DL.fresh_dn (by assumption) | exact DL.fresh_dn (DL.fresh_dn (by assumption)) | exact DL.fresh_dn (DL.fresh_dn (DL.fresh_dn (by assumption)))))) | exact DL.fresh_ne (by assumption) | exact Ne.symm (DL.fresh_ne (by assumption)) | exact DL.fresh_ne (DL.fresh_dn (by assumption)) | exact Ne.symm (DL.fresh_ne (DL.fresh_dn (by assumption))) | exact DL.fresh_ne (DL.fresh_dn (DL.fresh_dn (by assumption))) | exact Ne.symm (DL.fresh_ne (DL.fresh_dn (DL.fresh_dn (by assumption))))))).trans ?_; first | exact DL.mup_same | assumption | (refine (DL.mup_ne (by (first | assumption | exact Ne.symm (by assumption) | exact DL.ne_at (by assumption) (by (first | assumption | exact DL.fresh_up (by assumption) | exact DL.fresh_dn (by assumption) | exact DL.fresh_dn (DL.fresh_dn (by assumption)) | exact DL.fresh_dn (DL.fresh_dn (DL.fresh_dn (by assumption))))) | exact Ne.symm (DL.ne_at (by assumption) (by (first | assumption | exact DL.fresh_up (by assumption) | exact DL.fresh_dn (by assumption) | exact DL.fresh_dn (DL.fresh_dn (by assumption)) | exact DL.fresh_dn (DL.fresh_dn (DL.fresh_dn (by assumption)))))) | exact DL.fresh_ne (by assumption) | exact Ne.symm (DL.fresh_ne (by assumption)) | exact DL.fresh_ne (DL.fresh_dn (by assumption)) | exact Ne.symm (DL.fresh_ne (DL.fresh_dn (by assumption))) | exact DL.fresh_ne (DL.fresh_dn (DL.fresh_dn (by assumption))) | exact Ne.symm (DL.fresh_ne (DL.fresh_dn (DL.fresh_dn (by assumption))))))).trans ?_; first | exact DL.mup_same | assumption | (refine (DL.mup_ne (by (first | assumption | exact Ne.symm (by assumption) | exact DL.ne_at (by assumption) (by (first | assumption | exact DL.fresh_up (by assumption) | exact DL.fresh_dn (by assumption) | exact DL.fresh_dn (DL.fresh_dn (by assumption)) | exact DL.fresh_dn (DL.fresh_dn (DL.fresh_dn (by assumption))))) | exact Ne.symm (DL.ne_at (by assumption) (by (first | assumption | exact DL.fresh_up (by assumption) | exact DL.fresh_dn (by assumption) | exact DL.fresh_dn (DL.fresh_dn (by assumption)) | exact DL.fresh_dn (DL.fresh_dn (DL.fresh_dn (by assumption)))))) | exact DL.fresh_ne (by assumption) | exact Ne.symm (DL.fresh_ne (by assumption)) | exact DL.fresh_ne (DL.fresh_dn (by assumption)) | exact Ne.symm (DL.fresh_ne (DL.fresh_dn (by assumption))) | exact DL.fresh_ne (DL.fresh_dn (DL.fresh_dn (by assumption))) | exact Ne.symm (DL.fresh_ne (DL.fresh_dn (DL.fresh_dn (by assumption))))))).trans ?_; first | exact DL.mup_same | assumption))))))) | exact DL.asL_up (by assumption) (by (first | assumption | exact DL.fresh_up (by assumption) | exact DL.fresh_dn (by assumption) | exact DL.fresh_dn (DL.fresh_dn (by assumption)) | exact DL.fresh_dn (DL.fresh_dn (DL.fresh_dn (by assumption))))) | exact DL.asL_up (DL.asL_up (by assumption) (by (first | assumption | exact DL.fresh_up (by assumption) | exact DL.fresh_dn (by assumption) | exact DL.fresh_dn (DL.fresh_dn (by assumption)) | exact DL.fresh_dn (DL.fresh_dn (DL.fresh_dn (by assumption)))))) (by (first | assumption | exact DL.fresh_up (by assumption) | exact DL.fresh_dn (by assumption) | exact DL.fresh_dn (DL.fresh_dn (by assumption)) | exact DL.fresh_dn (DL.fresh_dn (DL.fresh_dn (by assumption)))))))
local macro_rules | `(tactic| walk_at "LP") => `(tactic| (first | (first | exact rfl | assumption | exact DL.asL_same | exact DL.asL_adr (by (first | exact DL.mup_same | assumption | (refine (DL.mup_ne (by (first | assumption | exact Ne.symm (by assumption) | exact DL.ne_at (by assumption) (by (first | assumption | exact DL.fresh_up (by assumption) | exact DL.fresh_dn (by assumption) | exact DL.fresh_dn (DL.fresh_dn (by assumption)) | exact DL.fresh_dn (DL.fresh_dn (DL.fresh_dn (by assumption))))) | exact Ne.symm (DL.ne_at (by assumption) (by (first | assumption | exact DL.fresh_up (by assumption) | exact DL.fresh_dn (by assumption) | exact DL.fresh_dn (DL.fresh_dn (by assumption)) | exact DL.fresh_dn (DL.fresh_dn (DL.fresh_dn (by assumption)))))) | exact DL.fresh_ne (by assumption) | exact Ne.symm (DL.fresh_ne (by assumption)) | exact DL.fresh_ne (DL.fresh_dn (by assumption)) | exact Ne.symm (DL.fresh_ne (DL.fresh_dn (by assumption))) | exact DL.fresh_ne (DL.fresh_dn (DL.fresh_dn (by assumption))) | exact Ne.symm (DL.fresh_ne (DL.fresh_dn (DL.fresh_dn (by assumption))))))).trans ?_; first | exact DL.mup_same | assumption | (refine (DL.mup_ne (by (first | assumption | exact Ne.symm (by assumption) | exact DL.ne_at (by assumption) (by (first | assumption | exact DL.fresh_up (by assumption) | exact DL.fresh_dn (by assumption) | exact DL.fresh_dn (DL.fresh_dn (by assumption)) | exact DL.fresh_dn (DL.fresh_dn (DL.fresh_dn (by assumption))))) | exact Ne.symm (DL.ne_at (by assumption) (by (first | assumption | exact DL.fresh_up (by assumption) | exact DL.fresh_dn (by assumption) | exact DL.fresh_dn (DL.fresh_dn (by assumption)) | exact DL.fresh_dn (DL.fresh_dn (DL.fresh_dn (by assumption)))))) | exact DL.fresh_ne (by assumption) | exact Ne.symm (DL.fresh_ne (by assumption)) | exact DL.fresh_ne (DL.fresh_dn (by assumption)) | exact Ne.symm (DL.fresh_ne (DL.fresh_dn (by assumption))) | exact DL.fresh_ne (DL.fresh_dn (DL.fresh_dn (by assumption))) | exact Ne.symm (DL.fresh_ne (DL.fresh_dn (DL.fresh_dn (by assumption))))))).trans ?_; first | exact DL.mup_same | assumption | (refine (DL.mup_ne (by (first | assumption | exact Ne.symm (by assumption) | exact DL.ne_at (by assumption) (by (first | assumption | exact DL.fresh_up (by assumption) | exact DL.fresh_dn (by assumption) | exact DL.fresh_dn (DL.fresh_dn (by assumption)) | exact DL.fresh_dn (DL.fresh_dn (DL.fresh_dn (by assumption))))) | exact Ne.symm (DL.ne_at (by assumption) (by (first | assumption | exact DL.fresh_up (by assumption) | exact DL.fresh_dn (by assumption) | exact DL.fresh_dn (DL.fresh_dn (by assumption)) | exact DL.fresh_dn (DL.fresh_dn (DL.fresh_dn (by assumption)))))) | exact DL.fresh_ne (by assumption) | exact Ne.symm (DL.fresh_ne (by assumption)) | exact DL.fresh_ne (DL.fresh_dn (by assumption)) | exact Ne.symm (DL.fresh_ne (DL.fresh_dn (by assumption))) | exact DL.fresh_ne (DL.fresh_dn (DL.fresh_dn (by assumption))) | exact Ne.symm (DL.fresh_ne (DL.fresh_dn (DL.fresh_dn (by assumption))))))).trans ?_; first | exact DL.mup_same | assumption | (refine (DL.mup_ne (by (first | assumption | exact Ne.symm (by assumption) | exact DL.ne_at (by assumption) (by (first | assumption | exact DL.fresh_up (by assumption) | exact DL.fresh_dn (by assumption) | exact DL.fresh_dn (DL.fresh_dn (by assumption)) | exact DL.fresh_dn (DL.fresh_dn (DL.fresh_dn (by assumption))))) | exact Ne.symm (DL.ne_at (by assumption) (by (first | assumption | exact DL.fresh_up (by assumption) | exact DL.fresh_dn (by assumption) | exact DL.fresh_dn (DL.fresh_dn (by assumption)) | exact DL.fresh_dn (DL.fresh_dn (DL.fresh_dn (by assumption)))))) | exact DL.fresh_ne (by assumption) | exact Ne.symm (DL.fresh_ne (by assumption)) | exact DL.fresh_ne (DL.fresh_dn (by assumption)) | exact Ne.symm (DL.fresh_ne (DL.fresh_dn (by assumption))) | exact DL.fresh_ne (DL.fresh_dn (DL.fresh_dn (by assumption))) | exact Ne.symm (DL.fresh_ne (DL.fresh_dn (DL.fresh_dn (by assumption))))))).trans ?_; first | exact DL.mup_same | assumption | (refine (DL.mup_ne (by (first | assumption | exact Ne.symm (by assumption) | exact DL.ne_at (by assumption) (by (first | assumption | exact DL.fresh_up (by assumption) | exact DL.fresh_dn (by assumption) | exact DL.fresh_dn (DL.fresh_dn (by assumption)) | exact DL.fresh_dn (DL.fresh_dn (DL.fresh_dn (by assumption))))) | exact Ne.symm (DL.ne_at (by assumption) (by (first | assumption | exact DL.fresh_up (by assumption) | exact DL.fresh_dn (by assumption) | exact DL.fresh_dn (DL.fresh_dn (by assumption)) | exact DL.fresh_dn (DL.fresh_dn (DL.fresh_dn (by assumption)))))) | exact DL.fresh_ne (by assumption) | exact Ne.symm (DL.fresh_ne (by assumption)) | exact DL.fresh_ne (DL.fresh_dn (by assumption)) | exact Ne.symm (DL.fresh_ne (DL.fresh_dn (by assumption))) | exact DL.fresh_ne (DL.fresh_dn (DL.fresh_dn (by assumption))) | exact Ne.symm (DL.fresh_ne (DL.fresh_dn (DL.fresh_dn (by assumption))))))).trans ?_; first | exact DL.mup_same | assumption))))))) | exact DL.asL_up (by assumption) (by (first | assumption | exact DL.fresh_up (by assumption) | exact DL.fresh_dn (by assumption) | exact DL.fresh_dn (DL.fresh_dn (by assumption)) | exact DL.fresh_dn (DL.fresh_dn (DL.fresh_dn (by assumption))))) | exact DL.asL_up (DL.asL_up (by assumption) (by (first | assumption | exact DL.fresh_up (by assumption) | exact DL.fresh_dn (by assumption) | exact DL.fresh_dn (DL.fresh_dn (by assumption)) | exact DL.fresh_dn (DL.fresh_dn (DL.fresh_dn (by assumption)))))) (by (first | assumption | exact DL.fresh_up (by assumption) | exact DL.fresh_dn (by assumption) | exact DL.fresh_dn (DL.fresh_dn (by assumption)) | exact DL.fresh_dn (DL.fresh_dn (DL.fresh_dn (by assumption)))))) | walk_at "P"))
local macro_rules | `(tactic| walk_at "t") => `(tactic| (first | (simp only [DL.tgSet, DL.fsets, DL.fset, DL.fwipe, DL.fwipe.fdel, List.map_cons, List.map_nil, Toy.Let.d]; exact rfl)))
local macro_rules | `(tactic| walk_at "A") => `(tactic| (first | exact rfl | refine DL.consEq (by walk_at "R1") (by walk_at "A")))
local macro_rules | `(tactic| walk_at "R1") => `(tactic| (first | exact rfl | exact (rfl : _ = Toy.obD (some _)) | exact (rfl : _ = Toy.obD none) | exact (rfl : _ = Toy.oiD (some _)) | exact (rfl : _ = Toy.oiD none) | exact congrArg DL.D.int (Int.toNat_of_nonneg (by (first | omega | (simp only [List.length_map, List.length_range, List.length_cons, List.length_nil, List.length_append]; omega)))).symm | walk_at "R"))
local macro_rules | `(tactic| walk_at "call") => `(tactic| (first | refine Exists.intro _ (Exists.intro _ (And.intro (by walk_at "A") (And.intro (by walk_at "LP") (And.intro (by walk_at "LP") ?_)))) | refine Exists.intro _ (Exists.intro _ (And.intro (by walk_at "A") (And.intro (by walk_at "LP") ?_))) | refine Exists.intro _ (Exists.intro _ (And.intro (by walk_at "A") ?_)) | refine Exists.intro _ (Exists.intro _ (Exists.intro _ (And.intro (by walk_at "A") (And.intro (by walk_at "LP") (And.intro (by walk_at "LP") ?_))))) | refine Exists.intro _ (Exists.intro _ (Exists.intro _ (And.intro (by walk_at "A") (And.intro (by walk_at "LP") ?_)))) | refine Exists.intro _ (Exists.intro _ (Exists.intro _ (And.intro (by walk_at "A") ?_))) | refine Exists.intro _ (Exists.intro _ (Exists.intro _ (Exists.intro _ (And.intro (by walk_at "A") (And.intro (by walk_at "LP") (And.intro (by walk_at "LP") ?_)))))) | refine Exists.intro _ (Exists.intro _ (Exists.intro _ (Exists.intro _ (And.intro (by walk_at "A") (And.intro (by walk_at "LP") ?_))))) | refine Exists.intro _ (Exists.intro _ (Exists.intro _ (Exists.intro _ (And.intro (by walk_at "A") ?_)))) | refine Exists.intro _ (Exists.intro _ (Exists.intro _ (Exists.intro _ (Exists.intro _ (And.intro (by walk_at "A") (And.intro (by walk_at "LP") (And.intro (by walk_at "LP") ?_))))))) | refine Exists.intro _ (Exists.intro _ (Exists.intro _ (Exists.intro _ (Exists.intro _ (And.intro (by walk_at "A") (And.intro (by walk_at "LP") ?_)))))) | refine Exists.intro _ (Exists.intro _ (Exists.intro _ (Exists.intro _ (Exists.intro _ (And.intro (by walk_at "A") ?_))))) | refine Exists.intro _ (Exists.intro _ (Exists.intro _ (Exists.intro _ (Exists.intro _ (Exists.intro _ (And.intro (by walk_at "A") (And.intro (by walk_at "LP") (And.intro (by walk_at "LP") ?_)))))))) | refine Exists.intro _ (Exists.intro _ (Exists.intro _ (Exists.intro _ (Exists.intro _ (Exists.intro _ (And.intro (by walk_at "A") (And.intro (by walk_at "LP") ?_))))))) | refine Exists.intro _ (Exists.intro _ (Exists.intro _ (Exists.intro _ (Exists.intro _ (Exists.intro _ (And.intro (by walk_at "A") ?_)))))) | refine Exists.intro _ (Exists.intro _ (Exists.intro _ (Exists.intro _ (Exists.intro _ (Exists.intro _ (Exists.intro _ (And.intro (by walk_at "A") (And.intro (by walk_at "LP") (And.intro (by walk_at "LP") ?_))))))))) | refine Exists.intro _ (Exists.intro _ (Exists.intro _ (Exists.intro _ (Exists.intro _ (Exists.intro _ (Exists.intro _ (And.intro (by walk_at "A") (And.intro (by walk_at "LP") ?_)))))))) | refine Exists.intro _ (Exists.intro _ (Exists.intro _ (Exists.intro _ (Exists.intro _ (Exists.intro _ (Exists.intro _ (And.intro (by walk_at "A") ?_))))))) | refine Exists.intro _ (Exists.intro _ (Exists.intro _ (Exists.intro _ (Exists.intro _ (Exists.intro _ (Exists.intro _ (Exists.intro _ (And.intro (by walk_at "A") (And.intro (by walk_at "LP") (And.intro (by walk_at "LP") ?_)))))))))) | refine Exists.intro _ (Exists.intro _ (Exists.intro _ (Exists.intro _ (Exists.intro _ (Exists.intro _ (Exists.intro _ (Exists.intro _ (And.intro (by walk_at "A") (And.intro (by walk_at "LP") ?_))))))))) | refine Exists.intro _ (Exists.intro _ (Exists.intro _ (Exists.intro _ (Exists.intro _ (Exists.intro _ (Exists.intro _ (Exists.intro _ (And.intro (by walk_at "A") ?_)))))))) | refine Exists.intro _ (Exists.intro _ (Exists.intro _ (Exists.intro _ (Exists.intro _ (Exists.intro _ (Exists.intro _ (Exists.intro _ (Exists.intro _ (And.intro (by walk_at "A") (And.intro (by walk_at "LP") (And.intro (by walk_at "LP") ?_))))))))))) | refine Exists.intro _ (Exists.intro _ (Exists.intro _ (Exists.intro _ (Exists.intro _ (Exists.intro _ (Exists.intro _ (Exists.intro _ (Exists.intro _ (And.intro (by walk_at "A") (And.intro (by walk_at "LP") ?_)))))))))) | refine Exists.intro _ (Exists.intro _ (Exists.intro _ (Exists.intro _ (Exists.intro _ (Exists.intro _ (Exists.intro _ (Exists.intro _ (Exists.intro _ (And.intro (by walk_at "A") ?_))))))))) | refine Exists.intro _ (Exists.intro _ (Exists.intro _ (Exists.intro _ (Exists.intro _ (Exists.intro _ (Exists.intro _ (Exists.intro _ (Exists.intro _ (Exists.intro _ (And.intro (by walk_at "A") (And.intro (by walk_at "LP") (And.intro (by walk_at "LP") ?_)))))))))))) | refine Exists.intro _ (Exists.intro _ (Exists.intro _ (Exists.intro _ (Exists.intro _ (Exists.intro _ (Exists.intro _ (Exists.intro _ (Exists.intro _ (Exists.intro _ (And.intro (by walk_at "A") (And.intro (by walk_at "LP") ?_))))))))))) | refine Exists.intro _ (Exists.intro _ (Exists.intro _ (Exists.intro _ (Exists.intro _ (Exists.intro _ (Exists.intro _ (Exists.intro _ (Exists.intro _ (Exists.intro _ (And.intro (by walk_at "A") ?_))))))))))))
set_option hygiene false in
local macro_rules | `(tactic| walk_at "P") => `(tactic| first | exact BkR.up (by assumption) (by first | assumption | exact DL.fresh_up (by assumption) | exact DL.fresh_dn (by assumption) | exact DL.fresh_dn (DL.fresh_dn (by assumption)) | exact DL.fresh_dn (DL.fresh_dn (DL.fresh_dn (by assumption)))) | exact BkR.up (BkR.up (by assumption) (by first | assumption | exact DL.fresh_up (by assumption) | exact DL.fresh_dn (by assumption) | exact DL.fresh_dn (DL.fresh_dn (by assumption)) | exact DL.fresh_dn (DL.fresh_dn (DL.fresh_dn (by assumption))))) (by first | assumption | exact DL.fresh_up (by assumption) | exact DL.fresh_dn (by assumption) | exact DL.fresh_dn (DL.fresh_dn (by assumption)) | exact DL.fresh_dn (DL.fresh_dn (DL.fresh_dn (by assumption)))))
set_option hygiene false in
local macro_rules | `(tactic| walk_at "g") => `(tactic| ((try dsimp only [DL.fstart]); (repeat' ((conv => whnf); first | (show And _ _; (first | (show (_ = true → _) ∧ (_ = false → _); refine And.intro (fun hb => ?_) (fun hb => ?_) <;> try (walk_at "k")) | (show (_ = _) ∧ _; refine And.intro (by (first | exact rfl | exact DL.dty_lst (by (first | exact DL.mup_same | assumption | (refine (DL.mup_ne (by (first | assumption | exact Ne.symm (by assumption) | exact DL.ne_at (by assumption) (by (first | assumption | exact DL.fresh_up (by assumption) | exact DL.fresh_dn (by assumption) | exact DL.fresh_dn (DL.fresh_dn (by assumption)) | exact DL.fresh_dn (DL.fresh_dn (DL.fresh_dn (by assumption))))) | exact Ne.symm (DL.ne_at (by assumption) (by (first | assumption | exact DL.fresh_up (by assumption) | exact DL.fresh_dn (by assumption) | exact DL.fresh_dn (DL.fresh_dn (by assumption)) | exact DL.fresh_dn (DL.fresh_dn (DL.fresh_dn (by assumption)))))) | exact DL.fresh_ne (by assumption) | exact Ne.symm (DL.fresh_ne (by assumption)) | exact DL.fresh_ne (DL.fresh_dn (by assumption)) | exact Ne.symm (DL.fresh_ne (DL.fresh_dn (by assumption))) | exact DL.fresh_ne (DL.fresh_dn (DL.fresh_dn (by assumption))) | exact Ne.symm (DL.fresh_ne (DL.fresh_dn (DL.fresh_dn (by assumption))))))).trans ?_; first | exact DL.mup_same | assumption | (refine (DL.mup_ne (by (first | assumption | exact Ne.symm (by assumption) | exact DL.ne_at (by assumption) (by (first | assumption | exact DL.fresh_up (by assumption) | exact DL.fresh_dn (by assumption) | exact DL.fresh_dn (DL.fresh_dn (by assumption)) | exact DL.fresh_dn (DL.fresh_dn (DL.fresh_dn (by assumption))))) | exact Ne.symm (DL.ne_at (by assumption) (by (first | assumption | exact DL.fresh_up (by assumption) | exact DL.fresh_dn (by assumption) | exact DL.fresh_dn (DL.fresh_dn (by assumption)) | exact DL.fresh_dn (DL.fresh_dn (DL.fresh_dn (by assumption)))))) | exact DL.fresh_ne (by assumption) | exact Ne.symm (DL.fresh_ne (by assumption)) | exact DL.fresh_ne (DL.fresh_dn (by assumption)) | exact Ne.symm (DL.fresh_ne (DL.fresh_dn (by assumption))) | exact DL.fresh_ne (DL.fresh_dn (DL.fresh_dn (by assumption))) | exact Ne.symm (DL.fresh_ne (DL.fresh_dn (DL.fresh_dn (by assumption))))))).trans ?_; first | exact DL.mup_same | assumption | (refine (DL.mup_ne (by (first | assumption | exact Ne.symm (by assumption) | exact DL.ne_at (by assumption) (by (first | assumption | exact DL.fresh_up (by assumption) | exact DL.fresh_dn (by assumption) | exact DL.fresh_dn (DL.fresh_dn (by assumption)) | exact DL.fresh_dn (DL.fresh_dn (DL.fresh_dn (by assumption))))) | exact Ne.symm (DL.ne_at (by assumption) (by (first | assumption | exact DL.fresh_up (by assumption) | exact DL.fresh_dn (by assumption) | exact DL.fresh_dn (DL.fresh_dn (by assumption)) | exact DL.fresh_dn (DL.fresh_dn (DL.fresh_dn (by assumption)))))) | exact DL.fresh_ne (by assumption) | exact Ne.symm (DL.fresh_ne (by assumption)) | exact DL.fresh_ne (DL.fresh_dn (by assumption)) | exact Ne.symm (DL.fresh_ne (DL.fresh_dn (by assumption))) | exact DL.fresh_ne (DL.fresh_dn (DL.fresh_dn (by assumption))) | exact Ne.symm (DL.fresh_ne (DL.fresh_dn (DL.fresh_dn (by assumption))))))).trans ?_; first | exact DL.mup_same | assumption | (refine (DL.mup_ne (by (first | assumption | exact Ne.symm (by assumption) | exact DL.ne_at (by assumption) (by (first | assumption | exact DL.fresh_up (by assumption) | exact DL.fresh_dn (by assumption) | exact DL.fresh_dn (DL.fresh_dn (by assumption)) | exact DL.fresh_dn (DL.fresh_dn (DL.fresh_dn (by assumption))))) | exact Ne.symm (DL.ne_at (by assumption) (by (first | assumption | exact DL.fresh_up (by assumption) | exact DL.fresh_dn (by assumption) | exact DL.fresh_dn (DL.fresh_dn (by assumption)) | exact DL.fresh_dn (DL.fresh_dn (DL.fresh_dn (by assumption)))))) | exact DL.fresh_ne (by assumption) | exact Ne.symm (DL.fresh_ne (by assumption)) | exact DL.fresh_ne (DL.fresh_dn (by assumption)) | exact Ne.symm (DL.fresh_ne (DL.fresh_dn (by assumption))) | exact DL.fresh_ne (DL.fresh_dn (DL.fresh_dn (by assumption))) | exact Ne.symm (DL.fresh_ne (DL.fresh_dn (DL.fresh_dn (by assumption))))))).trans ?_; first | exact DL.mup_same | assumption | (refine (DL.mup_ne (by (first | assumption | exact Ne.symm (by assumption) | exact DL.ne_at (by assumption) (by (first | assumption | exact DL.fresh_up (by assumption) | exact DL.fresh_dn (by assumption) | exact DL.fresh_dn (DL.fresh_dn (by assumption)) | exact DL.fresh_dn (DL.fresh_dn (DL.fresh_dn (by assumption))))) | exact Ne.symm (DL.ne_at (by assumption) (by (first | assumption | exact DL.fresh_up (by assumption) | exact DL.fresh_dn (by assumption) | exact DL.fresh_dn (DL.fresh_dn (by assumption)) | exact DL.fresh_dn (DL.fresh_dn (DL.fresh_dn (by assumption)))))) | exact DL.fresh_ne (by assumption) | exact Ne.symm (DL.fresh_ne (by assumption)) | exact DL.fresh_ne (DL.fresh_dn (by assumption)) | exact Ne.symm (DL.fresh_ne (DL.fresh_dn (by assumption))) | exact DL.fresh_ne (DL.fresh_dn (DL.fresh_dn (by assumption))) | exact Ne.symm (DL.fresh_ne (DL.fresh_dn (DL.fresh_dn (by assumption))))))).trans ?_; first | exact DL.mup_same | assumption))))))) | assumption | exact DL.asL_adr (by (first | exact DL.mup_same | assumption | (refine (DL.mup_ne (by (first | assumption | exact Ne.symm (by assumption) | exact DL.ne_at (by assumption) (by (first | assumption | exact DL.fresh_up (by assumption) | exact DL.fresh_dn (by assumption) | exact DL.fresh_dn (DL.fresh_dn (by assumption)) | exact DL.fresh_dn (DL.fresh_dn (DL.fresh_dn (by assumption))))) | exact Ne.symm (DL.ne_at (by assumption) (by (first | assumption | exact DL.fresh_up (by assumption) | exact DL.fresh_dn (by assumption) | exact DL.fresh_dn (DL.fresh_dn (by assumption)) | exact DL.fresh_dn (DL.fresh_dn (DL.fresh_dn (by assumption)))))) | exact DL.fresh_ne (by assumption) | exact Ne.symm (DL.fresh_ne (by assumption)) | exact DL.fresh_ne (DL.fresh_dn (by assumption)) | exact Ne.symm (DL.fresh_ne (DL.fresh_dn (by assumption))) | exact DL.fresh_ne (DL.fresh_dn (DL.fresh_dn (by assumption))) | exact Ne.symm (DL.fresh_ne (DL.fresh_dn (DL.fresh_dn (by assumption))))))).trans ?_; first | exact DL.mup_same | assumption | (refine (DL.mup_ne (by (first | assumption | exact Ne.symm (by assumption) | exact DL.ne_at (by assumption) (by (first | assumption | exact DL.fresh_up (by assumption) | exact DL.fresh_dn (by assumption) | exact DL.fresh_dn (DL.fresh_dn (by assumption)) | exact DL.fresh_dn (DL.fresh_dn (DL.fresh_dn (by assumption))))) | exact Ne.symm (DL.ne_at (by assumption) (by (first | assumption | exact DL.fresh_up (by assumption) | exact DL.fresh_dn (by assumption) | exact DL.fresh_dn (DL.fresh_dn (by assumption)) | exact DL.fresh_dn (DL.fresh_dn (DL.fresh_dn (by assumption)))))) | exact DL.fresh_ne (by assumption) | exact Ne.symm (DL.fresh_ne (by assumption)) | exact DL.fresh_ne (DL.fresh_dn (by assumption)) | exact Ne.symm (DL.fresh_ne (DL.fresh_dn (by assumption))) | exact DL.fresh_ne (DL.fresh_dn (DL.fresh_dn (by assumption))) | exact Ne.symm (DL.fresh_ne (DL.fresh_dn (DL.fresh_dn (by assumption))))))).trans ?_; first | exact DL.mup_same | assumption | (refine (DL.mup_ne (by (first | assumption | exact Ne.symm (by assumption) | exact DL.ne_at (by assumption) (by (first | assumption | exact DL.fresh_up (by assumption) | exact DL.fresh_dn (by assumption) | exact DL.fresh_dn (DL.fresh_dn (by assumption)) | exact DL.fresh_dn (DL.fresh_dn (DL.fresh_dn (by assumption))))) | exact Ne.symm (DL.ne_at (by assumption) (by (first | assumption | exact DL.fresh_up (by assumption) | exact DL.fresh_dn (by assumption) | exact DL.fresh_dn (DL.fresh_dn (by assumption)) | exact DL.fresh_dn (DL.fresh_dn (DL.fresh_dn (by assumption)))))) | exact DL.fresh_ne (by assumption) | exact Ne.symm (DL.fresh_ne (by assumption)) | exact DL.fresh_ne (DL.fresh_dn (by assumption)) | exact Ne.symm (DL.fresh_ne (DL.fresh_dn (by assumption))) | exact DL.fresh_ne (DL.fresh_dn (DL.fresh_dn (by assumption))) | exact Ne.symm (DL.fresh_ne (DL.fresh_dn (DL.fresh_dn (by assumption))))))).trans ?_; first | exact DL.mup_same | assumption | (refine (DL.mup_ne (by (first | assumption | exact Ne.symm (by assumption) | exact DL.ne_at (by assumption) (by (first | assumption | exact DL.fresh_up (by assumption) | exact DL.fresh_dn (by assumption) | exact DL.fresh_dn (DL.fresh_dn (by assumption)) | exact DL.fresh_dn (DL.fresh_dn (DL.fresh_dn (by assumption))))) | exact Ne.symm (DL.ne_at (by assumption) (by (first | assumption | exact DL.fresh_up (by assumption) | exact DL.fresh_dn (by assumption) | exact DL.fresh_dn (DL.fresh_dn (by assumption)) | exact DL.fresh_dn (DL.fresh_dn (DL.fresh_dn (by assumption)))))) | exact DL.fresh_ne (by assumption) | exact Ne.symm (DL.fresh_ne (by assumption)) | exact DL.fresh_ne (DL.fresh_dn (by assumption)) | exact Ne.symm (DL.fresh_ne (DL.fresh_dn (by assumption))) | exact DL.fresh_ne (DL.fresh_dn (DL.fresh_dn (by assumption))) | exact Ne.symm (DL.fresh_ne (DL.fresh_dn (DL.fresh_dn (by assumption))))))).trans ?_; first | exact DL.mup_same | assumption | (refine (DL.mup_ne (by (first | assumption | exact Ne.symm (by assumption) | exact DL.ne_at (by assumption) (by (first | assumption | exact DL.fresh_up (by assumption) | exact DL.fresh_dn (by assumption) | exact DL.fresh_dn (DL.fresh_dn (by assumption)) | exact DL.fresh_dn (DL.fresh_dn (DL.fresh_dn (by assumption))))) | exact Ne.symm (DL.ne_at (by assumption) (by (first | assumption | exact DL.fresh_up (by assumption) | exact DL.fresh_dn (by assumption) | exact DL.fresh_dn (DL.fresh_dn (by assumption)) | exact DL.fresh_dn (DL.fresh_dn (DL.fresh_dn (by assumption)))))) | exact DL.fresh_ne (by assumption) | exact Ne.symm (DL.fresh_ne (by assumption)) | exact DL.fresh_ne (DL.fresh_dn (by assumption)) | exact Ne.symm (DL.fresh_ne (DL.fresh_dn (by assumption))) | exact DL.fresh_ne (DL.fresh_dn (DL.fresh_dn (by assumption))) | exact Ne.symm (DL.fresh_ne (DL.fresh_dn (DL.fresh_dn (by assumption))))))).trans ?_; first | exact DL.mup_same | assumption))))))) | exact DL.asL_up (by assumption) (by (first | assumption | exact DL.fresh_up (by assumption) | exact DL.fresh_dn (by assumption) | exact DL.fresh_dn (DL.fresh_dn (by assumption)) | exact DL.fresh_dn (DL.fresh_dn (DL.fresh_dn (by assumption))))) | exact DL.asL_up (DL.asL_up (by assumption) (by (first | assumption | exact DL.fresh_up (by assumption) | exact DL.fresh_dn (by assumption) | exact DL.fresh_dn (DL.fresh_dn (by assumption)) | exact DL.fresh_dn (DL.fresh_dn (DL.fresh_dn (by assumption)))))) (by (first | assumption | exact DL.fresh_up (by assumption) | exact DL.fresh_dn (by assumption) | exact DL.fresh_dn (DL.fresh_dn (by assumption)) | exact DL.fresh_dn (DL.fresh_dn (DL.fresh_dn (by assumption))))) | exact DL.mup_same | exact DL.fit_ints _ | omega | (first | exact DL.mup_same | assumption | (refine (DL.mup_ne (by (first | assumption | exact Ne.symm (by assumption) | exact DL.ne_at (by assumption) (by (first | assumption | exact DL.fresh_up (by assumption) | exact DL.fresh_dn (by assumption) | exact DL.fresh_dn (DL.fresh_dn (by assumption)) | exact DL.fresh_dn (DL.fresh_dn (DL.fresh_dn (by assumption))))) | exact Ne.symm (DL.ne_at (by assumption) (by (first | assumption | exact DL.fresh_up (by assumption) | exact DL.fresh_dn (by assumption) | exact DL.fresh_dn (DL.fresh_dn (by assumption)) | exact DL.fresh_dn (DL.fresh_dn (DL.fresh_dn (by assumption)))))) | exact DL.fresh_ne (by assumption) | exact Ne.symm (DL.fresh_ne (by assumption)) | exact DL.fresh_ne (DL.fresh_dn (by assumption)) | exact Ne.symm (DL.fresh_ne (DL.fresh_dn (by assumption))) | exact DL.fresh_ne (DL.fresh_dn (DL.fresh_dn (by assumption))) | exact Ne.symm (DL.fresh_ne (DL.fresh_dn (DL.fresh_dn (by assumption))))))).trans ?_; first | exact DL.mup_same | assumption | (refine (DL.mup_ne (by (first | assumption | exact Ne.symm (by assumption) | exact DL.ne_at (by assumption) (by (first | assumption | exact DL.fresh_up (by assumption) | exact DL.fresh_dn (by assumption) | exact DL.fresh_dn (DL.fresh_dn (by assumption)) | exact DL.fresh_dn (DL.fresh_dn (DL.fresh_dn (by assumption))))) | exact Ne.symm (DL.ne_at (by assumption) (by (first | assumption | exact DL.fresh_up (by assumption) | exact DL.fresh_dn (by assumption) | exact DL.fresh_dn (DL.fresh_dn (by assumption)) | exact DL.fresh_dn (DL.fresh_dn (DL.fresh_dn (by assumption)))))) | exact DL.fresh_ne (by assumption) | exact Ne.symm (DL.fresh_ne (by assumption)) | exact DL.fresh_ne (DL.fresh_dn (by assumption)) | exact Ne.symm (DL.fresh_ne (DL.fresh_dn (by assumption))) | exact DL.fresh_ne (DL.fresh_dn (DL.fresh_dn (by assumption))) | exact Ne.symm (DL.fresh_ne (DL.fresh_dn (DL.fresh_dn (by assumption))))))).trans ?_; first | exact DL.mup_same | assumption | (refine (DL.mup_ne (by (first | assumption | exact Ne.symm (by assumption) | exact DL.ne_at (by assumption) (by (first | assumption | exact DL.fresh_up (by assumption) | exact DL.fresh_dn (by assumption) | exact DL.fresh_dn (DL.fresh_dn (by assumption)) | exact DL.fresh_dn (DL.fresh_dn (DL.fresh_dn (by assumption))))) | exact Ne.symm (DL.ne_at (by assumption) (by (first | assumption | exact DL.fresh_up (by assumption) | exact DL.fresh_dn (by assumption) | exact DL.fresh_dn (DL.fresh_dn (by assumption)) | exact DL.fresh_dn (DL.fresh_dn (DL.fresh_dn (by assumption)))))) | exact DL.fresh_ne (by assumption) | exact Ne.symm (DL.fresh_ne (by assumption)) | exact DL.fresh_ne (DL.fresh_dn (by assumption)) | exact Ne.symm (DL.fresh_ne (DL.fresh_dn (by assumption))) | exact DL.fresh_ne (DL.fresh_dn (DL.fresh_dn (by assumption))) | exact Ne.symm (DL.fresh_ne (DL.fresh_dn (DL.fresh_dn (by assumption))))))).trans ?_; first | exact DL.mup_same | assumption | (refine (DL.mup_ne (by (first | assumption | exact Ne.symm (by assumption) | exact DL.ne_at (by assumption) (by (first | assumption | exact DL.fresh_up (by assumption) | exact DL.fresh_dn (by assumption) | exact DL.fresh_dn (DL.fresh_dn (by assumption)) | exact DL.fresh_dn (DL.fresh_dn (DL.fresh_dn (by assumption))))) | exact Ne.symm (DL.ne_at (by assumption) (by (first | assumption | exact DL.fresh_up (by assumption) | exact DL.fresh_dn (by assumption) | exact DL.fresh_dn (DL.fresh_dn (by assumption)) | exact DL.fresh_dn (DL.fresh_dn (DL.fresh_dn (by assumption)))))) | exact DL.fresh_ne (by assumption) | exact Ne.symm (DL.fresh_ne (by assumption)) | exact DL.fresh_ne (DL.fresh_dn (by assumption)) | exact Ne.symm (DL.fresh_ne (DL.fresh_dn (by assumption))) | exact DL.fresh_ne (DL.fresh_dn (DL.fresh_dn (by assumption))) | exact Ne.symm (DL.fresh_ne (DL.fresh_dn (DL.fresh_dn (by assumption))))))).trans ?_; first | exact DL.mup_same | assumption | (refine (DL.mup_ne (by (first | assumption | exact Ne.symm (by assumption) | exact DL.ne_at (by assumption) (by (first | assumption | exact DL.fresh_up (by assumption) | exact DL.fresh_dn (by assumption) | exact DL.fresh_dn (DL.fresh_dn (by assumption)) | exact DL.fresh_dn (DL.fresh_dn (DL.fresh_dn (by assumption))))) | exact Ne.symm (DL.ne_at (by assumption) (by (first | assumption | exact DL.fresh_up (by assumption) | exact DL.fresh_dn (by assumption) | exact DL.fresh_dn (DL.fresh_dn (by assumption)) | exact DL.fresh_dn (DL.fresh_dn (DL.fresh_dn (by assumption)))))) | exact DL.fresh_ne (by assumption) | exact Ne.symm (DL.fresh_ne (by assumption)) | exact DL.fresh_ne (DL.fresh_dn (by assumption)) | exact Ne.symm (DL.fresh_ne (DL.fresh_dn (by assumption))) | exact DL.fresh_ne (DL.fresh_dn (DL.fresh_dn (by assumption))) | exact Ne.symm (DL.fresh_ne (DL.fresh_dn (DL.fresh_dn (by assumption))))))).trans ?_; first | exact DL.mup_same | assumption)))))))) ?_) | (show (_ ≤ _) ∧ _; refine And.intro (by first | exact DL.sz (Nat.le_of_ble_eq_true rfl) | (refine DL.sz ?_; first | omega | (simp only [PySem.Str.length_append]; omega) | (simp only [List.length_map, List.length_append, List.length_range, List.length_cons, List.length_nil]; omega) | (simp; done) | (simp; omega)) | assumption | exact Nat.le_trans (List.length_filter_le ..) (by omega) | first | omega | (simp only [PySem.Str.length_append]; omega) | (simp only [List.length_map, List.length_append, List.length_range, List.length_cons, List.length_nil]; omega) | (simp; done) | (simp; omega)) ?_; try rw [DL.mup_mup]) | (show (_ < _) ∧ _; refine And.intro (by first | exact DL.szl (Nat.le_of_ble_eq_true rfl) | (refine DL.szl ?_; first | omega | (simp only [PySem.Str.length_append]; omega) | (simp only [List.length_map, List.length_append, List.length_range, List.length_cons, List.length_nil]; omega) | (simp; done) | (simp; omega)) | assumption | first | omega | (simp only [PySem.Str.length_append]; omega) | (simp only [List.length_map, List.length_append, List.length_range, List.length_cons, List.length_nil]; omega) | (simp; done) | (simp; omega)) ?_; try rw [DL.mup_mup]) | (show (Exists _) ∧ _; refine And.intro (by first | exact Exists.intro _ (by (first | exact DL.asK_cell (by (first | exact DL.mup_same | assumption | (refine (DL.mup_ne (by (first | assumption | exact Ne.symm (by assumption) | exact DL.ne_at (by assumption) (by (first | assumption | exact DL.fresh_up (by assumption) | exact DL.fresh_dn (by assumption) | exact DL.fresh_dn (DL.fresh_dn (by assumption)) | exact DL.fresh_dn (DL.fresh_dn (DL.fresh_dn (by assumption))))) | exact Ne.symm (DL.ne_at (by assumption) (by (first | assumption | exact DL.fresh_up (by assumption) | exact DL.fresh_dn (by assumption) | exact DL.fresh_dn (DL.fresh_dn (by assumption)) | exact DL.fresh_dn (DL.fresh_dn (DL.fresh_dn (by assumption)))))) | exact DL.fresh_ne (by assumption) | exact Ne.symm (DL.fresh_ne (by assumption)) | exact DL.fresh_ne (DL.fresh_dn (by assumption)) | exact Ne.symm (DL.fresh_ne (DL.fresh_dn (by assumption))) | exact DL.fresh_ne (DL.fresh_dn (DL.fresh_dn (by assumption))) | exact Ne.symm (DL.fresh_ne (DL.fresh_dn (DL.fresh_dn (by assumption))))))).trans ?_; first | exact DL.mup_same | assumption | (refine (DL.mup_ne (by (first | assumption | exact Ne.symm (by assumption) | exact DL.ne_at (by assumption) (by (first | assumption | exact DL.fresh_up (by assumption) | exact DL.fresh_dn (by assumption) | exact DL.fresh_dn (DL.fresh_dn (by assumption)) | exact DL.fresh_dn (DL.fresh_dn (DL.fresh_dn (by assumption))))) | exact Ne.symm (DL.ne_at (by assumption) (by (first | assumption | exact DL.fresh_up (by assumption) | exact DL.fresh_dn (by assumption) | exact DL.fresh_dn (DL.fresh_dn (by assumption)) | exact DL.fresh_dn (DL.fresh_dn (DL.fresh_dn (by assumption)))))) | exact DL.fresh_ne (by assumption) | exact Ne.symm (DL.fresh_ne (by assumption)) | exact DL.fresh_ne (DL.fresh_dn (by assumption)) | exact Ne.symm (DL.fresh_ne (DL.fresh_dn (by assumption))) | exact DL.fresh_ne (DL.fresh_dn (DL.fresh_dn (by assumption))) | exact Ne.symm (DL.fresh_ne (DL.fresh_dn (DL.fresh_dn (by assumption))))))).trans ?_; first | exact DL.mup_same | assumption | (refine (DL.mup_ne (by (first | assumption | exact Ne.symm (by assumption) | exact DL.ne_at (by assumption) (by (first | assumption | exact DL.fresh_up (by assumption) | exact DL.fresh_dn (by assumption) | exact DL.fresh_dn (DL.fresh_dn (by assumption)) | exact DL.fresh_dn (DL.fresh_dn (DL.fresh_dn (by assumption))))) | exact Ne.symm (DL.ne_at (by assumption) (by (first | assumption | exact DL.fresh_up (by assumption) | exact DL.fresh_dn (by assumption) | exact DL.fresh_dn (DL.fresh_dn (by assumption)) | exact DL.fresh_dn (DL.fresh_dn (DL.fresh_dn (by assumption)))))) | exact DL.fresh_ne (by assumption) | exact Ne.symm (DL.fresh_ne (by assumption)) | exact DL.fresh_ne (DL.fresh_dn (by assumption)) | exact Ne.symm (DL.fresh_ne (DL.fresh_dn (by assumption))) | exact DL.fresh_ne (DL.fresh_dn (DL.fresh_dn (by assumption))) | exact Ne.symm (DL.fresh_ne (DL.fresh_dn (DL.fresh_dn (by assumption))))))).trans ?_; first | exact DL.mup_same | assumption | (refine (DL.mup_ne (by (first | assumption | exact Ne.symm (by assumption) | exact DL.ne_at (by assumption) (by (first | assumption | exact DL.fresh_up (by assumption) | exact DL.fresh_dn (by assumption) | exact DL.fresh_dn (DL.fresh_dn (by assumption)) | exact DL.fresh_dn (DL.fresh_dn (DL.fresh_dn (by assumption))))) | exact Ne.symm (DL.ne_at (by assumption) (by (first | assumption | exact DL.fresh_up (by assumption) | exact DL.fresh_dn (by assumption) | exact DL.fresh_dn (DL.fresh_dn (by assumption)) | exact DL.fresh_dn (DL.fresh_dn (DL.fresh_dn (by assumption)))))) | exact DL.fresh_ne (by assumption) | exact Ne.symm (DL.fresh_ne (by assumption)) | exact DL.fresh_ne (DL.fresh_dn (by assumption)) | exact Ne.symm (DL.fresh_ne (DL.fresh_dn (by assumption))) | exact DL.fresh_ne (DL.fresh_dn (DL.fresh_dn (by assumption))) | exact Ne.symm (DL.fresh_ne (DL.fresh_dn (DL.fresh_dn (by assumption))))))).trans ?_; first | exact DL.mup_same | assumption | (refine (DL.mup_ne (by (first | assumption | exact Ne.symm (by assumption) | exact DL.ne_at (by assumption) (by (first | assumption | exact DL.fresh_up (by assumption) | exact DL.fresh_dn (by assumption) | exact DL.fresh_dn (DL.fresh_dn (by assumption)) | exact DL.fresh_dn (DL.fresh_dn (DL.fresh_dn (by assumption))))) | exact Ne.symm (DL.ne_at (by assumption) (by (first | assumption | exact DL.fresh_up (by assumption) | exact DL.fresh_dn (by assumption) | exact DL.fresh_dn (DL.fresh_dn (by assumption)) | exact DL.fresh_dn (DL.fresh_dn (DL.fresh_dn (by assumption)))))) | exact DL.fresh_ne (by assumption) | exact Ne.symm (DL.fresh_ne (by assumption)) | exact DL.fresh_ne (DL.fresh_dn (by assumption)) | exact Ne.symm (DL.fresh_ne (DL.fresh_dn (by assumption))) | exact DL.fresh_ne (DL.fresh_dn (DL.fresh_dn (by assumption))) | exact Ne.symm (DL.fresh_ne (DL.fresh_dn (DL.fresh_dn (by assumption))))))).trans ?_; first | exact DL.mup_same | assumption))))))) | exact DL.asK_lock (by (first | exact DL.mup_same | assumption | (refine (DL.mup_ne (by (first | assumption | exact Ne.symm (by assumption) | exact DL.ne_at (by assumption) (by (first | assumption | exact DL.fresh_up (by assumption) | exact DL.fresh_dn (by assumption) | exact DL.fresh_dn (DL.fresh_dn (by assumption)) | exact DL.fresh_dn (DL.fresh_dn (DL.fresh_dn (by assumption))))) | exact Ne.symm (DL.ne_at (by assumption) (by (first | assumption | exact DL.fresh_up (by assumption) | exact DL.fresh_dn (by assumption) | exact DL.fresh_dn (DL.fresh_dn (by assumption)) | exact DL.fresh_dn (DL.fresh_dn (DL.fresh_dn (by assumption)))))) | exact DL.fresh_ne (by assumption) | exact Ne.symm (DL.fresh_ne (by assumption)) | exact DL.fresh_ne (DL.fresh_dn (by assumption)) | exact Ne.symm (DL.fresh_ne (DL.fresh_dn (by assumption))) | exact DL.fresh_ne (DL.fresh_dn (DL.fresh_dn (by assumption))) | exact Ne.symm (DL.fresh_ne (DL.fresh_dn (DL.fresh_dn (by assumption))))))).trans ?_; first | exact DL.mup_same | assumption | (refine (DL.mup_ne (by (first | assumption | exact Ne.symm (by assumption) | exact DL.ne_at (by assumption) (by (first | assumption | exact DL.fresh_up (by assumption) | exact DL.fresh_dn (by assumption) | exact DL.fresh_dn (DL.fresh_dn (by assumption)) | exact DL.fresh_dn (DL.fresh_dn (DL.fresh_dn (by assumption))))) | exact Ne.symm (DL.ne_at (by assumption) (by (first | assumption | exact DL.fresh_up (by assumption) | exact DL.fresh_dn (by assumption) | exact DL.fresh_dn (DL.fresh_dn (by assumption)) | exact DL.fresh_dn (DL.fresh_dn (DL.fresh_dn (by assumption)))))) | exact DL.fresh_ne (by assumption) | exact Ne.symm (DL.fresh_ne (by assumption)) | exact DL.fresh_ne (DL.fresh_dn (by assumption)) | exact Ne.symm (DL.fresh_ne (DL.fresh_dn (by assumption))) | exact DL.fresh_ne (DL.fresh_dn (DL.fresh_dn (by assumption))) | exact Ne.symm (DL.fresh_ne (DL.fresh_dn (DL.fresh_dn (by assumption))))))).trans ?_; first | exact DL.mup_same | assumption | (refine (DL.mup_ne (by (first | assumption | exact Ne.symm (by assumption) | exact DL.ne_at (by assumption) (by (first | assumption | exact DL.fresh_up (by assumption) | exact DL.fresh_dn (by assumption) | exact DL.fresh_dn (DL.fresh_dn (by assumption)) | exact DL.fresh_dn (DL.fresh_dn (DL.fresh_dn (by assumption))))) | exact Ne.symm (DL.ne_at (by assumption) (by (first | assumption | exact DL.fresh_up (by assumption) | exact DL.fresh_dn (by assumption) | exact DL.fresh_dn (DL.fresh_dn (by assumption)) | exact DL.fresh_dn (DL.fresh_dn (DL.fresh_dn (by assumption)))))) | exact DL.fresh_ne (by assumption) | exact Ne.symm (DL.fresh_ne (by assumption)) | exact DL.fresh_ne (DL.fresh_dn (by assumption)) | exact Ne.symm (DL.fresh_ne (DL.fresh_dn (by assumption))) | exact DL.fresh_ne (DL.fresh_dn (DL.fresh_dn (by assumption))) | exact Ne.symm (DL.fresh_ne (DL.fresh_dn (DL.fresh_dn (by assumption))))))).trans ?_; first | exact DL.mup_same | assumption | (refine (DL.mup_ne (by (first | assumption | exact Ne.symm (by assumption) | exact DL.ne_at (by assumption) (by (first | assumption | exact DL.fresh_up (by assumption) | exact DL.fresh_dn (by assumption) | exact DL.fresh_dn (DL.fresh_dn (by assumption)) | exact DL.fresh_dn (DL.fresh_dn (DL.fresh_dn (by assumption))))) | exact Ne.symm (DL.ne_at (by assumption) (by (first | assumption | exact DL.fresh_up (by assumption) | exact DL.fresh_dn (by assumption) | exact DL.fresh_dn (DL.fresh_dn (by assumption)) | exact DL.fresh_dn (DL.fresh_dn (DL.fresh_dn (by assumption)))))) | exact DL.fresh_ne (by assumption) | exact Ne.symm (DL.fresh_ne (by assumption)) | exact DL.fresh_ne (DL.fresh_dn (by assumption)) | exact Ne.symm (DL.fresh_ne (DL.fresh_dn (by assumption))) | exact DL.fresh_ne (DL.fresh_dn (DL.fresh_dn (by assumption))) | exact Ne.symm (DL.fresh_ne (DL.fresh_dn (DL.fresh_dn (by assumption))))))).trans ?_; first | exact DL.mup_same | assumption | (refine (DL.mup_ne (by (first | assumption | exact Ne.symm (by assumption) | exact DL.ne_at (by assumption) (by (first | assumption | exact DL.fresh_up (by assumption) | exact DL.fresh_dn (by assumption) | exact DL.fresh_dn (DL.fresh_dn (by assumption)) | exact DL.fresh_dn (DL.fresh_dn (DL.fresh_dn (by assumption))))) | exact Ne.symm (DL.ne_at (by assumption) (by (first | assumption | exact DL.fresh_up (by assumption) | exact DL.fresh_dn (by assumption) | exact DL.fresh_dn (DL.fresh_dn (by assumption)) | exact DL.fresh_dn (DL.fresh_dn (DL.fresh_dn (by assumption)))))) | exact DL.fresh_ne (by assumption) | exact Ne.symm (DL.fresh_ne (by assumption)) | exact DL.fresh_ne (DL.fresh_dn (by assumption)) | exact Ne.symm (DL.fresh_ne (DL.fresh_dn (by assumption))) | exact DL.fresh_ne (DL.fresh_dn (DL.fresh_dn (by assumption))) | exact Ne.symm (DL.fresh_ne (DL.fresh_dn (DL.fresh_dn (by assumption))))))).trans ?_; first | exact DL.mup_same | assumption))))))) | assumption)) | exact Exists.intro _ (Exists.intro _ (And.intro (by (first | exact rfl | assumption | exact DL.insK_adr (by (first | exact DL.mup_same | assumption | (refine (DL.mup_ne (by (first | assumption | exact Ne.symm (by assumption) | exact DL.ne_at (by assumption) (by (first | assumption | exact DL.fresh_up (by assumption) | exact DL.fresh_dn (by assumption) | exact DL.fresh_dn (DL.fresh_dn (by assumption)) | exact DL.fresh_dn (DL.fresh_dn (DL.fresh_dn (by assumption))))) | exact Ne.symm (DL.ne_at (by assumption) (by (first | assumption | exact DL.fresh_up (by assumption) | exact DL.fresh_dn (by assumption) | exact DL.fresh_dn (DL.fresh_dn (by assumption)) | exact DL.fresh_dn (DL.fresh_dn (DL.fresh_dn (by assumption)))))) | exact DL.fresh_ne (by assumption) | exact Ne.symm (DL.fresh_ne (by assumption)) | exact DL.fresh_ne (DL.fresh_dn (by assumption)) | exact Ne.symm (DL.fresh_ne (DL.fresh_dn (by assumption))) | exact DL.fresh_ne (DL.fresh_dn (DL.fresh_dn (by assumption))) | exact Ne.symm (DL.fresh_ne (DL.fresh_dn (DL.fresh_dn (by assumption))))))).trans ?_; first | exact DL.mup_same | assumption | (refine (DL.mup_ne (by (first | assumption | exact Ne.symm (by assumption) | exact DL.ne_at (by assumption) (by (first | assumption | exact DL.fresh_up (by assumption) | exact DL.fresh_dn (by assumption) | exact DL.fresh_dn (DL.fresh_dn (by assumption)) | exact DL.fresh_dn (DL.fresh_dn (DL.fresh_dn (by assumption))))) | exact Ne.symm (DL.ne_at (by assumption) (by (first | assumption | exact DL.fresh_up (by assumption) | exact DL.fresh_dn (by assumption) | exact DL.fresh_dn (DL.fresh_dn (by assumption)) | exact DL.fresh_dn (DL.fresh_dn (DL.fresh_dn (by assumption)))))) | exact DL.fresh_ne (by assumption) | exact Ne.symm (DL.fresh_ne (by assumption)) | exact DL.fresh_ne (DL.fresh_dn (by assumption)) | exact Ne.symm (DL.fresh_ne (DL.fresh_dn (by assumption))) | exact DL.fresh_ne (DL.fresh_dn (DL.fresh_dn (by assumption))) | exact Ne.symm (DL.fresh_ne (DL.fresh_dn (DL.fresh_dn (by assumption))))))).trans ?_; first | exact DL.mup_same | assumption | (refine (DL.mup_ne (by (first | assumption | exact Ne.symm (by assumption) | exact DL.ne_at (by assumption) (by (first | assumption | exact DL.fresh_up (by assumption) | exact DL.fresh_dn (by assumption) | exact DL.fresh_dn (DL.fresh_dn (by assumption)) | exact DL.fresh_dn (DL.fresh_dn (DL.fresh_dn (by assumption))))) | exact Ne.symm (DL.ne_at (by assumption) (by (first | assumption | exact DL.fresh_up (by assumption) | exact DL.fresh_dn (by assumption) | exact DL.fresh_dn (DL.fresh_dn (by assumption)) | exact DL.fresh_dn (DL.fresh_dn (DL.fresh_dn (by assumption)))))) | exact DL.fresh_ne (by assumption) | exact Ne.symm (DL.fresh_ne (by assumption)) | exact DL.fresh_ne (DL.fresh_dn (by assumption)) | exact Ne.symm (DL.fresh_ne (DL.fresh_dn (by assumption))) | exact DL.fresh_ne (DL.fresh_dn (DL.fresh_dn (by assumption))) | exact Ne.symm (DL.fresh_ne (DL.fresh_dn (DL.fresh_dn (by assumption))))))).trans ?_; first | exact DL.mup_same | assumption | (refine (DL.mup_ne (by (first | assumption | exact Ne.symm (by assumption) | exact DL.ne_at (by assumption) (by (first | assumption | exact DL.fresh_up (by assumption) | exact DL.fresh_dn (by assumption) | exact DL.fresh_dn (DL.fresh_dn (by assumption)) | exact DL.fresh_dn (DL.fresh_dn (DL.fresh_dn (by assumption))))) | exact Ne.symm (DL.ne_at (by assumption) (by (first | assumption | exact DL.fresh_up (by assumption) | exact DL.fresh_dn (by assumption) | exact DL.fresh_dn (DL.fresh_dn (by assumption)) | exact DL.fresh_dn (DL.fresh_dn (DL.fresh_dn (by assumption)))))) | exact DL.fresh_ne (by assumption) | exact Ne.symm (DL.fresh_ne (by assumption)) | exact DL.fresh_ne (DL.fresh_dn (by assumption)) | exact Ne.symm (DL.fresh_ne (DL.fresh_dn (by assumption))) | exact DL.fresh_ne (DL.fresh_dn (DL.fresh_dn (by assumption))) | exact Ne.symm (DL.fresh_ne (DL.fresh_dn (DL.fresh_dn (by assumption))))))).trans ?_; first | exact DL.mup_same | assumption | (refine (DL.mup_ne (by (first | assumption | exact Ne.symm (by assumption) | exact DL.ne_at (by assumption) (by (first | assumption | exact DL.fresh_up (by assumption) | exact DL.fresh_dn (by assumption) | exact DL.fresh_dn (DL.fresh_dn (by assumption)) | exact DL.fresh_dn (DL.fresh_dn (DL.fresh_dn (by assumption))))) | exact Ne.symm (DL.ne_at (by assumption) (by (first | assumption | exact DL.fresh_up (by assumption) | exact DL.fresh_dn (by assumption) | exact DL.fresh_dn (DL.fresh_dn (by assumption)) | exact DL.fresh_dn (DL.fresh_dn (DL.fresh_dn (by assumption)))))) | exact DL.fresh_ne (by assumption) | exact Ne.symm (DL.fresh_ne (by assumption)) | exact DL.fresh_ne (DL.fresh_dn (by assumption)) | exact Ne.symm (DL.fresh_ne (DL.fresh_dn (by assumption))) | exact DL.fresh_ne (DL.fresh_dn (DL.fresh_dn (by assumption))) | exact Ne.symm (DL.fresh_ne (DL.fresh_dn (DL.fresh_dn (by assumption))))))).trans ?_; first | exact DL.mup_same | assumption))))))))) (by decide +kernel))) | assumption) ?_) | (show (DL.Rg _) ∧ _; refine And.intro (DL.Rg.mk (by (first | omega | (simp only [List.length_map, List.length_range, List.length_cons, List.length_nil, List.length_append]; omega))) (by (first | omega | (simp only [List.length_map, List.length_range, List.length_cons, List.length_nil, List.length_append]; omega)))) ?_) | (show (L2.CMul _ _) ∧ _; refine And.intro (by (first | exact And.intro (by decide) (by decide) | exact Or.inl (And.intro (by decide) (by decide)) | exact Or.inr (And.intro (by decide) (by decide)) | exact And.intro (by omega) (by omega) | exact Or.inl (And.intro (by omega) (by omega)) | exact Or.inr (And.intro (by omega) (by omega)) | decide)) ?_) | (show (L2.CDiv _ _) ∧ _; refine And.intro (by (first | exact And.intro (by decide) (by decide) | exact Or.inl (And.intro (by decide) (by decide)) | exact Or.inr (And.intro (by decide) (by decide)) | exact And.intro (by omega) (by omega) | exact Or.inl (And.intro (by omega) (by omega)) | exact Or.inr (And.intro (by omega) (by omega)) | decide)) ?_) | refine And.intro (by assumption) ?_ | refine And.intro (by walk_at "P") ?_ | refine And.intro (by (first | exact And.intro (by decide) (by decide) | exact Or.inl (And.intro (by decide) (by decide)) | exact Or.inr (And.intro (by decide) (by decide)) | exact And.intro (by omega) (by omega) | exact Or.inl (And.intro (by omega) (by omega)) | exact Or.inr (And.intro (by omega) (by omega)) | decide)) ?_ | refine And.intro (by first | omega | trivial) ?_ | walk_at "x")) | (show ∃ m2, _ ∧ DL.GcR _ m2; refine Exists.intro _ (And.intro ?_ (by (first | exact DL.GcR.mk (by assumption) | exact DL.GcR.mk (DL.Gc.up (by (first | assumption | exact DL.fresh_up (by assumption) | exact DL.fresh_dn (by assumption) | exact DL.fresh_dn (DL.fresh_dn (by assumption)) | exact DL.fresh_dn (DL.fresh_dn (DL.fresh_dn (by assumption))))) (DL.Gc.up (by (first | assumption | exact DL.fresh_up (by assumption) | exact DL.fresh_dn (by assumption) | exact DL.fresh_dn (DL.fresh_dn (by assumption)) | exact DL.fresh_dn (DL.fresh_dn (DL.fresh_dn (by assumption))))) (DL.Gc.up (by (first | assumption | exact DL.fresh_up (by assumption) | exact DL.fresh_dn (by assumption) | exact DL.fresh_dn (DL.fresh_dn (by assumption)) | exact DL.fresh_dn (DL.fresh_dn (DL.fresh_dn (by assumption))))) (DL.Gc.up (by (first | assumption | exact DL.fresh_up (by assumption) | exact DL.fresh_dn (by assumption) | exact DL.fresh_dn (DL.fresh_dn (by assumption)) | exact DL.fresh_dn (DL.fresh_dn (DL.fresh_dn (by assumption))))) (DL.Gc.up (by (first | assumption | exact DL.fresh_up (by assumption) | exact DL.fresh_dn (by assumption) | exact DL.fresh_dn (DL.fresh_dn (by assumption)) | exact DL.fresh_dn (DL.fresh_dn (DL.fresh_dn (by assumption))))) (DL.Gc.refl _)))))) | exact DL.GcR.mk (DL.Gc.up (by (first | assumption | exact DL.fresh_up (by assumption) | exact DL.fresh_dn (by assumption) | exact DL.fresh_dn (DL.fresh_dn (by assumption)) | exact DL.fresh_dn (DL.fresh_dn (DL.fresh_dn (by assumption))))) (DL.Gc.up (by (first | assumption | exact DL.fresh_up (by assumption) | exact DL.fresh_dn (by assumption) | exact DL.fresh_dn (DL.fresh_dn (by assumption)) | exact DL.fresh_dn (DL.fresh_dn (DL.fresh_dn (by assumption))))) (DL.Gc.up (by (first | assumption | exact DL.fresh_up (by assumption) | exact DL.fresh_dn (by assumption) | exact DL.fresh_dn (DL.fresh_dn (by assumption)) | exact DL.fresh_dn (DL.fresh_dn (DL.fresh_dn (by assumption))))) (DL.Gc.up (by (first | assumption | exact DL.fresh_up (by assumption) | exact DL.fresh_dn (by assumption) | exact DL.fresh_dn (DL.fresh_dn (by assumption)) | exact DL.fresh_dn (DL.fresh_dn (DL.fresh_dn (by assumption))))) (DL.Gc.refl _))))) | exact DL.GcR.mk (DL.Gc.up (by (first | assumption | exact DL.fresh_up (by assumption) | exact DL.fresh_dn (by assumption) | exact DL.fresh_dn (DL.fresh_dn (by assumption)) | exact DL.fresh_dn (DL.fresh_dn (DL.fresh_dn (by assumption))))) (DL.Gc.up (by (first | assumption | exact DL.fresh_up (by assumption) | exact DL.fresh_dn (by assumption) | exact DL.fresh_dn (DL.fresh_dn (by assumption)) | exact DL.fresh_dn (DL.fresh_dn (DL.fresh_dn (by assumption))))) (DL.Gc.up (by (first | assumption | exact DL.fresh_up (by assumption) | exact DL.fresh_dn (by assumption) | exact DL.fresh_dn (DL.fresh_dn (by assumption)) | exact DL.fresh_dn (DL.fresh_dn (DL.fresh_dn (by assumption))))) (DL.Gc.both (DL.Gc.up (by (first | assumption | exact DL.fresh_up (by assumption) | exact DL.fresh_dn (by assumption) | exact DL.fresh_dn (DL.fresh_dn (by assumption)) | exact DL.fresh_dn (DL.fresh_dn (DL.fresh_dn (by assumption))))) (DL.Gc.refl _)))))) | exact DL.GcR.mk (DL.Gc.up (by (first | assumption | exact DL.fresh_up (by assumption) | exact DL.fresh_dn (by assumption) | exact DL.fresh_dn (DL.fresh_dn (by assumption)) | exact DL.fresh_dn (DL.fresh_dn (DL.fresh_dn (by assumption))))) (DL.Gc.up (by (first | assumption | exact DL.fresh_up (by assumption) | exact DL.fresh_dn (by assumption) | exact DL.fresh_dn (DL.fresh_dn (by assumption)) | exact DL.fresh_dn (DL.fresh_dn (DL.fresh_dn (by assumption))))) (DL.Gc.both (DL.Gc.up (by (first | assumption | exact DL.fresh_up (by assumption) | exact DL.fresh_dn (by assumption) | exact DL.fresh_dn (DL.fresh_dn (by assumption)) | exact DL.fresh_dn (DL.fresh_dn (DL.fresh_dn (by assumption))))) (DL.Gc.up (by (first | assumption | exact DL.fresh_up (by assumption) | exact DL.fresh_dn (by assumption) | exact DL.fresh_dn (DL.fresh_dn (by assumption)) | exact DL.fresh_dn (DL.fresh_dn (DL.fresh_dn (by assumption))))) (DL.Gc.refl _)))))) | exact DL.GcR.mk (DL.Gc.up (by (first | assumption | exact DL.fresh_up (by assumption) | exact DL.fresh_dn (by assumption) | exact DL.fresh_dn (DL.fresh_dn (by assumption)) | exact DL.fresh_dn (DL.fresh_dn (DL.fresh_dn (by assumption))))) (DL.Gc.both (DL.Gc.up (by (first | assumption | exact DL.fresh_up (by assumption) | exact DL.fresh_dn (by assumption) | exact DL.fresh_dn (DL.fresh_dn (by assumption)) | exact DL.fresh_dn (DL.fresh_dn (DL.fresh_dn (by assumption))))) (DL.Gc.up (by (first | assumption | exact DL.fresh_up (by assumption) | exact DL.fresh_dn (by assumption) | exact DL.fresh_dn (DL.fresh_dn (by assumption)) | exact DL.fresh_dn (DL.fresh_dn (DL.fresh_dn (by assumption))))) (DL.Gc.up (by (first | assumption | exact DL.fresh_up (by assumption) | exact DL.fresh_dn (by assumption) | exact DL.fresh_dn (DL.fresh_dn (by assumption)) | exact DL.fresh_dn (DL.fresh_dn (DL.fresh_dn (by assumption))))) (DL.Gc.refl _)))))) | exact DL.GcR.mk (DL.Gc.both (DL.Gc.up (by (first | assumption | exact DL.fresh_up (by assumption) | exact DL.fresh_dn (by assumption) | exact DL.fresh_dn (DL.fresh_dn (by assumption)) | exact DL.fresh_dn (DL.fresh_dn (DL.fresh_dn (by assumption))))) (DL.Gc.up (by (first | assumption | exact DL.fresh_up (by assumption) | exact DL.fresh_dn (by assumption) | exact DL.fresh_dn (DL.fresh_dn (by assumption)) | exact DL.fresh_dn (DL.fresh_dn (DL.fresh_dn (by assumption))))) (DL.Gc.up (by (first | assumption | exact DL.fresh_up (by assumption) | exact DL.fresh_dn (by assumption) | exact DL.fresh_dn (DL.fresh_dn (by assumption)) | exact DL.fresh_dn (DL.fresh_dn (DL.fresh_dn (by assumption))))) (DL.Gc.up (by (first | assumption | exact DL.fresh_up (by assumption) | exact DL.fresh_dn (by assumption) | exact DL.fresh_dn (DL.fresh_dn (by assumption)) | exact DL.fresh_dn (DL.fresh_dn (DL.fresh_dn (by assumption))))) (DL.Gc.refl _)))))) | exact DL.GcR.mk (DL.Gc.up (by (first | assumption | exact DL.fresh_up (by assumption) | exact DL.fresh_dn (by assumption) | exact DL.fresh_dn (DL.fresh_dn (by assumption)) | exact DL.fresh_dn (DL.fresh_dn (DL.fresh_dn (by assumption))))) (DL.Gc.up (by (first | assumption | exact DL.fresh_up (by assumption) | exact DL.fresh_dn (by assumption) | exact DL.fresh_dn (DL.fresh_dn (by assumption)) | exact DL.fresh_dn (DL.fresh_dn (DL.fresh_dn (by assumption))))) (DL.Gc.up (by (first | assumption | exact DL.fresh_up (by assumption) | exact DL.fresh_dn (by assumption) | exact DL.fresh_dn (DL.fresh_dn (by assumption)) | exact DL.fresh_dn (DL.fresh_dn (DL.fresh_dn (by assumption))))) (DL.Gc.refl _)))) | exact DL.GcR.mk (DL.Gc.up (by (first | assumption | exact DL.fresh_up (by assumption) | exact DL.fresh_dn (by assumption) | exact DL.fresh_dn (DL.fresh_dn (by assumption)) | exact DL.fresh_dn (DL.fresh_dn (DL.fresh_dn (by assumption))))) (DL.Gc.up (by (first | assumption | exact DL.fresh_up (by assumption) | exact DL.fresh_dn (by assumption) | exact DL.fresh_dn (DL.fresh_dn (by assumption)) | exact DL.fresh_dn (DL.fresh_dn (DL.fresh_dn (by assumption))))) (DL.Gc.both (DL.Gc.up (by (first | assumption | exact DL.fresh_up (by assumption) | exact DL.fresh_dn (by assumption) | exact DL.fresh_dn (DL.fresh_dn (by assumption)) | exact DL.fresh_dn (DL.fresh_dn (DL.fresh_dn (by assumption))))) (DL.Gc.refl _))))) | exact DL.GcR.mk (DL.Gc.up (by (first | assumption | exact DL.fresh_up (by assumption) | exact DL.fresh_dn (by assumption) | exact DL.fresh_dn (DL.fresh_dn (by assumption)) | exact DL.fresh_dn (DL.fresh_dn (DL.fresh_dn (by assumption))))) (DL.Gc.both (DL.Gc.up (by (first | assumption | exact DL.fresh_up (by assumption) | exact DL.fresh_dn (by assumption) | exact DL.fresh_dn (DL.fresh_dn (by assumption)) | exact DL.fresh_dn (DL.fresh_dn (DL.fresh_dn (by assumption))))) (DL.Gc.up (by (first | assumption | exact DL.fresh_up (by assumption) | exact DL.fresh_dn (by assumption) | exact DL.fresh_dn (DL.fresh_dn (by assumption)) | exact DL.fresh_dn (DL.fresh_dn (DL.fresh_dn (by assumption))))) (DL.Gc.refl _))))) | exact DL.GcR.mk (DL.Gc.both (DL.Gc.up (by (first | assumption | exact DL.fresh_up (by assumption) | exact DL.fresh_dn (by assumption) | exact DL.fresh_dn (DL.fresh_dn (by assumption)) | exact DL.fresh_dn (DL.fresh_dn (DL.fresh_dn (by assumption))))) (DL.Gc.up (by (first | assumption | exact DL.fresh_up (by assumption) | exact DL.fresh_dn (by assumption) | exact DL.fresh_dn (DL.fresh_dn (by assumption)) | exact DL.fresh_dn (DL.fresh_dn (DL.fresh_dn (by assumption))))) (DL.Gc.up (by (first | assumption | exact DL.fresh_up (by assumption) | exact DL.fresh_dn (by assumption) | exact DL.fresh_dn (DL.fresh_dn (by assumption)) | exact DL.fresh_dn (DL.fresh_dn (DL.fresh_dn (by assumption))))) (DL.Gc.refl _))))) | exact DL.GcR.mk (DL.Gc.up (by (first | assumption | exact DL.fresh_up (by assumption) | exact DL.fresh_dn (by assumption) | exact DL.fresh_dn (DL.fresh_dn (by assumption)) | exact DL.fresh_dn (DL.fresh_dn (DL.fresh_dn (by assumption))))) (DL.Gc.up (by (first | assumption | exact DL.fresh_up (by assumption) | exact DL.fresh_dn (by assumption) | exact DL.fresh_dn (DL.fresh_dn (by assumption)) | exact DL.fresh_dn (DL.fresh_dn (DL.fresh_dn (by assumption))))) (DL.Gc.both (DL.Gc.both (DL.Gc.up (by (first | assumption | exact DL.fresh_up (by assumption) | exact DL.fresh_dn (by assumption) | exact DL.fresh_dn (DL.fresh_dn (by assumption)) | exact DL.fresh_dn (DL.fresh_dn (DL.fresh_dn (by assumption))))) (DL.Gc.refl _)))))) | exact DL.GcR.mk (DL.Gc.up (by (first | assumption | exact DL.fresh_up (by assumption) | exact DL.fresh_dn (by assumption) | exact DL.fresh_dn (DL.fresh_dn (by assumption)) | exact DL.fresh_dn (DL.fresh_dn (DL.fresh_dn (by assumption))))) (DL.Gc.both (DL.Gc.up (by (first | assumption | exact DL.fresh_up (by assumption) | exact DL.fresh_dn (by assumption) | exact DL.fresh_dn (DL.fresh_dn (by assumption)) | exact DL.fresh_dn (DL.fresh_dn (DL.fresh_dn (by assumption))))) (DL.Gc.both (DL.Gc.up (by (first | assumption | exact DL.fresh_up (by assumption) | exact DL.fresh_dn (by assumption) | exact DL.fresh_dn (DL.fresh_dn (by assumption)) | exact DL.fresh_dn (DL.fresh_dn (DL.fresh_dn (by assumption))))) (DL.Gc.refl _)))))) | exact DL.GcR.mk (DL.Gc.up (by (first | assumption | exact DL.fresh_up (by assumption) | exact DL.fresh_dn (by assumption) | exact DL.fresh_dn (DL.fresh_dn (by assumption)) | exact DL.fresh_dn (DL.fresh_dn (DL.fresh_dn (by assumption))))) (DL.Gc.both (DL.Gc.both (DL.Gc.up (by (first | assumption | exact DL.fresh_up (by assumption) | exact DL.fresh_dn (by assumption) | exact DL.fresh_dn (DL.fresh_dn (by assumption)) | exact DL.fresh_dn (DL.fresh_dn (DL.fresh_dn (by assumption))))) (DL.Gc.up (by (first | assumption | exact DL.fresh_up (by assumption) | exact DL.fresh_dn (by assumption) | exact DL.fresh_dn (DL.fresh_dn (by assumption)) | exact DL.fresh_dn (DL.fresh_dn (DL.fresh_dn (by assumption))))) (DL.Gc.refl _)))))) | exact DL.GcR.mk (DL.Gc.both (DL.Gc.up (by (first | assumption | exact DL.fresh_up (by assumption) | exact DL.fresh_dn (by assumption) | exact DL.fresh_dn (DL.fresh_dn (by assumption)) | exact DL.fresh_dn (DL.fresh_dn (DL.fresh_dn (by assumption))))) (DL.Gc.up (by (first | assumption | exact DL.fresh_up (by assumption) | exact DL.fresh_dn (by assumption) | exact DL.fresh_dn (DL.fresh_dn (by assumption)) | exact DL.fresh_dn (DL.fresh_dn (DL.fresh_dn (by assumption))))) (DL.Gc.both (DL.Gc.up (by (first | assumption | exact DL.fresh_up (by assumption) | exact DL.fresh_dn (by assumption) | exact DL.fresh_dn (DL.fresh_dn (by assumption)) | exact DL.fresh_dn (DL.fresh_dn (DL.fresh_dn (by assumption))))) (DL.Gc.refl _)))))) | exact DL.GcR.mk (DL.Gc.both (DL.Gc.up (by (first | assumption | exact DL.fresh_up (by assumption) | exact DL.fresh_dn (by assumption) | exact DL.fresh_dn (DL.fresh_dn (by assumption)) | exact DL.fresh_dn (DL.fresh_dn (DL.fresh_dn (by assumption))))) (DL.Gc.both (DL.Gc.up (by (first | assumption | exact DL.fresh_up (by assumption) | exact DL.fresh_dn (by assumption) | exact DL.fresh_dn (DL.fresh_dn (by assumption)) | exact DL.fresh_dn (DL.fresh_dn (DL.fresh_dn (by assumption))))) (DL.Gc.up (by (first | assumption | exact DL.fresh_up (by assumption) | exact DL.fresh_dn (by assumption) | exact DL.fresh_dn (DL.fresh_dn (by assumption)) | exact DL.fresh_dn (DL.fresh_dn (DL.fresh_dn (by assumption))))) (DL.Gc.refl _)))))) | exact DL.GcR.mk (DL.Gc.both (DL.Gc.both (DL.Gc.up (by (first | assumption | exact DL.fresh_up (by assumption) | exact DL.fresh_dn (by assumption) | exact DL.fresh_dn (DL.fresh_dn (by assumption)) | exact DL.fresh_dn (DL.fresh_dn (DL.fresh_dn (by assumption))))) (DL.Gc.up (by (first | assumption | exact DL.fresh_up (by assumption) | exact DL.fresh_dn (by assumption) | exact DL.fresh_dn (DL.fresh_dn (by assumption)) | exact DL.fresh_dn (DL.fresh_dn (DL.fresh_dn (by assumption))))) (DL.Gc.up (by (first | assumption | exact DL.fresh_up (by assumption) | exact DL.fresh_dn (by assumption) | exact DL.fresh_dn (DL.fresh_dn (by assumption)) | exact DL.fresh_dn (DL.fresh_dn (DL.fresh_dn (by assumption))))) (DL.Gc.refl _)))))) | exact DL.GcR.mk (DL.Gc.up (by (first | assumption | exact DL.fresh_up (by assumption) | exact DL.fresh_dn (by assumption) | exact DL.fresh_dn (DL.fresh_dn (by assumption)) | exact DL.fresh_dn (DL.fresh_dn (DL.fresh_dn (by assumption))))) (DL.Gc.up (by (first | assumption | exact DL.fresh_up (by assumption) | exact DL.fresh_dn (by assumption) | exact DL.fresh_dn (DL.fresh_dn (by assumption)) | exact DL.fresh_dn (DL.fresh_dn (DL.fresh_dn (by assumption))))) (DL.Gc.refl _))) | exact DL.GcR.mk (DL.Gc.up (by (first | assumption | exact DL.fresh_up (by assumption) | exact DL.fresh_dn (by assumption) | exact DL.fresh_dn (DL.fresh_dn (by assumption)) | exact DL.fresh_dn (DL.fresh_dn (DL.fresh_dn (by assumption))))) (DL.Gc.both (DL.Gc.up (by (first | assumption | exact DL.fresh_up (by assumption) | exact DL.fresh_dn (by assumption) | exact DL.fresh_dn (DL.fresh_dn (by assumption)) | exact DL.fresh_dn (DL.fresh_dn (DL.fresh_dn (by assumption))))) (DL.Gc.refl _)))) | exact DL.GcR.mk (DL.Gc.both (DL.Gc.up (by (first | assumption | exact DL.fresh_up (by assumption) | exact DL.fresh_dn (by assumption) | exact DL.fresh_dn (DL.fresh_dn (by assumption)) | exact DL.fresh_dn (DL.fresh_dn (DL.fresh_dn (by assumption))))) (DL.Gc.up (by (first | assumption | exact DL.fresh_up (by assumption) | exact DL.fresh_dn (by assumption) | exact DL.fresh_dn (DL.fresh_dn (by assumption)) | exact DL.fresh_dn (DL.fresh_dn (DL.fresh_dn (by assumption))))) (DL.Gc.refl _)))) | exact DL.GcR.mk (DL.Gc.up (by (first | assumption | exact DL.fresh_up (by assumption) | exact DL.fresh_dn (by assumption) | exact DL.fresh_dn (DL.fresh_dn (by assumption)) | exact DL.fresh_dn (DL.fresh_dn (DL.fresh_dn (by assumption))))) (DL.Gc.both (DL.Gc.both (DL.Gc.up (by (first | assumption | exact DL.fresh_up (by assumption) | exact DL.fresh_dn (by assumption) | exact DL.fresh_dn (DL.fresh_dn (by assumption)) | exact DL.fresh_dn (DL.fresh_dn (DL.fresh_dn (by assumption))))) (DL.Gc.refl _))))) | exact DL.GcR.mk (DL.Gc.both (DL.Gc.up (by (first | assumption | exact DL.fresh_up (by assumption) | exact DL.fresh_dn (by assumption) | exact DL.fresh_dn (DL.fresh_dn (by assumption)) | exact DL.fresh_dn (DL.fresh_dn (DL.fresh_dn (by assumption))))) (DL.Gc.both (DL.Gc.up (by (first | assumption | exact DL.fresh_up (by assumption) | exact DL.fresh_dn (by assumption) | exact DL.fresh_dn (DL.fresh_dn (by assumption)) | exact DL.fresh_dn (DL.fresh_dn (DL.fresh_dn (by assumption))))) (DL.Gc.refl _))))) | exact DL.GcR.mk (DL.Gc.both (DL.Gc.both (DL.Gc.up (by (first | assumption | exact DL.fresh_up (by assumption) | exact DL.fresh_dn (by assumption) | exact DL.fresh_dn (DL.fresh_dn (by assumption)) | exact DL.fresh_dn (DL.fresh_dn (DL.fresh_dn (by assumption))))) (DL.Gc.up (by (first | assumption | exact DL.fresh_up (by assumption) | exact DL.fresh_dn (by assumption) | exact DL.fresh_dn (DL.fresh_dn (by assumption)) | exact DL.fresh_dn (DL.fresh_dn (DL.fresh_dn (by assumption))))) (DL.Gc.refl _))))) | exact DL.GcR.mk (DL.Gc.up (by (first | assumption | exact DL.fresh_up (by assumption) | exact DL.fresh_dn (by assumption) | exact DL.fresh_dn (DL.fresh_dn (by assumption)) | exact DL.fresh_dn (DL.fresh_dn (DL.fresh_dn (by assumption))))) (DL.Gc.both (DL.Gc.both (DL.Gc.both (DL.Gc.up (by (first | assumption | exact DL.fresh_up (by assumption) | exact DL.fresh_dn (by assumption) | exact DL.fresh_dn (DL.fresh_dn (by assumption)) | exact DL.fresh_dn (DL.fresh_dn (DL.fresh_dn (by assumption))))) (DL.Gc.refl _)))))) | exact DL.GcR.mk (DL.Gc.both (DL.Gc.up (by (first | assumption | exact DL.fresh_up (by assumption) | exact DL.fresh_dn (by assumption) | exact DL.fresh_dn (DL.fresh_dn (by assumption)) | exact DL.fresh_dn (DL.fresh_dn (DL.fresh_dn (by assumption))))) (DL.Gc.both (DL.Gc.both (DL.Gc.up (by (first | assumption | exact DL.fresh_up (by assumption) | exact DL.fresh_dn (by assumption) | exact DL.fresh_dn (DL.fresh_dn (by assumption)) | exact DL.fresh_dn (DL.fresh_dn (DL.fresh_dn (by assumption))))) (DL.Gc.refl _)))))) | exact DL.GcR.mk (DL.Gc.both (DL.Gc.both (DL.Gc.up (by (first | assumption | exact DL.fresh_up (by assumption) | exact DL.fresh_dn (by assumption) | exact DL.fresh_dn (DL.fresh_dn (by assumption)) | exact DL.fresh_dn (DL.fresh_dn (DL.fresh_dn (by assumption))))) (DL.Gc.both (DL.Gc.up (by (first | assumption | exact DL.fresh_up (by assumption) | exact DL.fresh_dn (by assumption) | exact DL.fresh_dn (DL.fresh_dn (by assumption)) | exact DL.fresh_dn (DL.fresh_dn (DL.fresh_dn (by assumption))))) (DL.Gc.refl _)))))) | exact DL.GcR.mk (DL.Gc.both (DL.Gc.both (DL.Gc.both (DL.Gc.up (by (first | assumption | exact DL.fresh_up (by assumption) | exact DL.fresh_dn (by assumption) | exact DL.fresh_dn (DL.fresh_dn (by assumption)) | exact DL.fresh_dn (DL.fresh_dn (DL.fresh_dn (by assumption))))) (DL.Gc.up (by (first | assumption | exact DL.fresh_up (by assumption) | exact DL.fresh_dn (by assumption) | exact DL.fresh_dn (DL.fresh_dn (by assumption)) | exact DL.fresh_dn (DL.fresh_dn (DL.fresh_dn (by assumption))))) (DL.Gc.refl _)))))) | exact DL.GcR.mk (DL.Gc.up (by (first | assumption | exact DL.fresh_up (by assumption) | exact DL.fresh_dn (by assumption) | exact DL.fresh_dn (DL.fresh_dn (by assumption)) | exact DL.fresh_dn (DL.fresh_dn (DL.fresh_dn (by assumption))))) (DL.Gc.refl _)) | exact DL.GcR.mk (DL.Gc.both (DL.Gc.up (by (first | assumption | exact DL.fresh_up (by assumption) | exact DL.fresh_dn (by assumption) | exact DL.fresh_dn (DL.fresh_dn (by assumption)) | exact DL.fresh_dn (DL.fresh_dn (DL.fresh_dn (by assumption))))) (DL.Gc.refl _))) | exact DL.GcR.mk (DL.Gc.both (DL.Gc.both (DL.Gc.up (by (first | assumption | exact DL.fresh_up (by assumption) | exact DL.fresh_dn (by assumption) | exact DL.fresh_dn (DL.fresh_dn (by assumption)) | exact DL.fresh_dn (DL.fresh_dn (DL.fresh_dn (by assumption))))) (DL.Gc.refl _)))) | exact DL.GcR.mk (DL.Gc.both (DL.Gc.both (DL.Gc.both (DL.Gc.up (by (first | assumption | exact DL.fresh_up (by assumption) | exact DL.fresh_dn (by assumption) | exact DL.fresh_dn (DL.fresh_dn (by assumption)) | exact DL.fresh_dn (DL.fresh_dn (DL.fresh_dn (by assumption))))) (DL.Gc.refl _))))) | exact DL.GcR.mk (DL.Gc.both (DL.Gc.both (DL.Gc.both (DL.Gc.both (DL.Gc.up (by (first | assumption | exact DL.fresh_up (by assumption) | exact DL.fresh_dn (by assumption) | exact DL.fresh_dn (DL.fresh_dn (by assumption)) | exact DL.fresh_dn (DL.fresh_dn (DL.fresh_dn (by assumption))))) (DL.Gc.refl _)))))) | exact DL.GcR.mk (DL.Gc.refl _))))) | (show Exists _; (first | (show ∃ i rest, PySem.Builtin.Str.occurrences _ _ _ _ _ = _ ∧ _; refine Exists.intro _ (Exists.intro _ (And.intro (by assumption) ?_))) | (show ∃ n, PySem.intText? _ = some n ∧ _; refine Exists.intro _ (And.intro (by first | assumption | exact rfl) ?_)) | (show ∃ x, List.find? _ _ = x ∧ _; refine Exists.intro _ (And.intro (by first | assumption | exact rfl) ?_)) | (show ∃ x, Toy.shownP _ _ _ _ = x ∧ _; refine Exists.intro _ (And.intro (by first | assumption | exact rfl) ?_)) | (show ∃ x, Toy.latestP _ _ _ = x ∧ _; refine Exists.intro _ (And.intro (by first | assumption | exact rfl) ?_)) | (show ∃ x, DL.tgSet _ _ _ = some x ∧ _; refine Exists.intro _ (And.intro (by (first | (simp only [DL.tgSet, DL.fsets, DL.fset, DL.fwipe, DL.fwipe.fdel, List.map_cons, List.map_nil, Toy.Let.d]; exact rfl))) ?_)) | (show ∃ x, DL.asL _ _ = _ ∧ _; refine Exists.intro _ (And.intro (by (first | exact rfl | assumption | exact DL.asL_same | exact DL.asL_adr (by (first | exact DL.mup_same | assumption | (refine (DL.mup_ne (by (first | assumption | exact Ne.symm (by assumption) | exact DL.ne_at (by assumption) (by (first | assumption | exact DL.fresh_up (by assumption) | exact DL.fresh_dn (by assumption) | exact DL.fresh_dn (DL.fresh_dn (by assumption)) | exact DL.fresh_dn (DL.fresh_dn (DL.fresh_dn (by assumption))))) | exact Ne.symm (DL.ne_at (by assumption) (by (first | assumption | exact DL.fresh_up (by assumption) | exact DL.fresh_dn (by assumption) | exact DL.fresh_dn (DL.fresh_dn (by assumption)) | exact DL.fresh_dn (DL.fresh_dn (DL.fresh_dn (by assumption)))))) | exact DL.fresh_ne (by assumption) | exact Ne.symm (DL.fresh_ne (by assumption)) | exact DL.fresh_ne (DL.fresh_dn (by assumption)) | exact Ne.symm (DL.fresh_ne (DL.fresh_dn (by assumption))) | exact DL.fresh_ne (DL.fresh_dn (DL.fresh_dn (by assumption))) | exact Ne.symm (DL.fresh_ne (DL.fresh_dn (DL.fresh_dn (by assumption))))))).trans ?_; first | exact DL.mup_same | assumption | (refine (DL.mup_ne (by (first | assumption | exact Ne.symm (by assumption) | exact DL.ne_at (by assumption) (by (first | assumption | exact DL.fresh_up (by assumption) | exact DL.fresh_dn (by assumption) | exact DL.fresh_dn (DL.fresh_dn (by assumption)) | exact DL.fresh_dn (DL.fresh_dn (DL.fresh_dn (by assumption))))) | exact Ne.symm (DL.ne_at (by assumption) (by (first | assumption | exact DL.fresh_up (by assumption) | exact DL.fresh_dn (by assumption) | exact DL.fresh_dn (DL.fresh_dn (by assumption)) | exact DL.fresh_dn (DL.fresh_dn (DL.fresh_dn (by assumption)))))) | exact DL.fresh_ne (by assumption) | exact Ne.symm (DL.fresh_ne (by assumption)) | exact DL.fresh_ne (DL.fresh_dn (by assumption)) | exact Ne.symm (DL.fresh_ne (DL.fresh_dn (by assumption))) | exact DL.fresh_ne (DL.fresh_dn (DL.fresh_dn (by assumption))) | exact Ne.symm (DL.fresh_ne (DL.fresh_dn (DL.fresh_dn (by assumption))))))).trans ?_; first | exact DL.mup_same | assumption | (refine (DL.mup_ne (by (first | assumption | exact Ne.symm (by assumption) | exact DL.ne_at (by assumption) (by (first | assumption | exact DL.fresh_up (by assumption) | exact DL.fresh_dn (by assumption) | exact DL.fresh_dn (DL.fresh_dn (by assumption)) | exact DL.fresh_dn (DL.fresh_dn (DL.fresh_dn (by assumption))))) | exact Ne.symm (DL.ne_at (by assumption) (by (first | assumption | exact DL.fresh_up (by assumption) | exact DL.fresh_dn (by assumption) | exact DL.fresh_dn (DL.fresh_dn (by assumption)) | exact DL.fresh_dn (DL.fresh_dn (DL.fresh_dn (by assumption)))))) | exact DL.fresh_ne (by assumption) | exact Ne.symm (DL.fresh_ne (by assumption)) | exact DL.fresh_ne (DL.fresh_dn (by assumption)) | exact Ne.symm (DL.fresh_ne (DL.fresh_dn (by assumption))) | exact DL.fresh_ne (DL.fresh_dn (DL.fresh_dn (by assumption))) | exact Ne.symm (DL.fresh_ne (DL.fresh_dn (DL.fresh_dn (by assumption))))))).trans ?_; first | exact DL.mup_same | assumption | (refine (DL.mup_ne (by (first | assumption | exact Ne.symm (by assumption) | exact DL.ne_at (by assumption) (by (first | assumption | exact DL.fresh_up (by assumption) | exact DL.fresh_dn (by assumption) | exact DL.fresh_dn (DL.fresh_dn (by assumption)) | exact DL.fresh_dn (DL.fresh_dn (DL.fresh_dn (by assumption))))) | exact Ne.symm (DL.ne_at (by assumption) (by (first | assumption | exact DL.fresh_up (by assumption) | exact DL.fresh_dn (by assumption) | exact DL.fresh_dn (DL.fresh_dn (by assumption)) | exact DL.fresh_dn (DL.fresh_dn (DL.fresh_dn (by assumption)))))) | exact DL.fresh_ne (by assumption) | exact Ne.symm (DL.fresh_ne (by assumption)) | exact DL.fresh_ne (DL.fresh_dn (by assumption)) | exact Ne.symm (DL.fresh_ne (DL.fresh_dn (by assumption))) | exact DL.fresh_ne (DL.fresh_dn (DL.fresh_dn (by assumption))) | exact Ne.symm (DL.fresh_ne (DL.fresh_dn (DL.fresh_dn (by assumption))))))).trans ?_; first | exact DL.mup_same | assumption | (refine (DL.mup_ne (by (first | assumption | exact Ne.symm (by assumption) | exact DL.ne_at (by assumption) (by (first | assumption | exact DL.fresh_up (by assumption) | exact DL.fresh_dn (by assumption) | exact DL.fresh_dn (DL.fresh_dn (by assumption)) | exact DL.fresh_dn (DL.fresh_dn (DL.fresh_dn (by assumption))))) | exact Ne.symm (DL.ne_at (by assumption) (by (first | assumption | exact DL.fresh_up (by assumption) | exact DL.fresh_dn (by assumption) | exact DL.fresh_dn (DL.fresh_dn (by assumption)) | exact DL.fresh_dn (DL.fresh_dn (DL.fresh_dn (by assumption)))))) | exact DL.fresh_ne (by assumption) | exact Ne.symm (DL.fresh_ne (by assumption)) | exact DL.fresh_ne (DL.fresh_dn (by assumption)) | exact Ne.symm (DL.fresh_ne (DL.fresh_dn (by assumption))) | exact DL.fresh_ne (DL.fresh_dn (DL.fresh_dn (by assumption))) | exact Ne.symm (DL.fresh_ne (DL.fresh_dn (DL.fresh_dn (by assumption))))))).trans ?_; first | exact DL.mup_same | assumption))))))) | exact DL.asL_up (by assumption) (by (first | assumption | exact DL.fresh_up (by assumption) | exact DL.fresh_dn (by assumption) | exact DL.fresh_dn (DL.fresh_dn (by assumption)) | exact DL.fresh_dn (DL.fresh_dn (DL.fresh_dn (by assumption))))) | exact DL.asL_up (DL.asL_up (by assumption) (by (first | assumption | exact DL.fresh_up (by assumption) | exact DL.fresh_dn (by assumption) | exact DL.fresh_dn (DL.fresh_dn (by assumption)) | exact DL.fresh_dn (DL.fresh_dn (DL.fresh_dn (by assumption)))))) (by (first | assumption | exact DL.fresh_up (by assumption) | exact DL.fresh_dn (by assumption) | exact DL.fresh_dn (DL.fresh_dn (by assumption)) | exact DL.fresh_dn (DL.fresh_dn (DL.fresh_dn (by assumption))))))) ?_)) | (show ∃ x, DL.asK _ _ = _ ∧ _; refine Exists.intro _ (And.intro (by (first | exact DL.asK_cell (by (first | exact DL.mup_same | assumption | (refine (DL.mup_ne (by (first | assumption | exact Ne.symm (by assumption) | exact DL.ne_at (by assumption) (by (first | assumption | exact DL.fresh_up (by assumption) | exact DL.fresh_dn (by assumption) | exact DL.fresh_dn (DL.fresh_dn (by assumption)) | exact DL.fresh_dn (DL.fresh_dn (DL.fresh_dn (by assumption))))) | exact Ne.symm (DL.ne_at (by assumption) (by (first | assumption | exact DL.fresh_up (by assumption) | exact DL.fresh_dn (by assumption) | exact DL.fresh_dn (DL.fresh_dn (by assumption)) | exact DL.fresh_dn (DL.fresh_dn (DL.fresh_dn (by assumption)))))) | exact DL.fresh_ne (by assumption) | exact Ne.symm (DL.fresh_ne (by assumption)) | exact DL.fresh_ne (DL.fresh_dn (by assumption)) | exact Ne.symm (DL.fresh_ne (DL.fresh_dn (by assumption))) | exact DL.fresh_ne (DL.fresh_dn (DL.fresh_dn (by assumption))) | exact Ne.symm (DL.fresh_ne (DL.fresh_dn (DL.fresh_dn (by assumption))))))).trans ?_; first | exact DL.mup_same | assumption | (refine (DL.mup_ne (by (first | assumption | exact Ne.symm (by assumption) | exact DL.ne_at (by assumption) (by (first | assumption | exact DL.fresh_up (by assumption) | exact DL.fresh_dn (by assumption) | exact DL.fresh_dn (DL.fresh_dn (by assumption)) | exact DL.fresh_dn (DL.fresh_dn (DL.fresh_dn (by assumption))))) | exact Ne.symm (DL.ne_at (by assumption) (by (first | assumption | exact DL.fresh_up (by assumption) | exact DL.fresh_dn (by assumption) | exact DL.fresh_dn (DL.fresh_dn (by assumption)) | exact DL.fresh_dn (DL.fresh_dn (DL.fresh_dn (by assumption)))))) | exact DL.fresh_ne (by assumption) | exact Ne.symm (DL.fresh_ne (by assumption)) | exact DL.fresh_ne (DL.fresh_dn (by assumption)) | exact Ne.symm (DL.fresh_ne (DL.fresh_dn (by assumption))) | exact DL.fresh_ne (DL.fresh_dn (DL.fresh_dn (by assumption))) | exact Ne.symm (DL.fresh_ne (DL.fresh_dn (DL.fresh_dn (by assumption))))))).trans ?_; first | exact DL.mup_same | assumption | (refine (DL.mup_ne (by (first | assumption | exact Ne.symm (by assumption) | exact DL.ne_at (by assumption) (by (first | assumption | exact DL.fresh_up (by assumption) | exact DL.fresh_dn (by assumption) | exact DL.fresh_dn (DL.fresh_dn (by assumption)) | exact DL.fresh_dn (DL.fresh_dn (DL.fresh_dn (by assumption))))) | exact Ne.symm (DL.ne_at (by assumption) (by (first | assumption | exact DL.fresh_up (by assumption) | exact DL.fresh_dn (by assumption) | exact DL.fresh_dn (DL.fresh_dn (by assumption)) | exact DL.fresh_dn (DL.fresh_dn (DL.fresh_dn (by assumption)))))) | exact DL.fresh_ne (by assumption) | exact Ne.symm (DL.fresh_ne (by assumption)) | exact DL.fresh_ne (DL.fresh_dn (by assumption)) | exact Ne.symm (DL.fresh_ne (DL.fresh_dn (by assumption))) | exact DL.fresh_ne (DL.fresh_dn (DL.fresh_dn (by assumption))) | exact Ne.symm (DL.fresh_ne (DL.fresh_dn (DL.fresh_dn (by assumption))))))).trans ?_; first | exact DL.mup_same | assumption | (refine (DL.mup_ne (by (first | assumption | exact Ne.symm (by assumption) | exact DL.ne_at (by assumption) (by (first | assumption | exact DL.fresh_up (by assumption) | exact DL.fresh_dn (by assumption) | exact DL.fresh_dn (DL.fresh_dn (by assumption)) | exact DL.fresh_dn (DL.fresh_dn (DL.fresh_dn (by assumption))))) | exact Ne.symm (DL.ne_at (by assumption) (by (first | assumption | exact DL.fresh_up (by assumption) | exact DL.fresh_dn (by assumption) | exact DL.fresh_dn (DL.fresh_dn (by assumption)) | exact DL.fresh_dn (DL.fresh_dn (DL.fresh_dn (by assumption)))))) | exact DL.fresh_ne (by assumption) | exact Ne.symm (DL.fresh_ne (by assumption)) | exact DL.fresh_ne (DL.fresh_dn (by assumption)) | exact Ne.symm (DL.fresh_ne (DL.fresh_dn (by assumption))) | exact DL.fresh_ne (DL.fresh_dn (DL.fresh_dn (by assumption))) | exact Ne.symm (DL.fresh_ne (DL.fresh_dn (DL.fresh_dn (by assumption))))))).trans ?_; first | exact DL.mup_same | assumption | (refine (DL.mup_ne (by (first | assumption | exact Ne.symm (by assumption) | exact DL.ne_at (by assumption) (by (first | assumption | exact DL.fresh_up (by assumption) | exact DL.fresh_dn (by assumption) | exact DL.fresh_dn (DL.fresh_dn (by assumption)) | exact DL.fresh_dn (DL.fresh_dn (DL.fresh_dn (by assumption))))) | exact Ne.symm (DL.ne_at (by assumption) (by (first | assumption | exact DL.fresh_up (by assumption) | exact DL.fresh_dn (by assumption) | exact DL.fresh_dn (DL.fresh_dn (by assumption)) | exact DL.fresh_dn (DL.fresh_dn (DL.fresh_dn (by assumption)))))) | exact DL.fresh_ne (by assumption) | exact Ne.symm (DL.fresh_ne (by assumption)) | exact DL.fresh_ne (DL.fresh_dn (by assumption)) | exact Ne.symm (DL.fresh_ne (DL.fresh_dn (by assumption))) | exact DL.fresh_ne (DL.fresh_dn (DL.fresh_dn (by assumption))) | exact Ne.symm (DL.fresh_ne (DL.fresh_dn (DL.fresh_dn (by assumption))))))).trans ?_; first | exact DL.mup_same | assumption))))))) | exact DL.asK_lock (by (first | exact DL.mup_same | assumption | (refine (DL.mup_ne (by (first | assumption | exact Ne.symm (by assumption) | exact DL.ne_at (by assumption) (by (first | assumption | exact DL.fresh_up (by assumption) | exact DL.fresh_dn (by assumption) | exact DL.fresh_dn (DL.fresh_dn (by assumption)) | exact DL.fresh_dn (DL.fresh_dn (DL.fresh_dn (by assumption))))) | exact Ne.symm (DL.ne_at (by assumption) (by (first | assumption | exact DL.fresh_up (by assumption) | exact DL.fresh_dn (by assumption) | exact DL.fresh_dn (DL.fresh_dn (by assumption)) | exact DL.fresh_dn (DL.fresh_dn (DL.fresh_dn (by assumption)))))) | exact DL.fresh_ne (by assumption) | exact Ne.symm (DL.fresh_ne (by assumption)) | exact DL.fresh_ne (DL.fresh_dn (by assumption)) | exact Ne.symm (DL.fresh_ne (DL.fresh_dn (by assumption))) | exact DL.fresh_ne (DL.fresh_dn (DL.fresh_dn (by assumption))) | exact Ne.symm (DL.fresh_ne (DL.fresh_dn (DL.fresh_dn (by assumption))))))).trans ?_; first | exact DL.mup_same | assumption | (refine (DL.mup_ne (by (first | assumption | exact Ne.symm (by assumption) | exact DL.ne_at (by assumption) (by (first | assumption | exact DL.fresh_up (by assumption) | exact DL.fresh_dn (by assumption) | exact DL.fresh_dn (DL.fresh_dn (by assumption)) | exact DL.fresh_dn (DL.fresh_dn (DL.fresh_dn (by assumption))))) | exact Ne.symm (DL.ne_at (by assumption) (by (first | assumption | exact DL.fresh_up (by assumption) | exact DL.fresh_dn (by assumption) | exact DL.fresh_dn (DL.fresh_dn (by assumption)) | exact DL.fresh_dn (DL.fresh_dn (DL.fresh_dn (by assumption)))))) | exact DL.fresh_ne (by assumption) | exact Ne.symm (DL.fresh_ne (by assumption)) | exact DL.fresh_ne (DL.fresh_dn (by assumption)) | exact Ne.symm (DL.fresh_ne (DL.fresh_dn (by assumption))) | exact DL.fresh_ne (DL.fresh_dn (DL.fresh_dn (by assumption))) | exact Ne.symm (DL.fresh_ne (DL.fresh_dn (DL.fresh_dn (by assumption))))))).trans ?_; first | exact DL.mup_same | assumption | (refine (DL.mup_ne (by (first | assumption | exact Ne.symm (by assumption) | exact DL.ne_at (by assumption) (by (first | assumption | exact DL.fresh_up (by assumption) | exact DL.fresh_dn (by assumption) | exact DL.fresh_dn (DL.fresh_dn (by assumption)) | exact DL.fresh_dn (DL.fresh_dn (DL.fresh_dn (by assumption))))) | exact Ne.symm (DL.ne_at (by assumption) (by (first | assumption | exact DL.fresh_up (by assumption) | exact DL.fresh_dn (by assumption) | exact DL.fresh_dn (DL.fresh_dn (by assumption)) | exact DL.fresh_dn (DL.fresh_dn (DL.fresh_dn (by assumption)))))) | exact DL.fresh_ne (by assumption) | exact Ne.symm (DL.fresh_ne (by assumption)) | exact DL.fresh_ne (DL.fresh_dn (by assumption)) | exact Ne.symm (DL.fresh_ne (DL.fresh_dn (by assumption))) | exact DL.fresh_ne (DL.fresh_dn (DL.fresh_dn (by assumption))) | exact Ne.symm (DL.fresh_ne (DL.fresh_dn (DL.fresh_dn (by assumption))))))).trans ?_; first | exact DL.mup_same | assumption | (refine (DL.mup_ne (by (first | assumption | exact Ne.symm (by assumption) | exact DL.ne_at (by assumption) (by (first | assumption | exact DL.fresh_up (by assumption) | exact DL.fresh_dn (by assumption) | exact DL.fresh_dn (DL.fresh_dn (by assumption)) | exact DL.fresh_dn (DL.fresh_dn (DL.fresh_dn (by assumption))))) | exact Ne.symm (DL.ne_at (by assumption) (by (first | assumption | exact DL.fresh_up (by assumption) | exact DL.fresh_dn (by assumption) | exact DL.fresh_dn (DL.fresh_dn (by assumption)) | exact DL.fresh_dn (DL.fresh_dn (DL.fresh_dn (by assumption)))))) | exact DL.fresh_ne (by assumption) | exact Ne.symm (DL.fresh_ne (by assumption)) | exact DL.fresh_ne (DL.fresh_dn (by assumption)) | exact Ne.symm (DL.fresh_ne (DL.fresh_dn (by assumption))) | exact DL.fresh_ne (DL.fresh_dn (DL.fresh_dn (by assumption))) | exact Ne.symm (DL.fresh_ne (DL.fresh_dn (DL.fresh_dn (by assumption))))))).trans ?_; first | exact DL.mup_same | assumption | (refine (DL.mup_ne (by (first | assumption | exact Ne.symm (by assumption) | exact DL.ne_at (by assumption) (by (first | assumption | exact DL.fresh_up (by assumption) | exact DL.fresh_dn (by assumption) | exact DL.fresh_dn (DL.fresh_dn (by assumption)) | exact DL.fresh_dn (DL.fresh_dn (DL.fresh_dn (by assumption))))) | exact Ne.symm (DL.ne_at (by assumption) (by (first | assumption | exact DL.fresh_up (by assumption) | exact DL.fresh_dn (by assumption) | exact DL.fresh_dn (DL.fresh_dn (by assumption)) | exact DL.fresh_dn (DL.fresh_dn (DL.fresh_dn (by assumption)))))) | exact DL.fresh_ne (by assumption) | exact Ne.symm (DL.fresh_ne (by assumption)) | exact DL.fresh_ne (DL.fresh_dn (by assumption)) | exact Ne.symm (DL.fresh_ne (DL.fresh_dn (by assumption))) | exact DL.fresh_ne (DL.fresh_dn (DL.fresh_dn (by assumption))) | exact Ne.symm (DL.fresh_ne (DL.fresh_dn (DL.fresh_dn (by assumption))))))).trans ?_; first | exact DL.mup_same | assumption))))))) | assumption)) ?_)) | (show ∃ x y z, _ = some (DL.MO.dkl x y z) ∧ _; refine Exists.intro _ (Exists.intro _ (Exists.intro _ (And.intro (by (first | exact DL.mup_same | assumption | (refine (DL.mup_ne (by (first | assumption | exact Ne.symm (by assumption) | exact DL.ne_at (by assumption) (by (first | assumption | exact DL.fresh_up (by assumption) | exact DL.fresh_dn (by assumption) | exact DL.fresh_dn (DL.fresh_dn (by assumption)) | exact DL.fresh_dn (DL.fresh_dn (DL.fresh_dn (by assumption))))) | exact Ne.symm (DL.ne_at (by assumption) (by (first | assumption | exact DL.fresh_up (by assumption) | exact DL.fresh_dn (by assumption) | exact DL.fresh_dn (DL.fresh_dn (by assumption)) | exact DL.fresh_dn (DL.fresh_dn (DL.fresh_dn (by assumption)))))) | exact DL.fresh_ne (by assumption) | exact Ne.symm (DL.fresh_ne (by assumption)) | exact DL.fresh_ne (DL.fresh_dn (by assumption)) | exact Ne.symm (DL.fresh_ne (DL.fresh_dn (by assumption))) | exact DL.fresh_ne (DL.fresh_dn (DL.fresh_dn (by assumption))) | exact Ne.symm (DL.fresh_ne (DL.fresh_dn (DL.fresh_dn (by assumption))))))).trans ?_; first | exact DL.mup_same | assumption | (refine (DL.mup_ne (by (first | assumption | exact Ne.symm (by assumption) | exact DL.ne_at (by assumption) (by (first | assumption | exact DL.fresh_up (by assumption) | exact DL.fresh_dn (by assumption) | exact DL.fresh_dn (DL.fresh_dn (by assumption)) | exact DL.fresh_dn (DL.fresh_dn (DL.fresh_dn (by assumption))))) | exact Ne.symm (DL.ne_at (by assumption) (by (first | assumption | exact DL.fresh_up (by assumption) | exact DL.fresh_dn (by assumption) | exact DL.fresh_dn (DL.fresh_dn (by assumption)) | exact DL.fresh_dn (DL.fresh_dn (DL.fresh_dn (by assumption)))))) | exact DL.fresh_ne (by assumption) | exact Ne.symm (DL.fresh_ne (by assumption)) | exact DL.fresh_ne (DL.fresh_dn (by assumption)) | exact Ne.symm (DL.fresh_ne (DL.fresh_dn (by assumption))) | exact DL.fresh_ne (DL.fresh_dn (DL.fresh_dn (by assumption))) | exact Ne.symm (DL.fresh_ne (DL.fresh_dn (DL.fresh_dn (by assumption))))))).trans ?_; first | exact DL.mup_same | assumption | (refine (DL.mup_ne (by (first | assumption | exact Ne.symm (by assumption) | exact DL.ne_at (by assumption) (by (first | assumption | exact DL.fresh_up (by assumption) | exact DL.fresh_dn (by assumption) | exact DL.fresh_dn (DL.fresh_dn (by assumption)) | exact DL.fresh_dn (DL.fresh_dn (DL.fresh_dn (by assumption))))) | exact Ne.symm (DL.ne_at (by assumption) (by (first | assumption | exact DL.fresh_up (by assumption) | exact DL.fresh_dn (by assumption) | exact DL.fresh_dn (DL.fresh_dn (by assumption)) | exact DL.fresh_dn (DL.fresh_dn (DL.fresh_dn (by assumption)))))) | exact DL.fresh_ne (by assumption) | exact Ne.symm (DL.fresh_ne (by assumption)) | exact DL.fresh_ne (DL.fresh_dn (by assumption)) | exact Ne.symm (DL.fresh_ne (DL.fresh_dn (by assumption))) | exact DL.fresh_ne (DL.fresh_dn (DL.fresh_dn (by assumption))) | exact Ne.symm (DL.fresh_ne (DL.fresh_dn (DL.fresh_dn (by assumption))))))).trans ?_; first | exact DL.mup_same | assumption | (refine (DL.mup_ne (by (first | assumption | exact Ne.symm (by assumption) | exact DL.ne_at (by assumption) (by (first | assumption | exact DL.fresh_up (by assumption) | exact DL.fresh_dn (by assumption) | exact DL.fresh_dn (DL.fresh_dn (by assumption)) | exact DL.fresh_dn (DL.fresh_dn (DL.fresh_dn (by assumption))))) | exact Ne.symm (DL.ne_at (by assumption) (by (first | assumption | exact DL.fresh_up (by assumption) | exact DL.fresh_dn (by assumption) | exact DL.fresh_dn (DL.fresh_dn (by assumption)) | exact DL.fresh_dn (DL.fresh_dn (DL.fresh_dn (by assumption)))))) | exact DL.fresh_ne (by assumption) | exact Ne.symm (DL.fresh_ne (by assumption)) | exact DL.fresh_ne (DL.fresh_dn (by assumption)) | exact Ne.symm (DL.fresh_ne (DL.fresh_dn (by assumption))) | exact DL.fresh_ne (DL.fresh_dn (DL.fresh_dn (by assumption))) | exact Ne.symm (DL.fresh_ne (DL.fresh_dn (DL.fresh_dn (by assumption))))))).trans ?_; first | exact DL.mup_same | assumption | (refine (DL.mup_ne (by (first | assumption | exact Ne.symm (by assumption) | exact DL.ne_at (by assumption) (by (first | assumption | exact DL.fresh_up (by assumption) | exact DL.fresh_dn (by assumption) | exact DL.fresh_dn (DL.fresh_dn (by assumption)) | exact DL.fresh_dn (DL.fresh_dn (DL.fresh_dn (by assumption))))) | exact Ne.symm (DL.ne_at (by assumption) (by (first | assumption | exact DL.fresh_up (by assumption) | exact DL.fresh_dn (by assumption) | exact DL.fresh_dn (DL.fresh_dn (by assumption)) | exact DL.fresh_dn (DL.fresh_dn (DL.fresh_dn (by assumption)))))) | exact DL.fresh_ne (by assumption) | exact Ne.symm (DL.fresh_ne (by assumption)) | exact DL.fresh_ne (DL.fresh_dn (by assumption)) | exact Ne.symm (DL.fresh_ne (DL.fresh_dn (by assumption))) | exact DL.fresh_ne (DL.fresh_dn (DL.fresh_dn (by assumption))) | exact Ne.symm (DL.fresh_ne (DL.fresh_dn (DL.fresh_dn (by assumption))))))).trans ?_; first | exact DL.mup_same | assumption))))))) ?_)))) | (show ∃ x y, DL.insK _ _ = _ ∧ _; refine Exists.intro _ (Exists.intro _ (And.intro (by (first | exact rfl | assumption | exact DL.insK_adr (by (first | exact DL.mup_same | assumption | (refine (DL.mup_ne (by (first | assumption | exact Ne.symm (by assumption) | exact DL.ne_at (by assumption) (by (first | assumption | exact DL.fresh_up (by assumption) | exact DL.fresh_dn (by assumption) | exact DL.fresh_dn (DL.fresh_dn (by assumption)) | exact DL.fresh_dn (DL.fresh_dn (DL.fresh_dn (by assumption))))) | exact Ne.symm (DL.ne_at (by assumption) (by (first | assumption | exact DL.fresh_up (by assumption) | exact DL.fresh_dn (by assumption) | exact DL.fresh_dn (DL.fresh_dn (by assumption)) | exact DL.fresh_dn (DL.fresh_dn (DL.fresh_dn (by assumption)))))) | exact DL.fresh_ne (by assumption) | exact Ne.symm (DL.fresh_ne (by assumption)) | exact DL.fresh_ne (DL.fresh_dn (by assumption)) | exact Ne.symm (DL.fresh_ne (DL.fresh_dn (by assumption))) | exact DL.fresh_ne (DL.fresh_dn (DL.fresh_dn (by assumption))) | exact Ne.symm (DL.fresh_ne (DL.fresh_dn (DL.fresh_dn (by assumption))))))).trans ?_; first | exact DL.mup_same | assumption | (refine (DL.mup_ne (by (first | assumption | exact Ne.symm (by assumption) | exact DL.ne_at (by assumption) (by (first | assumption | exact DL.fresh_up (by assumption) | exact DL.fresh_dn (by assumption) | exact DL.fresh_dn (DL.fresh_dn (by assumption)) | exact DL.fresh_dn (DL.fresh_dn (DL.fresh_dn (by assumption))))) | exact Ne.symm (DL.ne_at (by assumption) (by (first | assumption | exact DL.fresh_up (by assumption) | exact DL.fresh_dn (by assumption) | exact DL.fresh_dn (DL.fresh_dn (by assumption)) | exact DL.fresh_dn (DL.fresh_dn (DL.fresh_dn (by assumption)))))) | exact DL.fresh_ne (by assumption) | exact Ne.symm (DL.fresh_ne (by assumption)) | exact DL.fresh_ne (DL.fresh_dn (by assumption)) | exact Ne.symm (DL.fresh_ne (DL.fresh_dn (by assumption))) | exact DL.fresh_ne (DL.fresh_dn (DL.fresh_dn (by assumption))) | exact Ne.symm (DL.fresh_ne (DL.fresh_dn (DL.fresh_dn (by assumption))))))).trans ?_; first | exact DL.mup_same | assumption | (refine (DL.mup_ne (by (first | assumption | exact Ne.symm (by assumption) | exact DL.ne_at (by assumption) (by (first | assumption | exact DL.fresh_up (by assumption) | exact DL.fresh_dn (by assumption) | exact DL.fresh_dn (DL.fresh_dn (by assumption)) | exact DL.fresh_dn (DL.fresh_dn (DL.fresh_dn (by assumption))))) | exact Ne.symm (DL.ne_at (by assumption) (by (first | assumption | exact DL.fresh_up (by assumption) | exact DL.fresh_dn (by assumption) | exact DL.fresh_dn (DL.fresh_dn (by assumption)) | exact DL.fresh_dn (DL.fresh_dn (DL.fresh_dn (by assumption)))))) | exact DL.fresh_ne (by assumption) | exact Ne.symm (DL.fresh_ne (by assumption)) | exact DL.fresh_ne (DL.fresh_dn (by assumption)) | exact Ne.symm (DL.fresh_ne (DL.fresh_dn (by assumption))) | exact DL.fresh_ne (DL.fresh_dn (DL.fresh_dn (by assumption))) | exact Ne.symm (DL.fresh_ne (DL.fresh_dn (DL.fresh_dn (by assumption))))))).trans ?_; first | exact DL.mup_same | assumption | (refine (DL.mup_ne (by (first | assumption | exact Ne.symm (by assumption) | exact DL.ne_at (by assumption) (by (first | assumption | exact DL.fresh_up (by assumption) | exact DL.fresh_dn (by assumption) | exact DL.fresh_dn (DL.fresh_dn (by assumption)) | exact DL.fresh_dn (DL.fresh_dn (DL.fresh_dn (by assumption))))) | exact Ne.symm (DL.ne_at (by assumption) (by (first | assumption | exact DL.fresh_up (by assumption) | exact DL.fresh_dn (by assumption) | exact DL.fresh_dn (DL.fresh_dn (by assumption)) | exact DL.fresh_dn (DL.fresh_dn (DL.fresh_dn (by assumption)))))) | exact DL.fresh_ne (by assumption) | exact Ne.symm (DL.fresh_ne (by assumption)) | exact DL.fresh_ne (DL.fresh_dn (by assumption)) | exact Ne.symm (DL.fresh_ne (DL.fresh_dn (by assumption))) | exact DL.fresh_ne (DL.fresh_dn (DL.fresh_dn (by assumption))) | exact Ne.symm (DL.fresh_ne (DL.fresh_dn (DL.fresh_dn (by assumption))))))).trans ?_; first | exact DL.mup_same | assumption | (refine (DL.mup_ne (by (first | assumption | exact Ne.symm (by assumption) | exact DL.ne_at (by assumption) (by (first | assumption | exact DL.fresh_up (by assumption) | exact DL.fresh_dn (by assumption) | exact DL.fresh_dn (DL.fresh_dn (by assumption)) | exact DL.fresh_dn (DL.fresh_dn (DL.fresh_dn (by assumption))))) | exact Ne.symm (DL.ne_at (by assumption) (by (first | assumption | exact DL.fresh_up (by assumption) | exact DL.fresh_dn (by assumption) | exact DL.fresh_dn (DL.fresh_dn (by assumption)) | exact DL.fresh_dn (DL.fresh_dn (DL.fresh_dn (by assumption)))))) | exact DL.fresh_ne (by assumption) | exact Ne.symm (DL.fresh_ne (by assumption)) | exact DL.fresh_ne (DL.fresh_dn (by assumption)) | exact Ne.symm (DL.fresh_ne (DL.fresh_dn (by assumption))) | exact DL.fresh_ne (DL.fresh_dn (DL.fresh_dn (by assumption))) | exact Ne.symm (DL.fresh_ne (DL.fresh_dn (DL.fresh_dn (by assumption))))))).trans ?_; first | exact DL.mup_same | assumption))))))))) (And.intro rfl ?_)))) | (show ∃ x y, DL.asT _ _ = _ ∧ _; refine Exists.intro _ (Exists.intro _ (And.intro (by (first | exact rfl | assumption | exact DL.asT_adr (by (first | exact DL.mup_same | assumption | (refine (DL.mup_ne (by (first | assumption | exact Ne.symm (by assumption) | exact DL.ne_at (by assumption) (by (first | assumption | exact DL.fresh_up (by assumption) | exact DL.fresh_dn (by assumption) | exact DL.fresh_dn (DL.fresh_dn (by assumption)) | exact DL.fresh_dn (DL.fresh_dn (DL.fresh_dn (by assumption))))) | exact Ne.symm (DL.ne_at (by assumption) (by (first | assumption | exact DL.fresh_up (by assumption) | exact DL.fresh_dn (by assumption) | exact DL.fresh_dn (DL.fresh_dn (by assumption)) | exact DL.fresh_dn (DL.fresh_dn (DL.fresh_dn (by assumption)))))) | exact DL.fresh_ne (by assumption) | exact Ne.symm (DL.fresh_ne (by assumption)) | exact DL.fresh_ne (DL.fresh_dn (by assumption)) | exact Ne.symm (DL.fresh_ne (DL.fresh_dn (by assumption))) | exact DL.fresh_ne (DL.fresh_dn (DL.fresh_dn (by assumption))) | exact Ne.symm (DL.fresh_ne (DL.fresh_dn (DL.fresh_dn (by assumption))))))).trans ?_; first | exact DL.mup_same | assumption | (refine (DL.mup_ne (by (first | assumption | exact Ne.symm (by assumption) | exact DL.ne_at (by assumption) (by (first | assumption | exact DL.fresh_up (by assumption) | exact DL.fresh_dn (by assumption) | exact DL.fresh_dn (DL.fresh_dn (by assumption)) | exact DL.fresh_dn (DL.fresh_dn (DL.fresh_dn (by assumption))))) | exact Ne.symm (DL.ne_at (by assumption) (by (first | assumption | exact DL.fresh_up (by assumption) | exact DL.fresh_dn (by assumption) | exact DL.fresh_dn (DL.fresh_dn (by assumption)) | exact DL.fresh_dn (DL.fresh_dn (DL.fresh_dn (by assumption)))))) | exact DL.fresh_ne (by assumption) | exact Ne.symm (DL.fresh_ne (by assumption)) | exact DL.fresh_ne (DL.fresh_dn (by assumption)) | exact Ne.symm (DL.fresh_ne (DL.fresh_dn (by assumption))) | exact DL.fresh_ne (DL.fresh_dn (DL.fresh_dn (by assumption))) | exact Ne.symm (DL.fresh_ne (DL.fresh_dn (DL.fresh_dn (by assumption))))))).trans ?_; first | exact DL.mup_same | assumption | (refine (DL.mup_ne (by (first | assumption | exact Ne.symm (by assumption) | exact DL.ne_at (by assumption) (by (first | assumption | exact DL.fresh_up (by assumption) | exact DL.fresh_dn (by assumption) | exact DL.fresh_dn (DL.fresh_dn (by assumption)) | exact DL.fresh_dn (DL.fresh_dn (DL.fresh_dn (by assumption))))) | exact Ne.symm (DL.ne_at (by assumption) (by (first | assumption | exact DL.fresh_up (by assumption) | exact DL.fresh_dn (by assumption) | exact DL.fresh_dn (DL.fresh_dn (by assumption)) | exact DL.fresh_dn (DL.fresh_dn (DL.fresh_dn (by assumption)))))) | exact DL.fresh_ne (by assumption) | exact Ne.symm (DL.fresh_ne (by assumption)) | exact DL.fresh_ne (DL.fresh_dn (by assumption)) | exact Ne.symm (DL.fresh_ne (DL.fresh_dn (by assumption))) | exact DL.fresh_ne (DL.fresh_dn (DL.fresh_dn (by assumption))) | exact Ne.symm (DL.fresh_ne (DL.fresh_dn (DL.fresh_dn (by assumption))))))).trans ?_; first | exact DL.mup_same | assumption | (refine (DL.mup_ne (by (first | assumption | exact Ne.symm (by assumption) | exact DL.ne_at (by assumption) (by (first | assumption | exact DL.fresh_up (by assumption) | exact DL.fresh_dn (by assumption) | exact DL.fresh_dn (DL.fresh_dn (by assumption)) | exact DL.fresh_dn (DL.fresh_dn (DL.fresh_dn (by assumption))))) | exact Ne.symm (DL.ne_at (by assumption) (by (first | assumption | exact DL.fresh_up (by assumption) | exact DL.fresh_dn (by assumption) | exact DL.fresh_dn (DL.fresh_dn (by assumption)) | exact DL.fresh_dn (DL.fresh_dn (DL.fresh_dn (by assumption)))))) | exact DL.fresh_ne (by assumption) | exact Ne.symm (DL.fresh_ne (by assumption)) | exact DL.fresh_ne (DL.fresh_dn (by assumption)) | exact Ne.symm (DL.fresh_ne (DL.fresh_dn (by assumption))) | exact DL.fresh_ne (DL.fresh_dn (DL.fresh_dn (by assumption))) | exact Ne.symm (DL.fresh_ne (DL.fresh_dn (DL.fresh_dn (by assumption))))))).trans ?_; first | exact DL.mup_same | assumption | (refine (DL.mup_ne (by (first | assumption | exact Ne.symm (by assumption) | exact DL.ne_at (by assumption) (by (first | assumption | exact DL.fresh_up (by assumption) | exact DL.fresh_dn (by assumption) | exact DL.fresh_dn (DL.fresh_dn (by assumption)) | exact DL.fresh_dn (DL.fresh_dn (DL.fresh_dn (by assumption))))) | exact Ne.symm (DL.ne_at (by assumption) (by (first | assumption | exact DL.fresh_up (by assumption) | exact DL.fresh_dn (by assumption) | exact DL.fresh_dn (DL.fresh_dn (by assumption)) | exact DL.fresh_dn (DL.fresh_dn (DL.fresh_dn (by assumption)))))) | exact DL.fresh_ne (by assumption) | exact Ne.symm (DL.fresh_ne (by assumption)) | exact DL.fresh_ne (DL.fresh_dn (by assumption)) | exact Ne.symm (DL.fresh_ne (DL.fresh_dn (by assumption))) | exact DL.fresh_ne (DL.fresh_dn (DL.fresh_dn (by assumption))) | exact Ne.symm (DL.fresh_ne (DL.fresh_dn (DL.fresh_dn (by assumption))))))).trans ?_; first | exact DL.mup_same | assumption))))))))) (And.intro (by (first | exact rfl | assumption | exact DL.asT_adr (by (first | exact DL.mup_same | assumption | (refine (DL.mup_ne (by (first | assumption | exact Ne.symm (by assumption) | exact DL.ne_at (by assumption) (by (first | assumption | exact DL.fresh_up (by assumption) | exact DL.fresh_dn (by assumption) | exact DL.fresh_dn (DL.fresh_dn (by assumption)) | exact DL.fresh_dn (DL.fresh_dn (DL.fresh_dn (by assumption))))) | exact Ne.symm (DL.ne_at (by assumption) (by (first | assumption | exact DL.fresh_up (by assumption) | exact DL.fresh_dn (by assumption) | exact DL.fresh_dn (DL.fresh_dn (by assumption)) | exact DL.fresh_dn (DL.fresh_dn (DL.fresh_dn (by assumption)))))) | exact DL.fresh_ne (by assumption) | exact Ne.symm (DL.fresh_ne (by assumption)) | exact DL.fresh_ne (DL.fresh_dn (by assumption)) | exact Ne.symm (DL.fresh_ne (DL.fresh_dn (by assumption))) | exact DL.fresh_ne (DL.fresh_dn (DL.fresh_dn (by assumption))) | exact Ne.symm (DL.fresh_ne (DL.fresh_dn (DL.fresh_dn (by assumption))))))).trans ?_; first | exact DL.mup_same | assumption | (refine (DL.mup_ne (by (first | assumption | exact Ne.symm (by assumption) | exact DL.ne_at (by assumption) (by (first | assumption | exact DL.fresh_up (by assumption) | exact DL.fresh_dn (by assumption) | exact DL.fresh_dn (DL.fresh_dn (by assumption)) | exact DL.fresh_dn (DL.fresh_dn (DL.fresh_dn (by assumption))))) | exact Ne.symm (DL.ne_at (by assumption) (by (first | assumption | exact DL.fresh_up (by assumption) | exact DL.fresh_dn (by assumption) | exact DL.fresh_dn (DL.fresh_dn (by assumption)) | exact DL.fresh_dn (DL.fresh_dn (DL.fresh_dn (by assumption)))))) | exact DL.fresh_ne (by assumption) | exact Ne.symm (DL.fresh_ne (by assumption)) | exact DL.fresh_ne (DL.fresh_dn (by assumption)) | exact Ne.symm (DL.fresh_ne (DL.fresh_dn (by assumption))) | exact DL.fresh_ne (DL.fresh_dn (DL.fresh_dn (by assumption))) | exact Ne.symm (DL.fresh_ne (DL.fresh_dn (DL.fresh_dn (by assumption))))))).trans ?_; first | exact DL.mup_same | assumption | (refine (DL.mup_ne (by (first | assumption | exact Ne.symm (by assumption) | exact DL.ne_at (by assumption) (by (first | assumption | exact DL.fresh_up (by assumption) | exact DL.fresh_dn (by assumption) | exact DL.fresh_dn (DL.fresh_dn (by assumption)) | exact DL.fresh_dn (DL.fresh_dn (DL.fresh_dn (by assumption))))) | exact Ne.symm (DL.ne_at (by assumption) (by (first | assumption | exact DL.fresh_up (by assumption) | exact DL.fresh_dn (by assumption) | exact DL.fresh_dn (DL.fresh_dn (by assumption)) | exact DL.fresh_dn (DL.fresh_dn (DL.fresh_dn (by assumption)))))) | exact DL.fresh_ne (by assumption) | exact Ne.symm (DL.fresh_ne (by assumption)) | exact DL.fresh_ne (DL.fresh_dn (by assumption)) | exact Ne.symm (DL.fresh_ne (DL.fresh_dn (by assumption))) | exact DL.fresh_ne (DL.fresh_dn (DL.fresh_dn (by assumption))) | exact Ne.symm (DL.fresh_ne (DL.fresh_dn (DL.fresh_dn (by assumption))))))).trans ?_; first | exact DL.mup_same | assumption | (refine (DL.mup_ne (by (first | assumption | exact Ne.symm (by assumption) | exact DL.ne_at (by assumption) (by (first | assumption | exact DL.fresh_up (by assumption) | exact DL.fresh_dn (by assumption) | exact DL.fresh_dn (DL.fresh_dn (by assumption)) | exact DL.fresh_dn (DL.fresh_dn (DL.fresh_dn (by assumption))))) | exact Ne.symm (DL.ne_at (by assumption) (by (first | assumption | exact DL.fresh_up (by assumption) | exact DL.fresh_dn (by assumption) | exact DL.fresh_dn (DL.fresh_dn (by assumption)) | exact DL.fresh_dn (DL.fresh_dn (DL.fresh_dn (by assumption)))))) | exact DL.fresh_ne (by assumption) | exact Ne.symm (DL.fresh_ne (by assumption)) | exact DL.fresh_ne (DL.fresh_dn (by assumption)) | exact Ne.symm (DL.fresh_ne (DL.fresh_dn (by assumption))) | exact DL.fresh_ne (DL.fresh_dn (DL.fresh_dn (by assumption))) | exact Ne.symm (DL.fresh_ne (DL.fresh_dn (DL.fresh_dn (by assumption))))))).trans ?_; first | exact DL.mup_same | assumption | (refine (DL.mup_ne (by (first | assumption | exact Ne.symm (by assumption) | exact DL.ne_at (by assumption) (by (first | assumption | exact DL.fresh_up (by assumption) | exact DL.fresh_dn (by assumption) | exact DL.fresh_dn (DL.fresh_dn (by assumption)) | exact DL.fresh_dn (DL.fresh_dn (DL.fresh_dn (by assumption))))) | exact Ne.symm (DL.ne_at (by assumption) (by (first | assumption | exact DL.fresh_up (by assumption) | exact DL.fresh_dn (by assumption) | exact DL.fresh_dn (DL.fresh_dn (by assumption)) | exact DL.fresh_dn (DL.fresh_dn (DL.fresh_dn (by assumption)))))) | exact DL.fresh_ne (by assumption) | exact Ne.symm (DL.fresh_ne (by assumption)) | exact DL.fresh_ne (DL.fresh_dn (by assumption)) | exact Ne.symm (DL.fresh_ne (DL.fresh_dn (by assumption))) | exact DL.fresh_ne (DL.fresh_dn (DL.fresh_dn (by assumption))) | exact Ne.symm (DL.fresh_ne (DL.fresh_dn (DL.fresh_dn (by assumption))))))).trans ?_; first | exact DL.mup_same | assumption))))))))) ?_)))) | (show ∃ x, DL.asT _ _ = _ ∧ _; refine Exists.intro _ (And.intro (by (first | exact rfl | assumption | exact DL.asT_adr (by (first | exact DL.mup_same | assumption | (refine (DL.mup_ne (by (first | assumption | exact Ne.symm (by assumption) | exact DL.ne_at (by assumption) (by (first | assumption | exact DL.fresh_up (by assumption) | exact DL.fresh_dn (by assumption) | exact DL.fresh_dn (DL.fresh_dn (by assumption)) | exact DL.fresh_dn (DL.fresh_dn (DL.fresh_dn (by assumption))))) | exact Ne.symm (DL.ne_at (by assumption) (by (first | assumption | exact DL.fresh_up (by assumption) | exact DL.fresh_dn (by assumption) | exact DL.fresh_dn (DL.fresh_dn (by assumption)) | exact DL.fresh_dn (DL.fresh_dn (DL.fresh_dn (by assumption)))))) | exact DL.fresh_ne (by assumption) | exact Ne.symm (DL.fresh_ne (by assumption)) | exact DL.fresh_ne (DL.fresh_dn (by assumption)) | exact Ne.symm (DL.fresh_ne (DL.fresh_dn (by assumption))) | exact DL.fresh_ne (DL.fresh_dn (DL.fresh_dn (by assumption))) | exact Ne.symm (DL.fresh_ne (DL.fresh_dn (DL.fresh_dn (by assumption))))))).trans ?_; first | exact DL.mup_same | assumption | (refine (DL.mup_ne (by (first | assumption | exact Ne.symm (by assumption) | exact DL.ne_at (by assumption) (by (first | assumption | exact DL.fresh_up (by assumption) | exact DL.fresh_dn (by assumption) | exact DL.fresh_dn (DL.fresh_dn (by assumption)) | exact DL.fresh_dn (DL.fresh_dn (DL.fresh_dn (by assumption))))) | exact Ne.symm (DL.ne_at (by assumption) (by (first | assumption | exact DL.fresh_up (by assumption) | exact DL.fresh_dn (by assumption) | exact DL.fresh_dn (DL.fresh_dn (by assumption)) | exact DL.fresh_dn (DL.fresh_dn (DL.fresh_dn (by assumption)))))) | exact DL.fresh_ne (by assumption) | exact Ne.symm (DL.fresh_ne (by assumption)) | exact DL.fresh_ne (DL.fresh_dn (by assumption)) | exact Ne.symm (DL.fresh_ne (DL.fresh_dn (by assumption))) | exact DL.fresh_ne (DL.fresh_dn (DL.fresh_dn (by assumption))) | exact Ne.symm (DL.fresh_ne (DL.fresh_dn (DL.fresh_dn (by assumption))))))).trans ?_; first | exact DL.mup_same | assumption | (refine (DL.mup_ne (by (first | assumption | exact Ne.symm (by assumption) | exact DL.ne_at (by assumption) (by (first | assumption | exact DL.fresh_up (by assumption) | exact DL.fresh_dn (by assumption) | exact DL.fresh_dn (DL.fresh_dn (by assumption)) | exact DL.fresh_dn (DL.fresh_dn (DL.fresh_dn (by assumption))))) | exact Ne.symm (DL.ne_at (by assumption) (by (first | assumption | exact DL.fresh_up (by assumption) | exact DL.fresh_dn (by assumption) | exact DL.fresh_dn (DL.fresh_dn (by assumption)) | exact DL.fresh_dn (DL.fresh_dn (DL.fresh_dn (by assumption)))))) | exact DL.fresh_ne (by assumption) | exact Ne.symm (DL.fresh_ne (by assumption)) | exact DL.fresh_ne (DL.fresh_dn (by assumption)) | exact Ne.symm (DL.fresh_ne (DL.fresh_dn (by assumption))) | exact DL.fresh_ne (DL.fresh_dn (DL.fresh_dn (by assumption))) | exact Ne.symm (DL.fresh_ne (DL.fresh_dn (DL.fresh_dn (by assumption))))))).trans ?_; first | exact DL.mup_same | assumption | (refine (DL.mup_ne (by (first | assumption | exact Ne.symm (by assumption) | exact DL.ne_at (by assumption) (by (first | assumption | exact DL.fresh_up (by assumption) | exact DL.fresh_dn (by assumption) | exact DL.fresh_dn (DL.fresh_dn (by assumption)) | exact DL.fresh_dn (DL.fresh_dn (DL.fresh_dn (by assumption))))) | exact Ne.symm (DL.ne_at (by assumption) (by (first | assumption | exact DL.fresh_up (by assumption) | exact DL.fresh_dn (by assumption) | exact DL.fresh_dn (DL.fresh_dn (by assumption)) | exact DL.fresh_dn (DL.fresh_dn (DL.fresh_dn (by assumption)))))) | exact DL.fresh_ne (by assumption) | exact Ne.symm (DL.fresh_ne (by assumption)) | exact DL.fresh_ne (DL.fresh_dn (by assumption)) | exact Ne.symm (DL.fresh_ne (DL.fresh_dn (by assumption))) | exact DL.fresh_ne (DL.fresh_dn (DL.fresh_dn (by assumption))) | exact Ne.symm (DL.fresh_ne (DL.fresh_dn (DL.fresh_dn (by assumption))))))).trans ?_; first | exact DL.mup_same | assumption | (refine (DL.mup_ne (by (first | assumption | exact Ne.symm (by assumption) | exact DL.ne_at (by assumption) (by (first | assumption | exact DL.fresh_up (by assumption) | exact DL.fresh_dn (by assumption) | exact DL.fresh_dn (DL.fresh_dn (by assumption)) | exact DL.fresh_dn (DL.fresh_dn (DL.fresh_dn (by assumption))))) | exact Ne.symm (DL.ne_at (by assumption) (by (first | assumption | exact DL.fresh_up (by assumption) | exact DL.fresh_dn (by assumption) | exact DL.fresh_dn (DL.fresh_dn (by assumption)) | exact DL.fresh_dn (DL.fresh_dn (DL.fresh_dn (by assumption)))))) | exact DL.fresh_ne (by assumption) | exact Ne.symm (DL.fresh_ne (by assumption)) | exact DL.fresh_ne (DL.fresh_dn (by assumption)) | exact Ne.symm (DL.fresh_ne (DL.fresh_dn (by assumption))) | exact DL.fresh_ne (DL.fresh_dn (DL.fresh_dn (by assumption))) | exact Ne.symm (DL.fresh_ne (DL.fresh_dn (DL.fresh_dn (by assumption))))))).trans ?_; first | exact DL.mup_same | assumption))))))))) ?_)) | (show ∃ x y, DL.dty _ _ = _ ∧ _; refine Exists.intro _ (Exists.intro _ (And.intro (by first | exact rfl | exact DL.dty_lst (by (first | exact DL.mup_same | assumption | (refine (DL.mup_ne (by (first | assumption | exact Ne.symm (by assumption) | exact DL.ne_at (by assumption) (by (first | assumption | exact DL.fresh_up (by assumption) | exact DL.fresh_dn (by assumption) | exact DL.fresh_dn (DL.fresh_dn (by assumption)) | exact DL.fresh_dn (DL.fresh_dn (DL.fresh_dn (by assumption))))) | exact Ne.symm (DL.ne_at (by assumption) (by (first | assumption | exact DL.fresh_up (by assumption) | exact DL.fresh_dn (by assumption) | exact DL.fresh_dn (DL.fresh_dn (by assumption)) | exact DL.fresh_dn (DL.fresh_dn (DL.fresh_dn (by assumption)))))) | exact DL.fresh_ne (by assumption) | exact Ne.symm (DL.fresh_ne (by assumption)) | exact DL.fresh_ne (DL.fresh_dn (by assumption)) | exact Ne.symm (DL.fresh_ne (DL.fresh_dn (by assumption))) | exact DL.fresh_ne (DL.fresh_dn (DL.fresh_dn (by assumption))) | exact Ne.symm (DL.fresh_ne (DL.fresh_dn (DL.fresh_dn (by assumption))))))).trans ?_; first | exact DL.mup_same | assumption | (refine (DL.mup_ne (by (first | assumption | exact Ne.symm (by assumption) | exact DL.ne_at (by assumption) (by (first | assumption | exact DL.fresh_up (by assumption) | exact DL.fresh_dn (by assumption) | exact DL.fresh_dn (DL.fresh_dn (by assumption)) | exact DL.fresh_dn (DL.fresh_dn (DL.fresh_dn (by assumption))))) | exact Ne.symm (DL.ne_at (by assumption) (by (first | assumption | exact DL.fresh_up (by assumption) | exact DL.fresh_dn (by assumption) | exact DL.fresh_dn (DL.fresh_dn (by assumption)) | exact DL.fresh_dn (DL.fresh_dn (DL.fresh_dn (by assumption)))))) | exact DL.fresh_ne (by assumption) | exact Ne.symm (DL.fresh_ne (by assumption)) | exact DL.fresh_ne (DL.fresh_dn (by assumption)) | exact Ne.symm (DL.fresh_ne (DL.fresh_dn (by assumption))) | exact DL.fresh_ne (DL.fresh_dn (DL.fresh_dn (by assumption))) | exact Ne.symm (DL.fresh_ne (DL.fresh_dn (DL.fresh_dn (by assumption))))))).trans ?_; first | exact DL.mup_same | assumption | (refine (DL.mup_ne (by (first | assumption | exact Ne.symm (by assumption) | exact DL.ne_at (by assumption) (by (first | assumption | exact DL.fresh_up (by assumption) | exact DL.fresh_dn (by assumption) | exact DL.fresh_dn (DL.fresh_dn (by assumption)) | exact DL.fresh_dn (DL.fresh_dn (DL.fresh_dn (by assumption))))) | exact Ne.symm (DL.ne_at (by assumption) (by (first | assumption | exact DL.fresh_up (by assumption) | exact DL.fresh_dn (by assumption) | exact DL.fresh_dn (DL.fresh_dn (by assumption)) | exact DL.fresh_dn (DL.fresh_dn (DL.fresh_dn (by assumption)))))) | exact DL.fresh_ne (by assumption) | exact Ne.symm (DL.fresh_ne (by assumption)) | exact DL.fresh_ne (DL.fresh_dn (by assumption)) | exact Ne.symm (DL.fresh_ne (DL.fresh_dn (by assumption))) | exact DL.fresh_ne (DL.fresh_dn (DL.fresh_dn (by assumption))) | exact Ne.symm (DL.fresh_ne (DL.fresh_dn (DL.fresh_dn (by assumption))))))).trans ?_; first | exact DL.mup_same | assumption | (refine (DL.mup_ne (by (first | assumption | exact Ne.symm (by assumption) | exact DL.ne_at (by assumption) (by (first | assumption | exact DL.fresh_up (by assumption) | exact DL.fresh_dn (by assumption) | exact DL.fresh_dn (DL.fresh_dn (by assumption)) | exact DL.fresh_dn (DL.fresh_dn (DL.fresh_dn (by assumption))))) | exact Ne.symm (DL.ne_at (by assumption) (by (first | assumption | exact DL.fresh_up (by assumption) | exact DL.fresh_dn (by assumption) | exact DL.fresh_dn (DL.fresh_dn (by assumption)) | exact DL.fresh_dn (DL.fresh_dn (DL.fresh_dn (by assumption)))))) | exact DL.fresh_ne (by assumption) | exact Ne.symm (DL.fresh_ne (by assumption)) | exact DL.fresh_ne (DL.fresh_dn (by assumption)) | exact Ne.symm (DL.fresh_ne (DL.fresh_dn (by assumption))) | exact DL.fresh_ne (DL.fresh_dn (DL.fresh_dn (by assumption))) | exact Ne.symm (DL.fresh_ne (DL.fresh_dn (DL.fresh_dn (by assumption))))))).trans ?_; first | exact DL.mup_same | assumption | (refine (DL.mup_ne (by (first | assumption | exact Ne.symm (by assumption) | exact DL.ne_at (by assumption) (by (first | assumption | exact DL.fresh_up (by assumption) | exact DL.fresh_dn (by assumption) | exact DL.fresh_dn (DL.fresh_dn (by assumption)) | exact DL.fresh_dn (DL.fresh_dn (DL.fresh_dn (by assumption))))) | exact Ne.symm (DL.ne_at (by assumption) (by (first | assumption | exact DL.fresh_up (by assumption) | exact DL.fresh_dn (by assumption) | exact DL.fresh_dn (DL.fresh_dn (by assumption)) | exact DL.fresh_dn (DL.fresh_dn (DL.fresh_dn (by assumption)))))) | exact DL.fresh_ne (by assumption) | exact Ne.symm (DL.fresh_ne (by assumption)) | exact DL.fresh_ne (DL.fresh_dn (by assumption)) | exact Ne.symm (DL.fresh_ne (DL.fresh_dn (by assumption))) | exact DL.fresh_ne (DL.fresh_dn (DL.fresh_dn (by assumption))) | exact Ne.symm (DL.fresh_ne (DL.fresh_dn (DL.fresh_dn (by assumption))))))).trans ?_; first | exact DL.mup_same | assumption))))))) | exact DL.dty_dct (by (first | exact DL.mup_same | assumption | (refine (DL.mup_ne (by (first | assumption | exact Ne.symm (by assumption) | exact DL.ne_at (by assumption) (by (first | assumption | exact DL.fresh_up (by assumption) | exact DL.fresh_dn (by assumption) | exact DL.fresh_dn (DL.fresh_dn (by assumption)) | exact DL.fresh_dn (DL.fresh_dn (DL.fresh_dn (by assumption))))) | exact Ne.symm (DL.ne_at (by assumption) (by (first | assumption | exact DL.fresh_up (by assumption) | exact DL.fresh_dn (by assumption) | exact DL.fresh_dn (DL.fresh_dn (by assumption)) | exact DL.fresh_dn (DL.fresh_dn (DL.fresh_dn (by assumption)))))) | exact DL.fresh_ne (by assumption) | exact Ne.symm (DL.fresh_ne (by assumption)) | exact DL.fresh_ne (DL.fresh_dn (by assumption)) | exact Ne.symm (DL.fresh_ne (DL.fresh_dn (by assumption))) | exact DL.fresh_ne (DL.fresh_dn (DL.fresh_dn (by assumption))) | exact Ne.symm (DL.fresh_ne (DL.fresh_dn (DL.fresh_dn (by assumption))))))).trans ?_; first | exact DL.mup_same | assumption | (refine (DL.mup_ne (by (first | assumption | exact Ne.symm (by assumption) | exact DL.ne_at (by assumption) (by (first | assumption | exact DL.fresh_up (by assumption) | exact DL.fresh_dn (by assumption) | exact DL.fresh_dn (DL.fresh_dn (by assumption)) | exact DL.fresh_dn (DL.fresh_dn (DL.fresh_dn (by assumption))))) | exact Ne.symm (DL.ne_at (by assumption) (by (first | assumption | exact DL.fresh_up (by assumption) | exact DL.fresh_dn (by assumption) | exact DL.fresh_dn (DL.fresh_dn (by assumption)) | exact DL.fresh_dn (DL.fresh_dn (DL.fresh_dn (by assumption)))))) | exact DL.fresh_ne (by assumption) | exact Ne.symm (DL.fresh_ne (by assumption)) | exact DL.fresh_ne (DL.fresh_dn (by assumption)) | exact Ne.symm (DL.fresh_ne (DL.fresh_dn (by assumption))) | exact DL.fresh_ne (DL.fresh_dn (DL.fresh_dn (by assumption))) | exact Ne.symm (DL.fresh_ne (DL.fresh_dn (DL.fresh_dn (by assumption))))))).trans ?_; first | exact DL.mup_same | assumption | (refine (DL.mup_ne (by (first | assumption | exact Ne.symm (by assumption) | exact DL.ne_at (by assumption) (by (first | assumption | exact DL.fresh_up (by assumption) | exact DL.fresh_dn (by assumption) | exact DL.fresh_dn (DL.fresh_dn (by assumption)) | exact DL.fresh_dn (DL.fresh_dn (DL.fresh_dn (by assumption))))) | exact Ne.symm (DL.ne_at (by assumption) (by (first | assumption | exact DL.fresh_up (by assumption) | exact DL.fresh_dn (by assumption) | exact DL.fresh_dn (DL.fresh_dn (by assumption)) | exact DL.fresh_dn (DL.fresh_dn (DL.fresh_dn (by assumption)))))) | exact DL.fresh_ne (by assumption) | exact Ne.symm (DL.fresh_ne (by assumption)) | exact DL.fresh_ne (DL.fresh_dn (by assumption)) | exact Ne.symm (DL.fresh_ne (DL.fresh_dn (by assumption))) | exact DL.fresh_ne (DL.fresh_dn (DL.fresh_dn (by assumption))) | exact Ne.symm (DL.fresh_ne (DL.fresh_dn (DL.fresh_dn (by assumption))))))).trans ?_; first | exact DL.mup_same | assumption | (refine (DL.mup_ne (by (first | assumption | exact Ne.symm (by assumption) | exact DL.ne_at (by assumption) (by (first | assumption | exact DL.fresh_up (by assumption) | exact DL.fresh_dn (by assumption) | exact DL.fresh_dn (DL.fresh_dn (by assumption)) | exact DL.fresh_dn (DL.fresh_dn (DL.fresh_dn (by assumption))))) | exact Ne.symm (DL.ne_at (by assumption) (by (first | assumption | exact DL.fresh_up (by assumption) | exact DL.fresh_dn (by assumption) | exact DL.fresh_dn (DL.fresh_dn (by assumption)) | exact DL.fresh_dn (DL.fresh_dn (DL.fresh_dn (by assumption)))))) | exact DL.fresh_ne (by assumption) | exact Ne.symm (DL.fresh_ne (by assumption)) | exact DL.fresh_ne (DL.fresh_dn (by assumption)) | exact Ne.symm (DL.fresh_ne (DL.fresh_dn (by assumption))) | exact DL.fresh_ne (DL.fresh_dn (DL.fresh_dn (by assumption))) | exact Ne.symm (DL.fresh_ne (DL.fresh_dn (DL.fresh_dn (by assumption))))))).trans ?_; first | exact DL.mup_same | assumption | (refine (DL.mup_ne (by (first | assumption | exact Ne.symm (by assumption) | exact DL.ne_at (by assumption) (by (first | assumption | exact DL.fresh_up (by assumption) | exact DL.fresh_dn (by assumption) | exact DL.fresh_dn (DL.fresh_dn (by assumption)) | exact DL.fresh_dn (DL.fresh_dn (DL.fresh_dn (by assumption))))) | exact Ne.symm (DL.ne_at (by assumption) (by (first | assumption | exact DL.fresh_up (by assumption) | exact DL.fresh_dn (by assumption) | exact DL.fresh_dn (DL.fresh_dn (by assumption)) | exact DL.fresh_dn (DL.fresh_dn (DL.fresh_dn (by assumption)))))) | exact DL.fresh_ne (by assumption) | exact Ne.symm (DL.fresh_ne (by assumption)) | exact DL.fresh_ne (DL.fresh_dn (by assumption)) | exact Ne.symm (DL.fresh_ne (DL.fresh_dn (by assumption))) | exact DL.fresh_ne (DL.fresh_dn (DL.fresh_dn (by assumption))) | exact Ne.symm (DL.fresh_ne (DL.fresh_dn (DL.fresh_dn (by assumption))))))).trans ?_; first | exact DL.mup_same | assumption)))))))) (And.intro rfl ?_)))) | (show ∃ x, L2.ixN _ _ = some x ∧ _; refine Exists.intro _ (And.intro (by first | assumption | exact DL.ixN_nat (by (first | omega | (simp only [List.length_map, List.length_range, List.length_cons, List.length_nil, List.length_append]; omega))) | exact DL.ixN_int (by (first | omega | (simp only [List.length_map, List.length_range, List.length_cons, List.length_nil, List.length_append]; omega))) (by (first | omega | (simp only [List.length_map, List.length_range, List.length_cons, List.length_nil, List.length_append]; omega)))) ?_)) | (show ∃ x, DL.fset _ _ _ = x ∧ _; refine Exists.intro _ (And.intro (by (simp only [DL.fset]; exact rfl)) ?_)) | (show ∃ x y, DL.asL _ _ = _ ∧ _; refine Exists.intro _ (Exists.intro _ (And.intro (by (first | exact rfl | assumption | exact DL.asL_same | exact DL.asL_adr (by (first | exact DL.mup_same | assumption | (refine (DL.mup_ne (by (first | assumption | exact Ne.symm (by assumption) | exact DL.ne_at (by assumption) (by (first | assumption | exact DL.fresh_up (by assumption) | exact DL.fresh_dn (by assumption) | exact DL.fresh_dn (DL.fresh_dn (by assumption)) | exact DL.fresh_dn (DL.fresh_dn (DL.fresh_dn (by assumption))))) | exact Ne.symm (DL.ne_at (by assumption) (by (first | assumption | exact DL.fresh_up (by assumption) | exact DL.fresh_dn (by assumption) | exact DL.fresh_dn (DL.fresh_dn (by assumption)) | exact DL.fresh_dn (DL.fresh_dn (DL.fresh_dn (by assumption)))))) | exact DL.fresh_ne (by assumption) | exact Ne.symm (DL.fresh_ne (by assumption)) | exact DL.fresh_ne (DL.fresh_dn (by assumption)) | exact Ne.symm (DL.fresh_ne (DL.fresh_dn (by assumption))) | exact DL.fresh_ne (DL.fresh_dn (DL.fresh_dn (by assumption))) | exact Ne.symm (DL.fresh_ne (DL.fresh_dn (DL.fresh_dn (by assumption))))))).trans ?_; first | exact DL.mup_same | assumption | (refine (DL.mup_ne (by (first | assumption | exact Ne.symm (by assumption) | exact DL.ne_at (by assumption) (by (first | assumption | exact DL.fresh_up (by assumption) | exact DL.fresh_dn (by assumption) | exact DL.fresh_dn (DL.fresh_dn (by assumption)) | exact DL.fresh_dn (DL.fresh_dn (DL.fresh_dn (by assumption))))) | exact Ne.symm (DL.ne_at (by assumption) (by (first | assumption | exact DL.fresh_up (by assumption) | exact DL.fresh_dn (by assumption) | exact DL.fresh_dn (DL.fresh_dn (by assumption)) | exact DL.fresh_dn (DL.fresh_dn (DL.fresh_dn (by assumption)))))) | exact DL.fresh_ne (by assumption) | exact Ne.symm (DL.fresh_ne (by assumption)) | exact DL.fresh_ne (DL.fresh_dn (by assumption)) | exact Ne.symm (DL.fresh_ne (DL.fresh_dn (by assumption))) | exact DL.fresh_ne (DL.fresh_dn (DL.fresh_dn (by assumption))) | exact Ne.symm (DL.fresh_ne (DL.fresh_dn (DL.fresh_dn (by assumption))))))).trans ?_; first | exact DL.mup_same | assumption | (refine (DL.mup_ne (by (first | assumption | exact Ne.symm (by assumption) | exact DL.ne_at (by assumption) (by (first | assumption | exact DL.fresh_up (by assumption) | exact DL.fresh_dn (by assumption) | exact DL.fresh_dn (DL.fresh_dn (by assumption)) | exact DL.fresh_dn (DL.fresh_dn (DL.fresh_dn (by assumption))))) | exact Ne.symm (DL.ne_at (by assumption) (by (first | assumption | exact DL.fresh_up (by assumption) | exact DL.fresh_dn (by assumption) | exact DL.fresh_dn (DL.fresh_dn (by assumption)) | exact DL.fresh_dn (DL.fresh_dn (DL.fresh_dn (by assumption)))))) | exact DL.fresh_ne (by assumption) | exact Ne.symm (DL.fresh_ne (by assumption)) | exact DL.fresh_ne (DL.fresh_dn (by assumption)) | exact Ne.symm (DL.fresh_ne (DL.fresh_dn (by assumption))) | exact DL.fresh_ne (DL.fresh_dn (DL.fresh_dn (by assumption))) | exact Ne.symm (DL.fresh_ne (DL.fresh_dn (DL.fresh_dn (by assumption))))))).trans ?_; first | exact DL.mup_same | assumption | (refine (DL.mup_ne (by (first | assumption | exact Ne.symm (by assumption) | exact DL.ne_at (by assumption) (by (first | assumption | exact DL.fresh_up (by assumption) | exact DL.fresh_dn (by assumption) | exact DL.fresh_dn (DL.fresh_dn (by assumption)) | exact DL.fresh_dn (DL.fresh_dn (DL.fresh_dn (by assumption))))) | exact Ne.symm (DL.ne_at (by assumption) (by (first | assumption | exact DL.fresh_up (by assumption) | exact DL.fresh_dn (by assumption) | exact DL.fresh_dn (DL.fresh_dn (by assumption)) | exact DL.fresh_dn (DL.fresh_dn (DL.fresh_dn (by assumption)))))) | exact DL.fresh_ne (by assumption) | exact Ne.symm (DL.fresh_ne (by assumption)) | exact DL.fresh_ne (DL.fresh_dn (by assumption)) | exact Ne.symm (DL.fresh_ne (DL.fresh_dn (by assumption))) | exact DL.fresh_ne (DL.fresh_dn (DL.fresh_dn (by assumption))) | exact Ne.symm (DL.fresh_ne (DL.fresh_dn (DL.fresh_dn (by assumption))))))).trans ?_; first | exact DL.mup_same | assumption | (refine (DL.mup_ne (by (first | assumption | exact Ne.symm (by assumption) | exact DL.ne_at (by assumption) (by (first | assumption | exact DL.fresh_up (by assumption) | exact DL.fresh_dn (by assumption) | exact DL.fresh_dn (DL.fresh_dn (by assumption)) | exact DL.fresh_dn (DL.fresh_dn (DL.fresh_dn (by assumption))))) | exact Ne.symm (DL.ne_at (by assumption) (by (first | assumption | exact DL.fresh_up (by assumption) | exact DL.fresh_dn (by assumption) | exact DL.fresh_dn (DL.fresh_dn (by assumption)) | exact DL.fresh_dn (DL.fresh_dn (DL.fresh_dn (by assumption)))))) | exact DL.fresh_ne (by assumption) | exact Ne.symm (DL.fresh_ne (by assumption)) | exact DL.fresh_ne (DL.fresh_dn (by assumption)) | exact Ne.symm (DL.fresh_ne (DL.fresh_dn (by assumption))) | exact DL.fresh_ne (DL.fresh_dn (DL.fresh_dn (by assumption))) | exact Ne.symm (DL.fresh_ne (DL.fresh_dn (DL.fresh_dn (by assumption))))))).trans ?_; first | exact DL.mup_same | assumption))))))) | exact DL.asL_up (by assumption) (by (first | assumption | exact DL.fresh_up (by assumption) | exact DL.fresh_dn (by assumption) | exact DL.fresh_dn (DL.fresh_dn (by assumption)) | exact DL.fresh_dn (DL.fresh_dn (DL.fresh_dn (by assumption))))) | exact DL.asL_up (DL.asL_up (by assumption) (by (first | assumption | exact DL.fresh_up (by assumption) | exact DL.fresh_dn (by assumption) | exact DL.fresh_dn (DL.fresh_dn (by assumption)) | exact DL.fresh_dn (DL.fresh_dn (DL.fresh_dn (by assumption)))))) (by (first | assumption | exact DL.fresh_up (by assumption) | exact DL.fresh_dn (by assumption) | exact DL.fresh_dn (DL.fresh_dn (by assumption)) | exact DL.fresh_dn (DL.fresh_dn (DL.fresh_dn (by assumption))))))) (And.intro (by (first | exact rfl | assumption | exact DL.asL_same | exact DL.asL_adr (by (first | exact DL.mup_same | assumption | (refine (DL.mup_ne (by (first | assumption | exact Ne.symm (by assumption) | exact DL.ne_at (by assumption) (by (first | assumption | exact DL.fresh_up (by assumption) | exact DL.fresh_dn (by assumption) | exact DL.fresh_dn (DL.fresh_dn (by assumption)) | exact DL.fresh_dn (DL.fresh_dn (DL.fresh_dn (by assumption))))) | exact Ne.symm (DL.ne_at (by assumption) (by (first | assumption | exact DL.fresh_up (by assumption) | exact DL.fresh_dn (by assumption) | exact DL.fresh_dn (DL.fresh_dn (by assumption)) | exact DL.fresh_dn (DL.fresh_dn (DL.fresh_dn (by assumption)))))) | exact DL.fresh_ne (by assumption) | exact Ne.symm (DL.fresh_ne (by assumption)) | exact DL.fresh_ne (DL.fresh_dn (by assumption)) | exact Ne.symm (DL.fresh_ne (DL.fresh_dn (by assumption))) | exact DL.fresh_ne (DL.fresh_dn (DL.fresh_dn (by assumption))) | exact Ne.symm (DL.fresh_ne (DL.fresh_dn (DL.fresh_dn (by assumption))))))).trans ?_; first | exact DL.mup_same | assumption | (refine (DL.mup_ne (by (first | assumption | exact Ne.symm (by assumption) | exact DL.ne_at (by assumption) (by (first | assumption | exact DL.fresh_up (by assumption) | exact DL.fresh_dn (by assumption) | exact DL.fresh_dn (DL.fresh_dn (by assumption)) | exact DL.fresh_dn (DL.fresh_dn (DL.fresh_dn (by assumption))))) | exact Ne.symm (DL.ne_at (by assumption) (by (first | assumption | exact DL.fresh_up (by assumption) | exact DL.fresh_dn (by assumption) | exact DL.fresh_dn (DL.fresh_dn (by assumption)) | exact DL.fresh_dn (DL.fresh_dn (DL.fresh_dn (by assumption)))))) | exact DL.fresh_ne (by assumption) | exact Ne.symm (DL.fresh_ne (by assumption)) | exact DL.fresh_ne (DL.fresh_dn (by assumption)) | exact Ne.symm (DL.fresh_ne (DL.fresh_dn (by assumption))) | exact DL.fresh_ne (DL.fresh_dn (DL.fresh_dn (by assumption))) | exact Ne.symm (DL.fresh_ne (DL.fresh_dn (DL.fresh_dn (by assumption))))))).trans ?_; first | exact DL.mup_same | assumption | (refine (DL.mup_ne (by (first | assumption | exact Ne.symm (by assumption) | exact DL.ne_at (by assumption) (by (first | assumption | exact DL.fresh_up (by assumption) | exact DL.fresh_dn (by assumption) | exact DL.fresh_dn (DL.fresh_dn (by assumption)) | exact DL.fresh_dn (DL.fresh_dn (DL.fresh_dn (by assumption))))) | exact Ne.symm (DL.ne_at (by assumption) (by (first | assumption | exact DL.fresh_up (by assumption) | exact DL.fresh_dn (by assumption) | exact DL.fresh_dn (DL.fresh_dn (by assumption)) | exact DL.fresh_dn (DL.fresh_dn (DL.fresh_dn (by assumption)))))) | exact DL.fresh_ne (by assumption) | exact Ne.symm (DL.fresh_ne (by assumption)) | exact DL.fresh_ne (DL.fresh_dn (by assumption)) | exact Ne.symm (DL.fresh_ne (DL.fresh_dn (by assumption))) | exact DL.fresh_ne (DL.fresh_dn (DL.fresh_dn (by assumption))) | exact Ne.symm (DL.fresh_ne (DL.fresh_dn (DL.fresh_dn (by assumption))))))).trans ?_; first | exact DL.mup_same | assumption | (refine (DL.mup_ne (by (first | assumption | exact Ne.symm (by assumption) | exact DL.ne_at (by assumption) (by (first | assumption | exact DL.fresh_up (by assumption) | exact DL.fresh_dn (by assumption) | exact DL.fresh_dn (DL.fresh_dn (by assumption)) | exact DL.fresh_dn (DL.fresh_dn (DL.fresh_dn (by assumption))))) | exact Ne.symm (DL.ne_at (by assumption) (by (first | assumption | exact DL.fresh_up (by assumption) | exact DL.fresh_dn (by assumption) | exact DL.fresh_dn (DL.fresh_dn (by assumption)) | exact DL.fresh_dn (DL.fresh_dn (DL.fresh_dn (by assumption)))))) | exact DL.fresh_ne (by assumption) | exact Ne.symm (DL.fresh_ne (by assumption)) | exact DL.fresh_ne (DL.fresh_dn (by assumption)) | exact Ne.symm (DL.fresh_ne (DL.fresh_dn (by assumption))) | exact DL.fresh_ne (DL.fresh_dn (DL.fresh_dn (by assumption))) | exact Ne.symm (DL.fresh_ne (DL.fresh_dn (DL.fresh_dn (by assumption))))))).trans ?_; first | exact DL.mup_same | assumption | (refine (DL.mup_ne (by (first | assumption | exact Ne.symm (by assumption) | exact DL.ne_at (by assumption) (by (first | assumption | exact DL.fresh_up (by assumption) | exact DL.fresh_dn (by assumption) | exact DL.fresh_dn (DL.fresh_dn (by assumption)) | exact DL.fresh_dn (DL.fresh_dn (DL.fresh_dn (by assumption))))) | exact Ne.symm (DL.ne_at (by assumption) (by (first | assumption | exact DL.fresh_up (by assumption) | exact DL.fresh_dn (by assumption) | exact DL.fresh_dn (DL.fresh_dn (by assumption)) | exact DL.fresh_dn (DL.fresh_dn (DL.fresh_dn (by assumption)))))) | exact DL.fresh_ne (by assumption) | exact Ne.symm (DL.fresh_ne (by assumption)) | exact DL.fresh_ne (DL.fresh_dn (by assumption)) | exact Ne.symm (DL.fresh_ne (DL.fresh_dn (by assumption))) | exact DL.fresh_ne (DL.fresh_dn (DL.fresh_dn (by assumption))) | exact Ne.symm (DL.fresh_ne (DL.fresh_dn (DL.fresh_dn (by assumption))))))).trans ?_; first | exact DL.mup_same | assumption))))))) | exact DL.asL_up (by assumption) (by (first | assumption | exact DL.fresh_up (by assumption) | exact DL.fresh_dn (by assumption) | exact DL.fresh_dn (DL.fresh_dn (by assumption)) | exact DL.fresh_dn (DL.fresh_dn (DL.fresh_dn (by assumption))))) | exact DL.asL_up (DL.asL_up (by assumption) (by (first | assumption | exact DL.fresh_up (by assumption) | exact DL.fresh_dn (by assumption) | exact DL.fresh_dn (DL.fresh_dn (by assumption)) | exact DL.fresh_dn (DL.fresh_dn (DL.fresh_dn (by assumption)))))) (by (first | assumption | exact DL.fresh_up (by assumption) | exact DL.fresh_dn (by assumption) | exact DL.fresh_dn (DL.fresh_dn (by assumption)) | exact DL.fresh_dn (DL.fresh_dn (DL.fresh_dn (by assumption))))))) ?_)))) | refine Exists.intro _ (And.intro (fun _ _ h => h) ?_) | refine Exists.intro _ (And.intro rfl ?_) | refine Exists.intro _ (And.intro (by (first | exact DL.mup_same | assumption | (refine (DL.mup_ne (by (first | assumption | exact Ne.symm (by assumption) | exact DL.ne_at (by assumption) (by (first | assumption | exact DL.fresh_up (by assumption) | exact DL.fresh_dn (by assumption) | exact DL.fresh_dn (DL.fresh_dn (by assumption)) | exact DL.fresh_dn (DL.fresh_dn (DL.fresh_dn (by assumption))))) | exact Ne.symm (DL.ne_at (by assumption) (by (first | assumption | exact DL.fresh_up (by assumption) | exact DL.fresh_dn (by assumption) | exact DL.fresh_dn (DL.fresh_dn (by assumption)) | exact DL.fresh_dn (DL.fresh_dn (DL.fresh_dn (by assumption)))))) | exact DL.fresh_ne (by assumption) | exact Ne.symm (DL.fresh_ne (by assumption)) | exact DL.fresh_ne (DL.fresh_dn (by assumption)) | exact Ne.symm (DL.fresh_ne (DL.fresh_dn (by assumption))) | exact DL.fresh_ne (DL.fresh_dn (DL.fresh_dn (by assumption))) | exact Ne.symm (DL.fresh_ne (DL.fresh_dn (DL.fresh_dn (by assumption))))))).trans ?_; first | exact DL.mup_same | assumption | (refine (DL.mup_ne (by (first | assumption | exact Ne.symm (by assumption) | exact DL.ne_at (by assumption) (by (first | assumption | exact DL.fresh_up (by assumption) | exact DL.fresh_dn (by assumption) | exact DL.fresh_dn (DL.fresh_dn (by assumption)) | exact DL.fresh_dn (DL.fresh_dn (DL.fresh_dn (by assumption))))) | exact Ne.symm (DL.ne_at (by assumption) (by (first | assumption | exact DL.fresh_up (by assumption) | exact DL.fresh_dn (by assumption) | exact DL.fresh_dn (DL.fresh_dn (by assumption)) | exact DL.fresh_dn (DL.fresh_dn (DL.fresh_dn (by assumption)))))) | exact DL.fresh_ne (by assumption) | exact Ne.symm (DL.fresh_ne (by assumption)) | exact DL.fresh_ne (DL.fresh_dn (by assumption)) | exact Ne.symm (DL.fresh_ne (DL.fresh_dn (by assumption))) | exact DL.fresh_ne (DL.fresh_dn (DL.fresh_dn (by assumption))) | exact Ne.symm (DL.fresh_ne (DL.fresh_dn (DL.fresh_dn (by assumption))))))).trans ?_; first | exact DL.mup_same | assumption | (refine (DL.mup_ne (by (first | assumption | exact Ne.symm (by assumption) | exact DL.ne_at (by assumption) (by (first | assumption | exact DL.fresh_up (by assumption) | exact DL.fresh_dn (by assumption) | exact DL.fresh_dn (DL.fresh_dn (by assumption)) | exact DL.fresh_dn (DL.fresh_dn (DL.fresh_dn (by assumption))))) | exact Ne.symm (DL.ne_at (by assumption) (by (first | assumption | exact DL.fresh_up (by assumption) | exact DL.fresh_dn (by assumption) | exact DL.fresh_dn (DL.fresh_dn (by assumption)) | exact DL.fresh_dn (DL.fresh_dn (DL.fresh_dn (by assumption)))))) | exact DL.fresh_ne (by assumption) | exact Ne.symm (DL.fresh_ne (by assumption)) | exact DL.fresh_ne (DL.fresh_dn (by assumption)) | exact Ne.symm (DL.fresh_ne (DL.fresh_dn (by assumption))) | exact DL.fresh_ne (DL.fresh_dn (DL.fresh_dn (by assumption))) | exact Ne.symm (DL.fresh_ne (DL.fresh_dn (DL.fresh_dn (by assumption))))))).trans ?_; first | exact DL.mup_same | assumption | (refine (DL.mup_ne (by (first | assumption | exact Ne.symm (by assumption) | exact DL.ne_at (by assumption) (by (first | assumption | exact DL.fresh_up (by assumption) | exact DL.fresh_dn (by assumption) | exact DL.fresh_dn (DL.fresh_dn (by assumption)) | exact DL.fresh_dn (DL.fresh_dn (DL.fresh_dn (by assumption))))) | exact Ne.symm (DL.ne_at (by assumption) (by (first | assumption | exact DL.fresh_up (by assumption) | exact DL.fresh_dn (by assumption) | exact DL.fresh_dn (DL.fresh_dn (by assumption)) | exact DL.fresh_dn (DL.fresh_dn (DL.fresh_dn (by assumption)))))) | exact DL.fresh_ne (by assumption) | exact Ne.symm (DL.fresh_ne (by assumption)) | exact DL.fresh_ne (DL.fresh_dn (by assumption)) | exact Ne.symm (DL.fresh_ne (DL.fresh_dn (by assumption))) | exact DL.fresh_ne (DL.fresh_dn (DL.fresh_dn (by assumption))) | exact Ne.symm (DL.fresh_ne (DL.fresh_dn (DL.fresh_dn (by assumption))))))).trans ?_; first | exact DL.mup_same | assumption | (refine (DL.mup_ne (by (first | assumption | exact Ne.symm (by assumption) | exact DL.ne_at (by assumption) (by (first | assumption | exact DL.fresh_up (by assumption) | exact DL.fresh_dn (by assumption) | exact DL.fresh_dn (DL.fresh_dn (by assumption)) | exact DL.fresh_dn (DL.fresh_dn (DL.fresh_dn (by assumption))))) | exact Ne.symm (DL.ne_at (by assumption) (by (first | assumption | exact DL.fresh_up (by assumption) | exact DL.fresh_dn (by assumption) | exact DL.fresh_dn (DL.fresh_dn (by assumption)) | exact DL.fresh_dn (DL.fresh_dn (DL.fresh_dn (by assumption)))))) | exact DL.fresh_ne (by assumption) | exact Ne.symm (DL.fresh_ne (by assumption)) | exact DL.fresh_ne (DL.fresh_dn (by assumption)) | exact Ne.symm (DL.fresh_ne (DL.fresh_dn (by assumption))) | exact DL.fresh_ne (DL.fresh_dn (DL.fresh_dn (by assumption))) | exact Ne.symm (DL.fresh_ne (DL.fresh_dn (DL.fresh_dn (by assumption))))))).trans ?_; first | exact DL.mup_same | assumption))))))) ?_) | refine Exists.intro _ (Exists.intro _ (And.intro (by (first | exact DL.mup_same | assumption | (refine (DL.mup_ne (by (first | assumption | exact Ne.symm (by assumption) | exact DL.ne_at (by assumption) (by (first | assumption | exact DL.fresh_up (by assumption) | exact DL.fresh_dn (by assumption) | exact DL.fresh_dn (DL.fresh_dn (by assumption)) | exact DL.fresh_dn (DL.fresh_dn (DL.fresh_dn (by assumption))))) | exact Ne.symm (DL.ne_at (by assumption) (by (first | assumption | exact DL.fresh_up (by assumption) | exact DL.fresh_dn (by assumption) | exact DL.fresh_dn (DL.fresh_dn (by assumption)) | exact DL.fresh_dn (DL.fresh_dn (DL.fresh_dn (by assumption)))))) | exact DL.fresh_ne (by assumption) | exact Ne.symm (DL.fresh_ne (by assumption)) | exact DL.fresh_ne (DL.fresh_dn (by assumption)) | exact Ne.symm (DL.fresh_ne (DL.fresh_dn (by assumption))) | exact DL.fresh_ne (DL.fresh_dn (DL.fresh_dn (by assumption))) | exact Ne.symm (DL.fresh_ne (DL.fresh_dn (DL.fresh_dn (by assumption))))))).trans ?_; first | exact DL.mup_same | assumption | (refine (DL.mup_ne (by (first | assumption | exact Ne.symm (by assumption) | exact DL.ne_at (by assumption) (by (first | assumption | exact DL.fresh_up (by assumption) | exact DL.fresh_dn (by assumption) | exact DL.fresh_dn (DL.fresh_dn (by assumption)) | exact DL.fresh_dn (DL.fresh_dn (DL.fresh_dn (by assumption))))) | exact Ne.symm (DL.ne_at (by assumption) (by (first | assumption | exact DL.fresh_up (by assumption) | exact DL.fresh_dn (by assumption) | exact DL.fresh_dn (DL.fresh_dn (by assumption)) | exact DL.fresh_dn (DL.fresh_dn (DL.fresh_dn (by assumption)))))) | exact DL.fresh_ne (by assumption) | exact Ne.symm (DL.fresh_ne (by assumption)) | exact DL.fresh_ne (DL.fresh_dn (by assumption)) | exact Ne.symm (DL.fresh_ne (DL.fresh_dn (by assumption))) | exact DL.fresh_ne (DL.fresh_dn (DL.fresh_dn (by assumption))) | exact Ne.symm (DL.fresh_ne (DL.fresh_dn (DL.fresh_dn (by assumption))))))).trans ?_; first | exact DL.mup_same | assumption | (refine (DL.mup_ne (by (first | assumption | exact Ne.symm (by assumption) | exact DL.ne_at (by assumption) (by (first | assumption | exact DL.fresh_up (by assumption) | exact DL.fresh_dn (by assumption) | exact DL.fresh_dn (DL.fresh_dn (by assumption)) | exact DL.fresh_dn (DL.fresh_dn (DL.fresh_dn (by assumption))))) | exact Ne.symm (DL.ne_at (by assumption) (by (first | assumption | exact DL.fresh_up (by assumption) | exact DL.fresh_dn (by assumption) | exact DL.fresh_dn (DL.fresh_dn (by assumption)) | exact DL.fresh_dn (DL.fresh_dn (DL.fresh_dn (by assumption)))))) | exact DL.fresh_ne (by assumption) | exact Ne.symm (DL.fresh_ne (by assumption)) | exact DL.fresh_ne (DL.fresh_dn (by assumption)) | exact Ne.symm (DL.fresh_ne (DL.fresh_dn (by assumption))) | exact DL.fresh_ne (DL.fresh_dn (DL.fresh_dn (by assumption))) | exact Ne.symm (DL.fresh_ne (DL.fresh_dn (DL.fresh_dn (by assumption))))))).trans ?_; first | exact DL.mup_same | assumption | (refine (DL.mup_ne (by (first | assumption | exact Ne.symm (by assumption) | exact DL.ne_at (by assumption) (by (first | assumption | exact DL.fresh_up (by assumption) | exact DL.fresh_dn (by assumption) | exact DL.fresh_dn (DL.fresh_dn (by assumption)) | exact DL.fresh_dn (DL.fresh_dn (DL.fresh_dn (by assumption))))) | exact Ne.symm (DL.ne_at (by assumption) (by (first | assumption | exact DL.fresh_up (by assumption) | exact DL.fresh_dn (by assumption) | exact DL.fresh_dn (DL.fresh_dn (by assumption)) | exact DL.fresh_dn (DL.fresh_dn (DL.fresh_dn (by assumption)))))) | exact DL.fresh_ne (by assumption) | exact Ne.symm (DL.fresh_ne (by assumption)) | exact DL.fresh_ne (DL.fresh_dn (by assumption)) | exact Ne.symm (DL.fresh_ne (DL.fresh_dn (by assumption))) | exact DL.fresh_ne (DL.fresh_dn (DL.fresh_dn (by assumption))) | exact Ne.symm (DL.fresh_ne (DL.fresh_dn (DL.fresh_dn (by assumption))))))).trans ?_; first | exact DL.mup_same | assumption | (refine (DL.mup_ne (by (first | assumption | exact Ne.symm (by assumption) | exact DL.ne_at (by assumption) (by (first | assumption | exact DL.fresh_up (by assumption) | exact DL.fresh_dn (by assumption) | exact DL.fresh_dn (DL.fresh_dn (by assumption)) | exact DL.fresh_dn (DL.fresh_dn (DL.fresh_dn (by assumption))))) | exact Ne.symm (DL.ne_at (by assumption) (by (first | assumption | exact DL.fresh_up (by assumption) | exact DL.fresh_dn (by assumption) | exact DL.fresh_dn (DL.fresh_dn (by assumption)) | exact DL.fresh_dn (DL.fresh_dn (DL.fresh_dn (by assumption)))))) | exact DL.fresh_ne (by assumption) | exact Ne.symm (DL.fresh_ne (by assumption)) | exact DL.fresh_ne (DL.fresh_dn (by assumption)) | exact Ne.symm (DL.fresh_ne (DL.fresh_dn (by assumption))) | exact DL.fresh_ne (DL.fresh_dn (DL.fresh_dn (by assumption))) | exact Ne.symm (DL.fresh_ne (DL.fresh_dn (DL.fresh_dn (by assumption))))))).trans ?_; first | exact DL.mup_same | assumption))))))) (And.intro (by (first | exact rfl | assumption | exact DL.asT_adr (by (first | exact DL.mup_same | assumption | (refine (DL.mup_ne (by (first | assumption | exact Ne.symm (by assumption) | exact DL.ne_at (by assumption) (by (first | assumption | exact DL.fresh_up (by assumption) | exact DL.fresh_dn (by assumption) | exact DL.fresh_dn (DL.fresh_dn (by assumption)) | exact DL.fresh_dn (DL.fresh_dn (DL.fresh_dn (by assumption))))) | exact Ne.symm (DL.ne_at (by assumption) (by (first | assumption | exact DL.fresh_up (by assumption) | exact DL.fresh_dn (by assumption) | exact DL.fresh_dn (DL.fresh_dn (by assumption)) | exact DL.fresh_dn (DL.fresh_dn (DL.fresh_dn (by assumption)))))) | exact DL.fresh_ne (by assumption) | exact Ne.symm (DL.fresh_ne (by assumption)) | exact DL.fresh_ne (DL.fresh_dn (by assumption)) | exact Ne.symm (DL.fresh_ne (DL.fresh_dn (by assumption))) | exact DL.fresh_ne (DL.fresh_dn (DL.fresh_dn (by assumption))) | exact Ne.symm (DL.fresh_ne (DL.fresh_dn (DL.fresh_dn (by assumption))))))).trans ?_; first | exact DL.mup_same | assumption | (refine (DL.mup_ne (by (first | assumption | exact Ne.symm (by assumption) | exact DL.ne_at (by assumption) (by (first | assumption | exact DL.fresh_up (by assumption) | exact DL.fresh_dn (by assumption) | exact DL.fresh_dn (DL.fresh_dn (by assumption)) | exact DL.fresh_dn (DL.fresh_dn (DL.fresh_dn (by assumption))))) | exact Ne.symm (DL.ne_at (by assumption) (by (first | assumption | exact DL.fresh_up (by assumption) | exact DL.fresh_dn (by assumption) | exact DL.fresh_dn (DL.fresh_dn (by assumption)) | exact DL.fresh_dn (DL.fresh_dn (DL.fresh_dn (by assumption)))))) | exact DL.fresh_ne (by assumption) | exact Ne.symm (DL.fresh_ne (by assumption)) | exact DL.fresh_ne (DL.fresh_dn (by assumption)) | exact Ne.symm (DL.fresh_ne (DL.fresh_dn (by assumption))) | exact DL.fresh_ne (DL.fresh_dn (DL.fresh_dn (by assumption))) | exact Ne.symm (DL.fresh_ne (DL.fresh_dn (DL.fresh_dn (by assumption))))))).trans ?_; first | exact DL.mup_same | assumption | (refine (DL.mup_ne (by (first | assumption | exact Ne.symm (by assumption) | exact DL.ne_at (by assumption) (by (first | assumption | exact DL.fresh_up (by assumption) | exact DL.fresh_dn (by assumption) | exact DL.fresh_dn (DL.fresh_dn (by assumption)) | exact DL.fresh_dn (DL.fresh_dn (DL.fresh_dn (by assumption))))) | exact Ne.symm (DL.ne_at (by assumption) (by (first | assumption | exact DL.fresh_up (by assumption) | exact DL.fresh_dn (by assumption) | exact DL.fresh_dn (DL.fresh_dn (by assumption)) | exact DL.fresh_dn (DL.fresh_dn (DL.fresh_dn (by assumption)))))) | exact DL.fresh_ne (by assumption) | exact Ne.symm (DL.fresh_ne (by assumption)) | exact DL.fresh_ne (DL.fresh_dn (by assumption)) | exact Ne.symm (DL.fresh_ne (DL.fresh_dn (by assumption))) | exact DL.fresh_ne (DL.fresh_dn (DL.fresh_dn (by assumption))) | exact Ne.symm (DL.fresh_ne (DL.fresh_dn (DL.fresh_dn (by assumption))))))).trans ?_; first | exact DL.mup_same | assumption | (refine (DL.mup_ne (by (first | assumption | exact Ne.symm (by assumption) | exact DL.ne_at (by assumption) (by (first | assumption | exact DL.fresh_up (by assumption) | exact DL.fresh_dn (by assumption) | exact DL.fresh_dn (DL.fresh_dn (by assumption)) | exact DL.fresh_dn (DL.fresh_dn (DL.fresh_dn (by assumption))))) | exact Ne.symm (DL.ne_at (by assumption) (by (first | assumption | exact DL.fresh_up (by assumption) | exact DL.fresh_dn (by assumption) | exact DL.fresh_dn (DL.fresh_dn (by assumption)) | exact DL.fresh_dn (DL.fresh_dn (DL.fresh_dn (by assumption)))))) | exact DL.fresh_ne (by assumption) | exact Ne.symm (DL.fresh_ne (by assumption)) | exact DL.fresh_ne (DL.fresh_dn (by assumption)) | exact Ne.symm (DL.fresh_ne (DL.fresh_dn (by assumption))) | exact DL.fresh_ne (DL.fresh_dn (DL.fresh_dn (by assumption))) | exact Ne.symm (DL.fresh_ne (DL.fresh_dn (DL.fresh_dn (by assumption))))))).trans ?_; first | exact DL.mup_same | assumption | (refine (DL.mup_ne (by (first | assumption | exact Ne.symm (by assumption) | exact DL.ne_at (by assumption) (by (first | assumption | exact DL.fresh_up (by assumption) | exact DL.fresh_dn (by assumption) | exact DL.fresh_dn (DL.fresh_dn (by assumption)) | exact DL.fresh_dn (DL.fresh_dn (DL.fresh_dn (by assumption))))) | exact Ne.symm (DL.ne_at (by assumption) (by (first | assumption | exact DL.fresh_up (by assumption) | exact DL.fresh_dn (by assumption) | exact DL.fresh_dn (DL.fresh_dn (by assumption)) | exact DL.fresh_dn (DL.fresh_dn (DL.fresh_dn (by assumption)))))) | exact DL.fresh_ne (by assumption) | exact Ne.symm (DL.fresh_ne (by assumption)) | exact DL.fresh_ne (DL.fresh_dn (by assumption)) | exact Ne.symm (DL.fresh_ne (DL.fresh_dn (by assumption))) | exact DL.fresh_ne (DL.fresh_dn (DL.fresh_dn (by assumption))) | exact Ne.symm (DL.fresh_ne (DL.fresh_dn (DL.fresh_dn (by assumption))))))).trans ?_; first | exact DL.mup_same | assumption))))))))) ?_))) | refine Exists.intro _ (Exists.intro _ (And.intro rfl (And.intro rfl ?_))) | refine Exists.intro _ (Exists.intro _ (And.intro rfl (And.intro (by (first | exact rfl | assumption | exact DL.asL_same | exact DL.asL_adr (by (first | exact DL.mup_same | assumption | (refine (DL.mup_ne (by (first | assumption | exact Ne.symm (by assumption) | exact DL.ne_at (by assumption) (by (first | assumption | exact DL.fresh_up (by assumption) | exact DL.fresh_dn (by assumption) | exact DL.fresh_dn (DL.fresh_dn (by assumption)) | exact DL.fresh_dn (DL.fresh_dn (DL.fresh_dn (by assumption))))) | exact Ne.symm (DL.ne_at (by assumption) (by (first | assumption | exact DL.fresh_up (by assumption) | exact DL.fresh_dn (by assumption) | exact DL.fresh_dn (DL.fresh_dn (by assumption)) | exact DL.fresh_dn (DL.fresh_dn (DL.fresh_dn (by assumption)))))) | exact DL.fresh_ne (by assumption) | exact Ne.symm (DL.fresh_ne (by assumption)) | exact DL.fresh_ne (DL.fresh_dn (by assumption)) | exact Ne.symm (DL.fresh_ne (DL.fresh_dn (by assumption))) | exact DL.fresh_ne (DL.fresh_dn (DL.fresh_dn (by assumption))) | exact Ne.symm (DL.fresh_ne (DL.fresh_dn (DL.fresh_dn (by assumption))))))).trans ?_; first | exact DL.mup_same | assumption | (refine (DL.mup_ne (by (first | assumption | exact Ne.symm (by assumption) | exact DL.ne_at (by assumption) (by (first | assumption | exact DL.fresh_up (by assumption) | exact DL.fresh_dn (by assumption) | exact DL.fresh_dn (DL.fresh_dn (by assumption)) | exact DL.fresh_dn (DL.fresh_dn (DL.fresh_dn (by assumption))))) | exact Ne.symm (DL.ne_at (by assumption) (by (first | assumption | exact DL.fresh_up (by assumption) | exact DL.fresh_dn (by assumption) | exact DL.fresh_dn (DL.fresh_dn (by assumption)) | exact DL.fresh_dn (DL.fresh_dn (DL.fresh_dn (by assumption)))))) | exact DL.fresh_ne (by assumption) | exact Ne.symm (DL.fresh_ne (by assumption)) | exact DL.fresh_ne (DL.fresh_dn (by assumption)) | exact Ne.symm (DL.fresh_ne (DL.fresh_dn (by assumption))) | exact DL.fresh_ne (DL.fresh_dn (DL.fresh_dn (by assumption))) | exact Ne.symm (DL.fresh_ne (DL.fresh_dn (DL.fresh_dn (by assumption))))))).trans ?_; first | exact DL.mup_same | assumption | (refine (DL.mup_ne (by (first | assumption | exact Ne.symm (by assumption) | exact DL.ne_at (by assumption) (by (first | assumption | exact DL.fresh_up (by assumption) | exact DL.fresh_dn (by assumption) | exact DL.fresh_dn (DL.fresh_dn (by assumption)) | exact DL.fresh_dn (DL.fresh_dn (DL.fresh_dn (by assumption))))) | exact Ne.symm (DL.ne_at (by assumption) (by (first | assumption | exact DL.fresh_up (by assumption) | exact DL.fresh_dn (by assumption) | exact DL.fresh_dn (DL.fresh_dn (by assumption)) | exact DL.fresh_dn (DL.fresh_dn (DL.fresh_dn (by assumption)))))) | exact DL.fresh_ne (by assumption) | exact Ne.symm (DL.fresh_ne (by assumption)) | exact DL.fresh_ne (DL.fresh_dn (by assumption)) | exact Ne.symm (DL.fresh_ne (DL.fresh_dn (by assumption))) | exact DL.fresh_ne (DL.fresh_dn (DL.fresh_dn (by assumption))) | exact Ne.symm (DL.fresh_ne (DL.fresh_dn (DL.fresh_dn (by assumption))))))).trans ?_; first | exact DL.mup_same | assumption | (refine (DL.mup_ne (by (first | assumption | exact Ne.symm (by assumption) | exact DL.ne_at (by assumption) (by (first | assumption | exact DL.fresh_up (by assumption) | exact DL.fresh_dn (by assumption) | exact DL.fresh_dn (DL.fresh_dn (by assumption)) | exact DL.fresh_dn (DL.fresh_dn (DL.fresh_dn (by assumption))))) | exact Ne.symm (DL.ne_at (by assumption) (by (first | assumption | exact DL.fresh_up (by assumption) | exact DL.fresh_dn (by assumption) | exact DL.fresh_dn (DL.fresh_dn (by assumption)) | exact DL.fresh_dn (DL.fresh_dn (DL.fresh_dn (by assumption)))))) | exact DL.fresh_ne (by assumption) | exact Ne.symm (DL.fresh_ne (by assumption)) | exact DL.fresh_ne (DL.fresh_dn (by assumption)) | exact Ne.symm (DL.fresh_ne (DL.fresh_dn (by assumption))) | exact DL.fresh_ne (DL.fresh_dn (DL.fresh_dn (by assumption))) | exact Ne.symm (DL.fresh_ne (DL.fresh_dn (DL.fresh_dn (by assumption))))))).trans ?_; first | exact DL.mup_same | assumption | (refine (DL.mup_ne (by (first | assumption | exact Ne.symm (by assumption) | exact DL.ne_at (by assumption) (by (first | assumption | exact DL.fresh_up (by assumption) | exact DL.fresh_dn (by assumption) | exact DL.fresh_dn (DL.fresh_dn (by assumption)) | exact DL.fresh_dn (DL.fresh_dn (DL.fresh_dn (by assumption))))) | exact Ne.symm (DL.ne_at (by assumption) (by (first | assumption | exact DL.fresh_up (by assumption) | exact DL.fresh_dn (by assumption) | exact DL.fresh_dn (DL.fresh_dn (by assumption)) | exact DL.fresh_dn (DL.fresh_dn (DL.fresh_dn (by assumption)))))) | exact DL.fresh_ne (by assumption) | exact Ne.symm (DL.fresh_ne (by assumption)) | exact DL.fresh_ne (DL.fresh_dn (by assumption)) | exact Ne.symm (DL.fresh_ne (DL.fresh_dn (by assumption))) | exact DL.fresh_ne (DL.fresh_dn (DL.fresh_dn (by assumption))) | exact Ne.symm (DL.fresh_ne (DL.fresh_dn (DL.fresh_dn (by assumption))))))).trans ?_; first | exact DL.mup_same | assumption))))))) | exact DL.asL_up (by assumption) (by (first | assumption | exact DL.fresh_up (by assumption) | exact DL.fresh_dn (by assumption) | exact DL.fresh_dn (DL.fresh_dn (by assumption)) | exact DL.fresh_dn (DL.fresh_dn (DL.fresh_dn (by assumption))))) | exact DL.asL_up (DL.asL_up (by assumption) (by (first | assumption | exact DL.fresh_up (by assumption) | exact DL.fresh_dn (by assumption) | exact DL.fresh_dn (DL.fresh_dn (by assumption)) | exact DL.fresh_dn (DL.fresh_dn (DL.fresh_dn (by assumption)))))) (by (first | assumption | exact DL.fresh_up (by assumption) | exact DL.fresh_dn (by assumption) | exact DL.fresh_dn (DL.fresh_dn (by assumption)) | exact DL.fresh_dn (DL.fresh_dn (DL.fresh_dn (by assumption))))))) ?_))) | refine Exists.intro _ (Exists.intro _ (And.intro rfl ?_)) | refine Exists.intro _ (Exists.intro _ (Exists.intro _ (And.intro rfl (And.intro rfl ?_)))) | refine Exists.intro _ (Exists.intro _ (Exists.intro _ (And.intro rfl (And.intro (by (first | exact rfl | assumption | exact DL.asL_same | exact DL.asL_adr (by (first | exact DL.mup_same | assumption | (refine (DL.mup_ne (by (first | assumption | exact Ne.symm (by assumption) | exact DL.ne_at (by assumption) (by (first | assumption | exact DL.fresh_up (by assumption) | exact DL.fresh_dn (by assumption) | exact DL.fresh_dn (DL.fresh_dn (by assumption)) | exact DL.fresh_dn (DL.fresh_dn (DL.fresh_dn (by assumption))))) | exact Ne.symm (DL.ne_at (by assumption) (by (first | assumption | exact DL.fresh_up (by assumption) | exact DL.fresh_dn (by assumption) | exact DL.fresh_dn (DL.fresh_dn (by assumption)) | exact DL.fresh_dn (DL.fresh_dn (DL.fresh_dn (by assumption)))))) | exact DL.fresh_ne (by assumption) | exact Ne.symm (DL.fresh_ne (by assumption)) | exact DL.fresh_ne (DL.fresh_dn (by assumption)) | exact Ne.symm (DL.fresh_ne (DL.fresh_dn (by assumption))) | exact DL.fresh_ne (DL.fresh_dn (DL.fresh_dn (by assumption))) | exact Ne.symm (DL.fresh_ne (DL.fresh_dn (DL.fresh_dn (by assumption))))))).trans ?_; first | exact DL.mup_same | assumption | (refine (DL.mup_ne (by (first | assumption | exact Ne.symm (by assumption) | exact DL.ne_at (by assumption) (by (first | assumption | exact DL.fresh_up (by assumption) | exact DL.fresh_dn (by assumption) | exact DL.fresh_dn (DL.fresh_dn (by assumption)) | exact DL.fresh_dn (DL.fresh_dn (DL.fresh_dn (by assumption))))) | exact Ne.symm (DL.ne_at (by assumption) (by (first | assumption | exact DL.fresh_up (by assumption) | exact DL.fresh_dn (by assumption) | exact DL.fresh_dn (DL.fresh_dn (by assumption)) | exact DL.fresh_dn (DL.fresh_dn (DL.fresh_dn (by assumption)))))) | exact DL.fresh_ne (by assumption) | exact Ne.symm (DL.fresh_ne (by assumption)) | exact DL.fresh_ne (DL.fresh_dn (by assumption)) | exact Ne.symm (DL.fresh_ne (DL.fresh_dn (by assumption))) | exact DL.fresh_ne (DL.fresh_dn (DL.fresh_dn (by assumption))) | exact Ne.symm (DL.fresh_ne (DL.fresh_dn (DL.fresh_dn (by assumption))))))).trans ?_; first | exact DL.mup_same | assumption | (refine (DL.mup_ne (by (first | assumption | exact Ne.symm (by assumption) | exact DL.ne_at (by assumption) (by (first | assumption | exact DL.fresh_up (by assumption) | exact DL.fresh_dn (by assumption) | exact DL.fresh_dn (DL.fresh_dn (by assumption)) | exact DL.fresh_dn (DL.fresh_dn (DL.fresh_dn (by assumption))))) | exact Ne.symm (DL.ne_at (by assumption) (by (first | assumption | exact DL.fresh_up (by assumption) | exact DL.fresh_dn (by assumption) | exact DL.fresh_dn (DL.fresh_dn (by assumption)) | exact DL.fresh_dn (DL.fresh_dn (DL.fresh_dn (by assumption)))))) | exact DL.fresh_ne (by assumption) | exact Ne.symm (DL.fresh_ne (by assumption)) | exact DL.fresh_ne (DL.fresh_dn (by assumption)) | exact Ne.symm (DL.fresh_ne (DL.fresh_dn (by assumption))) | exact DL.fresh_ne (DL.fresh_dn (DL.fresh_dn (by assumption))) | exact Ne.symm (DL.fresh_ne (DL.fresh_dn (DL.fresh_dn (by assumption))))))).trans ?_; first | exact DL.mup_same | assumption | (refine (DL.mup_ne (by (first | assumption | exact Ne.symm (by assumption) | exact DL.ne_at (by assumption) (by (first | assumption | exact DL.fresh_up (by assumption) | exact DL.fresh_dn (by assumption) | exact DL.fresh_dn (DL.fresh_dn (by assumption)) | exact DL.fresh_dn (DL.fresh_dn (DL.fresh_dn (by assumption))))) | exact Ne.symm (DL.ne_at (by assumption) (by (first | assumption | exact DL.fresh_up (by assumption) | exact DL.fresh_dn (by assumption) | exact DL.fresh_dn (DL.fresh_dn (by assumption)) | exact DL.fresh_dn (DL.fresh_dn (DL.fresh_dn (by assumption)))))) | exact DL.fresh_ne (by assumption) | exact Ne.symm (DL.fresh_ne (by assumption)) | exact DL.fresh_ne (DL.fresh_dn (by assumption)) | exact Ne.symm (DL.fresh_ne (DL.fresh_dn (by assumption))) | exact DL.fresh_ne (DL.fresh_dn (DL.fresh_dn (by assumption))) | exact Ne.symm (DL.fresh_ne (DL.fresh_dn (DL.fresh_dn (by assumption))))))).trans ?_; first | exact DL.mup_same | assumption | (refine (DL.mup_ne (by (first | assumption | exact Ne.symm (by assumption) | exact DL.ne_at (by assumption) (by (first | assumption | exact DL.fresh_up (by assumption) | exact DL.fresh_dn (by assumption) | exact DL.fresh_dn (DL.fresh_dn (by assumption)) | exact DL.fresh_dn (DL.fresh_dn (DL.fresh_dn (by assumption))))) | exact Ne.symm (DL.ne_at (by assumption) (by (first | assumption | exact DL.fresh_up (by assumption) | exact DL.fresh_dn (by assumption) | exact DL.fresh_dn (DL.fresh_dn (by assumption)) | exact DL.fresh_dn (DL.fresh_dn (DL.fresh_dn (by assumption)))))) | exact DL.fresh_ne (by assumption) | exact Ne.symm (DL.fresh_ne (by assumption)) | exact DL.fresh_ne (DL.fresh_dn (by assumption)) | exact Ne.symm (DL.fresh_ne (DL.fresh_dn (by assumption))) | exact DL.fresh_ne (DL.fresh_dn (DL.fresh_dn (by assumption))) | exact Ne.symm (DL.fresh_ne (DL.fresh_dn (DL.fresh_dn (by assumption))))))).trans ?_; first | exact DL.mup_same | assumption))))))) | exact DL.asL_up (by assumption) (by (first | assumption | exact DL.fresh_up (by assumption) | exact DL.fresh_dn (by assumption) | exact DL.fresh_dn (DL.fresh_dn (by assumption)) | exact DL.fresh_dn (DL.fresh_dn (DL.fresh_dn (by assumption))))) | exact DL.asL_up (DL.asL_up (by assumption) (by (first | assumption | exact DL.fresh_up (by assumption) | exact DL.fresh_dn (by assumption) | exact DL.fresh_dn (DL.fresh_dn (by assumption)) | exact DL.fresh_dn (DL.fresh_dn (DL.fresh_dn (by assumption)))))) (by (first | assumption | exact DL.fresh_up (by assumption) | exact DL.fresh_dn (by assumption) | exact DL.fresh_dn (DL.fresh_dn (by assumption)) | exact DL.fresh_dn (DL.fresh_dn (DL.fresh_dn (by assumption))))))) ?_)))) | refine Exists.intro _ (Exists.intro _ (Exists.intro _ (And.intro rfl ?_))) | refine Exists.intro _ (Exists.intro _ (Exists.intro _ (Exists.intro _ (And.intro rfl ?_)))) | (walk_at "call") | walk_at "x")) | (show Or _ _; first | (refine Or.inl (Exists.intro _ (And.intro (by (first | exact DL.mup_same | assumption | (refine (DL.mup_ne (by (first | assumption | exact Ne.symm (by assumption) | exact DL.ne_at (by assumption) (by (first | assumption | exact DL.fresh_up (by assumption) | exact DL.fresh_dn (by assumption) | exact DL.fresh_dn (DL.fresh_dn (by assumption)) | exact DL.fresh_dn (DL.fresh_dn (DL.fresh_dn (by assumption))))) | exact Ne.symm (DL.ne_at (by assumption) (by (first | assumption | exact DL.fresh_up (by assumption) | exact DL.fresh_dn (by assumption) | exact DL.fresh_dn (DL.fresh_dn (by assumption)) | exact DL.fresh_dn (DL.fresh_dn (DL.fresh_dn (by assumption)))))) | exact DL.fresh_ne (by assumption) | exact Ne.symm (DL.fresh_ne (by assumption)) | exact DL.fresh_ne (DL.fresh_dn (by assumption)) | exact Ne.symm (DL.fresh_ne (DL.fresh_dn (by assumption))) | exact DL.fresh_ne (DL.fresh_dn (DL.fresh_dn (by assumption))) | exact Ne.symm (DL.fresh_ne (DL.fresh_dn (DL.fresh_dn (by assumption))))))).trans ?_; first | exact DL.mup_same | assumption | (refine (DL.mup_ne (by (first | assumption | exact Ne.symm (by assumption) | exact DL.ne_at (by assumption) (by (first | assumption | exact DL.fresh_up (by assumption) | exact DL.fresh_dn (by assumption) | exact DL.fresh_dn (DL.fresh_dn (by assumption)) | exact DL.fresh_dn (DL.fresh_dn (DL.fresh_dn (by assumption))))) | exact Ne.symm (DL.ne_at (by assumption) (by (first | assumption | exact DL.fresh_up (by assumption) | exact DL.fresh_dn (by assumption) | exact DL.fresh_dn (DL.fresh_dn (by assumption)) | exact DL.fresh_dn (DL.fresh_dn (DL.fresh_dn (by assumption)))))) | exact DL.fresh_ne (by assumption) | exact Ne.symm (DL.fresh_ne (by assumption)) | exact DL.fresh_ne (DL.fresh_dn (by assumption)) | exact Ne.symm (DL.fresh_ne (DL.fresh_dn (by assumption))) | exact DL.fresh_ne (DL.fresh_dn (DL.fresh_dn (by assumption))) | exact Ne.symm (DL.fresh_ne (DL.fresh_dn (DL.fresh_dn (by assumption))))))).trans ?_; first | exact DL.mup_same | assumption | (refine (DL.mup_ne (by (first | assumption | exact Ne.symm (by assumption) | exact DL.ne_at (by assumption) (by (first | assumption | exact DL.fresh_up (by assumption) | exact DL.fresh_dn (by assumption) | exact DL.fresh_dn (DL.fresh_dn (by assumption)) | exact DL.fresh_dn (DL.fresh_dn (DL.fresh_dn (by assumption))))) | exact Ne.symm (DL.ne_at (by assumption) (by (first | assumption | exact DL.fresh_up (by assumption) | exact DL.fresh_dn (by assumption) | exact DL.fresh_dn (DL.fresh_dn (by assumption)) | exact DL.fresh_dn (DL.fresh_dn (DL.fresh_dn (by assumption)))))) | exact DL.fresh_ne (by assumption) | exact Ne.symm (DL.fresh_ne (by assumption)) | exact DL.fresh_ne (DL.fresh_dn (by assumption)) | exact Ne.symm (DL.fresh_ne (DL.fresh_dn (by assumption))) | exact DL.fresh_ne (DL.fresh_dn (DL.fresh_dn (by assumption))) | exact Ne.symm (DL.fresh_ne (DL.fresh_dn (DL.fresh_dn (by assumption))))))).trans ?_; first | exact DL.mup_same | assumption | (refine (DL.mup_ne (by (first | assumption | exact Ne.symm (by assumption) | exact DL.ne_at (by assumption) (by (first | assumption | exact DL.fresh_up (by assumption) | exact DL.fresh_dn (by assumption) | exact DL.fresh_dn (DL.fresh_dn (by assumption)) | exact DL.fresh_dn (DL.fresh_dn (DL.fresh_dn (by assumption))))) | exact Ne.symm (DL.ne_at (by assumption) (by (first | assumption | exact DL.fresh_up (by assumption) | exact DL.fresh_dn (by assumption) | exact DL.fresh_dn (DL.fresh_dn (by assumption)) | exact DL.fresh_dn (DL.fresh_dn (DL.fresh_dn (by assumption)))))) | exact DL.fresh_ne (by assumption) | exact Ne.symm (DL.fresh_ne (by assumption)) | exact DL.fresh_ne (DL.fresh_dn (by assumption)) | exact Ne.symm (DL.fresh_ne (DL.fresh_dn (by assumption))) | exact DL.fresh_ne (DL.fresh_dn (DL.fresh_dn (by assumption))) | exact Ne.symm (DL.fresh_ne (DL.fresh_dn (DL.fresh_dn (by assumption))))))).trans ?_; first | exact DL.mup_same | assumption | (refine (DL.mup_ne (by (first | assumption | exact Ne.symm (by assumption) | exact DL.ne_at (by assumption) (by (first | assumption | exact DL.fresh_up (by assumption) | exact DL.fresh_dn (by assumption) | exact DL.fresh_dn (DL.fresh_dn (by assumption)) | exact DL.fresh_dn (DL.fresh_dn (DL.fresh_dn (by assumption))))) | exact Ne.symm (DL.ne_at (by assumption) (by (first | assumption | exact DL.fresh_up (by assumption) | exact DL.fresh_dn (by assumption) | exact DL.fresh_dn (DL.fresh_dn (by assumption)) | exact DL.fresh_dn (DL.fresh_dn (DL.fresh_dn (by assumption)))))) | exact DL.fresh_ne (by assumption) | exact Ne.symm (DL.fresh_ne (by assumption)) | exact DL.fresh_ne (DL.fresh_dn (by assumption)) | exact Ne.symm (DL.fresh_ne (DL.fresh_dn (by assumption))) | exact DL.fresh_ne (DL.fresh_dn (DL.fresh_dn (by assumption))) | exact Ne.symm (DL.fresh_ne (DL.fresh_dn (DL.fresh_dn (by assumption))))))).trans ?_; first | exact DL.mup_same | assumption))))))) ?_)); (try rw [DL.mup_mup]); first | rw [DL.mdel_mup (by (first | assumption | exact DL.fresh_up (by assumption) | exact DL.fresh_dn (by assumption) | exact DL.fresh_dn (DL.fresh_dn (by assumption)) | exact DL.fresh_dn (DL.fresh_dn (DL.fresh_dn (by assumption)))))] | rw [DL.mdel_mup_ne (by (first | assumption | exact Ne.symm (by assumption) | exact DL.ne_at (by assumption) (by (first | assumption | exact DL.fresh_up (by assumption) | exact DL.fresh_dn (by assumption) | exact DL.fresh_dn (DL.fresh_dn (by assumption)) | exact DL.fresh_dn (DL.fresh_dn (DL.fresh_dn (by assumption))))) | exact Ne.symm (DL.ne_at (by assumption) (by (first | assumption | exact DL.fresh_up (by assumption) | exact DL.fresh_dn (by assumption) | exact DL.fresh_dn (DL.fresh_dn (by assumption)) | exact DL.fresh_dn (DL.fresh_dn (DL.fresh_dn (by assumption)))))) | exact DL.fresh_ne (by assumption) | exact Ne.symm (DL.fresh_ne (by assumption)) | exact DL.fresh_ne (DL.fresh_dn (by assumption)) | exact Ne.symm (DL.fresh_ne (DL.fresh_dn (by assumption))) | exact DL.fresh_ne (DL.fresh_dn (DL.fresh_dn (by assumption))) | exact Ne.symm (DL.fresh_ne (DL.fresh_dn (DL.fresh_dn (by assumption)))))), DL.mdel_mup (by (first | assumption | exact DL.fresh_up (by assumption) | exact DL.fresh_dn (by assumption) | exact DL.fresh_dn (DL.fresh_dn (by assumption)) | exact DL.fresh_dn (DL.fresh_dn (DL.fresh_dn (by assumption)))))] | rw [DL.mdel_mup_ne (by (first | assumption | exact Ne.symm (by assumption) | exact DL.ne_at (by assumption) (by (first | assumption | exact DL.fresh_up (by assumption) | exact DL.fresh_dn (by assumption) | exact DL.fresh_dn (DL.fresh_dn (by assumption)) | exact DL.fresh_dn (DL.fresh_dn (DL.fresh_dn (by assumption))))) | exact Ne.symm (DL.ne_at (by assumption) (by (first | assumption | exact DL.fresh_up (by assumption) | exact DL.fresh_dn (by assumption) | exact DL.fresh_dn (DL.fresh_dn (by assumption)) | exact DL.fresh_dn (DL.fresh_dn (DL.fresh_dn (by assumption)))))) | exact DL.fresh_ne (by assumption) | exact Ne.symm (DL.fresh_ne (by assumption)) | exact DL.fresh_ne (DL.fresh_dn (by assumption)) | exact Ne.symm (DL.fresh_ne (DL.fresh_dn (by assumption))) | exact DL.fresh_ne (DL.fresh_dn (DL.fresh_dn (by assumption))) | exact Ne.symm (DL.fresh_ne (DL.fresh_dn (DL.fresh_dn (by assumption)))))), DL.mdel_mup_ne (by (first | assumption | exact Ne.symm (by assumption) | exact DL.ne_at (by assumption) (by (first | assumption | exact DL.fresh_up (by assumption) | exact DL.fresh_dn (by assumption) | exact DL.fresh_dn (DL.fresh_dn (by assumption)) | exact DL.fresh_dn (DL.fresh_dn (DL.fresh_dn (by assumption))))) | exact Ne.symm (DL.ne_at (by assumption) (by (first | assumption | exact DL.fresh_up (by assumption) | exact DL.fresh_dn (by assumption) | exact DL.fresh_dn (DL.fresh_dn (by assumption)) | exact DL.fresh_dn (DL.fresh_dn (DL.fresh_dn (by assumption)))))) | exact DL.fresh_ne (by assumption) | exact Ne.symm (DL.fresh_ne (by assumption)) | exact DL.fresh_ne (DL.fresh_dn (by assumption)) | exact Ne.symm (DL.fresh_ne (DL.fresh_dn (by assumption))) | exact DL.fresh_ne (DL.fresh_dn (DL.fresh_dn (by assumption))) | exact Ne.symm (DL.fresh_ne (DL.fresh_dn (DL.fresh_dn (by assumption)))))), DL.mdel_mup (by (first | assumption | exact DL.fresh_up (by assumption) | exact DL.fresh_dn (by assumption) | exact DL.fresh_dn (DL.fresh_dn (by assumption)) | exact DL.fresh_dn (DL.fresh_dn (DL.fresh_dn (by assumption)))))] | skip) | (refine Or.inr (Exists.intro _ (Exists.intro _ (Exists.intro _ (And.intro (by (first | exact DL.mup_same | assumption | (refine (DL.mup_ne (by (first | assumption | exact Ne.symm (by assumption) | exact DL.ne_at (by assumption) (by (first | assumption | exact DL.fresh_up (by assumption) | exact DL.fresh_dn (by assumption) | exact DL.fresh_dn (DL.fresh_dn (by assumption)) | exact DL.fresh_dn (DL.fresh_dn (DL.fresh_dn (by assumption))))) | exact Ne.symm (DL.ne_at (by assumption) (by (first | assumption | exact DL.fresh_up (by assumption) | exact DL.fresh_dn (by assumption) | exact DL.fresh_dn (DL.fresh_dn (by assumption)) | exact DL.fresh_dn (DL.fresh_dn (DL.fresh_dn (by assumption)))))) | exact DL.fresh_ne (by assumption) | exact Ne.symm (DL.fresh_ne (by assumption)) | exact DL.fresh_ne (DL.fresh_dn (by assumption)) | exact Ne.symm (DL.fresh_ne (DL.fresh_dn (by assumption))) | exact DL.fresh_ne (DL.fresh_dn (DL.fresh_dn (by assumption))) | exact Ne.symm (DL.fresh_ne (DL.fresh_dn (DL.fresh_dn (by assumption))))))).trans ?_; first | exact DL.mup_same | assumption | (refine (DL.mup_ne (by (first | assumption | exact Ne.symm (by assumption) | exact DL.ne_at (by assumption) (by (first | assumption | exact DL.fresh_up (by assumption) | exact DL.fresh_dn (by assumption) | exact DL.fresh_dn (DL.fresh_dn (by assumption)) | exact DL.fresh_dn (DL.fresh_dn (DL.fresh_dn (by assumption))))) | exact Ne.symm (DL.ne_at (by assumption) (by (first | assumption | exact DL.fresh_up (by assumption) | exact DL.fresh_dn (by assumption) | exact DL.fresh_dn (DL.fresh_dn (by assumption)) | exact DL.fresh_dn (DL.fresh_dn (DL.fresh_dn (by assumption)))))) | exact DL.fresh_ne (by assumption) | exact Ne.symm (DL.fresh_ne (by assumption)) | exact DL.fresh_ne (DL.fresh_dn (by assumption)) | exact Ne.symm (DL.fresh_ne (DL.fresh_dn (by assumption))) | exact DL.fresh_ne (DL.fresh_dn (DL.fresh_dn (by assumption))) | exact Ne.symm (DL.fresh_ne (DL.fresh_dn (DL.fresh_dn (by assumption))))))).trans ?_; first | exact DL.mup_same | assumption | (refine (DL.mup_ne (by (first | assumption | exact Ne.symm (by assumption) | exact DL.ne_at (by assumption) (by (first | assumption | exact DL.fresh_up (by assumption) | exact DL.fresh_dn (by assumption) | exact DL.fresh_dn (DL.fresh_dn (by assumption)) | exact DL.fresh_dn (DL.fresh_dn (DL.fresh_dn (by assumption))))) | exact Ne.symm (DL.ne_at (by assumption) (by (first | assumption | exact DL.fresh_up (by assumption) | exact DL.fresh_dn (by assumption) | exact DL.fresh_dn (DL.fresh_dn (by assumption)) | exact DL.fresh_dn (DL.fresh_dn (DL.fresh_dn (by assumption)))))) | exact DL.fresh_ne (by assumption) | exact Ne.symm (DL.fresh_ne (by assumption)) | exact DL.fresh_ne (DL.fresh_dn (by assumption)) | exact Ne.symm (DL.fresh_ne (DL.fresh_dn (by assumption))) | exact DL.fresh_ne (DL.fresh_dn (DL.fresh_dn (by assumption))) | exact Ne.symm (DL.fresh_ne (DL.fresh_dn (DL.fresh_dn (by assumption))))))).trans ?_; first | exact DL.mup_same | assumption | (refine (DL.mup_ne (by (first | assumption | exact Ne.symm (by assumption) | exact DL.ne_at (by assumption) (by (first | assumption | exact DL.fresh_up (by assumption) | exact DL.fresh_dn (by assumption) | exact DL.fresh_dn (DL.fresh_dn (by assumption)) | exact DL.fresh_dn (DL.fresh_dn (DL.fresh_dn (by assumption))))) | exact Ne.symm (DL.ne_at (by assumption) (by (first | assumption | exact DL.fresh_up (by assumption) | exact DL.fresh_dn (by assumption) | exact DL.fresh_dn (DL.fresh_dn (by assumption)) | exact DL.fresh_dn (DL.fresh_dn (DL.fresh_dn (by assumption)))))) | exact DL.fresh_ne (by assumption) | exact Ne.symm (DL.fresh_ne (by assumption)) | exact DL.fresh_ne (DL.fresh_dn (by assumption)) | exact Ne.symm (DL.fresh_ne (DL.fresh_dn (by assumption))) | exact DL.fresh_ne (DL.fresh_dn (DL.fresh_dn (by assumption))) | exact Ne.symm (DL.fresh_ne (DL.fresh_dn (DL.fresh_dn (by assumption))))))).trans ?_; first | exact DL.mup_same | assumption | (refine (DL.mup_ne (by (first | assumption | exact Ne.symm (by assumption) | exact DL.ne_at (by assumption) (by (first | assumption | exact DL.fresh_up (by assumption) | exact DL.fresh_dn (by assumption) | exact DL.fresh_dn (DL.fresh_dn (by assumption)) | exact DL.fresh_dn (DL.fresh_dn (DL.fresh_dn (by assumption))))) | exact Ne.symm (DL.ne_at (by assumption) (by (first | assumption | exact DL.fresh_up (by assumption) | exact DL.fresh_dn (by assumption) | exact DL.fresh_dn (DL.fresh_dn (by assumption)) | exact DL.fresh_dn (DL.fresh_dn (DL.fresh_dn (by assumption)))))) | exact DL.fresh_ne (by assumption) | exact Ne.symm (DL.fresh_ne (by assumption)) | exact DL.fresh_ne (DL.fresh_dn (by assumption)) | exact Ne.symm (DL.fresh_ne (DL.fresh_dn (by assumption))) | exact DL.fresh_ne (DL.fresh_dn (DL.fresh_dn (by assumption))) | exact Ne.symm (DL.fresh_ne (DL.fresh_dn (DL.fresh_dn (by assumption))))))).trans ?_; first | exact DL.mup_same | assumption))))))) ?_)))); (try rw [DL.mup_mup]); first | rw [DL.mdel_mup (by (first | assumption | exact DL.fresh_up (by assumption) | exact DL.fresh_dn (by assumption) | exact DL.fresh_dn (DL.fresh_dn (by assumption)) | exact DL.fresh_dn (DL.fresh_dn (DL.fresh_dn (by assumption)))))] | rw [DL.mdel_mup_ne (by (first | assumption | exact Ne.symm (by assumption) | exact DL.ne_at (by assumption) (by (first | assumption | exact DL.fresh_up (by assumption) | exact DL.fresh_dn (by assumption) | exact DL.fresh_dn (DL.fresh_dn (by assumption)) | exact DL.fresh_dn (DL.fresh_dn (DL.fresh_dn (by assumption))))) | exact Ne.symm (DL.ne_at (by assumption) (by (first | assumption | exact DL.fresh_up (by assumption) | exact DL.fresh_dn (by assumption) | exact DL.fresh_dn (DL.fresh_dn (by assumption)) | exact DL.fresh_dn (DL.fresh_dn (DL.fresh_dn (by assumption)))))) | exact DL.fresh_ne (by assumption) | exact Ne.symm (DL.fresh_ne (by assumption)) | exact DL.fresh_ne (DL.fresh_dn (by assumption)) | exact Ne.symm (DL.fresh_ne (DL.fresh_dn (by assumption))) | exact DL.fresh_ne (DL.fresh_dn (DL.fresh_dn (by assumption))) | exact Ne.symm (DL.fresh_ne (DL.fresh_dn (DL.fresh_dn (by assumption)))))), DL.mdel_mup (by (first | assumption | exact DL.fresh_up (by assumption) | exact DL.fresh_dn (by assumption) | exact DL.fresh_dn (DL.fresh_dn (by assumption)) | exact DL.fresh_dn (DL.fresh_dn (DL.fresh_dn (by assumption)))))] | rw [DL.mdel_mup_ne (by (first | assumption | exact Ne.symm (by assumption) | exact DL.ne_at (by assumption) (by (first | assumption | exact DL.fresh_up (by assumption) | exact DL.fresh_dn (by assumption) | exact DL.fresh_dn (DL.fresh_dn (by assumption)) | exact DL.fresh_dn (DL.fresh_dn (DL.fresh_dn (by assumption))))) | exact Ne.symm (DL.ne_at (by assumption) (by (first | assumption | exact DL.fresh_up (by assumption) | exact DL.fresh_dn (by assumption) | exact DL.fresh_dn (DL.fresh_dn (by assumption)) | exact DL.fresh_dn (DL.fresh_dn (DL.fresh_dn (by assumption)))))) | exact DL.fresh_ne (by assumption) | exact Ne.symm (DL.fresh_ne (by assumption)) | exact DL.fresh_ne (DL.fresh_dn (by assumption)) | exact Ne.symm (DL.fresh_ne (DL.fresh_dn (by assumption))) | exact DL.fresh_ne (DL.fresh_dn (DL.fresh_dn (by assumption))) | exact Ne.symm (DL.fresh_ne (DL.fresh_dn (DL.fresh_dn (by assumption)))))), DL.mdel_mup_ne (by (first | assumption | exact Ne.symm (by assumption) | exact DL.ne_at (by assumption) (by (first | assumption | exact DL.fresh_up (by assumption) | exact DL.fresh_dn (by assumption) | exact DL.fresh_dn (DL.fresh_dn (by assumption)) | exact DL.fresh_dn (DL.fresh_dn (DL.fresh_dn (by assumption))))) | exact Ne.symm (DL.ne_at (by assumption) (by (first | assumption | exact DL.fresh_up (by assumption) | exact DL.fresh_dn (by assumption) | exact DL.fresh_dn (DL.fresh_dn (by assumption)) | exact DL.fresh_dn (DL.fresh_dn (DL.fresh_dn (by assumption)))))) | exact DL.fresh_ne (by assumption) | exact Ne.symm (DL.fresh_ne (by assumption)) | exact DL.fresh_ne (DL.fresh_dn (by assumption)) | exact Ne.symm (DL.fresh_ne (DL.fresh_dn (by assumption))) | exact DL.fresh_ne (DL.fresh_dn (DL.fresh_dn (by assumption))) | exact Ne.symm (DL.fresh_ne (DL.fresh_dn (DL.fresh_dn (by assumption)))))), DL.mdel_mup (by (first | assumption | exact DL.fresh_up (by assumption) | exact DL.fresh_dn (by assumption) | exact DL.fresh_dn (DL.fresh_dn (by assumption)) | exact DL.fresh_dn (DL.fresh_dn (DL.fresh_dn (by assumption)))))] | skip) | walk_at "x") | (show DL.IxG _ _ _ _; first | refine DL.IxG.tup rfl rfl (by (first | exact DL.atI0 | exact rfl | assumption | exact DL.atI_ints (by (first | omega | (simp only [List.length_map, List.length_range, List.length_cons, List.length_nil, List.length_append]; omega))) | walk_at "I")) ?_ | refine DL.IxG.lst rfl (by (first | exact rfl | assumption | exact DL.asL_same | exact DL.asL_adr (by (first | exact DL.mup_same | assumption | (refine (DL.mup_ne (by (first | assumption | exact Ne.symm (by assumption) | exact DL.ne_at (by assumption) (by (first | assumption | exact DL.fresh_up (by assumption) | exact DL.fresh_dn (by assumption) | exact DL.fresh_dn (DL.fresh_dn (by assumption)) | exact DL.fresh_dn (DL.fresh_dn (DL.fresh_dn (by assumption))))) | exact Ne.symm (DL.ne_at (by assumption) (by (first | assumption | exact DL.fresh_up (by assumption) | exact DL.fresh_dn (by assumption) | exact DL.fresh_dn (DL.fresh_dn (by assumption)) | exact DL.fresh_dn (DL.fresh_dn (DL.fresh_dn (by assumption)))))) | exact DL.fresh_ne (by assumption) | exact Ne.symm (DL.fresh_ne (by assumption)) | exact DL.fresh_ne (DL.fresh_dn (by assumption)) | exact Ne.symm (DL.fresh_ne (DL.fresh_dn (by assumption))) | exact DL.fresh_ne (DL.fresh_dn (DL.fresh_dn (by assumption))) | exact Ne.symm (DL.fresh_ne (DL.fresh_dn (DL.fresh_dn (by assumption))))))).trans ?_; first | exact DL.mup_same | assumption | (refine (DL.mup_ne (by (first | assumption | exact Ne.symm (by assumption) | exact DL.ne_at (by assumption) (by (first | assumption | exact DL.fresh_up (by assumption) | exact DL.fresh_dn (by assumption) | exact DL.fresh_dn (DL.fresh_dn (by assumption)) | exact DL.fresh_dn (DL.fresh_dn (DL.fresh_dn (by assumption))))) | exact Ne.symm (DL.ne_at (by assumption) (by (first | assumption | exact DL.fresh_up (by assumption) | exact DL.fresh_dn (by assumption) | exact DL.fresh_dn (DL.fresh_dn (by assumption)) | exact DL.fresh_dn (DL.fresh_dn (DL.fresh_dn (by assumption)))))) | exact DL.fresh_ne (by assumption) | exact Ne.symm (DL.fresh_ne (by assumption)) | exact DL.fresh_ne (DL.fresh_dn (by assumption)) | exact Ne.symm (DL.fresh_ne (DL.fresh_dn (by assumption))) | exact DL.fresh_ne (DL.fresh_dn (DL.fresh_dn (by assumption))) | exact Ne.symm (DL.fresh_ne (DL.fresh_dn (DL.fresh_dn (by assumption))))))).trans ?_; first | exact DL.mup_same | assumption | (refine (DL.mup_ne (by (first | assumption | exact Ne.symm (by assumption) | exact DL.ne_at (by assumption) (by (first | assumption | exact DL.fresh_up (by assumption) | exact DL.fresh_dn (by assumption) | exact DL.fresh_dn (DL.fresh_dn (by assumption)) | exact DL.fresh_dn (DL.fresh_dn (DL.fresh_dn (by assumption))))) | exact Ne.symm (DL.ne_at (by assumption) (by (first | assumption | exact DL.fresh_up (by assumption) | exact DL.fresh_dn (by assumption) | exact DL.fresh_dn (DL.fresh_dn (by assumption)) | exact DL.fresh_dn (DL.fresh_dn (DL.fresh_dn (by assumption)))))) | exact DL.fresh_ne (by assumption) | exact Ne.symm (DL.fresh_ne (by assumption)) | exact DL.fresh_ne (DL.fresh_dn (by assumption)) | exact Ne.symm (DL.fresh_ne (DL.fresh_dn (by assumption))) | exact DL.fresh_ne (DL.fresh_dn (DL.fresh_dn (by assumption))) | exact Ne.symm (DL.fresh_ne (DL.fresh_dn (DL.fresh_dn (by assumption))))))).trans ?_; first | exact DL.mup_same | assumption | (refine (DL.mup_ne (by (first | assumption | exact Ne.symm (by assumption) | exact DL.ne_at (by assumption) (by (first | assumption | exact DL.fresh_up (by assumption) | exact DL.fresh_dn (by assumption) | exact DL.fresh_dn (DL.fresh_dn (by assumption)) | exact DL.fresh_dn (DL.fresh_dn (DL.fresh_dn (by assumption))))) | exact Ne.symm (DL.ne_at (by assumption) (by (first | assumption | exact DL.fresh_up (by assumption) | exact DL.fresh_dn (by assumption) | exact DL.fresh_dn (DL.fresh_dn (by assumption)) | exact DL.fresh_dn (DL.fresh_dn (DL.fresh_dn (by assumption)))))) | exact DL.fresh_ne (by assumption) | exact Ne.symm (DL.fresh_ne (by assumption)) | exact DL.fresh_ne (DL.fresh_dn (by assumption)) | exact Ne.symm (DL.fresh_ne (DL.fresh_dn (by assumption))) | exact DL.fresh_ne (DL.fresh_dn (DL.fresh_dn (by assumption))) | exact Ne.symm (DL.fresh_ne (DL.fresh_dn (DL.fresh_dn (by assumption))))))).trans ?_; first | exact DL.mup_same | assumption | (refine (DL.mup_ne (by (first | assumption | exact Ne.symm (by assumption) | exact DL.ne_at (by assumption) (by (first | assumption | exact DL.fresh_up (by assumption) | exact DL.fresh_dn (by assumption) | exact DL.fresh_dn (DL.fresh_dn (by assumption)) | exact DL.fresh_dn (DL.fresh_dn (DL.fresh_dn (by assumption))))) | exact Ne.symm (DL.ne_at (by assumption) (by (first | assumption | exact DL.fresh_up (by assumption) | exact DL.fresh_dn (by assumption) | exact DL.fresh_dn (DL.fresh_dn (by assumption)) | exact DL.fresh_dn (DL.fresh_dn (DL.fresh_dn (by assumption)))))) | exact DL.fresh_ne (by assumption) | exact Ne.symm (DL.fresh_ne (by assumption)) | exact DL.fresh_ne (DL.fresh_dn (by assumption)) | exact Ne.symm (DL.fresh_ne (DL.fresh_dn (by assumption))) | exact DL.fresh_ne (DL.fresh_dn (DL.fresh_dn (by assumption))) | exact Ne.symm (DL.fresh_ne (DL.fresh_dn (DL.fresh_dn (by assumption))))))).trans ?_; first | exact DL.mup_same | assumption))))))) | exact DL.asL_up (by assumption) (by (first | assumption | exact DL.fresh_up (by assumption) | exact DL.fresh_dn (by assumption) | exact DL.fresh_dn (DL.fresh_dn (by assumption)) | exact DL.fresh_dn (DL.fresh_dn (DL.fresh_dn (by assumption))))) | exact DL.asL_up (DL.asL_up (by assumption) (by (first | assumption | exact DL.fresh_up (by assumption) | exact DL.fresh_dn (by assumption) | exact DL.fresh_dn (DL.fresh_dn (by assumption)) | exact DL.fresh_dn (DL.fresh_dn (DL.fresh_dn (by assumption)))))) (by (first | assumption | exact DL.fresh_up (by assumption) | exact DL.fresh_dn (by assumption) | exact DL.fresh_dn (DL.fresh_dn (by assumption)) | exact DL.fresh_dn (DL.fresh_dn (DL.fresh_dn (by assumption))))))) (by (first | exact DL.atI0 | exact rfl | assumption | exact DL.atI_ints (by (first | omega | (simp only [List.length_map, List.length_range, List.length_cons, List.length_nil, List.length_append]; omega))) | walk_at "I")) ?_ | refine DL.IxG.str rfl rfl (by first | exact DL.sz (Nat.le_of_ble_eq_true rfl) | (refine DL.sz ?_; first | omega | (simp only [PySem.Str.length_append]; omega) | (simp only [List.length_map, List.length_append, List.length_range, List.length_cons, List.length_nil]; omega) | (simp; done) | (simp; omega)) | assumption | exact Nat.le_trans (List.length_filter_le ..) (by omega) | first | omega | (simp only [PySem.Str.length_append]; omega) | (simp only [List.length_map, List.length_append, List.length_range, List.length_cons, List.length_nil]; omega) | (simp; done) | (simp; omega)) (by (first | exact DL.atI0 | exact rfl | assumption | exact DL.atI_ints (by (first | omega | (simp only [List.length_map, List.length_range, List.length_cons, List.length_nil, List.length_append]; omega))) | walk_at "I")) ?_ | walk_at "x") | (show DL.EqG _ _ _ _ _; first | refine DL.EqG.sc (by (first | exact rfl | exact Toy.dsc_ob _ _ | exact Toy.dsc_oi _ _ | exact Toy.dsc_ob (some _) _ | exact Toy.dsc_ob _ (some _) | exact Toy.dsc_oi (some _) _ | exact Toy.dsc_oi _ (some _) | walk_at "E")) ?_ | refine DL.EqG.dt (by (first | exact DL.view_lst | exact DL.view_adr (by (first | exact DL.mup_same | assumption | (refine (DL.mup_ne (by (first | assumption | exact Ne.symm (by assumption) | exact DL.ne_at (by assumption) (by (first | assumption | exact DL.fresh_up (by assumption) | exact DL.fresh_dn (by assumption) | exact DL.fresh_dn (DL.fresh_dn (by assumption)) | exact DL.fresh_dn (DL.fresh_dn (DL.fresh_dn (by assumption))))) | exact Ne.symm (DL.ne_at (by assumption) (by (first | assumption | exact DL.fresh_up (by assumption) | exact DL.fresh_dn (by assumption) | exact DL.fresh_dn (DL.fresh_dn (by assumption)) | exact DL.fresh_dn (DL.fresh_dn (DL.fresh_dn (by assumption)))))) | exact DL.fresh_ne (by assumption) | exact Ne.symm (DL.fresh_ne (by assumption)) | exact DL.fresh_ne (DL.fresh_dn (by assumption)) | exact Ne.symm (DL.fresh_ne (DL.fresh_dn (by assumption))) | exact DL.fresh_ne (DL.fresh_dn (DL.fresh_dn (by assumption))) | exact Ne.symm (DL.fresh_ne (DL.fresh_dn (DL.fresh_dn (by assumption))))))).trans ?_; first | exact DL.mup_same | assumption | (refine (DL.mup_ne (by (first | assumption | exact Ne.symm (by assumption) | exact DL.ne_at (by assumption) (by (first | assumption | exact DL.fresh_up (by assumption) | exact DL.fresh_dn (by assumption) | exact DL.fresh_dn (DL.fresh_dn (by assumption)) | exact DL.fresh_dn (DL.fresh_dn (DL.fresh_dn (by assumption))))) | exact Ne.symm (DL.ne_at (by assumption) (by (first | assumption | exact DL.fresh_up (by assumption) | exact DL.fresh_dn (by assumption) | exact DL.fresh_dn (DL.fresh_dn (by assumption)) | exact DL.fresh_dn (DL.fresh_dn (DL.fresh_dn (by assumption)))))) | exact DL.fresh_ne (by assumption) | exact Ne.symm (DL.fresh_ne (by assumption)) | exact DL.fresh_ne (DL.fresh_dn (by assumption)) | exact Ne.symm (DL.fresh_ne (DL.fresh_dn (by assumption))) | exact DL.fresh_ne (DL.fresh_dn (DL.fresh_dn (by assumption))) | exact Ne.symm (DL.fresh_ne (DL.fresh_dn (DL.fresh_dn (by assumption))))))).trans ?_; first | exact DL.mup_same | assumption | (refine (DL.mup_ne (by (first | assumption | exact Ne.symm (by assumption) | exact DL.ne_at (by assumption) (by (first | assumption | exact DL.fresh_up (by assumption) | exact DL.fresh_dn (by assumption) | exact DL.fresh_dn (DL.fresh_dn (by assumption)) | exact DL.fresh_dn (DL.fresh_dn (DL.fresh_dn (by assumption))))) | exact Ne.symm (DL.ne_at (by assumption) (by (first | assumption | exact DL.fresh_up (by assumption) | exact DL.fresh_dn (by assumption) | exact DL.fresh_dn (DL.fresh_dn (by assumption)) | exact DL.fresh_dn (DL.fresh_dn (DL.fresh_dn (by assumption)))))) | exact DL.fresh_ne (by assumption) | exact Ne.symm (DL.fresh_ne (by assumption)) | exact DL.fresh_ne (DL.fresh_dn (by assumption)) | exact Ne.symm (DL.fresh_ne (DL.fresh_dn (by assumption))) | exact DL.fresh_ne (DL.fresh_dn (DL.fresh_dn (by assumption))) | exact Ne.symm (DL.fresh_ne (DL.fresh_dn (DL.fresh_dn (by assumption))))))).trans ?_; first | exact DL.mup_same | assumption | (refine (DL.mup_ne (by (first | assumption | exact Ne.symm (by assumption) | exact DL.ne_at (by assumption) (by (first | assumption | exact DL.fresh_up (by assumption) | exact DL.fresh_dn (by assumption) | exact DL.fresh_dn (DL.fresh_dn (by assumption)) | exact DL.fresh_dn (DL.fresh_dn (DL.fresh_dn (by assumption))))) | exact Ne.symm (DL.ne_at (by assumption) (by (first | assumption | exact DL.fresh_up (by assumption) | exact DL.fresh_dn (by assumption) | exact DL.fresh_dn (DL.fresh_dn (by assumption)) | exact DL.fresh_dn (DL.fresh_dn (DL.fresh_dn (by assumption)))))) | exact DL.fresh_ne (by assumption) | exact Ne.symm (DL.fresh_ne (by assumption)) | exact DL.fresh_ne (DL.fresh_dn (by assumption)) | exact Ne.symm (DL.fresh_ne (DL.fresh_dn (by assumption))) | exact DL.fresh_ne (DL.fresh_dn (DL.fresh_dn (by assumption))) | exact Ne.symm (DL.fresh_ne (DL.fresh_dn (DL.fresh_dn (by assumption))))))).trans ?_; first | exact DL.mup_same | assumption | (refine (DL.mup_ne (by (first | assumption | exact Ne.symm (by assumption) | exact DL.ne_at (by assumption) (by (first | assumption | exact DL.fresh_up (by assumption) | exact DL.fresh_dn (by assumption) | exact DL.fresh_dn (DL.fresh_dn (by assumption)) | exact DL.fresh_dn (DL.fresh_dn (DL.fresh_dn (by assumption))))) | exact Ne.symm (DL.ne_at (by assumption) (by (first | assumption | exact DL.fresh_up (by assumption) | exact DL.fresh_dn (by assumption) | exact DL.fresh_dn (DL.fresh_dn (by assumption)) | exact DL.fresh_dn (DL.fresh_dn (DL.fresh_dn (by assumption)))))) | exact DL.fresh_ne (by assumption) | exact Ne.symm (DL.fresh_ne (by assumption)) | exact DL.fresh_ne (DL.fresh_dn (by assumption)) | exact Ne.symm (DL.fresh_ne (DL.fresh_dn (by assumption))) | exact DL.fresh_ne (DL.fresh_dn (DL.fresh_dn (by assumption))) | exact Ne.symm (DL.fresh_ne (DL.fresh_dn (DL.fresh_dn (by assumption))))))).trans ?_; first | exact DL.mup_same | assumption))))))) | exact DL.view_fz | exact DL.view_tup | exact rfl)) (by (first | exact DL.view_lst | exact DL.view_adr (by (first | exact DL.mup_same | assumption | (refine (DL.mup_ne (by (first | assumption | exact Ne.symm (by assumption) | exact DL.ne_at (by assumption) (by (first | assumption | exact DL.fresh_up (by assumption) | exact DL.fresh_dn (by assumption) | exact DL.fresh_dn (DL.fresh_dn (by assumption)) | exact DL.fresh_dn (DL.fresh_dn (DL.fresh_dn (by assumption))))) | exact Ne.symm (DL.ne_at (by assumption) (by (first | assumption | exact DL.fresh_up (by assumption) | exact DL.fresh_dn (by assumption) | exact DL.fresh_dn (DL.fresh_dn (by assumption)) | exact DL.fresh_dn (DL.fresh_dn (DL.fresh_dn (by assumption)))))) | exact DL.fresh_ne (by assumption) | exact Ne.symm (DL.fresh_ne (by assumption)) | exact DL.fresh_ne (DL.fresh_dn (by assumption)) | exact Ne.symm (DL.fresh_ne (DL.fresh_dn (by assumption))) | exact DL.fresh_ne (DL.fresh_dn (DL.fresh_dn (by assumption))) | exact Ne.symm (DL.fresh_ne (DL.fresh_dn (DL.fresh_dn (by assumption))))))).trans ?_; first | exact DL.mup_same | assumption | (refine (DL.mup_ne (by (first | assumption | exact Ne.symm (by assumption) | exact DL.ne_at (by assumption) (by (first | assumption | exact DL.fresh_up (by assumption) | exact DL.fresh_dn (by assumption) | exact DL.fresh_dn (DL.fresh_dn (by assumption)) | exact DL.fresh_dn (DL.fresh_dn (DL.fresh_dn (by assumption))))) | exact Ne.symm (DL.ne_at (by assumption) (by (first | assumption | exact DL.fresh_up (by assumption) | exact DL.fresh_dn (by assumption) | exact DL.fresh_dn (DL.fresh_dn (by assumption)) | exact DL.fresh_dn (DL.fresh_dn (DL.fresh_dn (by assumption)))))) | exact DL.fresh_ne (by assumption) | exact Ne.symm (DL.fresh_ne (by assumption)) | exact DL.fresh_ne (DL.fresh_dn (by assumption)) | exact Ne.symm (DL.fresh_ne (DL.fresh_dn (by assumption))) | exact DL.fresh_ne (DL.fresh_dn (DL.fresh_dn (by assumption))) | exact Ne.symm (DL.fresh_ne (DL.fresh_dn (DL.fresh_dn (by assumption))))))).trans ?_; first | exact DL.mup_same | assumption | (refine (DL.mup_ne (by (first | assumption | exact Ne.symm (by assumption) | exact DL.ne_at (by assumption) (by (first | assumption | exact DL.fresh_up (by assumption) | exact DL.fresh_dn (by assumption) | exact DL.fresh_dn (DL.fresh_dn (by assumption)) | exact DL.fresh_dn (DL.fresh_dn (DL.fresh_dn (by assumption))))) | exact Ne.symm (DL.ne_at (by assumption) (by (first | assumption | exact DL.fresh_up (by assumption) | exact DL.fresh_dn (by assumption) | exact DL.fresh_dn (DL.fresh_dn (by assumption)) | exact DL.fresh_dn (DL.fresh_dn (DL.fresh_dn (by assumption)))))) | exact DL.fresh_ne (by assumption) | exact Ne.symm (DL.fresh_ne (by assumption)) | exact DL.fresh_ne (DL.fresh_dn (by assumption)) | exact Ne.symm (DL.fresh_ne (DL.fresh_dn (by assumption))) | exact DL.fresh_ne (DL.fresh_dn (DL.fresh_dn (by assumption))) | exact Ne.symm (DL.fresh_ne (DL.fresh_dn (DL.fresh_dn (by assumption))))))).trans ?_; first | exact DL.mup_same | assumption | (refine (DL.mup_ne (by (first | assumption | exact Ne.symm (by assumption) | exact DL.ne_at (by assumption) (by (first | assumption | exact DL.fresh_up (by assumption) | exact DL.fresh_dn (by assumption) | exact DL.fresh_dn (DL.fresh_dn (by assumption)) | exact DL.fresh_dn (DL.fresh_dn (DL.fresh_dn (by assumption))))) | exact Ne.symm (DL.ne_at (by assumption) (by (first | assumption | exact DL.fresh_up (by assumption) | exact DL.fresh_dn (by assumption) | exact DL.fresh_dn (DL.fresh_dn (by assumption)) | exact DL.fresh_dn (DL.fresh_dn (DL.fresh_dn (by assumption)))))) | exact DL.fresh_ne (by assumption) | exact Ne.symm (DL.fresh_ne (by assumption)) | exact DL.fresh_ne (DL.fresh_dn (by assumption)) | exact Ne.symm (DL.fresh_ne (DL.fresh_dn (by assumption))) | exact DL.fresh_ne (DL.fresh_dn (DL.fresh_dn (by assumption))) | exact Ne.symm (DL.fresh_ne (DL.fresh_dn (DL.fresh_dn (by assumption))))))).trans ?_; first | exact DL.mup_same | assumption | (refine (DL.mup_ne (by (first | assumption | exact Ne.symm (by assumption) | exact DL.ne_at (by assumption) (by (first | assumption | exact DL.fresh_up (by assumption) | exact DL.fresh_dn (by assumption) | exact DL.fresh_dn (DL.fresh_dn (by assumption)) | exact DL.fresh_dn (DL.fresh_dn (DL.fresh_dn (by assumption))))) | exact Ne.symm (DL.ne_at (by assumption) (by (first | assumption | exact DL.fresh_up (by assumption) | exact DL.fresh_dn (by assumption) | exact DL.fresh_dn (DL.fresh_dn (by assumption)) | exact DL.fresh_dn (DL.fresh_dn (DL.fresh_dn (by assumption)))))) | exact DL.fresh_ne (by assumption) | exact Ne.symm (DL.fresh_ne (by assumption)) | exact DL.fresh_ne (DL.fresh_dn (by assumption)) | exact Ne.symm (DL.fresh_ne (DL.fresh_dn (by assumption))) | exact DL.fresh_ne (DL.fresh_dn (DL.fresh_dn (by assumption))) | exact Ne.symm (DL.fresh_ne (DL.fresh_dn (DL.fresh_dn (by assumption))))))).trans ?_; first | exact DL.mup_same | assumption))))))) | exact DL.view_fz | exact DL.view_tup | exact rfl)) (by (first | assumption | exact DL.fit_int _ | exact DL.fit_ints _ | exact Toy.Let.fit (by assumption) | exact Toy.Stm.fit (by assumption) | exact Toy.lets_fit (by assumption) | exact Toy.fit_oi _ | exact Toy.fit_ois _ | exact Toy.fit_str (by assumption) | exact Toy.fit_strs (by assumption) | exact Toy.pD_fit' (by assumption) | exact Toy.pDs_fit (by assumption) | exact Toy.fit_let' (by assumption) | exact rfl | walk_at "F")) (by (first | assumption | exact DL.fit_int _ | exact DL.fit_ints _ | exact Toy.Let.fit (by assumption) | exact Toy.Stm.fit (by assumption) | exact Toy.lets_fit (by assumption) | exact Toy.fit_oi _ | exact Toy.fit_ois _ | exact Toy.fit_str (by assumption) | exact Toy.fit_strs (by assumption) | exact Toy.pD_fit' (by assumption) | exact Toy.pDs_fit (by assumption) | exact Toy.fit_let' (by assumption) | exact rfl | walk_at "F")) (by (first | exact Toy.deq_let _ _ | exact Toy.deq_stm _ _ | assumption | walk_at "Q" | exact rfl)) ?_ | walk_at "x") | (show DL.TruG _ _ _; first | refine DL.TruG.bl rfl ?_ | refine DL.TruG.int rfl ?_ | refine DL.TruG.tup rfl ?_ | refine DL.TruG.lst (by (first | exact rfl | assumption | exact DL.asL_same | exact DL.asL_adr (by (first | exact DL.mup_same | assumption | (refine (DL.mup_ne (by (first | assumption | exact Ne.symm (by assumption) | exact DL.ne_at (by assumption) (by (first | assumption | exact DL.fresh_up (by assumption) | exact DL.fresh_dn (by assumption) | exact DL.fresh_dn (DL.fresh_dn (by assumption)) | exact DL.fresh_dn (DL.fresh_dn (DL.fresh_dn (by assumption))))) | exact Ne.symm (DL.ne_at (by assumption) (by (first | assumption | exact DL.fresh_up (by assumption) | exact DL.fresh_dn (by assumption) | exact DL.fresh_dn (DL.fresh_dn (by assumption)) | exact DL.fresh_dn (DL.fresh_dn (DL.fresh_dn (by assumption)))))) | exact DL.fresh_ne (by assumption) | exact Ne.symm (DL.fresh_ne (by assumption)) | exact DL.fresh_ne (DL.fresh_dn (by assumption)) | exact Ne.symm (DL.fresh_ne (DL.fresh_dn (by assumption))) | exact DL.fresh_ne (DL.fresh_dn (DL.fresh_dn (by assumption))) | exact Ne.symm (DL.fresh_ne (DL.fresh_dn (DL.fresh_dn (by assumption))))))).trans ?_; first | exact DL.mup_same | assumption | (refine (DL.mup_ne (by (first | assumption | exact Ne.symm (by assumption) | exact DL.ne_at (by assumption) (by (first | assumption | exact DL.fresh_up (by assumption) | exact DL.fresh_dn (by assumption) | exact DL.fresh_dn (DL.fresh_dn (by assumption)) | exact DL.fresh_dn (DL.fresh_dn (DL.fresh_dn (by assumption))))) | exact Ne.symm (DL.ne_at (by assumption) (by (first | assumption | exact DL.fresh_up (by assumption) | exact DL.fresh_dn (by assumption) | exact DL.fresh_dn (DL.fresh_dn (by assumption)) | exact DL.fresh_dn (DL.fresh_dn (DL.fresh_dn (by assumption)))))) | exact DL.fresh_ne (by assumption) | exact Ne.symm (DL.fresh_ne (by assumption)) | exact DL.fresh_ne (DL.fresh_dn (by assumption)) | exact Ne.symm (DL.fresh_ne (DL.fresh_dn (by assumption))) | exact DL.fresh_ne (DL.fresh_dn (DL.fresh_dn (by assumption))) | exact Ne.symm (DL.fresh_ne (DL.fresh_dn (DL.fresh_dn (by assumption))))))).trans ?_; first | exact DL.mup_same | assumption | (refine (DL.mup_ne (by (first | assumption | exact Ne.symm (by assumption) | exact DL.ne_at (by assumption) (by (first | assumption | exact DL.fresh_up (by assumption) | exact DL.fresh_dn (by assumption) | exact DL.fresh_dn (DL.fresh_dn (by assumption)) | exact DL.fresh_dn (DL.fresh_dn (DL.fresh_dn (by assumption))))) | exact Ne.symm (DL.ne_at (by assumption) (by (first | assumption | exact DL.fresh_up (by assumption) | exact DL.fresh_dn (by assumption) | exact DL.fresh_dn (DL.fresh_dn (by assumption)) | exact DL.fresh_dn (DL.fresh_dn (DL.fresh_dn (by assumption)))))) | exact DL.fresh_ne (by assumption) | exact Ne.symm (DL.fresh_ne (by assumption)) | exact DL.fresh_ne (DL.fresh_dn (by assumption)) | exact Ne.symm (DL.fresh_ne (DL.fresh_dn (by assumption))) | exact DL.fresh_ne (DL.fresh_dn (DL.fresh_dn (by assumption))) | exact Ne.symm (DL.fresh_ne (DL.fresh_dn (DL.fresh_dn (by assumption))))))).trans ?_; first | exact DL.mup_same | assumption | (refine (DL.mup_ne (by (first | assumption | exact Ne.symm (by assumption) | exact DL.ne_at (by assumption) (by (first | assumption | exact DL.fresh_up (by assumption) | exact DL.fresh_dn (by assumption) | exact DL.fresh_dn (DL.fresh_dn (by assumption)) | exact DL.fresh_dn (DL.fresh_dn (DL.fresh_dn (by assumption))))) | exact Ne.symm (DL.ne_at (by assumption) (by (first | assumption | exact DL.fresh_up (by assumption) | exact DL.fresh_dn (by assumption) | exact DL.fresh_dn (DL.fresh_dn (by assumption)) | exact DL.fresh_dn (DL.fresh_dn (DL.fresh_dn (by assumption)))))) | exact DL.fresh_ne (by assumption) | exact Ne.symm (DL.fresh_ne (by assumption)) | exact DL.fresh_ne (DL.fresh_dn (by assumption)) | exact Ne.symm (DL.fresh_ne (DL.fresh_dn (by assumption))) | exact DL.fresh_ne (DL.fresh_dn (DL.fresh_dn (by assumption))) | exact Ne.symm (DL.fresh_ne (DL.fresh_dn (DL.fresh_dn (by assumption))))))).trans ?_; first | exact DL.mup_same | assumption | (refine (DL.mup_ne (by (first | assumption | exact Ne.symm (by assumption) | exact DL.ne_at (by assumption) (by (first | assumption | exact DL.fresh_up (by assumption) | exact DL.fresh_dn (by assumption) | exact DL.fresh_dn (DL.fresh_dn (by assumption)) | exact DL.fresh_dn (DL.fresh_dn (DL.fresh_dn (by assumption))))) | exact Ne.symm (DL.ne_at (by assumption) (by (first | assumption | exact DL.fresh_up (by assumption) | exact DL.fresh_dn (by assumption) | exact DL.fresh_dn (DL.fresh_dn (by assumption)) | exact DL.fresh_dn (DL.fresh_dn (DL.fresh_dn (by assumption)))))) | exact DL.fresh_ne (by assumption) | exact Ne.symm (DL.fresh_ne (by assumption)) | exact DL.fresh_ne (DL.fresh_dn (by assumption)) | exact Ne.symm (DL.fresh_ne (DL.fresh_dn (by assumption))) | exact DL.fresh_ne (DL.fresh_dn (DL.fresh_dn (by assumption))) | exact Ne.symm (DL.fresh_ne (DL.fresh_dn (DL.fresh_dn (by assumption))))))).trans ?_; first | exact DL.mup_same | assumption))))))) | exact DL.asL_up (by assumption) (by (first | assumption | exact DL.fresh_up (by assumption) | exact DL.fresh_dn (by assumption) | exact DL.fresh_dn (DL.fresh_dn (by assumption)) | exact DL.fresh_dn (DL.fresh_dn (DL.fresh_dn (by assumption))))) | exact DL.asL_up (DL.asL_up (by assumption) (by (first | assumption | exact DL.fresh_up (by assumption) | exact DL.fresh_dn (by assumption) | exact DL.fresh_dn (DL.fresh_dn (by assumption)) | exact DL.fresh_dn (DL.fresh_dn (DL.fresh_dn (by assumption)))))) (by (first | assumption | exact DL.fresh_up (by assumption) | exact DL.fresh_dn (by assumption) | exact DL.fresh_dn (DL.fresh_dn (by assumption)) | exact DL.fresh_dn (DL.fresh_dn (DL.fresh_dn (by assumption))))))) ?_ | refine DL.TruG.non rfl ?_ | refine DL.TruG.str rfl (by first | exact DL.sz (Nat.le_of_ble_eq_true rfl) | (refine DL.sz ?_; first | omega | (simp only [PySem.Str.length_append]; omega) | (simp only [List.length_map, List.length_append, List.length_range, List.length_cons, List.length_nil]; omega) | (simp; done) | (simp; omega)) | assumption | exact Nat.le_trans (List.length_filter_le ..) (by omega) | first | omega | (simp only [PySem.Str.length_append]; omega) | (simp only [List.length_map, List.length_append, List.length_range, List.length_cons, List.length_nil]; omega) | (simp; done) | (simp; omega)) ?_ | walk_at "x") | (show DL.LenG _ _ _; first | refine DL.LenG.tup ?_ | refine DL.LenG.lst (by (first | exact rfl | assumption | exact DL.asL_same | exact DL.asL_adr (by (first | exact DL.mup_same | assumption | (refine (DL.mup_ne (by (first | assumption | exact Ne.symm (by assumption) | exact DL.ne_at (by assumption) (by (first | assumption | exact DL.fresh_up (by assumption) | exact DL.fresh_dn (by assumption) | exact DL.fresh_dn (DL.fresh_dn (by assumption)) | exact DL.fresh_dn (DL.fresh_dn (DL.fresh_dn (by assumption))))) | exact Ne.symm (DL.ne_at (by assumption) (by (first | assumption | exact DL.fresh_up (by assumption) | exact DL.fresh_dn (by assumption) | exact DL.fresh_dn (DL.fresh_dn (by assumption)) | exact DL.fresh_dn (DL.fresh_dn (DL.fresh_dn (by assumption)))))) | exact DL.fresh_ne (by assumption) | exact Ne.symm (DL.fresh_ne (by assumption)) | exact DL.fresh_ne (DL.fresh_dn (by assumption)) | exact Ne.symm (DL.fresh_ne (DL.fresh_dn (by assumption))) | exact DL.fresh_ne (DL.fresh_dn (DL.fresh_dn (by assumption))) | exact Ne.symm (DL.fresh_ne (DL.fresh_dn (DL.fresh_dn (by assumption))))))).trans ?_; first | exact DL.mup_same | assumption | (refine (DL.mup_ne (by (first | assumption | exact Ne.symm (by assumption) | exact DL.ne_at (by assumption) (by (first | assumption | exact DL.fresh_up (by assumption) | exact DL.fresh_dn (by assumption) | exact DL.fresh_dn (DL.fresh_dn (by assumption)) | exact DL.fresh_dn (DL.fresh_dn (DL.fresh_dn (by assumption))))) | exact Ne.symm (DL.ne_at (by assumption) (by (first | assumption | exact DL.fresh_up (by assumption) | exact DL.fresh_dn (by assumption) | exact DL.fresh_dn (DL.fresh_dn (by assumption)) | exact DL.fresh_dn (DL.fresh_dn (DL.fresh_dn (by assumption)))))) | exact DL.fresh_ne (by assumption) | exact Ne.symm (DL.fresh_ne (by assumption)) | exact DL.fresh_ne (DL.fresh_dn (by assumption)) | exact Ne.symm (DL.fresh_ne (DL.fresh_dn (by assumption))) | exact DL.fresh_ne (DL.fresh_dn (DL.fresh_dn (by assumption))) | exact Ne.symm (DL.fresh_ne (DL.fresh_dn (DL.fresh_dn (by assumption))))))).trans ?_; first | exact DL.mup_same | assumption | (refine (DL.mup_ne (by (first | assumption | exact Ne.symm (by assumption) | exact DL.ne_at (by assumption) (by (first | assumption | exact DL.fresh_up (by assumption) | exact DL.fresh_dn (by assumption) | exact DL.fresh_dn (DL.fresh_dn (by assumption)) | exact DL.fresh_dn (DL.fresh_dn (DL.fresh_dn (by assumption))))) | exact Ne.symm (DL.ne_at (by assumption) (by (first | assumption | exact DL.fresh_up (by assumption) | exact DL.fresh_dn (by assumption) | exact DL.fresh_dn (DL.fresh_dn (by assumption)) | exact DL.fresh_dn (DL.fresh_dn (DL.fresh_dn (by assumption)))))) | exact DL.fresh_ne (by assumption) | exact Ne.symm (DL.fresh_ne (by assumption)) | exact DL.fresh_ne (DL.fresh_dn (by assumption)) | exact Ne.symm (DL.fresh_ne (DL.fresh_dn (by assumption))) | exact DL.fresh_ne (DL.fresh_dn (DL.fresh_dn (by assumption))) | exact Ne.symm (DL.fresh_ne (DL.fresh_dn (DL.fresh_dn (by assumption))))))).trans ?_; first | exact DL.mup_same | assumption | (refine (DL.mup_ne (by (first | assumption | exact Ne.symm (by assumption) | exact DL.ne_at (by assumption) (by (first | assumption | exact DL.fresh_up (by assumption) | exact DL.fresh_dn (by assumption) | exact DL.fresh_dn (DL.fresh_dn (by assumption)) | exact DL.fresh_dn (DL.fresh_dn (DL.fresh_dn (by assumption))))) | exact Ne.symm (DL.ne_at (by assumption) (by (first | assumption | exact DL.fresh_up (by assumption) | exact DL.fresh_dn (by assumption) | exact DL.fresh_dn (DL.fresh_dn (by assumption)) | exact DL.fresh_dn (DL.fresh_dn (DL.fresh_dn (by assumption)))))) | exact DL.fresh_ne (by assumption) | exact Ne.symm (DL.fresh_ne (by assumption)) | exact DL.fresh_ne (DL.fresh_dn (by assumption)) | exact Ne.symm (DL.fresh_ne (DL.fresh_dn (by assumption))) | exact DL.fresh_ne (DL.fresh_dn (DL.fresh_dn (by assumption))) | exact Ne.symm (DL.fresh_ne (DL.fresh_dn (DL.fresh_dn (by assumption))))))).trans ?_; first | exact DL.mup_same | assumption | (refine (DL.mup_ne (by (first | assumption | exact Ne.symm (by assumption) | exact DL.ne_at (by assumption) (by (first | assumption | exact DL.fresh_up (by assumption) | exact DL.fresh_dn (by assumption) | exact DL.fresh_dn (DL.fresh_dn (by assumption)) | exact DL.fresh_dn (DL.fresh_dn (DL.fresh_dn (by assumption))))) | exact Ne.symm (DL.ne_at (by assumption) (by (first | assumption | exact DL.fresh_up (by assumption) | exact DL.fresh_dn (by assumption) | exact DL.fresh_dn (DL.fresh_dn (by assumption)) | exact DL.fresh_dn (DL.fresh_dn (DL.fresh_dn (by assumption)))))) | exact DL.fresh_ne (by assumption) | exact Ne.symm (DL.fresh_ne (by assumption)) | exact DL.fresh_ne (DL.fresh_dn (by assumption)) | exact Ne.symm (DL.fresh_ne (DL.fresh_dn (by assumption))) | exact DL.fresh_ne (DL.fresh_dn (DL.fresh_dn (by assumption))) | exact Ne.symm (DL.fresh_ne (DL.fresh_dn (DL.fresh_dn (by assumption))))))).trans ?_; first | exact DL.mup_same | assumption))))))) | exact DL.asL_up (by assumption) (by (first | assumption | exact DL.fresh_up (by assumption) | exact DL.fresh_dn (by assumption) | exact DL.fresh_dn (DL.fresh_dn (by assumption)) | exact DL.fresh_dn (DL.fresh_dn (DL.fresh_dn (by assumption))))) | exact DL.asL_up (DL.asL_up (by assumption) (by (first | assumption | exact DL.fresh_up (by assumption) | exact DL.fresh_dn (by assumption) | exact DL.fresh_dn (DL.fresh_dn (by assumption)) | exact DL.fresh_dn (DL.fresh_dn (DL.fresh_dn (by assumption)))))) (by (first | assumption | exact DL.fresh_up (by assumption) | exact DL.fresh_dn (by assumption) | exact DL.fresh_dn (DL.fresh_dn (by assumption)) | exact DL.fresh_dn (DL.fresh_dn (DL.fresh_dn (by assumption))))))) ?_ | refine DL.LenG.str (by first | exact DL.sz (Nat.le_of_ble_eq_true rfl) | (refine DL.sz ?_; first | omega | (simp only [PySem.Str.length_append]; omega) | (simp only [List.length_map, List.length_append, List.length_range, List.length_cons, List.length_nil]; omega) | (simp; done) | (simp; omega)) | assumption | exact Nat.le_trans (List.length_filter_le ..) (by omega) | first | omega | (simp only [PySem.Str.length_append]; omega) | (simp only [List.length_map, List.length_append, List.length_range, List.length_cons, List.length_nil]; omega) | (simp; done) | (simp; omega)) ?_ | walk_at "x") | (show DL.CatG _ _ _ _; first | refine DL.CatG.mk (by (first | exact rfl | assumption | exact DL.asT_adr (by (first | exact DL.mup_same | assumption | (refine (DL.mup_ne (by (first | assumption | exact Ne.symm (by assumption) | exact DL.ne_at (by assumption) (by (first | assumption | exact DL.fresh_up (by assumption) | exact DL.fresh_dn (by assumption) | exact DL.fresh_dn (DL.fresh_dn (by assumption)) | exact DL.fresh_dn (DL.fresh_dn (DL.fresh_dn (by assumption))))) | exact Ne.symm (DL.ne_at (by assumption) (by (first | assumption | exact DL.fresh_up (by assumption) | exact DL.fresh_dn (by assumption) | exact DL.fresh_dn (DL.fresh_dn (by assumption)) | exact DL.fresh_dn (DL.fresh_dn (DL.fresh_dn (by assumption)))))) | exact DL.fresh_ne (by assumption) | exact Ne.symm (DL.fresh_ne (by assumption)) | exact DL.fresh_ne (DL.fresh_dn (by assumption)) | exact Ne.symm (DL.fresh_ne (DL.fresh_dn (by assumption))) | exact DL.fresh_ne (DL.fresh_dn (DL.fresh_dn (by assumption))) | exact Ne.symm (DL.fresh_ne (DL.fresh_dn (DL.fresh_dn (by assumption))))))).trans ?_; first | exact DL.mup_same | assumption | (refine (DL.mup_ne (by (first | assumption | exact Ne.symm (by assumption) | exact DL.ne_at (by assumption) (by (first | assumption | exact DL.fresh_up (by assumption) | exact DL.fresh_dn (by assumption) | exact DL.fresh_dn (DL.fresh_dn (by assumption)) | exact DL.fresh_dn (DL.fresh_dn (DL.fresh_dn (by assumption))))) | exact Ne.symm (DL.ne_at (by assumption) (by (first | assumption | exact DL.fresh_up (by assumption) | exact DL.fresh_dn (by assumption) | exact DL.fresh_dn (DL.fresh_dn (by assumption)) | exact DL.fresh_dn (DL.fresh_dn (DL.fresh_dn (by assumption)))))) | exact DL.fresh_ne (by assumption) | exact Ne.symm (DL.fresh_ne (by assumption)) | exact DL.fresh_ne (DL.fresh_dn (by assumption)) | exact Ne.symm (DL.fresh_ne (DL.fresh_dn (by assumption))) | exact DL.fresh_ne (DL.fresh_dn (DL.fresh_dn (by assumption))) | exact Ne.symm (DL.fresh_ne (DL.fresh_dn (DL.fresh_dn (by assumption))))))).trans ?_; first | exact DL.mup_same | assumption | (refine (DL.mup_ne (by (first | assumption | exact Ne.symm (by assumption) | exact DL.ne_at (by assumption) (by (first | assumption | exact DL.fresh_up (by assumption) | exact DL.fresh_dn (by assumption) | exact DL.fresh_dn (DL.fresh_dn (by assumption)) | exact DL.fresh_dn (DL.fresh_dn (DL.fresh_dn (by assumption))))) | exact Ne.symm (DL.ne_at (by assumption) (by (first | assumption | exact DL.fresh_up (by assumption) | exact DL.fresh_dn (by assumption) | exact DL.fresh_dn (DL.fresh_dn (by assumption)) | exact DL.fresh_dn (DL.fresh_dn (DL.fresh_dn (by assumption)))))) | exact DL.fresh_ne (by assumption) | exact Ne.symm (DL.fresh_ne (by assumption)) | exact DL.fresh_ne (DL.fresh_dn (by assumption)) | exact Ne.symm (DL.fresh_ne (DL.fresh_dn (by assumption))) | exact DL.fresh_ne (DL.fresh_dn (DL.fresh_dn (by assumption))) | exact Ne.symm (DL.fresh_ne (DL.fresh_dn (DL.fresh_dn (by assumption))))))).trans ?_; first | exact DL.mup_same | assumption | (refine (DL.mup_ne (by (first | assumption | exact Ne.symm (by assumption) | exact DL.ne_at (by assumption) (by (first | assumption | exact DL.fresh_up (by assumption) | exact DL.fresh_dn (by assumption) | exact DL.fresh_dn (DL.fresh_dn (by assumption)) | exact DL.fresh_dn (DL.fresh_dn (DL.fresh_dn (by assumption))))) | exact Ne.symm (DL.ne_at (by assumption) (by (first | assumption | exact DL.fresh_up (by assumption) | exact DL.fresh_dn (by assumption) | exact DL.fresh_dn (DL.fresh_dn (by assumption)) | exact DL.fresh_dn (DL.fresh_dn (DL.fresh_dn (by assumption)))))) | exact DL.fresh_ne (by assumption) | exact Ne.symm (DL.fresh_ne (by assumption)) | exact DL.fresh_ne (DL.fresh_dn (by assumption)) | exact Ne.symm (DL.fresh_ne (DL.fresh_dn (by assumption))) | exact DL.fresh_ne (DL.fresh_dn (DL.fresh_dn (by assumption))) | exact Ne.symm (DL.fresh_ne (DL.fresh_dn (DL.fresh_dn (by assumption))))))).trans ?_; first | exact DL.mup_same | assumption | (refine (DL.mup_ne (by (first | assumption | exact Ne.symm (by assumption) | exact DL.ne_at (by assumption) (by (first | assumption | exact DL.fresh_up (by assumption) | exact DL.fresh_dn (by assumption) | exact DL.fresh_dn (DL.fresh_dn (by assumption)) | exact DL.fresh_dn (DL.fresh_dn (DL.fresh_dn (by assumption))))) | exact Ne.symm (DL.ne_at (by assumption) (by (first | assumption | exact DL.fresh_up (by assumption) | exact DL.fresh_dn (by assumption) | exact DL.fresh_dn (DL.fresh_dn (by assumption)) | exact DL.fresh_dn (DL.fresh_dn (DL.fresh_dn (by assumption)))))) | exact DL.fresh_ne (by assumption) | exact Ne.symm (DL.fresh_ne (by assumption)) | exact DL.fresh_ne (DL.fresh_dn (by assumption)) | exact Ne.symm (DL.fresh_ne (DL.fresh_dn (by assumption))) | exact DL.fresh_ne (DL.fresh_dn (DL.fresh_dn (by assumption))) | exact Ne.symm (DL.fresh_ne (DL.fresh_dn (DL.fresh_dn (by assumption))))))).trans ?_; first | exact DL.mup_same | assumption))))))))) (by (first | exact rfl | assumption | exact DL.asT_adr (by (first | exact DL.mup_same | assumption | (refine (DL.mup_ne (by (first | assumption | exact Ne.symm (by assumption) | exact DL.ne_at (by assumption) (by (first | assumption | exact DL.fresh_up (by assumption) | exact DL.fresh_dn (by assumption) | exact DL.fresh_dn (DL.fresh_dn (by assumption)) | exact DL.fresh_dn (DL.fresh_dn (DL.fresh_dn (by assumption))))) | exact Ne.symm (DL.ne_at (by assumption) (by (first | assumption | exact DL.fresh_up (by assumption) | exact DL.fresh_dn (by assumption) | exact DL.fresh_dn (DL.fresh_dn (by assumption)) | exact DL.fresh_dn (DL.fresh_dn (DL.fresh_dn (by assumption)))))) | exact DL.fresh_ne (by assumption) | exact Ne.symm (DL.fresh_ne (by assumption)) | exact DL.fresh_ne (DL.fresh_dn (by assumption)) | exact Ne.symm (DL.fresh_ne (DL.fresh_dn (by assumption))) | exact DL.fresh_ne (DL.fresh_dn (DL.fresh_dn (by assumption))) | exact Ne.symm (DL.fresh_ne (DL.fresh_dn (DL.fresh_dn (by assumption))))))).trans ?_; first | exact DL.mup_same | assumption | (refine (DL.mup_ne (by (first | assumption | exact Ne.symm (by assumption) | exact DL.ne_at (by assumption) (by (first | assumption | exact DL.fresh_up (by assumption) | exact DL.fresh_dn (by assumption) | exact DL.fresh_dn (DL.fresh_dn (by assumption)) | exact DL.fresh_dn (DL.fresh_dn (DL.fresh_dn (by assumption))))) | exact Ne.symm (DL.ne_at (by assumption) (by (first | assumption | exact DL.fresh_up (by assumption) | exact DL.fresh_dn (by assumption) | exact DL.fresh_dn (DL.fresh_dn (by assumption)) | exact DL.fresh_dn (DL.fresh_dn (DL.fresh_dn (by assumption)))))) | exact DL.fresh_ne (by assumption) | exact Ne.symm (DL.fresh_ne (by assumption)) | exact DL.fresh_ne (DL.fresh_dn (by assumption)) | exact Ne.symm (DL.fresh_ne (DL.fresh_dn (by assumption))) | exact DL.fresh_ne (DL.fresh_dn (DL.fresh_dn (by assumption))) | exact Ne.symm (DL.fresh_ne (DL.fresh_dn (DL.fresh_dn (by assumption))))))).trans ?_; first | exact DL.mup_same | assumption | (refine (DL.mup_ne (by (first | assumption | exact Ne.symm (by assumption) | exact DL.ne_at (by assumption) (by (first | assumption | exact DL.fresh_up (by assumption) | exact DL.fresh_dn (by assumption) | exact DL.fresh_dn (DL.fresh_dn (by assumption)) | exact DL.fresh_dn (DL.fresh_dn (DL.fresh_dn (by assumption))))) | exact Ne.symm (DL.ne_at (by assumption) (by (first | assumption | exact DL.fresh_up (by assumption) | exact DL.fresh_dn (by assumption) | exact DL.fresh_dn (DL.fresh_dn (by assumption)) | exact DL.fresh_dn (DL.fresh_dn (DL.fresh_dn (by assumption)))))) | exact DL.fresh_ne (by assumption) | exact Ne.symm (DL.fresh_ne (by assumption)) | exact DL.fresh_ne (DL.fresh_dn (by assumption)) | exact Ne.symm (DL.fresh_ne (DL.fresh_dn (by assumption))) | exact DL.fresh_ne (DL.fresh_dn (DL.fresh_dn (by assumption))) | exact Ne.symm (DL.fresh_ne (DL.fresh_dn (DL.fresh_dn (by assumption))))))).trans ?_; first | exact DL.mup_same | assumption | (refine (DL.mup_ne (by (first | assumption | exact Ne.symm (by assumption) | exact DL.ne_at (by assumption) (by (first | assumption | exact DL.fresh_up (by assumption) | exact DL.fresh_dn (by assumption) | exact DL.fresh_dn (DL.fresh_dn (by assumption)) | exact DL.fresh_dn (DL.fresh_dn (DL.fresh_dn (by assumption))))) | exact Ne.symm (DL.ne_at (by assumption) (by (first | assumption | exact DL.fresh_up (by assumption) | exact DL.fresh_dn (by assumption) | exact DL.fresh_dn (DL.fresh_dn (by assumption)) | exact DL.fresh_dn (DL.fresh_dn (DL.fresh_dn (by assumption)))))) | exact DL.fresh_ne (by assumption) | exact Ne.symm (DL.fresh_ne (by assumption)) | exact DL.fresh_ne (DL.fresh_dn (by assumption)) | exact Ne.symm (DL.fresh_ne (DL.fresh_dn (by assumption))) | exact DL.fresh_ne (DL.fresh_dn (DL.fresh_dn (by assumption))) | exact Ne.symm (DL.fresh_ne (DL.fresh_dn (DL.fresh_dn (by assumption))))))).trans ?_; first | exact DL.mup_same | assumption | (refine (DL.mup_ne (by (first | assumption | exact Ne.symm (by assumption) | exact DL.ne_at (by assumption) (by (first | assumption | exact DL.fresh_up (by assumption) | exact DL.fresh_dn (by assumption) | exact DL.fresh_dn (DL.fresh_dn (by assumption)) | exact DL.fresh_dn (DL.fresh_dn (DL.fresh_dn (by assumption))))) | exact Ne.symm (DL.ne_at (by assumption) (by (first | assumption | exact DL.fresh_up (by assumption) | exact DL.fresh_dn (by assumption) | exact DL.fresh_dn (DL.fresh_dn (by assumption)) | exact DL.fresh_dn (DL.fresh_dn (DL.fresh_dn (by assumption)))))) | exact DL.fresh_ne (by assumption) | exact Ne.symm (DL.fresh_ne (by assumption)) | exact DL.fresh_ne (DL.fresh_dn (by assumption)) | exact Ne.symm (DL.fresh_ne (DL.fresh_dn (by assumption))) | exact DL.fresh_ne (DL.fresh_dn (DL.fresh_dn (by assumption))) | exact Ne.symm (DL.fresh_ne (DL.fresh_dn (DL.fresh_dn (by assumption))))))).trans ?_; first | exact DL.mup_same | assumption))))))))) (by first | exact DL.sz (Nat.le_of_ble_eq_true rfl) | (refine DL.sz ?_; first | omega | (simp only [PySem.Str.length_append]; omega) | (simp only [List.length_map, List.length_append, List.length_range, List.length_cons, List.length_nil]; omega) | (simp; done) | (simp; omega)) | assumption | exact Nat.le_trans (List.length_filter_le ..) (by omega) | first | omega | (simp only [PySem.Str.length_append]; omega) | (simp only [List.length_map, List.length_append, List.length_range, List.length_cons, List.length_nil]; omega) | (simp; done) | (simp; omega)) ?_ | walk_at "x") | (show DL.ListG _ _ _; first | refine DL.ListG.tup ?_ | refine DL.ListG.lst (by (first | exact rfl | assumption | exact DL.asL_same | exact DL.asL_adr (by (first | exact DL.mup_same | assumption | (refine (DL.mup_ne (by (first | assumption | exact Ne.symm (by assumption) | exact DL.ne_at (by assumption) (by (first | assumption | exact DL.fresh_up (by assumption) | exact DL.fresh_dn (by assumption) | exact DL.fresh_dn (DL.fresh_dn (by assumption)) | exact DL.fresh_dn (DL.fresh_dn (DL.fresh_dn (by assumption))))) | exact Ne.symm (DL.ne_at (by assumption) (by (first | assumption | exact DL.fresh_up (by assumption) | exact DL.fresh_dn (by assumption) | exact DL.fresh_dn (DL.fresh_dn (by assumption)) | exact DL.fresh_dn (DL.fresh_dn (DL.fresh_dn (by assumption)))))) | exact DL.fresh_ne (by assumption) | exact Ne.symm (DL.fresh_ne (by assumption)) | exact DL.fresh_ne (DL.fresh_dn (by assumption)) | exact Ne.symm (DL.fresh_ne (DL.fresh_dn (by assumption))) | exact DL.fresh_ne (DL.fresh_dn (DL.fresh_dn (by assumption))) | exact Ne.symm (DL.fresh_ne (DL.fresh_dn (DL.fresh_dn (by assumption))))))).trans ?_; first | exact DL.mup_same | assumption | (refine (DL.mup_ne (by (first | assumption | exact Ne.symm (by assumption) | exact DL.ne_at (by assumption) (by (first | assumption | exact DL.fresh_up (by assumption) | exact DL.fresh_dn (by assumption) | exact DL.fresh_dn (DL.fresh_dn (by assumption)) | exact DL.fresh_dn (DL.fresh_dn (DL.fresh_dn (by assumption))))) | exact Ne.symm (DL.ne_at (by assumption) (by (first | assumption | exact DL.fresh_up (by assumption) | exact DL.fresh_dn (by assumption) | exact DL.fresh_dn (DL.fresh_dn (by assumption)) | exact DL.fresh_dn (DL.fresh_dn (DL.fresh_dn (by assumption)))))) | exact DL.fresh_ne (by assumption) | exact Ne.symm (DL.fresh_ne (by assumption)) | exact DL.fresh_ne (DL.fresh_dn (by assumption)) | exact Ne.symm (DL.fresh_ne (DL.fresh_dn (by assumption))) | exact DL.fresh_ne (DL.fresh_dn (DL.fresh_dn (by assumption))) | exact Ne.symm (DL.fresh_ne (DL.fresh_dn (DL.fresh_dn (by assumption))))))).trans ?_; first | exact DL.mup_same | assumption | (refine (DL.mup_ne (by (first | assumption | exact Ne.symm (by assumption) | exact DL.ne_at (by assumption) (by (first | assumption | exact DL.fresh_up (by assumption) | exact DL.fresh_dn (by assumption) | exact DL.fresh_dn (DL.fresh_dn (by assumption)) | exact DL.fresh_dn (DL.fresh_dn (DL.fresh_dn (by assumption))))) | exact Ne.symm (DL.ne_at (by assumption) (by (first | assumption | exact DL.fresh_up (by assumption) | exact DL.fresh_dn (by assumption) | exact DL.fresh_dn (DL.fresh_dn (by assumption)) | exact DL.fresh_dn (DL.fresh_dn (DL.fresh_dn (by assumption)))))) | exact DL.fresh_ne (by assumption) | exact Ne.symm (DL.fresh_ne (by assumption)) | exact DL.fresh_ne (DL.fresh_dn (by assumption)) | exact Ne.symm (DL.fresh_ne (DL.fresh_dn (by assumption))) | exact DL.fresh_ne (DL.fresh_dn (DL.fresh_dn (by assumption))) | exact Ne.symm (DL.fresh_ne (DL.fresh_dn (DL.fresh_dn (by assumption))))))).trans ?_; first | exact DL.mup_same | assumption | (refine (DL.mup_ne (by (first | assumption | exact Ne.symm (by assumption) | exact DL.ne_at (by assumption) (by (first | assumption | exact DL.fresh_up (by assumption) | exact DL.fresh_dn (by assumption) | exact DL.fresh_dn (DL.fresh_dn (by assumption)) | exact DL.fresh_dn (DL.fresh_dn (DL.fresh_dn (by assumption))))) | exact Ne.symm (DL.ne_at (by assumption) (by (first | assumption | exact DL.fresh_up (by assumption) | exact DL.fresh_dn (by assumption) | exact DL.fresh_dn (DL.fresh_dn (by assumption)) | exact DL.fresh_dn (DL.fresh_dn (DL.fresh_dn (by assumption)))))) | exact DL.fresh_ne (by assumption) | exact Ne.symm (DL.fresh_ne (by assumption)) | exact DL.fresh_ne (DL.fresh_dn (by assumption)) | exact Ne.symm (DL.fresh_ne (DL.fresh_dn (by assumption))) | exact DL.fresh_ne (DL.fresh_dn (DL.fresh_dn (by assumption))) | exact Ne.symm (DL.fresh_ne (DL.fresh_dn (DL.fresh_dn (by assumption))))))).trans ?_; first | exact DL.mup_same | assumption | (refine (DL.mup_ne (by (first | assumption | exact Ne.symm (by assumption) | exact DL.ne_at (by assumption) (by (first | assumption | exact DL.fresh_up (by assumption) | exact DL.fresh_dn (by assumption) | exact DL.fresh_dn (DL.fresh_dn (by assumption)) | exact DL.fresh_dn (DL.fresh_dn (DL.fresh_dn (by assumption))))) | exact Ne.symm (DL.ne_at (by assumption) (by (first | assumption | exact DL.fresh_up (by assumption) | exact DL.fresh_dn (by assumption) | exact DL.fresh_dn (DL.fresh_dn (by assumption)) | exact DL.fresh_dn (DL.fresh_dn (DL.fresh_dn (by assumption)))))) | exact DL.fresh_ne (by assumption) | exact Ne.symm (DL.fresh_ne (by assumption)) | exact DL.fresh_ne (DL.fresh_dn (by assumption)) | exact Ne.symm (DL.fresh_ne (DL.fresh_dn (by assumption))) | exact DL.fresh_ne (DL.fresh_dn (DL.fresh_dn (by assumption))) | exact Ne.symm (DL.fresh_ne (DL.fresh_dn (DL.fresh_dn (by assumption))))))).trans ?_; first | exact DL.mup_same | assumption))))))) | exact DL.asL_up (by assumption) (by (first | assumption | exact DL.fresh_up (by assumption) | exact DL.fresh_dn (by assumption) | exact DL.fresh_dn (DL.fresh_dn (by assumption)) | exact DL.fresh_dn (DL.fresh_dn (DL.fresh_dn (by assumption))))) | exact DL.asL_up (DL.asL_up (by assumption) (by (first | assumption | exact DL.fresh_up (by assumption) | exact DL.fresh_dn (by assumption) | exact DL.fresh_dn (DL.fresh_dn (by assumption)) | exact DL.fresh_dn (DL.fresh_dn (DL.fresh_dn (by assumption)))))) (by (first | assumption | exact DL.fresh_up (by assumption) | exact DL.fresh_dn (by assumption) | exact DL.fresh_dn (DL.fresh_dn (by assumption)) | exact DL.fresh_dn (DL.fresh_dn (DL.fresh_dn (by assumption))))))) ?_ | walk_at "x") | (show DL.InG _ _ _ _ _; first | refine DL.InG.tup rfl rfl rfl (by (first | exact DL.din_int | exact Toy.din_oi | exact Toy.din_let | exact Toy.din_str | exact Toy.din_pD' | exact Toy.din_let' | exact Toy.din_oi (l := none) | exact Toy.din_oi (l := some _) | assumption | walk_at "D" | exact rfl)) ?_ | refine DL.InG.sg rfl rfl ?_ | refine DL.InG.lst (by (first | exact rfl | assumption | exact DL.asL_same | exact DL.asL_adr (by (first | exact DL.mup_same | assumption | (refine (DL.mup_ne (by (first | assumption | exact Ne.symm (by assumption) | exact DL.ne_at (by assumption) (by (first | assumption | exact DL.fresh_up (by assumption) | exact DL.fresh_dn (by assumption) | exact DL.fresh_dn (DL.fresh_dn (by assumption)) | exact DL.fresh_dn (DL.fresh_dn (DL.fresh_dn (by assumption))))) | exact Ne.symm (DL.ne_at (by assumption) (by (first | assumption | exact DL.fresh_up (by assumption) | exact DL.fresh_dn (by assumption) | exact DL.fresh_dn (DL.fresh_dn (by assumption)) | exact DL.fresh_dn (DL.fresh_dn (DL.fresh_dn (by assumption)))))) | exact DL.fresh_ne (by assumption) | exact Ne.symm (DL.fresh_ne (by assumption)) | exact DL.fresh_ne (DL.fresh_dn (by assumption)) | exact Ne.symm (DL.fresh_ne (DL.fresh_dn (by assumption))) | exact DL.fresh_ne (DL.fresh_dn (DL.fresh_dn (by assumption))) | exact Ne.symm (DL.fresh_ne (DL.fresh_dn (DL.fresh_dn (by assumption))))))).trans ?_; first | exact DL.mup_same | assumption | (refine (DL.mup_ne (by (first | assumption | exact Ne.symm (by assumption) | exact DL.ne_at (by assumption) (by (first | assumption | exact DL.fresh_up (by assumption) | exact DL.fresh_dn (by assumption) | exact DL.fresh_dn (DL.fresh_dn (by assumption)) | exact DL.fresh_dn (DL.fresh_dn (DL.fresh_dn (by assumption))))) | exact Ne.symm (DL.ne_at (by assumption) (by (first | assumption | exact DL.fresh_up (by assumption) | exact DL.fresh_dn (by assumption) | exact DL.fresh_dn (DL.fresh_dn (by assumption)) | exact DL.fresh_dn (DL.fresh_dn (DL.fresh_dn (by assumption)))))) | exact DL.fresh_ne (by assumption) | exact Ne.symm (DL.fresh_ne (by assumption)) | exact DL.fresh_ne (DL.fresh_dn (by assumption)) | exact Ne.symm (DL.fresh_ne (DL.fresh_dn (by assumption))) | exact DL.fresh_ne (DL.fresh_dn (DL.fresh_dn (by assumption))) | exact Ne.symm (DL.fresh_ne (DL.fresh_dn (DL.fresh_dn (by assumption))))))).trans ?_; first | exact DL.mup_same | assumption | (refine (DL.mup_ne (by (first | assumption | exact Ne.symm (by assumption) | exact DL.ne_at (by assumption) (by (first | assumption | exact DL.fresh_up (by assumption) | exact DL.fresh_dn (by assumption) | exact DL.fresh_dn (DL.fresh_dn (by assumption)) | exact DL.fresh_dn (DL.fresh_dn (DL.fresh_dn (by assumption))))) | exact Ne.symm (DL.ne_at (by assumption) (by (first | assumption | exact DL.fresh_up (by assumption) | exact DL.fresh_dn (by assumption) | exact DL.fresh_dn (DL.fresh_dn (by assumption)) | exact DL.fresh_dn (DL.fresh_dn (DL.fresh_dn (by assumption)))))) | exact DL.fresh_ne (by assumption) | exact Ne.symm (DL.fresh_ne (by assumption)) | exact DL.fresh_ne (DL.fresh_dn (by assumption)) | exact Ne.symm (DL.fresh_ne (DL.fresh_dn (by assumption))) | exact DL.fresh_ne (DL.fresh_dn (DL.fresh_dn (by assumption))) | exact Ne.symm (DL.fresh_ne (DL.fresh_dn (DL.fresh_dn (by assumption))))))).trans ?_; first | exact DL.mup_same | assumption | (refine (DL.mup_ne (by (first | assumption | exact Ne.symm (by assumption) | exact DL.ne_at (by assumption) (by (first | assumption | exact DL.fresh_up (by assumption) | exact DL.fresh_dn (by assumption) | exact DL.fresh_dn (DL.fresh_dn (by assumption)) | exact DL.fresh_dn (DL.fresh_dn (DL.fresh_dn (by assumption))))) | exact Ne.symm (DL.ne_at (by assumption) (by (first | assumption | exact DL.fresh_up (by assumption) | exact DL.fresh_dn (by assumption) | exact DL.fresh_dn (DL.fresh_dn (by assumption)) | exact DL.fresh_dn (DL.fresh_dn (DL.fresh_dn (by assumption)))))) | exact DL.fresh_ne (by assumption) | exact Ne.symm (DL.fresh_ne (by assumption)) | exact DL.fresh_ne (DL.fresh_dn (by assumption)) | exact Ne.symm (DL.fresh_ne (DL.fresh_dn (by assumption))) | exact DL.fresh_ne (DL.fresh_dn (DL.fresh_dn (by assumption))) | exact Ne.symm (DL.fresh_ne (DL.fresh_dn (DL.fresh_dn (by assumption))))))).trans ?_; first | exact DL.mup_same | assumption | (refine (DL.mup_ne (by (first | assumption | exact Ne.symm (by assumption) | exact DL.ne_at (by assumption) (by (first | assumption | exact DL.fresh_up (by assumption) | exact DL.fresh_dn (by assumption) | exact DL.fresh_dn (DL.fresh_dn (by assumption)) | exact DL.fresh_dn (DL.fresh_dn (DL.fresh_dn (by assumption))))) | exact Ne.symm (DL.ne_at (by assumption) (by (first | assumption | exact DL.fresh_up (by assumption) | exact DL.fresh_dn (by assumption) | exact DL.fresh_dn (DL.fresh_dn (by assumption)) | exact DL.fresh_dn (DL.fresh_dn (DL.fresh_dn (by assumption)))))) | exact DL.fresh_ne (by assumption) | exact Ne.symm (DL.fresh_ne (by assumption)) | exact DL.fresh_ne (DL.fresh_dn (by assumption)) | exact Ne.symm (DL.fresh_ne (DL.fresh_dn (by assumption))) | exact DL.fresh_ne (DL.fresh_dn (DL.fresh_dn (by assumption))) | exact Ne.symm (DL.fresh_ne (DL.fresh_dn (DL.fresh_dn (by assumption))))))).trans ?_; first | exact DL.mup_same | assumption))))))) | exact DL.asL_up (by assumption) (by (first | assumption | exact DL.fresh_up (by assumption) | exact DL.fresh_dn (by assumption) | exact DL.fresh_dn (DL.fresh_dn (by assumption)) | exact DL.fresh_dn (DL.fresh_dn (DL.fresh_dn (by assumption))))) | exact DL.asL_up (DL.asL_up (by assumption) (by (first | assumption | exact DL.fresh_up (by assumption) | exact DL.fresh_dn (by assumption) | exact DL.fresh_dn (DL.fresh_dn (by assumption)) | exact DL.fresh_dn (DL.fresh_dn (DL.fresh_dn (by assumption)))))) (by (first | assumption | exact DL.fresh_up (by assumption) | exact DL.fresh_dn (by assumption) | exact DL.fresh_dn (DL.fresh_dn (by assumption)) | exact DL.fresh_dn (DL.fresh_dn (DL.fresh_dn (by assumption))))))) (by (first | assumption | exact DL.fit_int _ | exact DL.fit_ints _ | exact Toy.Let.fit (by assumption) | exact Toy.Stm.fit (by assumption) | exact Toy.lets_fit (by assumption) | exact Toy.fit_oi _ | exact Toy.fit_ois _ | exact Toy.fit_str (by assumption) | exact Toy.fit_strs (by assumption) | exact Toy.pD_fit' (by assumption) | exact Toy.pDs_fit (by assumption) | exact Toy.fit_let' (by assumption) | exact rfl | walk_at "F")) (by (first | assumption | exact DL.fit_int _ | exact DL.fit_ints _ | exact Toy.Let.fit (by assumption) | exact Toy.Stm.fit (by assumption) | exact Toy.lets_fit (by assumption) | exact Toy.fit_oi _ | exact Toy.fit_ois _ | exact Toy.fit_str (by assumption) | exact Toy.fit_strs (by assumption) | exact Toy.pD_fit' (by assumption) | exact Toy.pDs_fit (by assumption) | exact Toy.fit_let' (by assumption) | exact rfl | walk_at "F")) (by (first | exact DL.din_int | exact Toy.din_oi | exact Toy.din_let | exact Toy.din_str | exact Toy.din_pD' | exact Toy.din_let' | exact Toy.din_oi (l := none) | exact Toy.din_oi (l := some _) | assumption | walk_at "D" | exact rfl)) ?_ | walk_at "x") | (intro p hp) | exact rfl | walk_at "x")); all_goals (try (refine (fun (h : (_ : Prop)) => h) ?_; conv => whnf))))

namespace Toy
open PySem L2 DL
def top (i : Nat) : Stmt := PySem.Challenge.pw_tribunal_k22_runs_of_programs.main.body.getD i (.Pass ⟨0, 0, 0, 0⟩)
abbrev s_l_cell : Stmt := top 8
abbrev s_l_row : Stmt := top 10
abbrev s_l_need : Stmt := top 12
abbrev s_l_reckon : Stmt := top 11
abbrev s_l_act : Stmt := top 13
abbrev s_l_sign : Stmt := top 14
abbrev s_l_run : Stmt := top 15
abbrev s_Machine_init : Stmt := inClass (top 5) 0
abbrev s_Machine_push : Stmt := inClass (top 5) 2
abbrev s_Machine_pop : Stmt := inClass (top 5) 1
abbrev s_Machine_reckon : Stmt := inClass (top 5) 4
abbrev s_Machine_act : Stmt := inClass (top 5) 5
abbrev s_Machine_step : Stmt := inClass (top 5) 3
abbrev s_Run_init : Stmt := inClass (top 4) 0
abbrev s_run : Stmt := top 6
abbrev s_l_is_integer : Stmt := top 9
abbrev s_law : Stmt := top 16
abbrev ks_Run : List Str := ["well", "store", "paid", "steps"]
abbrev ks_Machine : List Str := ["code", "stack", "given", "amount", "store", "paid", "place", "steps", "state"]
structure Ad where
  l_cell : Addr
  fd_l_cell : FuncData
  l_row : Addr
  fd_l_row : FuncData
  l_need : Addr
  fd_l_need : FuncData
  l_reckon : Addr
  fd_l_reckon : FuncData
  l_act : Addr
  fd_l_act : FuncData
  l_sign : Addr
  fd_l_sign : FuncData
  l_run : Addr
  fd_l_run : FuncData
  Machine_init : Addr
  fd_Machine_init : FuncData
  Machine_push : Addr
  fd_Machine_push : FuncData
  Machine_pop : Addr
  fd_Machine_pop : FuncData
  Machine_reckon : Addr
  fd_Machine_reckon : FuncData
  Machine_act : Addr
  fd_Machine_act : FuncData
  Machine_step : Addr
  fd_Machine_step : FuncData
  Run_init : Addr
  fd_Run_init : FuncData
  run : Addr
  fd_run : FuncData
  l_is_integer : Addr
  fd_l_is_integer : FuncData
  law : Addr
  fd_law : FuncData
  C_Run : Addr
  C_Machine : Addr
structure Txt (K : PySem.W.Frag) (mg : Str → Option Value) (a : Ad) : Prop where
  F_l_cell : Fun K "_law_cell" "_law_cell" s_l_cell a.l_cell a.fd_l_cell
  b_l_cell : Binds K a.fd_l_cell ["_law_script", "_law_k"] []
  mg_l_cell : mg "_law_cell" = some (.ref a.l_cell)
  F_l_row : Fun K "_law_row" "_law_row" s_l_row a.l_row a.fd_l_row
  b_l_row : Binds K a.fd_l_row ["_law_cell_here", "_law_count", "_law_size"] []
  mg_l_row : mg "_law_row" = some (.ref a.l_row)
  F_l_need : Fun K "_law_need" "_law_need" s_l_need a.l_need a.fd_l_need
  b_l_need : Binds K a.fd_l_need ["_law_sign_here"] []
  mg_l_need : mg "_law_need" = some (.ref a.l_need)
  F_l_reckon : Fun K "_law_reckon" "_law_reckon" s_l_reckon a.l_reckon a.fd_l_reckon
  b_l_reckon : Binds K a.fd_l_reckon ["_law_sign_here", "_law_left", "_law_right"] []
  mg_l_reckon : mg "_law_reckon" = some (.ref a.l_reckon)
  F_l_act : Fun K "_law_act" "_law_act" s_l_act a.l_act a.fd_l_act
  b_l_act : Binds K a.fd_l_act ["_law_sign_here", "_law_top", "_law_stack", "_law_store", "_law_state"] []
  mg_l_act : mg "_law_act" = some (.ref a.l_act)
  F_l_sign : Fun K "_law_sign" "_law_sign" s_l_sign a.l_sign a.fd_l_sign
  b_l_sign : Binds K a.fd_l_sign ["_law_sign_here", "_law_given", "_law_amount", "_law_stack", "_law_store", "_law_state"] []
  mg_l_sign : mg "_law_sign" = some (.ref a.l_sign)
  F_l_run : Fun K "_law_run" "_law_run" s_l_run a.l_run a.fd_l_run
  b_l_run : Binds K a.fd_l_run ["_law_code", "_law_given", "_law_amount", "_law_store"] []
  mg_l_run : mg "_law_run" = some (.ref a.l_run)
  F_Machine_init : Fun K "__init__" "Machine.__init__" s_Machine_init a.Machine_init a.fd_Machine_init
  b_Machine_init : Binds K a.fd_Machine_init ["self", "code", "given", "amount", "store"] []
  F_Machine_push : Fun K "push" "Machine.push" s_Machine_push a.Machine_push a.fd_Machine_push
  b_Machine_push : Binds K a.fd_Machine_push ["self", "value"] []
  M_Machine_push : Meth K a.C_Machine "push" a.Machine_push
  F_Machine_pop : Fun K "pop" "Machine.pop" s_Machine_pop a.Machine_pop a.fd_Machine_pop
  b_Machine_pop : Binds K a.fd_Machine_pop ["self"] []
  M_Machine_pop : Meth K a.C_Machine "pop" a.Machine_pop
  F_Machine_reckon : Fun K "reckon" "Machine.reckon" s_Machine_reckon a.Machine_reckon a.fd_Machine_reckon
  b_Machine_reckon : Binds K a.fd_Machine_reckon ["self", "sign"] []
  M_Machine_reckon : Meth K a.C_Machine "reckon" a.Machine_reckon
  F_Machine_act : Fun K "act" "Machine.act" s_Machine_act a.Machine_act a.fd_Machine_act
  b_Machine_act : Binds K a.fd_Machine_act ["self", "sign"] []
  M_Machine_act : Meth K a.C_Machine "act" a.Machine_act
  F_Machine_step : Fun K "step" "Machine.step" s_Machine_step a.Machine_step a.fd_Machine_step
  b_Machine_step : Binds K a.fd_Machine_step ["self"] []
  M_Machine_step : Meth K a.C_Machine "step" a.Machine_step
  F_Run_init : Fun K "__init__" "Run.__init__" s_Run_init a.Run_init a.fd_Run_init
  b_Run_init : Binds K a.fd_Run_init ["self", "well", "store", "paid", "steps"] []
  F_run : Fun K "run" "run" s_run a.run a.fd_run
  b_run : Binds K a.fd_run ["code", "given", "amount", "store"] []
  mg_run : mg "run" = some (.ref a.run)
  F_l_is_integer : Fun K "_law_is_integer" "_law_is_integer" s_l_is_integer a.l_is_integer a.fd_l_is_integer
  b_l_is_integer : Binds K a.fd_l_is_integer ["_law_actual"] []
  mg_l_is_integer : mg "_law_is_integer" = some (.ref a.l_is_integer)
  F_law : Fun K "law" "law" s_law a.law a.fd_law
  b_law : Binds K a.fd_law ["_law_script"] []
  mg_law : mg "law" = some (.ref a.law)
  c_Run : Cls K a.C_Run
  mg_Run : mg "Run" = some (.ref a.C_Run)
  mk_Run : Mk K a.C_Run a.Run_init
  at_Run_paid : NoAttr K a.C_Run "paid"
  at_Run_steps : NoAttr K a.C_Run "steps"
  at_Run_store : NoAttr K a.C_Run "store"
  at_Run_well : NoAttr K a.C_Run "well"
  c_Machine : Cls K a.C_Machine
  mg_Machine : mg "Machine" = some (.ref a.C_Machine)
  mk_Machine : Mk K a.C_Machine a.Machine_init
  at_Machine_amount : NoAttr K a.C_Machine "amount"
  at_Machine_code : NoAttr K a.C_Machine "code"
  at_Machine_given : NoAttr K a.C_Machine "given"
  at_Machine_paid : NoAttr K a.C_Machine "paid"
  at_Machine_place : NoAttr K a.C_Machine "place"
  at_Machine_stack : NoAttr K a.C_Machine "stack"
  at_Machine_state : NoAttr K a.C_Machine "state"
  at_Machine_steps : NoAttr K a.C_Machine "steps"
  at_Machine_store : NoAttr K a.C_Machine "store"
  n_bool : mg "bool" = none
  n_dict : mg "dict" = none
  n_int : mg "int" = none
  n_isinstance : mg "isinstance" = none
  n_len : mg "len" = none
  n_max : mg "max" = none
  n_range : mg "range" = none
  n_sorted : mg "sorted" = none
  k_MOST_STEPS : ∃ t, mg "MOST_STEPS" = some (.int 200 t)
  k_MOST_HEIGHT : ∃ t, mg "MOST_HEIGHT" = some (.int 16 t)
  k_MODULUS : ∃ t, mg "MODULUS" = some (.int 1000000 t)
variable {P : Program} {w : World} {K : PySem.W.Frag} {mg : Str → Option Value} {base : Heap} {a : Ad}

theorem sc_l_cell : FnScope ["_law_script", "_law_k"] ["_law_script", "_law_k"] (defScope s_l_cell) := ⟨rfl, rfl, rfl, by decide +kernel, rfl, by decide +kernel, by decide +kernel⟩
def sp_l_cell : VSp := fun ds m Q _ => ∃ (ns : List Int) (k : Nat), ds = [.fz (ns.map D.int), .int k] ∧ Q (.int (cell ns k)) m

theorem ok_l_cell (T : Txt K mg a) : FnOk P w K mg base CX0 1 a.l_cell a.fd_l_cell ["_law_script", "_law_k"] (lowSp K 2 sp_l_cell) := by
  refine ufun T.F_l_cell sc_l_cell fun cdv A outer s H E B hr => ⟨_, let nd := sc_l_cell.nd; (uss_cons (us_if (ut_cmp uo_lt (ue_var 1) (ue_callB (ub_len) (by rfl) T.n_len bt_len (ua_cons (ue_var 0) ua_nil)) rfl) (uss_one (us_ret (ue_ix (ue_var 0) (ue_var 1)))) uss_nil)
    (uss_one (us_ret ue_int))), ?_⟩
  intro ds m Q PX hl h
  clear hl hr B E H s outer cdv A T
  obtain ⟨ns, k, rfl, q⟩ := h
  walk_at "g"
  · exact q
  · have hk : ns.length ≤ k := by simpa using hb
    exact fin_d q (by rw [cell, List.getD_eq_getElem?_getD, List.getElem?_eq_none (by omega)]; rfl)
theorem sc_l_row : FnScope ["_law_cell_here", "_law_count", "_law_size", "_law_state", "_law_row_here", "_law_k"] ["_law_cell_here", "_law_count", "_law_size"] (defScope s_l_row) := ⟨rfl, rfl, rfl, by decide +kernel, rfl, by decide +kernel, by decide +kernel⟩
def sp_l_row : VSp := fun ds m Q _ => ∃ (c : Int) (n : Nat) (z : Int), ds = [.int c, .int n, .int z] ∧ 0 < z ∧ z < 1073741824 ∧ n ≤ 1000 ∧ Q (.lst ((row c n z).map .int)) m

theorem ok_l_row (T : Txt K mg a) : FnOk P w K mg base CX0 1 a.l_row a.fd_l_row ["_law_cell_here", "_law_count", "_law_size"] (lowSp K 3 sp_l_row) := by
  refine ufun T.F_l_row sc_l_row fun cdv A outer s H E B hr => ⟨_, let nd := sc_l_row.nd; (uss_cons (us_set (i := 3) nd (ue_var 0))
    (uss_cons (us_set (i := 4) nd (ue_lstM ua_nil))
    (uss_cons (us_for (g := (.one 5)) PassesOwn.never rfl (ui_range1 (by rfl) T.n_range (ua_cons (ue_var 1) ua_nil)) (pgn 5 nd)
    (uss_one (us_if (ut_cmp uo_ge (ue_var 0) (ue_op uo_pow ue_int ue_int) rfl) (uss_cons (us_expr (ue_bm PySem.F.plainAttrs_list PySem.F.slot_list_append PySem.F.type_list_append um_append (ue_var 4) (ua_cons (ue_op uo_mod (ue_callTy (ub_int) (by rfl) T.n_int bt_int (ua_cons (ue_var 3) ua_nil)) (ue_var 2)) ua_nil)))
    (uss_one (us_set (i := 3) nd (ue_op uo_fdiv (ue_var 3) (ue_var 2))))) (uss_cons (us_set (i := 3) nd (ue_op uo_mod (ue_callTy (ub_int) (by rfl) T.n_int bt_int (ua_cons (ue_op uo_add (ue_op uo_mul (ue_var 3) ue_int) ue_int) ua_nil)) ue_int))
    (uss_one (us_expr (ue_bm PySem.F.plainAttrs_list PySem.F.slot_list_append PySem.F.type_list_append um_append (ue_var 4) (ua_cons (ue_op uo_mod (ue_op uo_mod (ue_callTy (ub_int) (by rfl) T.n_int bt_int (ua_cons (ue_op uo_add (ue_op uo_mul (ue_var 3) ue_int) (ue_op uo_mul (ue_var 5) ue_int)) ua_nil)) ue_int) (ue_var 2)) ua_nil))))))))
    (uss_one (us_ret (ue_gc (ue_frz (ue_var 4)))))))), ?_⟩
  intro ds m Q PX hl h
  clear hl hr B E H s outer cdv A T
  obtain ⟨c, n, z, rfl, hz, hz2, hn, q⟩ := h
  walk_at "g"
  rw [Int.toNat_natCast]
  refine for_ix (fun i ρ m' => i ≤ n ∧ ∃ (s : Int) (acc : List Int) (o : Option D), ρ = [some (.int c), some (.int n), some (.int z), some (.int s), some (.adr p), o] ∧ m' = mup m p (.lst (acc.map .int)) ∧ acc.length = i ∧ acc ++ rowI c (n - i) i s z = row c n z) _ ⟨by omega, c, [], none, rfl, rfl, rfl, rfl⟩ (fun _ _ _ _ => trivial) ?_ ?_
  · rintro i x ρ m' hx ⟨hi, s, acc, o, rfl, rfl, hl, ha⟩
    obtain ⟨rfl, hi2⟩ := irng_get hx
    rw [show n - i = (n - (i + 1)) + 1 by omega, rowI] at ha
    refine ⟨_, by walk_at "t", ?_⟩
    walk_at "g"
    all_goals simp only [Int.zero_add]
    · rw [if_pos hb] at ha
      refine .mk ⟨by omega, _, acc ++ [s % z], _, rfl, by rw [List.map_append]; rfl, by simp; omega, ?_⟩
      rw [← ha, List.append_assoc]
      rfl
    · rw [if_neg (by omega)] at ha
      refine .mk ⟨by omega, _, acc ++ [((s * 48271 + 12345) % 2147483647 * 69621 + i * 7919) % 2147483647 % z], _, rfl, by rw [List.map_append]; rfl, by simp; omega, ?_⟩
      rw [← ha, List.append_assoc]
      rfl
  · rintro ρ m' ⟨hi, s, acc, o, rfl, rfl, hl, ha⟩
    walk_at "g"
    rw [irng_len, Nat.sub_self, rowI, List.append_nil] at ha
    rw [ha]
    exact q
theorem sc_l_need : FnScope ["_law_sign_here"] ["_law_sign_here"] (defScope s_l_need) := ⟨rfl, rfl, rfl, by decide +kernel, rfl, by decide +kernel, by decide +kernel⟩
def sp_l_need : VSp := fun ds m Q _ => ∃ c : Nat, ds = [.str (sg c)] ∧ Q (.int (needP c)) m

theorem ok_l_need (T : Txt K mg a) : FnOk P w K mg base CX0 1 a.l_need a.fd_l_need ["_law_sign_here"] (lowSp K 1 sp_l_need) := by
  refine ufun T.F_l_need sc_l_need fun cdv A outer s H E B hr => ⟨_, let nd := sc_l_need.nd; (uss_cons (us_if (ut_cmp (uo_in (u65 hr)) (ue_var 0) ue_str rfl) (uss_one (us_ret ue_int)) uss_nil)
    (uss_cons (us_if (ut_cmp (uo_in (u65 hr)) (ue_var 0) ue_str rfl) (uss_one (us_ret ue_int)) uss_nil)
    (uss_one (us_ret ue_int)))), ?_⟩
  intro ds m Q PX hl h
  clear hl hr B E H s outer cdv A T
  obtain ⟨c, rfl, q⟩ := h
  unfold needP inS at q
  unfold sg
  walk_at "g"
  all_goals simp only [Array.mem_toList_iff] at q
  all_goals simp only [*, if_true, if_false] at q
  all_goals exact q
theorem sc_l_reckon : FnScope ["_law_sign_here", "_law_left", "_law_right"] ["_law_sign_here", "_law_left", "_law_right"] (defScope s_l_reckon) := ⟨rfl, rfl, rfl, by decide +kernel, rfl, by decide +kernel, by decide +kernel⟩
def sp_l_reckon : VSp := fun ds m Q _ => ∃ (c : Nat) (l r : Int), ds = [.str (sg c), .int l, .int r] ∧ NumOk l ∧ NumOk r ∧ Q (.int (reckonP c l r)) m

theorem ok_l_reckon (T : Txt K mg a) : FnOk P w K mg base CX0 1 a.l_reckon a.fd_l_reckon ["_law_sign_here", "_law_left", "_law_right"] (lowSp K 3 sp_l_reckon) := by
  refine ufun T.F_l_reckon sc_l_reckon fun cdv A outer s H E B hr => ⟨_, let nd := sc_l_reckon.nd; (uss_cons (us_if (ut_cmp (uo_eq (u64 hr)) (ue_var 0) ue_str rfl) (uss_one (us_ret (ue_op uo_add (ue_var 1) (ue_var 2)))) uss_nil)
    (uss_cons (us_if (ut_cmp (uo_eq (u64 hr)) (ue_var 0) ue_str rfl) (uss_one (us_ret (ue_callB (ub_max2 rfl) (by rfl) T.n_max bt_max (ua_cons ue_int (ua_cons (ue_op uo_sub (ue_var 1) (ue_var 2)) ua_nil))))) uss_nil)
    (uss_cons (us_if (ut_cmp (uo_eq (u64 hr)) (ue_var 0) ue_str rfl) (uss_one (us_ret (ue_op uo_mul (ue_var 1) (ue_var 2)))) uss_nil)
    (uss_cons (us_if (ut_cmp (uo_eq (u64 hr)) (ue_var 0) ue_str rfl) (uss_one (us_ret (ue_op uo_add (ue_op uo_mul ue_int (ue_var 1)) (ue_var 2)))) uss_nil)
    (uss_cons (us_if (ut_cmp (uo_eq (u64 hr)) (ue_var 0) ue_str rfl) (uss_one (us_ret (ue_callTy (ub_int) (by rfl) T.n_int bt_int (ua_cons (ue_cmp uo_lt (ue_var 1) (ue_var 2) rfl) ua_nil)))) uss_nil)
    (uss_one (us_ret (ue_callTy (ub_int) (by rfl) T.n_int bt_int (ua_cons (ue_cmp (uo_eq (u64 hr)) (ue_var 1) (ue_var 2) rfl) ua_nil))))))))), ?_⟩
  intro ds m Q PX hl h
  clear hl hr B E H s outer cdv A T
  obtain ⟨c, l, r, rfl, hl, hr, q⟩ := h
  unfold NumOk at hl hr
  unfold reckonP at q
  walk_at "g"
  all_goals (
    simp only [*, if_true, if_false] at q
    exact q)
theorem sc_l_act : FnScope ["_law_sign_here", "_law_top", "_law_stack", "_law_store", "_law_state"] ["_law_sign_here", "_law_top", "_law_stack", "_law_store", "_law_state"] (defScope s_l_act) := ⟨rfl, rfl, rfl, by decide +kernel, rfl, by decide +kernel, by decide +kernel⟩
section
-- SECTION
structure LwA where
  s : Addr
  d : Addr
  t : Addr
/-- the law's interpreter in the cells -/
structure LwR (m : MH) (A : LwA) (L : Lw) : Prop where
  hs : m A.s = some (.lst (L.stk.reverse.map D.int))
  hd : m A.d = some (.dct (dI L.sto))
  ht : m A.t = some (.lst [.int L.place, .int L.paid])
  st : A.s ≠ A.t
theorem LwR.sd {m : MH} {A : LwA} {L : Lw} (r : LwR m A L) : A.s ≠ A.d := fun e => by
  have := r.hs
  rw [e, r.hd] at this
  cases this
theorem LwR.td {m : MH} {A : LwA} {L : Lw} (r : LwR m A L) : A.t ≠ A.d := fun e => by
  have := r.ht
  rw [e, r.hd] at this
  cases this
def FrL (A : LwA) (m m' : MH) : Prop := ∀ q, q ≠ A.s → q ≠ A.d → q ≠ A.t → m' q = m q
theorem FrL.refl {A : LwA} (m : MH) : FrL A m m := fun _ _ _ _ => rfl
theorem FrL.trans {A : LwA} {m m1 m2 : MH} (h : FrL A m m1) (k : FrL A m1 m2) : FrL A m m2 := fun q a b c => (k q a b c).trans (h q a b c)
theorem FrL.setS {A : LwA} {m m1 : MH} (h : FrL A m m1) (o : MO) : FrL A m (mup m1 A.s o) := fun q a b c => (mup_ne a).trans (h q a b c)
theorem FrL.setD {A : LwA} {m m1 : MH} (h : FrL A m m1) (o : MO) : FrL A m (mup m1 A.d o) := fun q a b c => (mup_ne b).trans (h q a b c)
theorem FrL.setT {A : LwA} {m m1 : MH} (h : FrL A m m1) (o : MO) : FrL A m (mup m1 A.t o) := fun q a b c => (mup_ne c).trans (h q a b c)
section
variable {m : MH} {A : LwA} {L L' : Lw}
theorem LwR.setS (r : LwR m A L) {ds : List D} (e : ds = L'.stk.reverse.map D.int) (e1 : L' = { L with stk := L'.stk }) : LwR (mup m A.s (.lst ds)) A L' :=
  ⟨mup_same.trans (by rw [e]), (mup_ne (Ne.symm r.sd)).trans (by rw [e1]; exact r.hd), (mup_ne (Ne.symm r.st)).trans (by rw [e1]; exact r.ht), r.st⟩
theorem LwR.setD (r : LwR m A L) {kds : List (Key × D)} (e : kds = dI L'.sto) (e1 : L' = { L with sto := L'.sto }) : LwR (mup m A.d (.dct kds)) A L' :=
  ⟨(mup_ne r.sd).trans (by rw [e1]; exact r.hs), mup_same.trans (by rw [e]), (mup_ne r.td).trans (by rw [e1]; exact r.ht), r.st⟩
theorem LwR.setT (r : LwR m A L) {ds : List D} (e : ds = [.int L'.place, .int L'.paid]) (e1 : L'.stk = L.stk) (e2 : L'.sto = L.sto) : LwR (mup m A.t (.lst ds)) A L' :=
  ⟨(mup_ne r.st).trans (by rw [e1]; exact r.hs), (mup_ne (Ne.symm r.td)).trans (by rw [e2]; exact r.hd), mup_same.trans (by rw [e]), r.st⟩
end
/-- what comes behind -/
abbrev LwQ (m : MH) (A : LwA) (L : Lw) (Q : MH → Prop) : Prop := ∀ m', LwR m' A L → m' A.s = some (.lst (L.stk.reverse.map D.int)) → m' A.d = some (.dct (dI L.sto)) → m' A.t = some (.lst [.int L.place, .int L.paid]) → FrL A m m' → Q m'
theorem LwQ.use {m m2 : MH} {A : LwA} {L : Lw} {Q : MH → Prop} (q : LwQ m A L Q) (r : LwR m2 A L) (f : FrL A m m2) : Q m2 := q m2 r r.hs r.hd r.ht f
def sp_l_act : VSp := fun ds m Q _ => ∃ (A : LwA) (L : Lw) (c : Nat) (t : Int), ds = [.str (sg c), .int t, .adr A.s, .adr A.d, .adr A.t] ∧ LwR m A L ∧ L.stk.length ≤ 100 ∧ L.sto.length ≤ 1000 ∧ (c = 117 ∨ c = 102 → L.stk ≠ []) ∧
  LwQ m A (actL c t L.stk L) (Q (.bl (decide (sg c ≠ Str.ofString "o" ∨ t ≠ 0))))
theorem isN_int' (i : Int) : isN (.int i) = false := rfl
set_option hygiene false in
local macro_rules | `(tactic| walk_at "k") => `(tactic| (simp [DL.isN_non, DL.isN_int, DL.isN_str, DL.nb, sg_h, sg_l, sg_u, sg_j, sg_f, sg_y, sg_o] at hb) <;> try (exfalso; omega))

theorem ok_l_act (T : Txt K mg a) : FnOk P w K mg base CX0 1 a.l_act a.fd_l_act ["_law_sign_here", "_law_top", "_law_stack", "_law_store", "_law_state"] (lowSp K 5 sp_l_act) := by
  refine ufun T.F_l_act sc_l_act fun cdv A outer s H E B hr => ⟨_, let nd := sc_l_act.nd; (uss_cons (us_if (ut_cmp (uo_eq (u64 hr)) (ue_var 0) ue_str rfl) (uss_cons (us_expr (ue_bm PySem.F.plainAttrs_list PySem.F.slot_list_append PySem.F.type_list_append um_append (ue_var 2) (ua_cons (ue_var 1) ua_nil)))
    (uss_one (us_expr (ue_bm PySem.F.plainAttrs_list PySem.F.slot_list_append PySem.F.type_list_append um_append (ue_var 2) (ua_cons (ue_var 1) ua_nil))))) uss_nil)
    (uss_cons (us_if (ut_cmp (uo_eq (u64 hr)) (ue_var 0) ue_str rfl) (uss_one (us_expr (ue_bm PySem.F.plainAttrs_list PySem.F.slot_list_append PySem.F.type_list_append um_append (ue_var 2) (ua_cons (ue_dget2 (u1 (u64 hr)) (ue_var 3) (ue_var 1) ue_int) ua_nil)))) uss_nil)
    (uss_cons (us_if (ut_cmp (uo_eq (u64 hr)) (ue_var 0) ue_str rfl) (uss_one (us_dset (u1 (u64 hr)) (ue_var 3) (ue_var 1) (ue_bm0 PySem.F.plainAttrs_list PySem.F.slot_list_pop PySem.F.type_list_pop um_pop (ue_var 2)))) uss_nil)
    (uss_cons (us_if (ut_cmp (uo_eq (u64 hr)) (ue_var 0) ue_str rfl) (uss_one (us_setL (ue_var 4) ue_int (ue_var 1))) uss_nil)
    (uss_cons (us_if (UW.ut (uw_and (ut_cmp (uo_eq (u64 hr)) (ue_var 0) ue_str rfl) (uw_and1 (ut_cmp (uo_eq (u64 hr)) (ue_bm0 PySem.F.plainAttrs_list PySem.F.slot_list_pop PySem.F.type_list_pop um_pop (ue_var 2)) ue_int rfl)))) (uss_one (us_setL (ue_var 4) ue_int (ue_var 1))) uss_nil)
    (uss_cons (us_if (ut_cmp (uo_eq (u64 hr)) (ue_var 0) ue_str rfl) (uss_one (us_setL (ue_var 4) ue_int (ue_op uo_add (ue_ix (ue_var 4) ue_int) (ue_var 1)))) uss_nil)
    (uss_one (us_ret (ue_or (ue_cmp (uo_ne (u64 hr)) (ue_var 0) ue_str rfl) (ue_one (ue_cmp (uo_ne (u64 hr)) (ue_var 1) ue_int rfl))))))))))), ?_⟩
  intro ds m Q PX hl h
  clear hl hr B E H s outer cdv A T
  obtain ⟨A, L, c, t, rfl, r, hl, hso, hne, q⟩ := h
  have rs := r.hs
  have rd := r.hd
  have rt := r.ht
  have hts := r.st
  have hsd := r.sd
  have htd := r.td
  unfold actL at q
  simp only [sg_h, sg_l, sg_u, sg_j, sg_f, sg_y] at q
  obtain ⟨es, hes⟩ : ∃ es, es = L.stk.reverse.map D.int := ⟨_, rfl⟩
  have hll : es.length = L.stk.length := by rw [hes]; simp
  have hz : es.length < sizeLine := by rw [hll, sizeLine_eq]; omega
  have hz2 : (es ++ [D.int t]).length < sizeLine := by rw [List.length_append, hll, sizeLine_eq]; show L.stk.length + 1 < _; omega
  have hdl : (dI L.sto).length < sizeLine := by rw [dI_len, sizeLine_eq]; omega
  have hx : c = 117 ∨ c = 102 → ∃ x tl, L.stk = x :: tl ∧ es[es.length - 1]? = some (.int x) ∧ es.dropLast = tl.reverse.map D.int := fun h => by
    have := hne h
    cases e : L.stk with
    | nil => exact absurd e this
    | cons x tl =>
      rw [e] at hes
      exact ⟨x, tl, rfl, by rw [hes]; simp, by rw [hes]; simp⟩
  rw [← hes] at rs
  have hQ : c ≠ 111 → decide (sg c ≠ Str.ofString "o" ∨ t ≠ 0) = true := fun h => decide_eq_true (.inl (by rw [Ne, sg_o]; exact h))
  by_cases hc : c = 117 ∨ c = 102
  · obtain ⟨x, tl, e1, e2, e3⟩ := hx hc
    clear hx hne
    have rr := r
    clear r
    have rS : LwR (mup m A.s (.lst es.dropLast)) A { L with stk := tl } := rr.setS e3 rfl
    have fS : FrL A m (mup m A.s (.lst es.dropLast)) := (FrL.refl m).setS _
    rw [e1, hQ (by omega)] at q
    clear e3
    walk_at "g"
    · have k : c = 117 := by assumption
      subst k
      simp only [reduceIte, Nat.reduceEqDiff, List.tail_cons, List.headD_cons] at q
      exact q.use (rS.setD (L' := { L with stk := tl, sto := setI L.sto t x }) (sK_dI _ _ _) rfl) (fS.setD _)
    · have k : c = 102 := by assumption
      have kx : x = 0 := by assumption
      subst k kx
      simp only [reduceIte, Nat.reduceEqDiff, List.tail_cons, List.headD_cons] at q
      exact q.use (rS.setT (L' := { L with stk := tl, place := t }) rfl rfl rfl) (fS.setT _)
    · have k : c = 102 := by assumption
      have kx : ¬ x = 0 := by assumption
      subst k
      simp only [reduceIte, Nat.reduceEqDiff, List.tail_cons, List.headD_cons, kx] at q
      exact q.use rS fS
  · clear hx hne
    have rr := r
    clear r
    have f1 : ¬ c = 117 := by omega
    have f2 : ¬ c = 102 := by omega
    simp only [f1, f2, if_false] at q
    have rr0 : LwR m A { L with stk := L.stk } := rr
    walk_at "g"
    · have k : c = 104 := by assumption
      rw [hQ (by omega), if_pos k] at q
      exact q.use (rr.setS (L' := { L with stk := t :: t :: L.stk }) (by rw [hes]; simp) rfl) ((FrL.refl m).setS _)
    · have k : c = 108 := by assumption
      subst k
      rw [hQ (by omega)] at q
      simp only [reduceIte, Nat.reduceEqDiff] at q
      have eg : (gK (dI L.sto) (D.int t)).getD (D.int 0) = .int ((getI L.sto t).getD 0) := by
        rw [gK_dI]
        cases getI L.sto t <;> rfl
      rw [eg]
      exact q.use (rr.setS (L' := { L with stk := (getI L.sto t).getD 0 :: L.stk }) (by rw [hes]; simp) rfl) ((FrL.refl m).setS _)
    · have k : c = 106 := by assumption
      subst k
      rw [hQ (by omega)] at q
      simp only [reduceIte, Nat.reduceEqDiff] at q
      exact q.use (rr.setT (L' := { L with place := t }) rfl rfl rfl) ((FrL.refl m).setT _)
    · have k : c = 121 := by assumption
      subst k
      rw [hQ (by omega)] at q
      simp only [reduceIte, Nat.reduceEqDiff] at q
      exact q.use (rr.setT (L' := { L with paid := L.paid + t }) rfl rfl rfl) ((FrL.refl m).setT _)
    · have k0 : ¬ c = 111 := by assumption
      have k1 : ¬ c = 104 := by assumption
      have k2 : ¬ c = 108 := by assumption
      have k3 : ¬ c = 106 := by assumption
      have k4 : ¬ c = 121 := by assumption
      rw [hQ k0] at q
      simp only [k1, k2, k3, k4, if_false] at q
      exact q.use rr (FrL.refl m)
    · have k0 : c = 111 := by assumption
      subst k0
      simp only [reduceIte, Nat.reduceEqDiff] at q
      have e : decide (sg 111 ≠ Str.ofString "o" ∨ t ≠ 0) = !decide (t = 0) := by
        have : sg 111 = Str.ofString "o" := (sg_o 111).mpr rfl
        rw [this]
        by_cases h : t = 0 <;> simp [h]
      rw [e] at q
      exact q.use rr (FrL.refl m)
end
theorem sc_l_sign : FnScope ["_law_sign_here", "_law_given", "_law_amount", "_law_stack", "_law_store", "_law_state", "_law_top", "_law_left"] ["_law_sign_here", "_law_given", "_law_amount", "_law_stack", "_law_store", "_law_state"] (defScope s_l_sign) := ⟨rfl, rfl, rfl, by decide +kernel, rfl, by decide +kernel, by decide +kernel⟩
section
-- SECTION
set_option hygiene false in
local macro_rules | `(tactic| walk_at "k") => `(tactic| (simp [DL.isN_non, DL.isN_int, DL.isN_str, DL.nb, Array.mem_toList_iff] at hb) <;> try (exfalso; first | contradiction | omega))
def sp_l_sign : VSp := fun ds m Q _ => ∃ (A : LwA) (L : Lw) (c : Nat) (g am : Int), ds = [.str (sg c), .int g, .int am, .adr A.s, .adr A.d, .adr A.t] ∧ LwR m A L ∧ L.stk.length ≤ 16 ∧ L.sto.length ≤ 1000 ∧ (∀ x ∈ L.stk, NumOk x) ∧
  (∀ L', signL c g am L = some L' → LwQ m A L' (Q (.bl true))) ∧ (signL c g am L = none → ∀ m', FrL A m m' → Q (.bl false) m')

theorem ok_l_sign (T : Txt K mg a) : FnOk P w K mg base CX0 2 a.l_sign a.fd_l_sign ["_law_sign_here", "_law_given", "_law_amount", "_law_stack", "_law_store", "_law_state"] (lowSp K 6 sp_l_sign) := by
  refine ufun T.F_l_sign sc_l_sign fun cdv A outer s H E B hr => ⟨_, let nd := sc_l_sign.nd; (uss_cons (us_if (ut_cmp uo_lt (ue_callB (ub_len) (by rfl) T.n_len bt_len (ua_cons (ue_var 3) ua_nil)) (ue_call (ok_l_need T) (hr.mono (by decide)) (by rfl) T.mg_l_need T.F_l_need.kp T.b_l_need pass0 Wsh.no (ua_cons (ue_var 0) ua_nil)) rfl) (uss_one (us_ret ue_bl)) uss_nil)
    (uss_cons (us_if (ut_cmp (uo_in (u65 hr)) (ue_var 0) ue_str rfl) (uss_cons (us_expr (ue_bm PySem.F.plainAttrs_list PySem.F.slot_list_append PySem.F.type_list_append um_append (ue_var 3) (ua_cons (ue_callTy (ub_intS) (by rfl) T.n_int bt_int (ua_cons (ue_var 0) ua_nil)) ua_nil)))
    (uss_one (us_ret (ue_cmp uo_le (ue_callB (ub_len) (by rfl) T.n_len bt_len (ua_cons (ue_var 3) ua_nil)) ue_int rfl)))) uss_nil)
    (uss_cons (us_if (ut_cmp (uo_in (u65 hr)) (ue_var 0) ue_str rfl) (uss_cons (us_expr (ue_bm PySem.F.plainAttrs_list PySem.F.slot_list_append PySem.F.type_list_append um_append (ue_var 3) (ua_cons (ue_op uo_mod (ue_callTy (ub_int) (by rfl) T.n_int bt_int (ua_cons (ue_ix (ue_tup (ua_cons (ue_var 1) (ua_cons (ue_var 2) (ua_cons (ue_callB (ub_len) (by rfl) T.n_len bt_len (ua_cons (ue_var 3) ua_nil)) ua_nil)))) (ue_bm PySem.F.plainAttrs_str PySem.F.slot_str_index PySem.F.type_str_index um_index ue_str (ua_cons (ue_var 0) ua_nil))) ua_nil)) ue_int) ua_nil)))
    (uss_one (us_ret (ue_cmp uo_le (ue_callB (ub_len) (by rfl) T.n_len bt_len (ua_cons (ue_var 3) ua_nil)) ue_int rfl)))) uss_nil)
    (uss_cons (us_set (i := 6) nd (ue_bm0 PySem.F.plainAttrs_list PySem.F.slot_list_pop PySem.F.type_list_pop um_pop (ue_var 3)))
    (uss_cons (us_if (ut_cmp (uo_in (u65 hr)) (ue_var 0) ue_str rfl) (uss_cons (us_set (i := 7) nd (ue_bm0 PySem.F.plainAttrs_list PySem.F.slot_list_pop PySem.F.type_list_pop um_pop (ue_var 3)))
    (uss_cons (us_expr (ue_bm PySem.F.plainAttrs_list PySem.F.slot_list_append PySem.F.type_list_append um_append (ue_var 3) (ua_cons (ue_op uo_mod (ue_callTy (ub_int) (by rfl) T.n_int bt_int (ua_cons (ue_call (ok_l_reckon T) (hr.mono (by decide)) (by rfl) T.mg_l_reckon T.F_l_reckon.kp T.b_l_reckon pass0 Wsh.no (ua_cons (ue_var 0) (ua_cons (ue_var 7) (ua_cons (ue_var 6) ua_nil)))) ua_nil)) ue_int) ua_nil)))
    (uss_one (us_ret ue_bl)))) uss_nil)
    (uss_one (us_ret (ue_and (ue_call (ok_l_act T) (hr.mono (by decide)) (by rfl) T.mg_l_act T.F_l_act.kp T.b_l_act pass0 Wsh.no (ua_cons (ue_var 0) (ua_cons (ue_var 6) (ua_cons (ue_var 3) (ua_cons (ue_var 4) (ua_cons (ue_var 5) ua_nil)))))) (ue_one (ue_cmp uo_le (ue_callB (ub_len) (by rfl) T.n_len bt_len (ua_cons (ue_var 3) ua_nil)) ue_int rfl)))))))))), ?_⟩
  intro ds m Q PX hl h
  clear hl hr B E H s outer cdv A T
  obtain ⟨A, L, c, g, am, rfl, r, hl, hso, hok, q1, q2⟩ := h
  have hs : ∀ c : Nat, (⟨#[c]⟩ : Str) = sg c := fun _ => rfl
  have rs := r.hs
  have rd := r.hd
  have rt := r.ht
  have hts := r.st
  have hsd := r.sd
  have htd := r.td
  obtain ⟨es, hes⟩ : ∃ es, es = L.stk.reverse.map D.int := ⟨_, rfl⟩
  have hll : es.length = L.stk.length := by rw [hes]; simp
  have hz : es.length < sizeLine := by rw [hll, sizeLine_eq]; omega
  rw [← hes] at rs
  have dg : inS (Str.ofString "0123456789") c → PySem.intText? (sg c) = some ((c : Int) - 48) := fun h => by
    have h := (in_dig c).mp h
    obtain ⟨k, rfl⟩ : ∃ k, c = 48 + k := ⟨c - 48, by omega⟩
    have : k < 10 := by omega
    rcases (by omega : k = 0 ∨ k = 1 ∨ k = 2 ∨ k = 3 ∨ k = 4 ∨ k = 5 ∨ k = 6 ∨ k = 7 ∨ k = 8 ∨ k = 9) with rfl | rfl | rfl | rfl | rfl | rfl | rfl | rfl | rfl | rfl <;> decide +kernel
  have hgin : inS (Str.ofString "gin") c → ∃ (i : Nat) (rest : List Nat), PySem.Builtin.Str.occurrences (Str.ofString "gin") (sg c) 0 (Str.ofString "gin").length 1 = i :: rest ∧ [D.int g, D.int am, D.int L.stk.length][i]? = some (.int (ginP c g am L.stk.length)) := fun h => by
    rcases (in_gin c).mp h with rfl | rfl | rfl
    · exact ⟨0, [], by decide +kernel, rfl⟩
    · exact ⟨1, [], by decide +kernel, rfl⟩
    · exact ⟨2, [], by decide +kernel, rfl⟩
  have hsl : (sg c).length ≤ 640 := by show 1 ≤ 640; decide
  have ins : ∀ z c, inS z c = (c ∈ z.cps) := fun z c => by unfold inS; rw [Array.mem_toList_iff]
  unfold signL at q1 q2
  by_cases h0 : L.stk.length < needP c
  · rw [if_pos h0] at q2
    have q2 := q2 rfl m (FrL.refl m)
    clear q1
    walk_at "g"
    exact q2
  rw [if_neg h0] at q1 q2
  have hlen1 : ∀ x, (es ++ [x]).length = L.stk.length + 1 := fun x => by rw [List.length_append, hll]; rfl
  -- what a grown stack answers
  have fin : ∀ v : Int, (∀ L', (if L.stk.length + 1 ≤ 16 then some { L with stk := v :: L.stk } else none) = some L' → LwQ m A L' (Q (.bl true))) → ((if L.stk.length + 1 ≤ 16 then some { L with stk := v :: L.stk } else (none : Option Lw)) = none → ∀ m', FrL A m m' → Q (.bl false) m') →
      Q (.bl (decide (((es ++ [D.int v]).length : Int) ≤ 16))) (mup m A.s (.lst (es ++ [D.int v]))) := fun v q1 q2 => by
    have e : (es ++ [D.int v]).length = L.stk.length + 1 := hlen1 _
    by_cases h : L.stk.length + 1 ≤ 16
    · rw [if_pos h] at q1
      rw [decide_eq_true (by rw [e]; omega)]
      exact (q1 _ rfl).use (r.setS (L' := { L with stk := v :: L.stk }) (by rw [hes]; simp) rfl) ((FrL.refl m).setS _)
    · rw [if_neg h] at q2
      rw [decide_eq_false (by rw [e]; omega)]
      exact q2 rfl _ ((FrL.refl m).setS _)
  by_cases k1 : inS (Str.ofString "0123456789") c
  · rw [if_pos k1] at q1 q2
    have dg := dg k1
    rw [ins] at k1
    have fin := fin _ q1 q2
    clear q1 q2
    walk_at "g"
    exact fin
  rw [if_neg k1] at q1 q2
  by_cases k2 : inS (Str.ofString "gin") c
  · rw [if_pos k2] at q1 q2
    obtain ⟨i, rest, ho, hi⟩ := hgin k2
    rw [ins] at k1 k2
    rw [← hll] at hi
    have hi2 := atI_nat hi
    have fin := fin _ q1 q2
    clear q1 q2
    rw [← hll] at fin
    walk_at "g"
    exact fin
  rw [if_neg k2] at q1 q2
  by_cases k3 : inS (Str.ofString "asmtce") c
  · rw [if_pos k3] at q1 q2
    have n2 : needP c = 2 := by
      unfold needP
      rw [if_neg fun z => ((in_dgin c).mp z).elim (fun z => k1 ((in_dig c).mpr z)) fun z => k2 ((in_gin c).mpr z), if_pos ((in_two c).mpr (.inl ((in_ops c).mp k3)))]
    rw [n2] at h0
    rw [ins] at k1 k2 k3
    cases e1 : L.stk with
    | nil => rw [e1] at h0; exact absurd (by decide) h0
    | cons x tl =>
      cases e2 : tl with
      | nil => rw [e1, e2] at h0; exact absurd (Nat.lt_succ_self 1) h0
      | cons y tl2 =>
        subst e2
        have p1 : es[es.length - 1]? = some (.int x) := by rw [hes, e1]; simp
        have p2 : es.dropLast = (y :: tl2).reverse.map D.int := by rw [hes, e1]; simp
        have p3 : es.dropLast[es.dropLast.length - 1]? = some (.int y) := by rw [p2]; simp
        have p4 : es.dropLast.dropLast = tl2.reverse.map D.int := by rw [p2]; simp
        have vx : NumOk x := hok x (by rw [e1]; simp)
        have vy : NumOk y := hok y (by rw [e1]; simp)
        rw [e1] at q1 hll
        have hll : es.length = tl2.length + 2 := hll
        have hz3 : es.dropLast.dropLast.length < sizeLine := by rw [p4, sizeLine_eq]; simp; rw [e1] at hl; simp at hl; omega
        simp only [List.headD_cons, List.tail_cons] at q1
        have q1 := q1 _ rfl
        clear q2 fin hlen1
        walk_at "g"
        exact q1.use (r.setS (L' := { L with stk := reckonP c y x % 1000000 :: tl2 }) (by rw [p4]; simp) rfl) ((FrL.refl m).setS _)
  rw [if_neg k3] at q1 q2
  have n1 : needP c ≠ 0 ∧ (c = 117 ∨ c = 102 → 2 ≤ needP c) := by
    unfold needP
    rw [if_neg fun z => ((in_dgin c).mp z).elim (fun z => k1 ((in_dig c).mpr z)) fun z => k2 ((in_gin c).mpr z)]
    refine ⟨by split <;> decide, fun h => ?_⟩
    rw [if_pos ((in_two c).mpr (.inr h))]
    decide
  rw [ins] at k1 k2 k3
  cases e1 : L.stk with
  | nil => rw [e1] at h0; exact absurd (show [].length < needP c from Nat.pos_of_ne_zero n1.1) h0
  | cons x tl =>
    rw [e1] at h0 q1 q2 hl
    have h0 : ¬ tl.length + 1 < needP c := h0
    have hll1 : es.length = tl.length + 1 := by rw [hll, e1]; rfl
    have hl : tl.length + 1 ≤ 16 := hl
    have p1 : es[es.length - 1]? = some (.int x) := by rw [hes, e1]; simp
    have p2 : es.dropLast = tl.reverse.map D.int := by rw [hes, e1]; simp
    simp only [List.headD_cons, List.tail_cons] at q1 q2
    have r1 : Iv (LwR (mup m A.s (.lst es.dropLast)) A { L with stk := tl }) := .mk (r.setS p2 rfl)
    have f1 : FrL A m (mup m A.s (.lst es.dropLast)) := (FrL.refl m).setS _
    have e2 : actL c x tl L = actL c x tl { L with stk := tl } := rfl
    have hne : c = 117 ∨ c = 102 → tl ≠ [] := fun h e => by
      have := n1.2 h
      rw [e] at h0
      exact h0 (show 1 < needP c by omega)
    clear fin p2 hlen1
    walk_at "g"
    refine ⟨A, { L with stk := tl }, c, x, rfl, r1.out, by show tl.length ≤ 100; omega, hso, hne, fun m2 r2 rs2 rd2 rt2 f2 => ?_⟩
    rw [← e2] at r2 rs2
    have ff := f1.trans f2
    have hd : (decide (sg c ≠ Str.ofString "o" ∨ x ≠ 0) = true ∧ (actL c x tl L).stk.length ≤ 16) → Q (.bl true) m2 := fun h => (q1 _ (if_pos ⟨of_decide_eq_true h.1, h.2⟩)).use r2 ff
    have hf : ¬ (decide (sg c ≠ Str.ofString "o" ∨ x ≠ 0) = true ∧ (actL c x tl L).stk.length ≤ 16) → Q (.bl false) m2 := fun h => q2 (if_neg fun z => h ⟨decide_eq_true z.1, z.2⟩) _ ff
    clear q1 q2 e2
    generalize actL c x tl L = L1 at r2 rs2 hd hf
    obtain ⟨es2, hes2⟩ : ∃ es, es = L1.stk.reverse.map D.int := ⟨_, rfl⟩
    have hl2 : es2.length = L1.stk.length := by rw [hes2]; simp
    rw [← hes2] at rs2
    generalize decide (sg c ≠ Str.ofString "o" ∨ x ≠ 0) = b at *
    cases b with
    | false =>
      have := hf (fun h => Bool.false_ne_true h.1)
      walk_at "g"
      exact this
    | true =>
      walk_at "g"
      by_cases h : L1.stk.length ≤ 16
      · show Q (.bl (decide ((es2.length : Int) ≤ 16))) m2
        rw [decide_eq_true (by omega)]
        exact hd ⟨rfl, h⟩
      · show Q (.bl (decide ((es2.length : Int) ≤ 16))) m2
        rw [decide_eq_false (by omega)]
        exact hf fun z => h z.2
end
theorem sc_l_run : FnScope ["_law_code", "_law_given", "_law_amount", "_law_store", "_law_stack", "_law_kept", "_law_state", "_law_steps", "_law_k", "_law_sign_here", "_law_left", "_law_key"] ["_law_code", "_law_given", "_law_amount", "_law_store"] (defScope s_l_run) := ⟨rfl, rfl, rfl, by decide +kernel, rfl, by decide +kernel, by decide +kernel⟩
section
-- SECTION
set_option hygiene false in
local macro_rules | `(tactic| walk_at "k") => `(tactic| (simp [DL.isN_non, DL.isN_int, DL.isN_str, DL.nb] at hb) <;> try (exfalso; first | contradiction | omega))
def sp_l_run : VSp := fun ds m Q _ => ∃ (code : Str) (g am : Int) (x : Addr) (s0 : List (Int × Int)), ds = [.str code, .int g, .int am, .adr x] ∧ m x = some (.dct (dI s0)) ∧ (∀ p ∈ s0, NumOk p.2) ∧ s0.length ≤ 500 ∧ code.length ≤ 100000 ∧
  ∀ kp, m kp = none → Q (.tup [.bl (decide ((runF code g am s0).st ≠ stF)), .adr kp, .int (if (runF code g am s0).st = stF then 0 else (runF code g am s0).paid), .int (runF code g am s0).steps]) (mup m kp (.dct (dI (runS (runF code g am s0) s0))))
/-- the law's loop -/
structure LrI (m0 : MH) (A : LwA) (code : Str) (g am : Int) (s0 : List (Int × Int)) (k : Nat) (m : MH) (M : Mc) : Prop where
  r : LwR m A M.lw
  f : FrL A m0 m
  ok : M.Ok
  run : M.st = stR
  steps : M.steps = k
  le : k ≤ 200
  len : M.sto.length ≤ s0.length + k
  fin : Mc.runN code g am (202 - k) M = runF code g am s0

theorem ok_l_run (T : Txt K mg a) : FnOk P w K mg base CX0 3 a.l_run a.fd_l_run ["_law_code", "_law_given", "_law_amount", "_law_store"] (lowSp K 4 sp_l_run) := by
  refine ufun T.F_l_run sc_l_run fun cdv A outer s H E B hr => ⟨_, let nd := sc_l_run.nd; (uss_cons (us_set (i := 4) nd (ue_lstM ua_nil))
    (uss_cons (us_set (i := 5) nd (ue_dictM (by rfl) T.n_dict (ua_cons (ue_var 3) ua_nil)))
    (uss_cons (us_set (i := 6) nd (ue_lstM (ua_cons ue_int (ua_cons ue_int ua_nil))))
    (uss_cons (us_set (i := 7) nd ue_int)
    (uss_cons (us_for (g := (.one 8)) PassesOwn.never rfl (ui_range1 (by rfl) T.n_range (ua_cons ue_int ua_nil)) (pgn 8 nd)
    (uss_gc (uss_cons (us_if (ut_cmp uo_ge (ue_ix (ue_var 6) ue_int) (ue_callB (ub_len) (by rfl) T.n_len bt_len (ua_cons (ue_var 0) ua_nil)) rfl) (uss_cons (us_set (i := 10) nd ue_dnew)
    (uss_cons (us_for (g := (.one 11)) PassesOwn.never rfl (ui_list (ue_callB (ub_sorted) (by rfl) T.n_sorted bt_sorted (ua_cons (ue_lock (pk := pkV 5) (ue_lc (g := (.one 11)) rfl nd (ui_keys (ue_var 5)) (blkOk_by (N := ["_law_code", "_law_given", "_law_amount", "_law_store", "_law_stack", "_law_kept", "_law_state", "_law_steps", "_law_k", "_law_sign_here", "_law_left", "_law_key"]) (sc := defScope s_l_run) (own := [("_law_key", 11)]) (by decide +kernel)) (fun _ _ _ _ _ => (pgn 11 nd)) (fun _ _ _ _ _ => uts_nil) (fun _ _ _ _ _ => (ue_var 11)) (by decide))) ua_nil))) (pgn 11 nd)
    (uss_one (us_if (ut_cmp (uo_ne (u64 hr)) (ue_dix (u1 (u64 hr)) (ue_var 5) (ue_var 11)) ue_int rfl) (uss_one (us_dset (u1 (u64 hr)) (ue_var 10) (ue_var 11) (ue_dix (u1 (u64 hr)) (ue_var 5) (ue_var 11)))) uss_nil)))
    (uss_one (us_ret (ue_gcM (ue_tup (ua_cons ue_bl (ua_cons (ue_var 10) (ua_cons (ue_ix (ue_var 6) ue_int) (ua_cons (ue_var 7) ua_nil)))))))))) uss_nil)
    (uss_cons (us_if (ut_cmp (uo_eq (u64 hr)) (ue_var 7) ue_int rfl) (uss_one (us_ret (ue_gcM (ue_tup (ua_cons ue_bl (ua_cons (ue_dictM (by rfl) T.n_dict (ua_cons (ue_var 3) ua_nil)) (ua_cons ue_int (ua_cons (ue_var 7) ua_nil)))))))) uss_nil)
    (uss_cons (us_set (i := 9) nd (ue_ix (ue_var 0) (ue_ix (ue_var 6) ue_int)))
    (uss_cons (us_setL (ue_var 6) ue_int (ue_op uo_add (ue_ix (ue_var 6) ue_int) ue_int))
    (uss_cons (us_set (i := 7) nd (ue_op uo_add (ue_var 7) ue_int))
    (uss_one (us_if (ut_not (ut_tru (ue_call (ok_l_sign T) (hr.mono (by decide)) (by rfl) T.mg_l_sign T.F_l_sign.kp T.b_l_sign pass0 Wsh.no (ua_cons (ue_var 9) (ua_cons (ue_var 1) (ua_cons (ue_var 2) (ua_cons (ue_var 4) (ua_cons (ue_var 5) (ua_cons (ue_var 6) ua_nil))))))))) (uss_one (us_ret (ue_gcM (ue_tup (ua_cons ue_bl (ua_cons (ue_dictM (by rfl) T.n_dict (ua_cons (ue_var 3) ua_nil)) (ua_cons ue_int (ua_cons (ue_var 7) ua_nil)))))))) uss_nil)))))))))
    (uss_one (us_ret (ue_gcM (ue_tup (ua_cons ue_bl (ua_cons (ue_dictM (by rfl) T.n_dict (ua_cons (ue_var 3) ua_nil)) (ua_cons ue_int (ua_cons (ue_var 7) ua_nil))))))))))))), ?_⟩
  intro ds m Q PX hl h
  clear hl hr B E H s outer cdv A T
  obtain ⟨code, g, am, x, s0, rfl, hx, hso, hs5, hcl, q⟩ := h
  walk_at "g"
  rename_i p1 h1 p2 h2
  obtain ⟨p3, e⟩ : ∃ z, z = p := ⟨_, rfl⟩
  subst e
  have h3 := hp
  clear hp
  have n1 : p2 ≠ p1 := fresh_ne h2
  have n2 : p3 ≠ p2 := fresh_ne h3
  have n3 : p3 ≠ p1 := fresh_ne (fresh_dn h3)
  have f2 : m p2 = none := by rwa [mup_ne n1] at h2
  have f3 : m p3 = none := by rwa [mup_ne n2, mup_ne n3] at h3
  obtain ⟨A, hA⟩ : ∃ A : LwA, A = ⟨p1, p2, p3⟩ := ⟨_, rfl⟩
  have r0 : LwR (mup (mup (mup m p1 (.lst [])) p2 (.dct (dI s0))) p3 (.lst [.int 0, .int 0])) A (Mc.init s0).lw := by
    subst hA
    refine ⟨?_, ?_, mup_same, n3.symm⟩
    · show mup (mup (mup m p1 (.lst [])) p2 (.dct (dI s0))) p3 (.lst [.int 0, .int 0]) p1 = _
      rw [mup_ne n3.symm, mup_ne n1.symm, mup_same]
      rfl
    · show mup (mup (mup m p1 (.lst [])) p2 (.dct (dI s0))) p3 (.lst [.int 0, .int 0]) p2 = _
      rw [mup_ne n2.symm, mup_same]
      rfl
  have fr0 : FrL A m (mup (mup (mup m p1 (.lst [])) p2 (.dct (dI s0))) p3 (.lst [.int 0, .int 0])) := by
    subst hA
    intro z z1 z2 z3
    rw [mup_ne z3, mup_ne z2, mup_ne z1]
  have fs : m A.s = none := by rw [hA]; exact h1
  have fd : m A.d = none := by rw [hA]; exact f2
  have ft : m A.t = none := by rw [hA]; exact f3
  have i0 : LrI m A code g am s0 0 (mup (mup (mup m p1 (.lst [])) p2 (.dct (dI s0))) p3 (.lst [.int 0, .int 0])) (Mc.init s0) := ⟨r0, fr0, ⟨fun y hy => (by cases hy), by show 0 ≤ 16; decide, hso, by show (0 : Int) ≤ 0; decide⟩, rfl, rfl, by decide, by show s0.length ≤ _; omega, rfl⟩
  have hs1 : p1 = A.s := by rw [hA]
  have hs2 : p2 = A.d := by rw [hA]
  have hs3 : p3 = A.t := by rw [hA]
  refine for_ix (fun i ρ m' => ∃ M, LrI m A code g am s0 i m' M ∧ ∃ o8 o9, ρ = [some (.str code), some (.int g), some (.int am), some (.adr x), some (.adr A.s), some (.adr A.d), some (.adr A.t), some (.int i), o8, o9, none, none]) _ ⟨_, i0, none, none, by rw [hs1, hs2, hs3]; rfl⟩ (fun _ _ _ _ => trivial) ?_ ?_
  · rintro i y ρ m' hy ⟨M, I, o8, o9, rfl⟩
    clear i0 r0 fr0 hs1 hs2 hs3 hA h1 h2 h3 n1 n2 n3 f2 f3
    obtain ⟨rfl, hi2⟩ := irng_get hy
    refine ⟨_, by walk_at "t", ?_⟩
    have rs := I.r.hs
    have rd := I.r.hd
    have rt := I.r.ht
    have hts := I.r.st
    have hsd := I.r.sd
    have htd := I.r.td
    have hst := I.steps
    have hp0 := I.ok.place
    have nx : ∀ z, m z ≠ none → z ≠ A.s ∧ z ≠ A.d ∧ z ≠ A.t := fun z hz => ⟨fun e => hz (by rw [e]; exact fs), fun e => hz (by rw [e]; exact fd), fun e => hz (by rw [e]; exact ft)⟩
    have ex := nx x (by rw [hx]; exact fun z => by cases z)
    have hx' : m' x = some (.dct (dI s0)) := (I.f x ex.1 ex.2.1 ex.2.2).trans hx
    have fresh : ∀ kp, m' kp = none → m kp = none := fun kp h => (I.f kp (fun e => by rw [e, rs] at h; cases h) (fun e => by rw [e, rd] at h; cases h) (fun e => by rw [e, rt] at h; cases h)).symm.trans h
    have gc : ∀ m2, FrL A m m2 → ∀ kp o, Gc (mup m2 kp o) (mup m kp o) := fun m2 f kp o => by
      intro z u hz
      by_cases e : z = kp
      · subst e
        rw [mup_same] at hz ⊢
        exact hz
      · rw [mup_ne e] at hz ⊢
        have hne : m z ≠ none := by rw [hz]; exact fun k => by cases k
        exact (f z (nx z hne).1 (nx z hne).2.1 (nx z hne).2.2).trans hz
    obtain ⟨es, hes⟩ : ∃ es, es = M.lw.stk.reverse.map D.int := ⟨_, rfl⟩
    rw [← hes] at rs
    have hpl : M.lw.place = M.place := rfl
    have hpd : M.lw.paid = M.paid := rfl
    have hso : M.lw.sto = M.sto := rfl
    rw [hpl, hpd] at rt
    rw [hso] at rd
    have hcz := str_len code
    have hfin := I.fin
    rw [show 202 - i = (201 - i) + 1 by have := I.le; omega, Mc.runN, if_pos I.run] at hfin
    have qF : ∀ F m2, runF code g am s0 = F → F.st = stF → FrL A m m2 → ∀ kp, m kp = none → ∃ m3, Q (.tup [.bl false, .adr kp, .int 0, .int F.steps]) m3 ∧ Gc (mup m2 kp (.dct (dI s0))) m3 := fun F m2 eF hF f kp hk => by
      refine ⟨_, ?_, gc m2 f kp _⟩
      have := q kp hk
      unfold runS at this
      rw [eF, if_pos hF, if_pos hF, decide_eq_false (fun z => z hF)] at this
      exact this
    by_cases hpc : (code.length : Int) ≤ M.place
    · have eF : runF code g am s0 = { M with st := stE } := by
        rw [← hfin, show M.step code g am = { M with st := stE } by unfold Mc.step; rw [if_pos hpc], runN_done st_ne.2.1]
      walk_at "g"
      rename_i kp hkp
      have nd : A.d ≠ kp := fun e => by rw [e, hkp] at rd; cases rd
      have hkl := I.len
      have hkk : M.sto.length ≤ 800 := by have := I.le; omega
      have hdk : (dI M.sto).map (fun p => dKey p.1) = (M.sto.map (·.1)).map D.int := by
        unfold dI
        rw [List.map_map, List.map_map]
        rfl
      rw [hdk]
      refine lc_all D.int D.int _ (by rw [sizeLine_eq, List.length_map]; omega) ?_ ?_
      · intro k hk acc R hl hR
        refine ⟨_, by walk_at "t", ?_⟩
        walk_at "g"
        exact hR
      refine ⟨mup m' kp (.dct []), rfl, (mup_ne nd).trans rd, ?_⟩
      have rd2 : mup m' kp (.dct []) A.d = some (.dct (dI M.sto)) := (mup_ne nd).trans rd
      walk_at "g"
      have hsl : (sortI (M.sto.map (·.1))).length ≤ 800 := by
        rw [(sortI_perm _).length_eq, List.length_map]
        omega
      refine for_pre (fun k : Int => D.int k) (fun pre ρ m1 => ∃ o11, m1 = mup m' kp (.dct (dI (keepP M.sto pre []))) ∧ ρ = [some (.str code), some (.int g), some (.int am), some (.adr x), some (.adr A.s), some (.adr A.d), some (.adr A.t), some (.int i), some (.int (0 + i)), o9, some (.adr kp), o11]) (sortI (M.sto.map (·.1))) ⟨_, rfl, rfl⟩ (fun _ _ _ _ => rfl) ?_ ?_
      · rintro pre k post ρ m1 hpp ⟨o11, rfl, rfl⟩
        refine ⟨_, by walk_at "t", ?_⟩
        have hk : k ∈ M.sto.map (·.1) := (sortI_perm _).mem_iff.mp (by rw [hpp]; simp)
        obtain ⟨v, hv⟩ := getI_mem hk
        have hg : gK (dI M.sto) (.int k) = some (.int v) := by rw [gK_dI, hv]; rfl
        have hpl : pre.length ≤ 800 := by rw [hpp] at hsl; simp at hsl; omega
        have hkl := keepP_len M.sto pre []
        have hal : (dI (keepP M.sto pre [])).length < sizeLine := by rw [dI_len, sizeLine_eq]; simp at hkl; omega
        have hs := keepP_snoc M.sto k pre []
        rw [hv] at hs
        have rd2 : mup m' kp (.dct (dI (keepP M.sto pre []))) A.d = some (.dct (dI M.sto)) := (mup_ne nd).trans rd
        walk_at "g"
        · have hv0 : ¬ v = 0 := by assumption
          rw [if_pos (show (some v).getD 0 ≠ 0 from hv0)] at hs
          rw [hs, sK_dI]
          exact .mk ⟨_, rfl, rfl⟩
        · have hv0 : v = 0 := by assumption
          rw [if_neg (show ¬ (some v).getD 0 ≠ 0 from fun z => z hv0)] at hs
          rw [hs]
          exact .mk ⟨_, rfl, rfl⟩
      · rintro ρ m1 ⟨o11, rfl, rfl⟩
        have rt2 : ∀ u, mup m' kp u A.t = some (.lst [.int M.place, .int M.paid]) := fun u => (mup_ne (fun e => by rw [e, hkp] at rt; cases rt)).trans rt
        have rt3 := rt2 (.dct (dI (keepP M.sto (sortI (M.sto.map (·.1))) [])))
        walk_at "g"
        refine ⟨_, ?_, gc m' I.f kp _⟩
        have := q kp (fresh kp hkp)
        unfold runS at this
        rw [eF, if_neg st_ne.2.2, if_neg st_ne.2.2, decide_eq_true st_ne.2.2] at this
        rw [show ({ M with st := stE } : Mc).steps = (i : Int) from hst] at this
        exact this
    by_cases hk : i = 200
    · have eF : runF code g am s0 = { M with st := stF } := by
        rw [← hfin, show M.step code g am = { M with st := stF } by unfold Mc.step; rw [if_neg hpc, if_pos (by omega)], runN_done st_ne.1]
      subst hk
      walk_at "g"
      have := qF _ m' eF rfl I.f p (fresh p hp)
      rw [show ({ M with st := stF } : Mc).steps = ((200 : Nat) : Int) from hst] at this
      exact this
    have hs200 : ¬ 200 ≤ M.steps := by have := I.le; omega
    have ss := step_same I.ok I.run g am hpc hs200
    obtain ⟨c, hc⟩ : ∃ c, code.cps.toList[M.place.toNat]? = some c := ⟨_, List.getElem?_eq_getElem (by omega)⟩
    have hat : atI code.cps.toList M.place = some c := by
      have := atI_nat hc
      rwa [Int.toNat_of_nonneg hp0] at this
    have hg : code.cps.toList.getD M.place.toNat 0 = c := by rw [List.getD_eq_getElem?_getD, hc]; rfl
    rw [hg] at ss
    have hlen : code.length ≤ sizeLine := by rw [sizeLine_eq]; omega
    walk_at "g"
    have r1 : LwR (mup m' A.t (.lst ([D.int M.place, D.int M.paid].set 0 (D.int (M.place + 1))))) A { M.lw with place := M.place + 1 } := I.r.setT rfl rfl rfl
    have f1 : FrL A m (mup m' A.t (.lst ([D.int M.place, D.int M.paid].set 0 (D.int (M.place + 1))))) := I.f.setT _
    have hle := I.le
    have hln := I.len
    refine ⟨A, _, c, g, am, rfl, r1, I.ok.len, by show M.sto.length ≤ 1000; omega, I.ok.stk, fun L' hL m2 r2 _ _ _ f2 => ?_, fun hn m2 f2 => ?_⟩
    · have hL : signL c g am { M.lw with place := M.place + 1 } = some L' := hL
      rw [hL] at ss
      obtain ⟨s1, s2, s3⟩ := ss
      have hsl := step_len (M := M) code g am
      walk_at "g"
      refine ⟨_, .mk ⟨M.step code g am, ⟨by rw [s2]; exact r2, f1.trans f2, I.ok.step code g am, s3, by rw [s1, hst]; push_cast; rfl, by omega, by omega, ?_⟩, some (.int (0 + i)), some (.str (sg c)), ?_⟩, Gc.refl _⟩
      · rw [show 202 - (i + 1) = 201 - i by omega]
        exact hfin
      · rfl
    · have hn : signL c g am { M.lw with place := M.place + 1 } = none := hn
      rw [hn] at ss
      obtain ⟨s1, s2⟩ := ss
      have s2 : (M.step code g am).st = stF := s2
      have hx2 : m2 x = some (.dct (dI s0)) := (f2 x ex.1 ex.2.1 ex.2.2).trans ((mup_ne ex.2.2).trans hx')
      have eF : runF code g am s0 = M.step code g am := by rw [← hfin, runN_done (by rw [s2]; exact st_ne.1)]
      have ff := f1.trans f2
      have fresh2 : ∀ kp, m2 kp = none → m kp = none := fun kp h => by
        by_cases e1 : kp = A.s
        · rw [e1]; exact fs
        by_cases e2 : kp = A.d
        · rw [e2]; exact fd
        by_cases e3 : kp = A.t
        · rw [e3]; exact ft
        exact (ff kp e1 e2 e3).symm.trans h
      walk_at "g"
      have := qF _ m2 eF s2 ff p (fresh2 p hp)
      rw [show (M.step code g am).steps = (i : Int) + 1 by rw [s1, hst]] at this
      exact this
  · rintro ρ m' ⟨M, I, _⟩
    have := I.le
    simp [irng_len] at this
end
theorem sc_Machine_init : FnScope ["self", "code", "given", "amount", "store"] ["self", "code", "given", "amount", "store"] (defScope s_Machine_init) := ⟨rfl, rfl, rfl, by decide +kernel, rfl, by decide +kernel, by decide +kernel⟩
structure McA where
  p : Addr
  s : Addr
  d : Addr
/-- a machine in the cells -/
structure McR (a : Ad) (m : MH) (A : McA) (code : Str) (g am : Int) (M : Mc) : Prop where
  hp : m A.p = some (.ins a.C_Machine ks_Machine [.str code, .adr A.s, .int g, .int am, .adr A.d, .int M.paid, .int M.place, .int M.steps, .str M.st])
  hs : m A.s = some (.lst (M.stk.reverse.map D.int))
  hd : m A.d = some (.dct (dI M.sto))
theorem McR.ps {a : Ad} {m : MH} {A : McA} {code : Str} {g am : Int} {M : Mc} (r : McR a m A code g am M) : A.p ≠ A.s := fun e => by
  have := r.hp
  rw [e, r.hs] at this
  cases this
theorem McR.pd {a : Ad} {m : MH} {A : McA} {code : Str} {g am : Int} {M : Mc} (r : McR a m A code g am M) : A.p ≠ A.d := fun e => by
  have := r.hp
  rw [e, r.hd] at this
  cases this
theorem McR.sd {a : Ad} {m : MH} {A : McA} {code : Str} {g am : Int} {M : Mc} (r : McR a m A code g am M) : A.s ≠ A.d := fun e => by
  have := r.hs
  rw [e, r.hd] at this
  cases this
def Fr3 (A : McA) (m m' : MH) : Prop := ∀ q, q ≠ A.p → q ≠ A.s → q ≠ A.d → m' q = m q
theorem Fr3.refl {A : McA} (m : MH) : Fr3 A m m := fun _ _ _ _ => rfl
theorem Fr3.trans {A : McA} {m m1 m2 : MH} (h : Fr3 A m m1) (k : Fr3 A m1 m2) : Fr3 A m m2 := fun q a b c => (k q a b c).trans (h q a b c)
theorem Fr3.setP {A : McA} {m m1 : MH} (h : Fr3 A m m1) (o : MO) : Fr3 A m (mup m1 A.p o) := fun q a b c => (mup_ne a).trans (h q a b c)
theorem Fr3.setS {A : McA} {m m1 : MH} (h : Fr3 A m m1) (o : MO) : Fr3 A m (mup m1 A.s o) := fun q a b c => (mup_ne b).trans (h q a b c)
theorem Fr3.setD {A : McA} {m m1 : MH} (h : Fr3 A m m1) (o : MO) : Fr3 A m (mup m1 A.d o) := fun q a b c => (mup_ne c).trans (h q a b c)
section
variable {a : Ad} {m : MH} {A : McA} {code : Str} {g am : Int} {M M' : Mc}
theorem McR.setP (r : McR a m A code g am M) {ds : List D} (e : ds = [.str code, .adr A.s, .int g, .int am, .adr A.d, .int M'.paid, .int M'.place, .int M'.steps, .str M'.st]) (e1 : M'.stk = M.stk) (e2 : M'.sto = M.sto) : McR a (mup m A.p (.ins a.C_Machine ks_Machine ds)) A code g am M' :=
  ⟨mup_same.trans (by rw [e]), (mup_ne (Ne.symm r.ps)).trans (by rw [e1]; exact r.hs), (mup_ne (Ne.symm r.pd)).trans (by rw [e2]; exact r.hd)⟩
theorem McR.setS (r : McR a m A code g am M) {ds : List D} (e : ds = M'.stk.reverse.map D.int) (e1 : M' = { M with stk := M'.stk }) : McR a (mup m A.s (.lst ds)) A code g am M' :=
  ⟨(mup_ne r.ps).trans (by rw [e1]; exact r.hp), mup_same.trans (by rw [e]), (mup_ne (Ne.symm r.sd)).trans (by rw [e1]; exact r.hd)⟩
theorem McR.setD (r : McR a m A code g am M) {kds : List (Key × D)} (e : kds = dI M'.sto) (e1 : M' = { M with sto := M'.sto }) : McR a (mup m A.d (.dct kds)) A code g am M' :=
  ⟨(mup_ne r.pd).trans (by rw [e1]; exact r.hp), (mup_ne r.sd).trans (by rw [e1]; exact r.hs), mup_same.trans (by rw [e])⟩
end
/-- what comes behind a call of a method of the machine -/
abbrev McQ (a : Ad) (m : MH) (A : McA) (code : Str) (g am : Int) (M : Mc) (Q : MH → Prop) : Prop := ∀ m', McR a m' A code g am M →
  m' A.p = some (.ins a.C_Machine ks_Machine [.str code, .adr A.s, .int g, .int am, .adr A.d, .int M.paid, .int M.place, .int M.steps, .str M.st]) → m' A.s = some (.lst (M.stk.reverse.map D.int)) → m' A.d = some (.dct (dI M.sto)) → Fr3 A m m' → Q m'
theorem McQ.use {a : Ad} {m m2 : MH} {A : McA} {code : Str} {g am : Int} {M : Mc} {Q : MH → Prop} (q : McQ a m A code g am M Q) (r : McR a m2 A code g am M) (f : Fr3 A m m2) : Q m2 := q m2 r r.hp r.hs r.hd f
theorem McQ.of {a : Ad} {m m2 : MH} {A : McA} {code : Str} {g am : Int} {M M' : Mc} {Q : MH → Prop} (q : McQ a m A code g am M Q) (e : M = M') (r : McR a m2 A code g am M') (f : Fr3 A m m2) : Q m2 := by
  subst e
  exact q.use r f
def sp_Machine_init (a : Ad) : VSp := fun ds m Q _ => ∃ (p x : Addr) (code : Str) (g am : Int) (s0 : List (Int × Int)), ds = [.adr p, .str code, .int g, .int am, .adr x] ∧ m p = some (.ins a.C_Machine [] []) ∧ m x = some (.dct (dI s0)) ∧
  ∀ (A : McA) m', A.p = p → m A.s = none → m A.d = none → McR a m' A code g am (Mc.init s0) → Fr3 A m m' → Q .non m'

theorem ok_Machine_init (T : Txt K mg a) : FnOk P w K mg base CX0 1 a.Machine_init a.fd_Machine_init ["self", "code", "given", "amount", "store"] (lowSp K 5 (sp_Machine_init a)) := by
  refine ufun T.F_Machine_init sc_Machine_init fun cdv A outer s H E B hr => ⟨_, let nd := sc_Machine_init.nd; (uss_cons (us_newF (ks := []) (ue_var 0) (ue_var 1) T.c_Machine T.at_Machine_code (by decide +kernel) (by decide))
    (uss_cons (us_newF (ks := [("code" : Str)]) (ue_var 0) (ue_lstM ua_nil) T.c_Machine T.at_Machine_stack (by decide +kernel) (by decide))
    (uss_cons (us_newF (ks := [("code" : Str), ("stack" : Str)]) (ue_var 0) (ue_var 2) T.c_Machine T.at_Machine_given (by decide +kernel) (by decide))
    (uss_cons (us_newF (ks := [("code" : Str), ("stack" : Str), ("given" : Str)]) (ue_var 0) (ue_var 3) T.c_Machine T.at_Machine_amount (by decide +kernel) (by decide))
    (uss_cons (us_newF (ks := [("code" : Str), ("stack" : Str), ("given" : Str), ("amount" : Str)]) (ue_var 0) (ue_dictM (by rfl) T.n_dict (ua_cons (ue_var 4) ua_nil)) T.c_Machine T.at_Machine_store (by decide +kernel) (by decide))
    (uss_cons (us_newF (ks := [("code" : Str), ("stack" : Str), ("given" : Str), ("amount" : Str), ("store" : Str)]) (ue_var 0) ue_int T.c_Machine T.at_Machine_paid (by decide +kernel) (by decide))
    (uss_cons (us_newF (ks := [("code" : Str), ("stack" : Str), ("given" : Str), ("amount" : Str), ("store" : Str), ("paid" : Str)]) (ue_var 0) ue_int T.c_Machine T.at_Machine_place (by decide +kernel) (by decide))
    (uss_cons (us_newF (ks := [("code" : Str), ("stack" : Str), ("given" : Str), ("amount" : Str), ("store" : Str), ("paid" : Str), ("place" : Str)]) (ue_var 0) ue_int T.c_Machine T.at_Machine_steps (by decide +kernel) (by decide))
    (uss_one (us_newF (ks := [("code" : Str), ("stack" : Str), ("given" : Str), ("amount" : Str), ("store" : Str), ("paid" : Str), ("place" : Str), ("steps" : Str)]) (ue_var 0) ue_str T.c_Machine T.at_Machine_state (by decide +kernel) (by decide))))))))))), ?_⟩
  intro ds m Q PX hl h
  clear hl hr B E H s outer cdv A T
  obtain ⟨p0, x, code, g, am, s0, rfl, h0, hx, q⟩ := h
  have nx : x ≠ p0 := fun e => by rw [e, h0] at hx; cases hx
  walk_at "g"
  rename_i p1 h1
  obtain ⟨p2, e⟩ : ∃ z, z = p := ⟨_, rfl⟩
  subst e
  have h2 := hp
  clear hp
  have n1 : p1 ≠ p0 := fresh_ne h1
  have n2 : p2 ≠ p0 := fresh_ne h2
  have f1 : m p1 = none := by rw [mup_ne n1] at h1; exact h1
  have n3 : p2 ≠ p1 := fun e => by
    rw [e] at h2
    simp only [mup_ne n1, mup_same] at h2
    cases h2
  have f2 : m p2 = none := by simp only [mup_ne n2, mup_ne n3] at h2; exact h2
  refine q ⟨p0, p1, p2⟩ _ rfl f1 f2 ⟨mup_same, ?_, ?_⟩ fun z z0 z1 z2 => ?_
  · simp only [mup_ne n1, mup_ne n3.symm, mup_same]
    rfl
  · simp only [mup_ne n2, mup_same]
    rfl
  · have z0 : z ≠ p0 := z0
    have z1 : z ≠ p1 := z1
    have z2 : z ≠ p2 := z2
    simp only [mup_ne z0, mup_ne z1, mup_ne z2]
theorem sc_Machine_push : FnScope ["self", "value"] ["self", "value"] (defScope s_Machine_push) := ⟨rfl, rfl, rfl, by decide +kernel, rfl, by decide +kernel, by decide +kernel⟩
def sp_Machine_push (a : Ad) : VSp := fun ds m Q _ => ∃ (A : McA) (code : Str) (g am : Int) (M : Mc) (v : Int), ds = [.adr A.p, .int v] ∧ McR a m A code g am M ∧ M.stk.length ≤ 1000 ∧ McQ a m A code g am (M.push v) (Q .non)

theorem ok_Machine_push (T : Txt K mg a) : FnOk P w K mg base CX0 1 a.Machine_push a.fd_Machine_push ["self", "value"] (lowSp K 2 (sp_Machine_push a)) := by
  refine ufun T.F_Machine_push sc_Machine_push fun cdv A outer s H E B hr => ⟨_, let nd := sc_Machine_push.nd; (uss_one (us_if (ut_cmp uo_ge (ue_callB (ub_len) (by rfl) T.n_len bt_len (ua_cons (ue_fld (ks := ks_Machine) (i := 1) (ue_var 0) T.c_Machine T.at_Machine_stack (by decide +kernel)) ua_nil)) (ue_gint T.k_MOST_HEIGHT (by rfl)) rfl) (uss_one (us_setF (ks := ks_Machine) (i := 8) (ue_var 0) ue_str T.c_Machine T.at_Machine_state (by decide +kernel) (by decide))) (uss_one (us_expr (ue_bm PySem.F.plainAttrs_list PySem.F.slot_list_append PySem.F.type_list_append um_append (ue_fld (ks := ks_Machine) (i := 1) (ue_var 0) T.c_Machine T.at_Machine_stack (by decide +kernel)) (ua_cons (ue_op uo_mod (ue_var 1) (ue_gint T.k_MODULUS (by rfl))) ua_nil)))))), ?_⟩
  intro ds m Q PX hl h
  clear hl hr B E H s outer cdv A T
  obtain ⟨A, code, g, am, M, v, rfl, r, hl, q⟩ := h
  have rp := r.hp
  have rs := r.hs
  have rps := r.ps
  have hll : (M.stk.reverse.map D.int).length = M.stk.length := by simp
  have hl9 : (M.stk.reverse.map D.int).length < sizeLine := by rw [hll, sizeLine_eq]; omega
  have q1 : ¬ 16 ≤ M.stk.length → ∀ ds, ds = (v % 1000000 :: M.stk).reverse.map D.int → Q .non (mup m A.s (.lst ds)) := fun h ds e => by
    refine q.use ?_ ((Fr3.refl m).setS _)
    rw [push_ok v (by omega)]
    exact r.setS e rfl
  walk_at "g"
  · refine q.use ?_ ((Fr3.refl m).setP _)
    rw [push_no v (by omega)]
    exact r.setP rfl rfl rfl
  · exact q1 (by omega) _ (by simp)
theorem sc_Machine_pop : FnScope ["self"] ["self"] (defScope s_Machine_pop) := ⟨rfl, rfl, rfl, by decide +kernel, rfl, by decide +kernel, by decide +kernel⟩
def sp_Machine_pop (a : Ad) : VSp := fun ds m Q _ => ∃ (A : McA) (code : Str) (g am : Int) (M : Mc), ds = [.adr A.p] ∧ McR a m A code g am M ∧ McQ a m A code g am (M.pop) (Q (.int M.popV))

theorem ok_Machine_pop (T : Txt K mg a) : FnOk P w K mg base CX0 1 a.Machine_pop a.fd_Machine_pop ["self"] (lowSp K 1 (sp_Machine_pop a)) := by
  refine ufun T.F_Machine_pop sc_Machine_pop fun cdv A outer s H E B hr => ⟨_, let nd := sc_Machine_pop.nd; (uss_cons (us_if (ut_not (ut_tru (ue_fld (ks := ks_Machine) (i := 1) (ue_var 0) T.c_Machine T.at_Machine_stack (by decide +kernel)))) (uss_cons (us_setF (ks := ks_Machine) (i := 8) (ue_var 0) ue_str T.c_Machine T.at_Machine_state (by decide +kernel) (by decide))
    (uss_one (us_ret ue_int))) uss_nil)
    (uss_one (us_ret (ue_bm0 PySem.F.plainAttrs_list PySem.F.slot_list_pop PySem.F.type_list_pop um_pop (ue_fld (ks := ks_Machine) (i := 1) (ue_var 0) T.c_Machine T.at_Machine_stack (by decide +kernel)))))), ?_⟩
  intro ds m Q PX hl h
  clear hl hr B E H s outer cdv A T
  obtain ⟨A, code, g, am, M, rfl, r, q⟩ := h
  have rp := r.hp
  have rs := r.hs
  have rps := r.ps
  cases e : M.stk with
  | nil =>
    have rs0 : m A.s = some (.lst []) := by rw [r.hs, e]; rfl
    have q0 : Q (.int 0) (mup m A.p (.ins a.C_Machine ks_Machine [.str code, .adr A.s, .int g, .int am, .adr A.d, .int M.paid, .int M.place, .int M.steps, .str stF])) := by
      have := q.use (m2 := mup m A.p (.ins a.C_Machine ks_Machine [.str code, .adr A.s, .int g, .int am, .adr A.d, .int M.paid, .int M.place, .int M.steps, .str stF])) (by unfold Mc.pop; rw [e]; exact r.setP rfl (by rw [e]) rfl) ((Fr3.refl m).setP _)
      rw [show M.popV = 0 by unfold Mc.popV; rw [e]; rfl] at this
      exact this
    clear rs r
    walk_at "g"
    exact q0
  | cons x t =>
    have h1 : (M.stk.reverse.map D.int)[(M.stk.reverse.map D.int).length - 1]? = some (.int x) := by rw [e]; simp
    have h2 : (M.stk.reverse.map D.int).dropLast = t.reverse.map D.int := by rw [e]; simp
    have h3 : (M.stk.reverse.map D.int).isEmpty = false := by rw [e]; simp
    have q0 : Q (.int x) (mup m A.s (.lst (M.stk.reverse.map D.int).dropLast)) := by
      have := q.use (m2 := mup m A.s (.lst (M.stk.reverse.map D.int).dropLast)) (by rw [show M.pop = { M with stk := t } by unfold Mc.pop; rw [e]]; exact r.setS (M' := { M with stk := t }) h2 rfl) ((Fr3.refl m).setS _)
      rw [show M.popV = x by unfold Mc.popV; rw [e]; rfl] at this
      exact this
    clear r q h2
    generalize M.stk.reverse.map D.int = es at *
    walk_at "g"
    · exfalso
      simp_all
    · exact q0
theorem sc_Machine_reckon : FnScope ["self", "sign", "right", "left"] ["self", "sign"] (defScope s_Machine_reckon) := ⟨rfl, rfl, rfl, by decide +kernel, rfl, by decide +kernel, by decide +kernel⟩
def sp_Machine_reckon (a : Ad) : VSp := fun ds m Q _ => ∃ (A : McA) (code : Str) (g am : Int) (M : Mc) (c : Nat), ds = [.adr A.p, .str (sg c)] ∧ McR a m A code g am M ∧ M.Ok ∧ McQ a m A code g am (M.reckon c) (Q .non)

theorem ok_Machine_reckon (T : Txt K mg a) : FnOk P w K mg base CX0 2 a.Machine_reckon a.fd_Machine_reckon ["self", "sign"] (lowSp K 2 (sp_Machine_reckon a)) := by
  refine ufun T.F_Machine_reckon sc_Machine_reckon fun cdv A outer s H E B hr => ⟨_, let nd := sc_Machine_reckon.nd; (uss_cons (us_set (i := 2) nd (ue_meth0 (pl := _) (ue_var 0) T.c_Machine T.M_Machine_pop (ok_Machine_pop T) (hr.mono (by decide)) T.b_Machine_pop pass0 Wsh.no))
    (uss_cons (us_set (i := 3) nd (ue_meth0 (pl := _) (ue_var 0) T.c_Machine T.M_Machine_pop (ok_Machine_pop T) (hr.mono (by decide)) T.b_Machine_pop pass0 Wsh.no))
    (uss_one (us_if (ut_cmp (uo_eq (u64 hr)) (ue_var 1) ue_str rfl) (uss_one (us_expr (ue_meth (pl := _) (ue_var 0) T.c_Machine T.M_Machine_push (ok_Machine_push T) (hr.mono (by decide)) T.b_Machine_push pass0 Wsh.no (ua_cons (ue_op uo_add (ue_var 3) (ue_var 2)) ua_nil)))) (uss_one (us_if (ut_cmp (uo_eq (u64 hr)) (ue_var 1) ue_str rfl) (uss_one (us_expr (ue_meth (pl := _) (ue_var 0) T.c_Machine T.M_Machine_push (ok_Machine_push T) (hr.mono (by decide)) T.b_Machine_push pass0 Wsh.no (ua_cons (ue_callB (ub_max2 rfl) (by rfl) T.n_max bt_max (ua_cons ue_int (ua_cons (ue_op uo_sub (ue_var 3) (ue_var 2)) ua_nil))) ua_nil)))) (uss_one (us_if (ut_cmp (uo_eq (u64 hr)) (ue_var 1) ue_str rfl) (uss_one (us_expr (ue_meth (pl := _) (ue_var 0) T.c_Machine T.M_Machine_push (ok_Machine_push T) (hr.mono (by decide)) T.b_Machine_push pass0 Wsh.no (ua_cons (ue_op uo_mul (ue_var 3) (ue_var 2)) ua_nil)))) (uss_one (us_if (ut_cmp (uo_eq (u64 hr)) (ue_var 1) ue_str rfl) (uss_one (us_expr (ue_meth (pl := _) (ue_var 0) T.c_Machine T.M_Machine_push (ok_Machine_push T) (hr.mono (by decide)) T.b_Machine_push pass0 Wsh.no (ua_cons (ue_op uo_add (ue_op uo_mul ue_int (ue_var 3)) (ue_var 2)) ua_nil)))) (uss_one (us_if (ut_cmp (uo_eq (u64 hr)) (ue_var 1) ue_str rfl) (uss_one (us_expr (ue_meth (pl := _) (ue_var 0) T.c_Machine T.M_Machine_push (ok_Machine_push T) (hr.mono (by decide)) T.b_Machine_push pass0 Wsh.no (ua_cons (ue_callTy (ub_int) (by rfl) T.n_int bt_int (ua_cons (ue_cmp uo_lt (ue_var 3) (ue_var 2) rfl) ua_nil)) ua_nil)))) (uss_one (us_expr (ue_meth (pl := _) (ue_var 0) T.c_Machine T.M_Machine_push (ok_Machine_push T) (hr.mono (by decide)) T.b_Machine_push pass0 Wsh.no (ua_cons (ue_callTy (ub_int) (by rfl) T.n_int bt_int (ua_cons (ue_cmp (uo_eq (u64 hr)) (ue_var 3) (ue_var 2) rfl) ua_nil)) ua_nil)))))))))))))))), ?_⟩
  intro ds m Q PX hl h
  clear hl hr B E H s outer cdv A T
  obtain ⟨A, code, g, am, M, c, rfl, r, ok, q⟩ := h
  have hs : ∀ c : Nat, (⟨#[c]⟩ : Str) = sg c := fun _ => rfl
  have rp := r.hp
  have rs := r.hs
  have rd := r.hd
  have v1 := ok.popV
  have v2 := ok.pop.popV
  have ok2 := ok.pop.pop.len
  have hl : M.pop.pop.stk.length ≤ 1000 := by omega
  unfold NumOk at v1 v2
  unfold Mc.reckon reckonP at q
  walk_at "g"
  all_goals (
    simp only [*, if_true, if_false] at q
    exact q.use (by assumption) (by repeat (first | exact Fr3.refl _ | assumption | exact (Fr3.refl _).setP _ | exact (Fr3.refl _).setD _ | refine Fr3.trans ?_ (by assumption))))
theorem sc_Machine_act : FnScope ["self", "sign", "top"] ["self", "sign"] (defScope s_Machine_act) := ⟨rfl, rfl, rfl, by decide +kernel, rfl, by decide +kernel, by decide +kernel⟩
def sp_Machine_act (a : Ad) : VSp := fun ds m Q _ => ∃ (A : McA) (code : Str) (g am : Int) (M : Mc) (c : Nat), ds = [.adr A.p, .str (sg c)] ∧ McR a m A code g am M ∧ M.Ok ∧ M.sto.length ≤ 1000 ∧ McQ a m A code g am (M.act c) (Q .non)

theorem ok_Machine_act (T : Txt K mg a) : FnOk P w K mg base CX0 2 a.Machine_act a.fd_Machine_act ["self", "sign"] (lowSp K 2 (sp_Machine_act a)) := by
  refine ufun T.F_Machine_act sc_Machine_act fun cdv A outer s H E B hr => ⟨_, let nd := sc_Machine_act.nd; (uss_cons (us_set (i := 2) nd (ue_meth0 (pl := _) (ue_var 0) T.c_Machine T.M_Machine_pop (ok_Machine_pop T) (hr.mono (by decide)) T.b_Machine_pop pass0 Wsh.no))
    (uss_one (us_if (ut_cmp (uo_eq (u64 hr)) (ue_var 1) ue_str rfl) (uss_cons (us_expr (ue_meth (pl := _) (ue_var 0) T.c_Machine T.M_Machine_push (ok_Machine_push T) (hr.mono (by decide)) T.b_Machine_push pass0 Wsh.no (ua_cons (ue_var 2) ua_nil)))
    (uss_one (us_expr (ue_meth (pl := _) (ue_var 0) T.c_Machine T.M_Machine_push (ok_Machine_push T) (hr.mono (by decide)) T.b_Machine_push pass0 Wsh.no (ua_cons (ue_var 2) ua_nil))))) (uss_one (us_if (ut_cmp (uo_eq (u64 hr)) (ue_var 1) ue_str rfl) (uss_one (us_expr (ue_meth (pl := _) (ue_var 0) T.c_Machine T.M_Machine_push (ok_Machine_push T) (hr.mono (by decide)) T.b_Machine_push pass0 Wsh.no (ua_cons (ue_dget2 (u1 (u64 hr)) (ue_fld (ks := ks_Machine) (i := 4) (ue_var 0) T.c_Machine T.at_Machine_store (by decide +kernel)) (ue_var 2) ue_int) ua_nil)))) (uss_one (us_if (ut_cmp (uo_eq (u64 hr)) (ue_var 1) ue_str rfl) (uss_one (us_dset (u1 (u64 hr)) (ue_fld (ks := ks_Machine) (i := 4) (ue_var 0) T.c_Machine T.at_Machine_store (by decide +kernel)) (ue_var 2) (ue_meth0 (pl := _) (ue_var 0) T.c_Machine T.M_Machine_pop (ok_Machine_pop T) (hr.mono (by decide)) T.b_Machine_pop pass0 Wsh.no))) (uss_one (us_if (ut_cmp (uo_eq (u64 hr)) (ue_var 1) ue_str rfl) (uss_one (us_setF (ks := ks_Machine) (i := 6) (ue_var 0) (ue_var 2) T.c_Machine T.at_Machine_place (by decide +kernel) (by decide))) (uss_one (us_if (ut_cmp (uo_eq (u64 hr)) (ue_var 1) ue_str rfl) (uss_one (us_if (ut_cmp (uo_eq (u64 hr)) (ue_meth0 (pl := _) (ue_var 0) T.c_Machine T.M_Machine_pop (ok_Machine_pop T) (hr.mono (by decide)) T.b_Machine_pop pass0 Wsh.no) ue_int rfl) (uss_one (us_setF (ks := ks_Machine) (i := 6) (ue_var 0) (ue_var 2) T.c_Machine T.at_Machine_place (by decide +kernel) (by decide))) uss_nil)) (uss_one (us_if (ut_cmp (uo_eq (u64 hr)) (ue_var 1) ue_str rfl) (uss_one (us_setF (ks := ks_Machine) (i := 5) (ue_var 0) (ue_op uo_add (ue_fld (ks := ks_Machine) (i := 5) (ue_var 0) T.c_Machine T.at_Machine_paid (by decide +kernel)) (ue_var 2)) T.c_Machine T.at_Machine_paid (by decide +kernel) (by decide))) (uss_one (us_if (ut_cmp (uo_eq (u64 hr)) (ue_var 1) ue_str rfl) (uss_one (us_if (ut_cmp (uo_eq (u64 hr)) (ue_var 2) ue_int rfl) (uss_one (us_setF (ks := ks_Machine) (i := 8) (ue_var 0) ue_str T.c_Machine T.at_Machine_state (by decide +kernel) (by decide))) uss_nil)) uss_nil))))))))))))))), ?_⟩
  intro ds m Q PX hl h
  clear hl hr B E H s outer cdv A T
  obtain ⟨A, code, g, am, M, c, rfl, r, ok, hso, q⟩ := h
  have rp := r.hp
  have rs := r.hs
  have rd := r.hd
  have v1 := ok.popV
  have v2 := ok.pop.popV
  have o1 := ok.pop.len
  have hl : M.pop.stk.length ≤ 1000 := by omega
  have hl2 : (Mc.push M.popV M.pop).stk.length ≤ 1000 := by have := (ok.pop.push M.popV).len; omega
  have e2 : M.pop.pop.sto = M.sto := by unfold Mc.pop; split <;> split <;> rfl
  have hso2 : (dI M.pop.pop.sto).length < sizeLine := by rw [e2, dI_len, sizeLine_eq]; omega
  have eg : (gK (dI M.pop.sto) (D.int M.popV)).getD (D.int 0) = .int ((getI M.pop.sto M.popV).getD 0) := by
    rw [gK_dI]
    cases getI M.pop.sto M.popV <;> rfl
  have es : sK (dI M.pop.pop.sto) (D.int M.popV) (D.int M.pop.popV) = dI (setI M.pop.pop.sto M.popV M.pop.popV) := sK_dI _ _ _
  clear e2
  unfold Mc.act at q
  simp only [sg_h, sg_l, sg_u, sg_j, sg_f, sg_y, sg_o] at q
  walk_at "g"
  · simp only [sg_h, sg_l, sg_u, sg_j, sg_f, sg_y, sg_o] at *
    simp only [*, if_true, if_false, reduceIte, Nat.reduceEqDiff] at q
    exact q.use (by assumption) (by repeat (first | exact Fr3.refl _ | assumption | exact (Fr3.refl _).setP _ | exact (Fr3.refl _).setD _ | refine Fr3.trans ?_ (by assumption)))
  · rw [eg]
    walk_at "g"
    simp only [sg_h, sg_l, sg_u, sg_j, sg_f, sg_y, sg_o] at *
    simp only [*, if_true, if_false, reduceIte, Nat.reduceEqDiff] at q
    exact q.use (by assumption) (by repeat (first | exact Fr3.refl _ | assumption | exact (Fr3.refl _).setP _ | exact (Fr3.refl _).setD _ | refine Fr3.trans ?_ (by assumption)))
  · rw [es]
    simp only [sg_h, sg_l, sg_u, sg_j, sg_f, sg_y, sg_o] at *
    simp only [*, if_true, if_false, reduceIte, Nat.reduceEqDiff] at q
    exact q.use (McR.setD (M := M.pop.pop) (by assumption) (M' := { M.pop.pop with sto := setI M.pop.pop.sto M.popV M.pop.popV }) rfl rfl) (Fr3.setD (by repeat (first | exact Fr3.refl _ | assumption | exact (Fr3.refl _).setP _ | exact (Fr3.refl _).setD _ | refine Fr3.trans ?_ (by assumption))) _)
  · simp only [sg_h, sg_l, sg_u, sg_j, sg_f, sg_y, sg_o] at *
    simp only [*, if_true, if_false, reduceIte, Nat.reduceEqDiff] at q
    exact q.use (McR.setP (M := M.pop) (by assumption) (M' := { M.pop with place := M.popV }) rfl rfl rfl) (Fr3.setP (by repeat (first | exact Fr3.refl _ | assumption | exact (Fr3.refl _).setP _ | exact (Fr3.refl _).setD _ | refine Fr3.trans ?_ (by assumption))) _)
  · simp only [sg_h, sg_l, sg_u, sg_j, sg_f, sg_y, sg_o] at *
    simp only [*, if_true, if_false, reduceIte, Nat.reduceEqDiff] at q
    exact q.use (McR.setP (M := M.pop.pop) (by assumption) (M' := { M.pop.pop with place := M.popV }) rfl rfl rfl) (Fr3.setP (by repeat (first | exact Fr3.refl _ | assumption | exact (Fr3.refl _).setP _ | exact (Fr3.refl _).setD _ | refine Fr3.trans ?_ (by assumption))) _)
  · simp only [sg_h, sg_l, sg_u, sg_j, sg_f, sg_y, sg_o] at *
    simp only [*, if_true, if_false, reduceIte, Nat.reduceEqDiff] at q
    exact q.use (by assumption) (by repeat (first | exact Fr3.refl _ | assumption | exact (Fr3.refl _).setP _ | exact (Fr3.refl _).setD _ | refine Fr3.trans ?_ (by assumption)))
  · simp only [sg_h, sg_l, sg_u, sg_j, sg_f, sg_y, sg_o] at *
    simp only [*, if_true, if_false, reduceIte, Nat.reduceEqDiff] at q
    exact q.use (McR.setP (M := M.pop) (by assumption) (M' := { M.pop with paid := M.pop.paid + M.popV }) rfl rfl rfl) (Fr3.setP (by repeat (first | exact Fr3.refl _ | assumption | exact (Fr3.refl _).setP _ | exact (Fr3.refl _).setD _ | refine Fr3.trans ?_ (by assumption))) _)
  · simp only [sg_h, sg_l, sg_u, sg_j, sg_f, sg_y, sg_o] at *
    simp only [*, if_true, if_false, reduceIte, Nat.reduceEqDiff] at q
    exact q.use (McR.setP (M := M.pop) (by assumption) (M' := { M.pop with st := stF }) rfl rfl rfl) (Fr3.setP (by repeat (first | exact Fr3.refl _ | assumption | exact (Fr3.refl _).setP _ | exact (Fr3.refl _).setD _ | refine Fr3.trans ?_ (by assumption))) _)
  all_goals (
    simp only [sg_h, sg_l, sg_u, sg_j, sg_f, sg_y, sg_o] at *
    simp only [*, if_true, if_false, reduceIte, Nat.reduceEqDiff] at q
    exact q.use (by assumption) (by repeat (first | exact Fr3.refl _ | assumption | exact (Fr3.refl _).setP _ | exact (Fr3.refl _).setD _ | refine Fr3.trans ?_ (by assumption))))
theorem sc_Machine_step : FnScope ["self", "sign"] ["self"] (defScope s_Machine_step) := ⟨rfl, rfl, rfl, by decide +kernel, rfl, by decide +kernel, by decide +kernel⟩
def sp_Machine_step (a : Ad) : VSp := fun ds m Q _ => ∃ (A : McA) (code : Str) (g am : Int) (M : Mc), ds = [.adr A.p] ∧ McR a m A code g am M ∧ M.Ok ∧ M.sto.length ≤ 1000 ∧ code.length ≤ 100000 ∧ McQ a m A code g am (M.step code g am) (Q .non)

theorem ok_Machine_step (T : Txt K mg a) : FnOk P w K mg base CX0 3 a.Machine_step a.fd_Machine_step ["self"] (lowSp K 1 (sp_Machine_step a)) := by
  refine ufun T.F_Machine_step sc_Machine_step fun cdv A outer s H E B hr => ⟨_, let nd := sc_Machine_step.nd; (uss_cons (us_if (ut_cmp uo_ge (ue_fld (ks := ks_Machine) (i := 6) (ue_var 0) T.c_Machine T.at_Machine_place (by decide +kernel)) (ue_callB (ub_len) (by rfl) T.n_len bt_len (ua_cons (ue_fld (ks := ks_Machine) (i := 0) (ue_var 0) T.c_Machine T.at_Machine_code (by decide +kernel)) ua_nil)) rfl) (uss_cons (us_setF (ks := ks_Machine) (i := 8) (ue_var 0) ue_str T.c_Machine T.at_Machine_state (by decide +kernel) (by decide))
    (uss_one us_retN)) uss_nil)
    (uss_cons (us_if (ut_cmp uo_ge (ue_fld (ks := ks_Machine) (i := 7) (ue_var 0) T.c_Machine T.at_Machine_steps (by decide +kernel)) (ue_gint T.k_MOST_STEPS (by rfl)) rfl) (uss_cons (us_setF (ks := ks_Machine) (i := 8) (ue_var 0) ue_str T.c_Machine T.at_Machine_state (by decide +kernel) (by decide))
    (uss_one us_retN)) uss_nil)
    (uss_cons (us_set (i := 1) nd (ue_ix (ue_fld (ks := ks_Machine) (i := 0) (ue_var 0) T.c_Machine T.at_Machine_code (by decide +kernel)) (ue_fld (ks := ks_Machine) (i := 6) (ue_var 0) T.c_Machine T.at_Machine_place (by decide +kernel))))
    (uss_cons (us_setF (ks := ks_Machine) (i := 6) (ue_var 0) (ue_op uo_add (ue_fld (ks := ks_Machine) (i := 6) (ue_var 0) T.c_Machine T.at_Machine_place (by decide +kernel)) ue_int) T.c_Machine T.at_Machine_place (by decide +kernel) (by decide))
    (uss_cons (us_setF (ks := ks_Machine) (i := 7) (ue_var 0) (ue_op uo_add (ue_fld (ks := ks_Machine) (i := 7) (ue_var 0) T.c_Machine T.at_Machine_steps (by decide +kernel)) ue_int) T.c_Machine T.at_Machine_steps (by decide +kernel) (by decide))
    (uss_one (us_if (ut_cmp (uo_in (u65 hr)) (ue_var 1) ue_str rfl) (uss_one (us_expr (ue_meth (pl := _) (ue_var 0) T.c_Machine T.M_Machine_push (ok_Machine_push T) (hr.mono (by decide)) T.b_Machine_push pass0 Wsh.no (ua_cons (ue_callTy (ub_intS) (by rfl) T.n_int bt_int (ua_cons (ue_var 1) ua_nil)) ua_nil)))) (uss_one (us_if (ut_cmp (uo_in (u65 hr)) (ue_var 1) ue_str rfl) (uss_one (us_expr (ue_meth (pl := _) (ue_var 0) T.c_Machine T.M_Machine_push (ok_Machine_push T) (hr.mono (by decide)) T.b_Machine_push pass0 Wsh.no (ua_cons (ue_ix (ue_tup (ua_cons (ue_fld (ks := ks_Machine) (i := 2) (ue_var 0) T.c_Machine T.at_Machine_given (by decide +kernel)) (ua_cons (ue_fld (ks := ks_Machine) (i := 3) (ue_var 0) T.c_Machine T.at_Machine_amount (by decide +kernel)) (ua_cons (ue_callB (ub_len) (by rfl) T.n_len bt_len (ua_cons (ue_fld (ks := ks_Machine) (i := 1) (ue_var 0) T.c_Machine T.at_Machine_stack (by decide +kernel)) ua_nil)) ua_nil)))) (ue_bm PySem.F.plainAttrs_str PySem.F.slot_str_index PySem.F.type_str_index um_index ue_str (ua_cons (ue_var 1) ua_nil))) ua_nil)))) (uss_one (us_if (ut_cmp (uo_in (u65 hr)) (ue_var 1) ue_str rfl) (uss_one (us_expr (ue_meth (pl := _) (ue_var 0) T.c_Machine T.M_Machine_reckon (ok_Machine_reckon T) (hr.mono (by decide)) T.b_Machine_reckon pass0 Wsh.no (ua_cons (ue_var 1) ua_nil)))) (uss_one (us_expr (ue_meth (pl := _) (ue_var 0) T.c_Machine T.M_Machine_act (ok_Machine_act T) (hr.mono (by decide)) T.b_Machine_act pass0 Wsh.no (ua_cons (ue_var 1) ua_nil))))))))))))))), ?_⟩
  intro ds m Q PX hl h
  clear hl hr B E H s outer cdv A T
  obtain ⟨A, code, g, am, M, rfl, r, ok, hso, hcl, q⟩ := h
  have rp := r.hp
  have rs := r.hs
  have rd := r.hd
  have hl0 := ok.len
  have hp0 := ok.place
  have hl : M.stk.length ≤ 1000 := by omega
  have hcz := str_len code
  unfold Mc.step at q
  walk_at "g"
  · have h : (code.length : Int) ≤ M.place := by omega
    rw [if_pos h] at q
    exact q.use (r.setP (M' := { M with st := stE }) rfl rfl rfl) ((Fr3.refl m).setP _)
  · have h : ¬ (code.length : Int) ≤ M.place := by omega
    have h2 : 200 ≤ M.steps := by omega
    rw [if_neg h, if_pos h2] at q
    exact q.use (r.setP (M' := { M with st := stF }) rfl rfl rfl) ((Fr3.refl m).setP _)
  have h : ¬ (code.length : Int) ≤ M.place := by omega
  have h2 : ¬ 200 ≤ M.steps := by omega
  rw [if_neg h, if_neg h2] at q
  obtain ⟨c, hc⟩ : ∃ c, code.cps.toList[M.place.toNat]? = some c := ⟨_, List.getElem?_eq_getElem (by omega)⟩
  have hat : atI code.cps.toList M.place = some c := by
    have := atI_nat hc
    rwa [Int.toNat_of_nonneg hp0] at this
  have hg : code.cps.toList.getD M.place.toNat 0 = c := by rw [List.getD_eq_getElem?_getD, hc]; rfl
  rw [hg] at q
  dsimp only at q
  have hlen : code.length ≤ sizeLine := by rw [sizeLine_eq]; omega
  have r1 : McR a (mup m A.p (.ins a.C_Machine ks_Machine (([.str code, .adr A.s, .int g, .int am, .adr A.d, .int M.paid, .int M.place, .int M.steps, .str M.st].set 6 (.int (M.place + 1))).set 7 (.int (M.steps + 1))))) A code g am { M with place := M.place + 1, steps := M.steps + 1 } := r.setP rfl rfl rfl
  have ok1 : ({ M with place := M.place + 1, steps := M.steps + 1 } : Mc).Ok := ⟨ok.stk, ok.len, ok.sto, by show 0 ≤ M.place + 1; omega⟩
  have f1 : Fr3 A m (mup m A.p (.ins a.C_Machine ks_Machine (([.str code, .adr A.s, .int g, .int am, .adr A.d, .int M.paid, .int M.place, .int M.steps, .str M.st].set 6 (.int (M.place + 1))).set 7 (.int (M.steps + 1))))) := (Fr3.refl m).setP _
  have dg : inS (Str.ofString "0123456789") c → PySem.intText? (sg c) = some ((c : Int) - 48) := fun h => by
    have h := (in_dig c).mp h
    obtain ⟨k, rfl⟩ : ∃ k, c = 48 + k := ⟨c - 48, by omega⟩
    have : k < 10 := by omega
    rcases (by omega : k = 0 ∨ k = 1 ∨ k = 2 ∨ k = 3 ∨ k = 4 ∨ k = 5 ∨ k = 6 ∨ k = 7 ∨ k = 8 ∨ k = 9) with rfl | rfl | rfl | rfl | rfl | rfl | rfl | rfl | rfl | rfl <;> decide +kernel
  have hgin : inS (Str.ofString "gin") c → ∃ (i : Nat) (rest : List Nat), PySem.Builtin.Str.occurrences (Str.ofString "gin") (sg c) 0 (Str.ofString "gin").length 1 = i :: rest ∧ [D.int g, D.int am, D.int M.stk.length][i]? = some (.int (ginP c g am M.stk.length)) := fun h => by
    rcases (in_gin c).mp h with rfl | rfl | rfl
    · exact ⟨0, [], by decide +kernel, rfl⟩
    · exact ⟨1, [], by decide +kernel, rfl⟩
    · exact ⟨2, [], by decide +kernel, rfl⟩
  have hl1 : ({ M with place := M.place + 1, steps := M.steps + 1 } : Mc).stk.length ≤ 1000 := hl
  walk_at "g"
  all_goals rw [mup_mup]
  all_goals (
    obtain ⟨m1, hm1⟩ : ∃ m1, m1 = mup m A.p (.ins a.C_Machine ks_Machine (([.str code, .adr A.s, .int g, .int am, .adr A.d, .int M.paid, .int M.place, .int M.steps, .str M.st].set 6 (.int (M.place + 1))).set 7 (.int (M.steps + 1)))) := ⟨_, rfl⟩
    rw [← hm1] at r1 f1 ⊢
    clear hm1 rp rs rd r
    have rp := r1.hp
    have rs := r1.hs
    have rd := r1.hd)
  · have k1 : inS (Str.ofString "0123456789") c := by unfold inS; rw [Array.mem_toList_iff]; assumption
    rw [if_pos k1] at q
    refine ⟨_, dg k1, by show 1 ≤ 640; decide, ?_⟩
    refine ⟨rfl, A, code, g, am, _, _, rfl, r1, hl1, fun m2 r2 _ _ _ f2 => ?_⟩
    walk_at "g"
    exact q.use r2 (f1.trans f2)
  · have k1 : ¬ inS (Str.ofString "0123456789") c := by unfold inS; rw [Array.mem_toList_iff]; assumption
    have k2 : inS (Str.ofString "gin") c := by unfold inS; rw [Array.mem_toList_iff]; assumption
    rw [if_neg k1, if_pos k2] at q
    have hll : (M.stk.reverse.map D.int).length = M.stk.length := by simp
    obtain ⟨i, rest, ho, hi⟩ := hgin k2
    refine .lst (asL_adr rs) ?_
    rw [← hll] at hi
    have hi2 := atI_nat hi
    refine ⟨by show 3 ≤ sizeLine; decide, rfl, i, rest, ho, ?_⟩
    refine IxG.tup rfl rfl hi2 ?_
    refine ⟨rfl, A, code, g, am, _, _, rfl, r1, hl1, fun m2 r2 _ _ _ f2 => ?_⟩
    rw [hll] at r2
    walk_at "g"
    exact q.use r2 (f1.trans f2)
  · have k1 : ¬ inS (Str.ofString "0123456789") c := by unfold inS; rw [Array.mem_toList_iff]; assumption
    have k2 : ¬ inS (Str.ofString "gin") c := by unfold inS; rw [Array.mem_toList_iff]; assumption
    have k3 : inS (Str.ofString "asmtce") c := by unfold inS; rw [Array.mem_toList_iff]; assumption
    rw [if_neg k1, if_neg k2, if_pos k3] at q
    refine ⟨A, code, g, am, _, c, rfl, r1, ok1, fun m2 r2 _ _ _ f2 => ?_⟩
    walk_at "g"
    exact q.use r2 (f1.trans f2)
  · have k1 : ¬ inS (Str.ofString "0123456789") c := by unfold inS; rw [Array.mem_toList_iff]; assumption
    have k2 : ¬ inS (Str.ofString "gin") c := by unfold inS; rw [Array.mem_toList_iff]; assumption
    have k3 : ¬ inS (Str.ofString "asmtce") c := by unfold inS; rw [Array.mem_toList_iff]; assumption
    rw [if_neg k1, if_neg k2, if_neg k3] at q
    refine ⟨A, code, g, am, _, c, rfl, r1, ok1, hso, fun m2 r2 _ _ _ f2 => ?_⟩
    walk_at "g"
    exact q.use r2 (f1.trans f2)
theorem sc_Run_init : FnScope ["self", "well", "store", "paid", "steps"] ["self", "well", "store", "paid", "steps"] (defScope s_Run_init) := ⟨rfl, rfl, rfl, by decide +kernel, rfl, by decide +kernel, by decide +kernel⟩
def sp_Run_init (a : Ad) : VSp := fun ds m Q _ => ∃ (p : Addr) (d0 d1 d2 d3 : D), ds = [.adr p, d0, d1, d2, d3] ∧ m p = some (.ins a.C_Run [] []) ∧ Q .non (mup m p (.ins a.C_Run ks_Run [d0, d1, d2, d3]))

theorem ok_Run_init (T : Txt K mg a) : FnOk P w K mg base CX0 1 a.Run_init a.fd_Run_init ["self", "well", "store", "paid", "steps"] (lowSp K 5 (sp_Run_init a)) := by
  refine ufun T.F_Run_init sc_Run_init fun cdv A outer s H E B hr => ⟨_, let nd := sc_Run_init.nd; (uss_cons (us_newF (ks := []) (ue_var 0) (ue_var 1) T.c_Run T.at_Run_well (by decide +kernel) (by decide))
    (uss_cons (us_newF (ks := [("well" : Str)]) (ue_var 0) (ue_var 2) T.c_Run T.at_Run_store (by decide +kernel) (by decide))
    (uss_cons (us_newF (ks := [("well" : Str), ("store" : Str)]) (ue_var 0) (ue_var 3) T.c_Run T.at_Run_paid (by decide +kernel) (by decide))
    (uss_one (us_newF (ks := [("well" : Str), ("store" : Str), ("paid" : Str)]) (ue_var 0) (ue_var 4) T.c_Run T.at_Run_steps (by decide +kernel) (by decide)))))), ?_⟩
  intro ds m Q PX hl h
  clear hl hr B E H s outer cdv A T
  obtain ⟨p, d0, d1, d2, d3, rfl, hp, q⟩ := h
  walk_at "g"
  simp only [mup_mup]
  exact q
theorem sc_run : FnScope ["code", "given", "amount", "store", "machine", "kept", "key"] ["code", "given", "amount", "store"] (defScope s_run) := ⟨rfl, rfl, rfl, by decide +kernel, rfl, by decide +kernel, by decide +kernel⟩
def runR (a : Ad) (F : Mc) (kp : Addr) : D := .ins a.C_Run ks_Run [.bl (decide (F.st ≠ stF)), .adr kp, .int (if F.st = stF then 0 else F.paid), .int F.steps]
/-- the loop of the run -/
structure RunI (a : Ad) (m0 : MH) (A : McA) (code : Str) (g am : Int) (s0 : List (Int × Int)) (n : Nat) (m : MH) (M : Mc) : Prop where
  r : McR a m A code g am M
  f : Fr3 A m0 m
  ok : M.Ok
  st0 : 0 ≤ M.steps
  run : M.st = stR → M.steps ≤ 200 ∧ (n : Int) = 202 - M.steps
  len : M.sto.length ≤ s0.length + 202 - n
  n202 : n ≤ 202
  fin : Mc.runN code g am n M = runF code g am s0
def sp_run (a : Ad) : VSp := fun ds m Q _ => ∃ (code : Str) (g am : Int) (x : Addr) (s0 : List (Int × Int)), ds = [.str code, .int g, .int am, .adr x] ∧ m x = some (.dct (dI s0)) ∧ (∀ p ∈ s0, NumOk p.2) ∧ s0.length ≤ 500 ∧ code.length ≤ 100000 ∧
  ∀ kp, m kp = none → Q (runR a (runF code g am s0) kp) (mup m kp (.dct (dI (runS (runF code g am s0) s0))))

theorem ok_run (T : Txt K mg a) : FnOk P w K mg base CX0 4 a.run a.fd_run ["code", "given", "amount", "store"] (lowSp K 4 (sp_run a)) := by
  refine ufun T.F_run sc_run fun cdv A outer s H E B hr => ⟨_, let nd := sc_run.nd; (uss_cons (us_set (i := 4) nd (ue_make T.mk_Machine (ok_Machine_init T) (hr.mono (by decide)) (by rfl) T.mg_Machine T.b_Machine_init pass0 Wsh.no (ua_cons (ue_var 0) (ua_cons (ue_var 1) (ua_cons (ue_var 2) (ua_cons (ue_var 3) ua_nil))))))
    (uss_cons (us_while PassesOwn.never (ut_cmp (uo_eq (u64 hr)) (ue_fld (ks := ks_Machine) (i := 8) (ue_var 4) T.c_Machine T.at_Machine_state (by decide +kernel)) ue_str rfl) (uss_one (us_expr (ue_meth0 (pl := _) (ue_var 4) T.c_Machine T.M_Machine_step (ok_Machine_step T) (hr.mono (by decide)) T.b_Machine_step pass0 Wsh.no))))
    (uss_cons (us_if (ut_cmp (uo_eq (u64 hr)) (ue_fld (ks := ks_Machine) (i := 8) (ue_var 4) T.c_Machine T.at_Machine_state (by decide +kernel)) ue_str rfl) (uss_one (us_ret (ue_gcM (ue_frz (ue_make T.mk_Run (ok_Run_init T) (hr.mono (by decide)) (by rfl) T.mg_Run T.b_Run_init pass0 Wsh.no (ua_cons ue_bl (ua_cons (ue_dictM (by rfl) T.n_dict (ua_cons (ue_var 3) ua_nil)) (ua_cons ue_int (ua_cons (ue_fld (ks := ks_Machine) (i := 7) (ue_var 4) T.c_Machine T.at_Machine_steps (by decide +kernel)) ua_nil))))))))) uss_nil)
    (uss_cons (us_set (i := 5) nd ue_dnew)
    (uss_cons (us_for (g := (.one 6)) PassesOwn.never rfl (ui_list (ue_callB (ub_sortedD rfl) (by rfl) T.n_sorted bt_sorted (ua_cons (ue_fld (ks := ks_Machine) (i := 4) (ue_var 4) T.c_Machine T.at_Machine_store (by decide +kernel)) ua_nil))) (pgn 6 nd)
    (uss_one (us_if (ut_cmp (uo_ne (u64 hr)) (ue_dix (u1 (u64 hr)) (ue_fld (ks := ks_Machine) (i := 4) (ue_var 4) T.c_Machine T.at_Machine_store (by decide +kernel)) (ue_var 6)) ue_int rfl) (uss_one (us_dset (u1 (u64 hr)) (ue_var 5) (ue_var 6) (ue_dix (u1 (u64 hr)) (ue_fld (ks := ks_Machine) (i := 4) (ue_var 4) T.c_Machine T.at_Machine_store (by decide +kernel)) (ue_var 6)))) uss_nil)))
    (uss_one (us_ret (ue_gcM (ue_frz (ue_make T.mk_Run (ok_Run_init T) (hr.mono (by decide)) (by rfl) T.mg_Run T.b_Run_init pass0 Wsh.no (ua_cons ue_bl (ua_cons (ue_var 5) (ua_cons (ue_fld (ks := ks_Machine) (i := 5) (ue_var 4) T.c_Machine T.at_Machine_paid (by decide +kernel)) (ua_cons (ue_fld (ks := ks_Machine) (i := 7) (ue_var 4) T.c_Machine T.at_Machine_steps (by decide +kernel)) ua_nil)))))))))))))), ?_⟩
  intro ds m Q PX hl h
  clear hl hr B E H s outer cdv A T
  obtain ⟨code, g, am, x, s0, rfl, hx, hso, hs5, hcl, q⟩ := h
  walk_at "g"
  refine ⟨p, x, code, g, am, s0, rfl, mup_same, (mup_ne (ne_at hx hp)).trans hx, fun A m1 hA hs0 hd0 r f => ?_⟩
  subst hA
  have f0 : Fr3 A m m1 := fun z a b c => (f z a b c).trans (mup_ne a)
  have fs : m A.s = none := by rwa [mup_ne (Ne.symm r.ps)] at hs0
  have fd : m A.d = none := by rwa [mup_ne (Ne.symm r.pd)] at hd0
  have ok0 : (Mc.init s0).Ok := ⟨fun y hy => (by cases hy), by show 0 ≤ 16; decide, hso, by show (0 : Int) ≤ 0; decide⟩
  have i0 : RunI a m A code g am s0 202 m1 (Mc.init s0) := ⟨r, f0, ok0, by show (0 : Int) ≤ 0; decide, fun _ => ⟨by show (0 : Int) ≤ 200; decide, by show (202 : Int) = 202 - 0; decide⟩, by show s0.length ≤ s0.length + 202 - 202; omega, Nat.le_refl _, rfl⟩
  clear f r ok0
  walk_at "g"
  refine ⟨fun n ρ m' => Iv (∃ M, RunI a m A code g am s0 n m' M ∧ ρ = [some (.str code), some (.int g), some (.int am), some (.adr x), some (.adr A.p), none, none]), ⟨202, .mk ⟨_, i0, rfl⟩⟩, ?_⟩
  clear i0
  intro n ρ m' hI
  obtain ⟨M, i, rfl⟩ := hI.out
  clear hI
  have fresh : ∀ kp, m' kp = none → m kp = none := fun kp h => (i.f kp (fun e => by rw [e, i.r.hp] at h; cases h) (fun e => by rw [e, i.r.hs] at h; cases h) (fun e => by rw [e, i.r.hd] at h; cases h)).symm.trans h
  have gc : ∀ kp o, Gc (mup m' kp o) (mup m kp o) := fun kp o => by
    intro z u hz
    by_cases e : z = kp
    · subst e
      rw [mup_same] at hz ⊢
      exact hz
    · rw [mup_ne e] at hz ⊢
      have hne : m z ≠ none := by rw [hz]; exact fun k => by cases k
      exact (i.f z (fun e => hne (by rw [e]; exact hp)) (fun e => hne (by rw [e]; exact fs)) (fun e => hne (by rw [e]; exact fd))).trans hz
  have rp := i.r.hp
  walk_at "g"
  · have hst : M.st = stR := by assumption
    obtain ⟨h1, h2⟩ := i.run hst
    have hl := i.len
    have hn := i.st0
    have e0 : n = n - 1 + 1 := by omega
    have hfin := i.fin
    rw [e0, Mc.runN, if_pos hst] at hfin
    refine ⟨A, code, g, am, M, rfl, i.r, i.ok, by omega, hcl, fun m2 r2 _ _ _ f2 => ?_⟩
    refine ⟨n - 1, by omega, .mk ⟨_, ⟨r2, i.f.trans f2, i.ok.step code g am, ?_, fun k => ?_, ?_, by have := i.n202; omega, hfin⟩, rfl⟩⟩
    · have := step_steps (M := M) code g am
      omega
    · obtain ⟨h3, h4⟩ := step_run i.ok hst code g am k
      rw [h4]
      omega
    · have := step_len (M := M) code g am
      have := i.n202
      omega
  · have hf : M.st = stF := by assumption
    have nx : ∀ z, m z ≠ none → z ≠ A.p ∧ z ≠ A.s ∧ z ≠ A.d := fun z hz => ⟨fun e => hz (by rw [e]; exact hp), fun e => hz (by rw [e]; exact fs), fun e => hz (by rw [e]; exact fd)⟩
    have ex := nx x (by rw [hx]; exact fun z => by cases z)
    have hx' : m' x = some (.dct (dI s0)) := (i.f x ex.1 ex.2.1 ex.2.2).trans hx
    have eF : runF code g am s0 = M := by rw [← i.fin, runN_done (by rw [hf]; exact st_ne.1)]
    refine ⟨_, asK_cell hx', fun kp hkp => ?_⟩
    walk_at "g"
    refine ⟨_, ?_, gc kp _⟩
    have := q kp (fresh kp hkp)
    unfold runR runS at this
    rw [eF, if_pos hf, if_pos hf, decide_eq_false (fun z => z hf)] at this
    exact this
  obtain ⟨kp, e⟩ : ∃ z, z = p := ⟨_, rfl⟩
  subst e
  have hkp : m' kp = none := by assumption
  have rd' := i.r.hd
  have nd : A.d ≠ kp := fun e => by rw [e, hkp] at rd'; cases rd'
  have hsl : (sortI (M.sto.map (·.1))).length ≤ 800 := by
    rw [(sortI_perm _).length_eq, List.length_map]
    have := i.len
    have := i.n202
    omega
  refine ⟨dI M.sto, asK_cell ((mup_ne nd).trans rd'), M.sto.map (·.1), dI_keys _, ?_⟩
  walk_at "g"
  refine for_pre (fun k : Int => D.int k) (fun pre ρ m1 => ∃ o6, m1 = mup m' kp (.dct (dI (keepP M.sto pre []))) ∧ ρ = [some (.str code), some (.int g), some (.int am), some (.adr x), some (.adr A.p), some (.adr kp), o6]) (sortI (M.sto.map (·.1))) ⟨_, rfl, rfl⟩ (fun _ _ _ _ => rfl) ?_ ?_
  · rintro pre k post ρ m1 hpp ⟨o6, rfl, rfl⟩
    refine ⟨_, by walk_at "t", ?_⟩
    have hk : k ∈ M.sto.map (·.1) := (sortI_perm _).mem_iff.mp (by rw [hpp]; simp)
    obtain ⟨v, hv⟩ := getI_mem hk
    have hg : gK (dI M.sto) (.int k) = some (.int v) := by rw [gK_dI, hv]; rfl
    have hpl : pre.length ≤ 800 := by rw [hpp] at hsl; simp at hsl; omega
    have hkl := keepP_len M.sto pre []
    have hal : (dI (keepP M.sto pre [])).length < sizeLine := by rw [dI_len, sizeLine_eq]; simp at hkl; omega
    have hs := keepP_snoc M.sto k pre []
    rw [hv] at hs
    have rd2 : mup m' kp (.dct (dI (keepP M.sto pre []))) A.d = some (.dct (dI M.sto)) := (mup_ne nd).trans rd'
    walk_at "g"
    · have hv0 : v ≠ 0 := by assumption
      rw [if_pos (show (some v).getD 0 ≠ 0 from hv0)] at hs
      rw [hs, sK_dI]
      exact .mk ⟨_, rfl, rfl⟩
    · have hv0 : v = 0 := by omega
      rw [if_neg (show ¬ (some v).getD 0 ≠ 0 from fun z => z hv0)] at hs
      rw [hs]
      exact .mk ⟨_, rfl, rfl⟩
  · rintro ρ m1 ⟨o6, rfl, rfl⟩
    have n1 : M.st ≠ stR := by assumption
    have n2 : M.st ≠ stF := by assumption
    have eF : runF code g am s0 = M := by rw [← i.fin, runN_done n1]
    walk_at "g"
    refine ⟨_, ?_, gc kp _⟩
    have := q kp (fresh kp hkp)
    unfold runR runS at this
    rw [eF, if_neg n2, if_neg n2, decide_eq_true n2] at this
    exact this
theorem sc_l_is_integer : FnScope ["_law_actual"] ["_law_actual"] (defScope s_l_is_integer) := ⟨rfl, rfl, rfl, by decide +kernel, rfl, by decide +kernel, by decide +kernel⟩
def sp_l_is_integer : VSp := fun ds m Q _ => ∃ i : Int, ds = [.int i] ∧ Q (.bl true) m

theorem ok_l_is_integer (T : Txt K mg a) : FnOk P w K mg base CX0 1 a.l_is_integer a.fd_l_is_integer ["_law_actual"] (lowSp K 1 sp_l_is_integer) := by
  refine ufun T.F_l_is_integer sc_l_is_integer fun cdv A outer s H E B hr => ⟨_, let nd := sc_l_is_integer.nd; (uss_one (us_ret (ue_and (ue_isinst (t := "int") (by rfl) T.n_isinstance bt_isinstance (ue_var 0) (by rfl) T.n_int bt_int) (ue_one (ue_not (ue_isinst (t := "bool") (by rfl) T.n_isinstance bt_isinstance (ue_var 0) (by rfl) T.n_bool bt_bool)))))), ?_⟩
  intro ds m Q PX hl h
  clear hl hr B E H s outer cdv A T
  obtain ⟨i, rfl, q⟩ := h
  walk_at "g"
  all_goals exact q
theorem sc_law : FnScope ["_law_script", "_law_signs", "_law_code", "_law_way", "_law_given", "_law_amount", "_law_store", "_law_value", "_law_kept", "_law_due", "_law_actual", "_law_cell_here", "_law_key"] ["_law_script"] (defScope s_law) := ⟨rfl, rfl, rfl, by decide +kernel, rfl, by decide +kernel, by decide +kernel⟩
abbrev sp_law : VSp := spLawD
def signs31 : Str := "0123456789gginasmtcehlujfyo1203"
theorem repM_len {a : Str} {n : Int} : (repS a n).length = n.toNat * a.length := by
  unfold repS
  show (List.foldl (· ++ ·) #[] (List.replicate n.toNat a.cps)).size = _
  rw [foldl_size, List.map_replicate, List.sum_replicate_nat]
  simp [Str.length]
theorem cut5 (z : Str) {n : Int} (h0 : 0 ≤ n) (h : n < 6) : (cutS z none (some n)).length ≤ 5 := by
  obtain ⟨k, rfl⟩ := Int.eq_ofNat_of_zero_le h0
  have : (cutS z none (some ((k : Nat) : Int))).cps.toList.length ≤ 5 := by
    rw [take_lt, List.length_take]
    omega
  exact this
theorem keysI (s : List (Int × Int)) : (dI s).map (fun p => dKey p.1) = (s.map (·.1)).map D.int := by
  unfold dI
  rw [List.map_map, List.map_map]
  rfl

theorem ok_law (T : Txt K mg a) : FnOk P w K mg base CX0 5 a.law a.fd_law ["_law_script"] (lowSp K 1 sp_law) := by
  refine ufun T.F_law sc_law fun cdv A outer s H E B hr => ⟨_, let nd := sc_law.nd; (uss_cons (us_set (i := 1) nd ue_str)
    (uss_cons (us_set (i := 2) nd (ue_bm PySem.F.plainAttrs_str PySem.F.slot_str_join PySem.F.type_str_join um_join ue_str (ua_cons (ue_lc (g := (.one 11)) rfl nd (ui_list (ue_slice (ue_var 0) (up_some ue_int) up_none)) (blkOk_by (N := ["_law_script", "_law_signs", "_law_code", "_law_way", "_law_given", "_law_amount", "_law_store", "_law_value", "_law_kept", "_law_due", "_law_actual", "_law_cell_here", "_law_key"]) (sc := defScope s_law) (own := [("_law_cell_here", 11)]) (by decide +kernel)) (fun _ _ _ _ _ => (pgn 11 nd)) (fun _ _ _ _ _ => uts_nil) (fun _ _ _ _ _ => (ue_ix (ue_var 1) (ue_op uo_mod (ue_callTy (ub_int) (by rfl) T.n_int bt_int (ua_cons (ue_var 11) ua_nil)) ue_int))) (by decide)) ua_nil)))
    (uss_cons (us_set (i := 3) nd (ue_call (ok_l_cell T) (hr.mono (by decide)) (by rfl) T.mg_l_cell T.F_l_cell.kp T.b_l_cell pass0 Wsh.no (ua_cons (ue_var 0) (ua_cons ue_int ua_nil))))
    (uss_cut (us_if (ut_cmp (uo_eq (u64 hr)) (ue_op uo_mod (ue_callTy (ub_int) (by rfl) T.n_int bt_int (ua_cons (ue_var 3) ua_nil)) ue_int) ue_int rfl) (uss_one (us_set (i := 2) nd (ue_op uo_mulU (ue_slice (ue_var 2) up_none (up_some (ue_op uo_mod (ue_op uo_fdiv (ue_var 3) ue_int) ue_int))) (ue_op uo_add ue_int (ue_op uo_mod (ue_op uo_fdiv (ue_var 3) ue_int) ue_int))))) uss_nil)
    (uss_cons (us_set (i := 4) nd (ue_op uo_mod (ue_callTy (ub_int) (by rfl) T.n_int bt_int (ua_cons (ue_call (ok_l_cell T) (hr.mono (by decide)) (by rfl) T.mg_l_cell T.F_l_cell.kp T.b_l_cell pass0 Wsh.no (ua_cons (ue_var 0) (ua_cons ue_int ua_nil))) ua_nil)) ue_int))
    (uss_cons (us_set (i := 5) nd (ue_op uo_mod (ue_op uo_fdiv (ue_call (ok_l_cell T) (hr.mono (by decide)) (by rfl) T.mg_l_cell T.F_l_cell.kp T.b_l_cell pass0 Wsh.no (ua_cons (ue_var 0) (ua_cons ue_int ua_nil))) ue_int) ue_int))
    (uss_cons (us_set (i := 6) nd ue_dnew)
    (uss_cons (us_for (g := (.one 7)) PassesOwn.never rfl (ui_list (ue_call (ok_l_row T) (hr.mono (by decide)) (by rfl) T.mg_l_row T.F_l_row.kp T.b_l_row pass0 Wsh.no (ua_cons (ue_call (ok_l_cell T) (hr.mono (by decide)) (by rfl) T.mg_l_cell T.F_l_cell.kp T.b_l_cell pass0 Wsh.no (ua_cons (ue_var 0) (ua_cons ue_int ua_nil))) (ua_cons (ue_op uo_mod (ue_callTy (ub_int) (by rfl) T.n_int bt_int (ua_cons (ue_call (ok_l_cell T) (hr.mono (by decide)) (by rfl) T.mg_l_cell T.F_l_cell.kp T.b_l_cell pass0 Wsh.no (ua_cons (ue_var 0) (ua_cons ue_int ua_nil))) ua_nil)) ue_int) (ua_cons ue_int ua_nil))))) (pgn 7 nd)
    (uss_one (us_dset (u1 (u64 hr)) (ue_var 6) (ue_op uo_mod (ue_callTy (ub_int) (by rfl) T.n_int bt_int (ua_cons (ue_var 7) ua_nil)) ue_int) (ue_op uo_add ue_int (ue_var 7)))))
    (uss_cons (us_set (i := 8) nd (ue_dictM (by rfl) T.n_dict (ua_cons (ue_var 6) ua_nil)))
    (uss_cons (us_set (i := 9) nd (ue_call (ok_l_run T) (hr.mono (by decide)) (by rfl) T.mg_l_run T.F_l_run.kp T.b_l_run pass0 Wsh.no (ua_cons (ue_var 2) (ua_cons (ue_var 4) (ua_cons (ue_var 5) (ua_cons (ue_var 8) ua_nil))))))
    (uss_cons (us_set (i := 10) nd (ue_call (ok_run T) (hr.mono (by decide)) (by rfl) T.mg_run T.F_run.kp T.b_run pass0 Wsh.no (ua_cons (ue_var 2) (ua_cons (ue_var 4) (ua_cons (ue_var 5) (ua_cons (ue_var 6) ua_nil))))))
    (uss_cons (us_if (UW.ut (uw_or (ut_cmp (uo_neK (u64 hr)) (ue_var 6) (ue_var 8) rfl) (uw_or (ut_not (ut_tru (ue_isinst (t := "bool") (by rfl) T.n_isinstance bt_isinstance (ue_fld (ks := ks_Run) (i := 0) (ue_var 10) T.c_Run T.at_Run_well (by decide +kernel)) (by rfl) T.n_bool bt_bool))) (uw_or1 (ut_not (ut_tru (ue_isinst (t := "dict") (by rfl) T.n_isinstance bt_isinstance (ue_fld (ks := ks_Run) (i := 1) (ue_var 10) T.c_Run T.at_Run_store (by decide +kernel)) (by rfl) T.n_dict bt_dict))))))) (uss_one (us_ret (ue_gc ue_bl))) uss_nil)
    (uss_cons (us_if (UW.ut (uw_or (ut_not (ut_tru (ue_call (ok_l_is_integer T) (hr.mono (by decide)) (by rfl) T.mg_l_is_integer T.F_l_is_integer.kp T.b_l_is_integer pass0 Wsh.no (ua_cons (ue_fld (ks := ks_Run) (i := 2) (ue_var 10) T.c_Run T.at_Run_paid (by decide +kernel)) ua_nil)))) (uw_or (ut_not (ut_tru (ue_call (ok_l_is_integer T) (hr.mono (by decide)) (by rfl) T.mg_l_is_integer T.F_l_is_integer.kp T.b_l_is_integer pass0 Wsh.no (ua_cons (ue_fld (ks := ks_Run) (i := 3) (ue_var 10) T.c_Run T.at_Run_steps (by decide +kernel)) ua_nil)))) (uw_or1 (ut_cmp uo_gt (ue_fld (ks := ks_Run) (i := 3) (ue_var 10) T.c_Run T.at_Run_steps (by decide +kernel)) ue_int rfl))))) (uss_one (us_ret (ue_gc ue_bl))) uss_nil)
    (uss_cons (us_if (ut_cmp (uo_neTK (u64 hr)) (ue_tup (ua_cons (ue_fld (ks := ks_Run) (i := 0) (ue_var 10) T.c_Run T.at_Run_well (by decide +kernel)) (ua_cons (ue_fld (ks := ks_Run) (i := 1) (ue_var 10) T.c_Run T.at_Run_store (by decide +kernel)) (ua_cons (ue_fld (ks := ks_Run) (i := 2) (ue_var 10) T.c_Run T.at_Run_paid (by decide +kernel)) (ua_cons (ue_fld (ks := ks_Run) (i := 3) (ue_var 10) T.c_Run T.at_Run_steps (by decide +kernel)) ua_nil))))) (ue_var 9) rfl) (uss_one (us_ret (ue_gc ue_bl))) uss_nil)
    (uss_one (us_ret (ue_gc (ue_or (ue_not (ue_ix (ue_var 9) ue_int)) (ue_one (ue_cmp (uo_eq (u64 hr)) (ue_lock (pk := pkF 10 1) (ue_lc (g := (.one 12)) rfl nd (ui_keys (ue_fld (ks := ks_Run) (i := 1) (ue_var 10) T.c_Run T.at_Run_store (by decide +kernel))) (blkOk_by (N := ["_law_script", "_law_signs", "_law_code", "_law_way", "_law_given", "_law_amount", "_law_store", "_law_value", "_law_kept", "_law_due", "_law_actual", "_law_cell_here", "_law_key"]) (sc := defScope s_law) (own := [("_law_key", 12)]) (by decide +kernel)) (fun _ _ _ _ _ => (pgn 12 nd)) (fun _ _ _ _ _ => uts_nil) (fun _ _ _ _ _ => (ue_var 12)) (by decide))) (ue_lock (pk := pkT 9 1) (ue_lc (g := (.one 12)) rfl nd (ui_keys (ue_ix (ue_var 9) ue_int)) (blkOk_by (N := ["_law_script", "_law_signs", "_law_code", "_law_way", "_law_given", "_law_amount", "_law_store", "_law_value", "_law_kept", "_law_due", "_law_actual", "_law_cell_here", "_law_key"]) (sc := defScope s_law) (own := [("_law_key", 12)]) (by decide +kernel)) (fun _ _ _ _ _ => (pgn 12 nd)) (fun _ _ _ _ _ => uts_nil) (fun _ _ _ _ _ => (ue_var 12)) (by decide))) rfl)))))))))))))))))))), ?_⟩
  intro ds m Q PX hl h
  clear hl hr B E H s outer cdv A T
  obtain ⟨ns, rfl, hn, rfl, q⟩ := h
  walk_at "g"
  have hcd : cutD (ns.map D.int) (some 3) none = (ns.drop 3).map D.int := cut_drop ns 3
  rw [hcd]
  have hdl : (ns.drop 3).length ≤ 63 := by rw [List.length_drop]; omega
  generalize ns.drop 3 = ds at hdl ⊢
  refine lc_all D.int (fun d : Int => D.str ⟨#[signs31.cps.toList.getD (d % 31).toNat 0]⟩) ds (by rw [sizeLine_eq]; omega) ?_ ?_
  · intro d hd acc R hs hR
    have h26 : (Str.ofString "0123456789gginasmtcehlujfyo1203").cps.toList.length = 31 := by decide +kernel
    have h0 : 0 ≤ d % 31 := by omega
    have h1 : d % 31 < 31 := by omega
    have hat : atI (Str.ofString "0123456789gginasmtcehlujfyo1203").cps.toList (d % 31) = some (signs31.cps.toList.getD (d % 31).toNat 0) := by
      obtain ⟨k, e⟩ := Int.eq_ofNat_of_zero_le h0
      rw [e] at h1 ⊢
      refine atI_nat ?_
      show _ = some ((Str.ofString "0123456789gginasmtcehlujfyo1203").cps.toList.getD k 0)
      rw [List.getD_eq_getElem?_getD, List.getElem?_eq_getElem (by omega)]
      rfl
    have hln : (Str.ofString "0123456789gginasmtcehlujfyo1203").length ≤ 100 := by decide +kernel
    refine ⟨_, by walk_at "t", ?_⟩
    walk_at "g"
    exact hR
  walk_at "g"
  refine ⟨(ds.map fun d : Int => signs31.cps.toList.getD (d % 31).toNat 0).map fun c => (⟨#[c]⟩ : Str), by rw [List.map_map, List.map_map]; rfl, ?_, ?_⟩
  · have he : (Str.ofString "").length = 0 := by decide +kernel
    have hs : (((ds.map fun d : Int => signs31.cps.toList.getD (d % 31).toNat 0).map fun c => (⟨#[c]⟩ : Str)).map Str.length).sum ≤ ((ds.map fun d : Int => signs31.cps.toList.getD (d % 31).toNat 0).map fun c => (⟨#[c]⟩ : Str)).length * 1 := sum_len fun w hw => by
      obtain ⟨c, _, rfl⟩ := List.mem_map.mp hw
      exact Nat.le_refl _
    rw [he]
    simp only [List.length_map] at hs ⊢
    omega
  rw [join_signs]
  obtain ⟨c0, hc0⟩ : ∃ c0 : Str, c0 = ⟨(ds.map fun d : Int => signs31.cps.toList.getD (d % 31).toNat 0).toArray⟩ := ⟨_, rfl⟩
  have hc0l : c0.length ≤ 63 := by
    rw [hc0]
    show (List.toArray _).size ≤ _
    simp
    exact hdl
  rw [← hc0]
  clear hc0 hcd hdl
  walk_at "g"
  refine ⟨fun ρ m => Iv (∃ code : Str, code.length ≤ 1000 ∧ m = (fun _ => none) ∧ ρ = [some (.fz (ns.map D.int)), some (.str (Str.ofString "0123456789gginasmtcehlujfyo1203")), some (.str code), some (.int (cell ns 0)), none, none, none, none, none, none, none, none, none]), .mk ?_, ?_⟩
  · walk_at "g"
    · have h5 := cut5 c0 (n := cell ns 0 / 4 % 6) (by omega) (by omega)
      have hr := repM_len (a := cutS c0 none (some (cell ns 0 / 4 % 6))) (n := 1 + cell ns 0 / 24 % 70)
      refine ⟨⟨by omega, by omega, by omega⟩, ?_⟩
      have hm : (1 + cell ns 0 / 24 % 70).toNat * (cutS c0 none (some (cell ns 0 / 4 % 6))).length ≤ 70 * 5 := Nat.mul_le_mul (by omega) h5
      walk_at "g"
      exact .mk ⟨_, by rw [hr]; omega, rfl, rfl⟩
    · exact .mk ⟨c0, by omega, rfl, rfl⟩
  rintro ρ m hI
  obtain ⟨code, hcl, rfl, rfl⟩ := hI.out
  clear hI
  walk_at "g"
  have hrl : (row (cell ns 2) (cell ns 2 % 4).toNat 40).length ≤ 3 := by rw [row_len]; omega
  have hrr : ∀ d ∈ row (cell ns 2) (cell ns 2 % 4).toNat 40, 0 ≤ d ∧ d < 40 := fun d hd => row_rng (by decide) hd
  generalize row (cell ns 2) (cell ns 2 % 4).toNat 40 = vs at hrl hrr ⊢
  refine for_pre D.int (fun pre ρ m' => ∃ s : List (Int × Int), s.length ≤ pre.length ∧ (s.map (·.1)).Nodup ∧ (∀ x ∈ s, NumOk x.2) ∧ m' = mup (fun _ => none) p (.dct (dI s)) ∧ ∃ o7, ρ = [some (.fz (ns.map D.int)), some (.str (Str.ofString "0123456789gginasmtcehlujfyo1203")), some (.str code), some (.int (cell ns 0)), some (.int (cell ns 1 % 1000000)), some (.int (cell ns 1 / 7 % 1000000)), some (.adr p), o7, none, none, none, none, none]) vs ⟨[], Nat.le_refl _, by simp, by simp, rfl, _, rfl⟩ (fun _ _ _ _ => rfl) ?_ ?_
  · rintro pre v post ρ m' hpp ⟨s, hs, hnd, hok, rfl, o7, rfl⟩
    refine ⟨_, by walk_at "t", ?_⟩
    obtain ⟨v0, v1⟩ := hrr v (by rw [hpp]; simp)
    have hpl : pre.length ≤ 3 := by
      have : pre.length ≤ vs.length := by rw [hpp]; simp
      omega
    have hdl : (dI s).length < sizeLine := by rw [dI_len, sizeLine_eq]; omega
    have es : ∀ k v, sK (dI s) (D.int k) (D.int v) = dI (setI s k v) := fun k v => sK_dI _ _ _
    walk_at "g"
    rw [es]
    refine .mk ⟨_, ?_, setI_nodup _ _ hnd, fun x hx => ?_, rfl, _, rfl⟩
    · have := setI_len s (v % 8) (1 + v)
      rw [List.length_append]
      show _ ≤ pre.length + 1
      omega
    · rcases setI_mem hx with e | hx
      · rw [e]; exact ⟨by omega, by omega⟩
      · exact hok x hx
  rintro ρ m' ⟨s, hs, hnd, hok, rfl, o7, rfl⟩
  have hs5 : s.length ≤ 500 := by omega
  have hcl5 : code.length ≤ 100000 := by omega
  walk_at "g"
  rename_i p1 h1
  obtain ⟨p2, e⟩ : ∃ z, z = p := ⟨_, rfl⟩
  subst e
  have n21 : p2 ≠ p1 := fresh_ne hp
  have m1a : mup (mup (fun _ => none) p1 (MO.dct (dI s))) p2 (MO.dct (dI s)) p1 = some (.dct (dI s)) := (mup_ne n21.symm).trans mup_same
  have m1b : mup (mup (fun _ => none) p1 (MO.dct (dI s))) p2 (MO.dct (dI s)) p2 = some (.dct (dI s)) := mup_same
  generalize mup (mup (fun _ => none) p1 (MO.dct (dI s))) p2 (MO.dct (dI s)) = m1 at m1a m1b ⊢
  clear hp
  refine ⟨code, _, _, p2, s, rfl, m1b, hok, hs5, hcl5, fun k1 hk1 => ?_⟩
  have hst : (runF code (cell ns 1 % 1000000) (cell ns 1 / 7 % 1000000) s).steps ≤ 200 := runF_steps hok
  have hndF := runS_nodup (F := runF code (cell ns 1 % 1000000) (cell ns 1 / 7 % 1000000) s) hnd
  have hdc := dcE_dI hnd
  have hdF := dcE_dI hndF
  have n1 : k1 ≠ p1 := fun e => by rw [e, m1a] at hk1; cases hk1
  have n2 : k1 ≠ p2 := fun e => by rw [e, m1b] at hk1; cases hk1
  have m2a : ∀ o, mup m1 k1 o p1 = some (.dct (dI s)) := fun o => (mup_ne n1.symm).trans m1a
  have m2b : ∀ o, mup m1 k1 o p2 = some (.dct (dI s)) := fun o => (mup_ne n2.symm).trans m1b
  have m2k : ∀ o, mup m1 k1 o k1 = some o := fun o => mup_same
  have m2a := m2a (.dct (dI (runS (runF code (cell ns 1 % 1000000) (cell ns 1 / 7 % 1000000) s) s)))
  have m2b := m2b (.dct (dI (runS (runF code (cell ns 1 % 1000000) (cell ns 1 / 7 % 1000000) s) s)))
  have m2k := m2k (.dct (dI (runS (runF code (cell ns 1 % 1000000) (cell ns 1 / 7 % 1000000) s) s)))
  generalize mup m1 k1 (.dct (dI (runS (runF code (cell ns 1 % 1000000) (cell ns 1 / 7 % 1000000) s) s))) = m2 at m2a m2b m2k ⊢
  clear m1a m1b
  walk_at "g"
  obtain ⟨k2, e⟩ : ∃ z, z = p := ⟨_, rfl⟩
  subst e
  have n3 : k2 ≠ p1 := fun e => by rw [e, m2a] at hp; cases hp
  have n4 : k2 ≠ p2 := fun e => by rw [e, m2b] at hp; cases hp
  have n5 : k2 ≠ k1 := fun e => by rw [e, m2k] at hp; cases hp
  have m3a := (mup_ne (o := .dct (dI (runS (runF code (cell ns 1 % 1000000) (cell ns 1 / 7 % 1000000) s) s))) n3.symm).trans m2a
  have m3b := (mup_ne (o := .dct (dI (runS (runF code (cell ns 1 % 1000000) (cell ns 1 / 7 % 1000000) s) s))) n4.symm).trans m2b
  have m3k := (mup_ne (o := .dct (dI (runS (runF code (cell ns 1 % 1000000) (cell ns 1 / 7 % 1000000) s) s))) n5.symm).trans m2k
  have m3l : mup m2 k2 (.dct (dI (runS (runF code (cell ns 1 % 1000000) (cell ns 1 / 7 % 1000000) s) s))) k2 = _ := mup_same
  generalize mup m2 k2 (.dct (dI (runS (runF code (cell ns 1 % 1000000) (cell ns 1 / 7 % 1000000) s) s))) = m3 at m3a m3b m3k m3l ⊢
  clear m2a m2b m2k hp
  have hFl : (runS (runF code (cell ns 1 % 1000000) (cell ns 1 / 7 % 1000000) s) s).length ≤ 1000000 := by
    have := runS_len (code := code) (g := cell ns 1 % 1000000) (am := cell ns 1 / 7 % 1000000) (s0 := s)
    omega
  refine ⟨p1, p2, _, _, rfl, rfl, m3a, m3b, hdc, ?_⟩
  unfold runR
  generalize runS (runF code (cell ns 1 % 1000000) (cell ns 1 / 7 % 1000000) s) s = sF at *
  generalize runF code (cell ns 1 % 1000000) (cell ns 1 / 7 % 1000000) s = F at *
  obtain ⟨pd, hpd⟩ : ∃ pd : Int, pd = if F.st = stF then 0 else F.paid := ⟨_, rfl⟩
  rw [← hpd]
  generalize decide (F.st ≠ stF) = wl
  generalize F.steps = stp at *
  have heq : EqDs m3 [D.bl wl, D.adr k2, D.int pd, D.int stp] [D.bl wl, D.adr k1, D.int pd, D.int stp] := .cons (.sc rfl rfl) (.cons (.dc m3l m3k hdF) (.cons (.sc rfl rfl) (.cons (.sc rfl rfl) .nil)))
  walk_at "g"
  · exfalso
    omega
  · exact q _
  have n54 : k1 ≠ k2 := n5.symm
  have hkl : (sF.map (·.1)).length ≤ sizeLine := by rw [sizeLine_eq, List.length_map]; omega
  rw [keysI]
  refine lc_all D.int D.int _ hkl ?_ ?_
  · intro k hk acc R hl hR
    refine ⟨_, by walk_at "t", ?_⟩
    walk_at "g"
    exact hR
  refine ⟨m3, rfl, m3l, ?_⟩
  walk_at "g"
  rw [keysI]
  refine lc_all D.int D.int _ hkl ?_ ?_
  · intro k hk acc R hl hR
    refine ⟨_, by walk_at "t", ?_⟩
    walk_at "g"
    exact hR
  refine ⟨m3, rfl, m3k, ?_⟩
  have hq : deq (.lst ((sF.map (·.1)).map D.int)) (.lst ((sF.map (·.1)).map D.int)) = true := deq_refl _ (show (D.lst ((sF.map (·.1)).map D.int)).dat = true from fit_dat (fit_ints _))
  walk_at "g"
  exact q _

theorem all_mk {l : PySem.W.OpenLaw} {w : World} {K : PySem.W.Frag} {h : Heap} {mg : Str → Option Value} {fa : Addr} {f1 : Addr} {od1 an1 : Option Addr} {sl1 : Array (Option Value)} {oc1 kV1 dc1 pm1 cd1 ct1 : Value} {f2 : Addr} {od2 an2 : Option Addr} {sl2 : Array (Option Value)} {oc2 kV2 dc2 pm2 cd2 ct2 : Value} {f3 : Addr} {od3 an3 : Option Addr} {sl3 : Array (Option Value)} {oc3 kV3 dc3 pm3 cd3 ct3 : Value} {f4 : Addr} {od4 an4 : Option Addr} {sl4 : Array (Option Value)} {oc4 kV4 dc4 pm4 cd4 ct4 : Value} {f5 : Addr} {od5 an5 : Option Addr} {sl5 : Array (Option Value)} {oc5 kV5 dc5 pm5 cd5 ct5 : Value} {f6 : Addr} {od6 an6 : Option Addr} {sl6 : Array (Option Value)} {oc6 kV6 dc6 pm6 cd6 ct6 : Value} {f7 : Addr} {od7 an7 : Option Addr} {sl7 : Array (Option Value)} {oc7 kV7 dc7 pm7 cd7 ct7 : Value} {f8 : Addr} {od8 an8 : Option Addr} {sl8 : Array (Option Value)} {oc8 kV8 dc8 pm8 cd8 ct8 : Value} {f9 : Addr} {od9 an9 : Option Addr} {sl9 : Array (Option Value)} {oc9 kV9 dc9 pm9 cd9 ct9 : Value} {f10 : Addr} {od10 an10 : Option Addr} {sl10 : Array (Option Value)} {oc10 kV10 dc10 pm10 cd10 ct10 : Value} {f11 : Addr} {od11 an11 : Option Addr} {sl11 : Array (Option Value)} {oc11 kV11 dc11 pm11 cd11 ct11 : Value} {f12 : Addr} {od12 an12 : Option Addr} {sl12 : Array (Option Value)} {oc12 kV12 dc12 pm12 cd12 ct12 : Value} {f13 : Addr} {od13 an13 : Option Addr} {sl13 : Array (Option Value)} {oc13 kV13 dc13 pm13 cd13 ct13 : Value} {f14 : Addr} {od14 an14 : Option Addr} {sl14 : Array (Option Value)} {oc14 kV14 dc14 pm14 cd14 ct14 : Value} {f15 : Addr} {od15 an15 : Option Addr} {sl15 : Array (Option Value)} {oc15 kV15 dc15 pm15 cd15 ct15 : Value} {f16 : Addr} {od16 an16 : Option Addr} {sl16 : Array (Option Value)} {oc16 kV16 dc16 pm16 cd16 ct16 : Value} {f17 : Addr} {od17 an17 : Option Addr} {sl17 : Array (Option Value)} {oc17 kV17 dc17 pm17 cd17 ct17 : Value} {C_Run : Addr} {C_Machine : Addr} {tg_MOST_STEPS : Tok} {tg_MOST_HEIGHT : Tok} {tg_MODULUS : Tok} (X : K.In h) (G : h.Ns mainGlobals mg) (hfa : mg "law" = some (.ref fa))
    (ac_Run : PySem.W.nsIn K mainGlobals "Run" = some (some (.ref C_Run)))
    (ac_Machine : PySem.W.nsIn K mainGlobals "Machine" = some (some (.ref C_Machine)))
    (a1 : PySem.W.nsIn K mainGlobals "_law_cell" = some (some (.ref f1)))
    (l1 : K.lookup f1 = some ⟨oc1, od1, .func (PySem.W.fnOf "_law_cell" "_law_cell" (defArgs s_l_cell) (defBody s_l_cell) (defScope s_l_cell) .none kV1 dc1 pm1 an1 cd1 ct1), sl1⟩)
    (c1 : PySem.W.codeIn K cd1 "_law_cell" = true)
    (k1 : PySem.W.keepIn K (.ref f1) = true)
    (a2 : PySem.W.nsIn K mainGlobals "_law_row" = some (some (.ref f2)))
    (l2 : K.lookup f2 = some ⟨oc2, od2, .func (PySem.W.fnOf "_law_row" "_law_row" (defArgs s_l_row) (defBody s_l_row) (defScope s_l_row) .none kV2 dc2 pm2 an2 cd2 ct2), sl2⟩)
    (c2 : PySem.W.codeIn K cd2 "_law_row" = true)
    (k2 : PySem.W.keepIn K (.ref f2) = true)
    (a3 : PySem.W.nsIn K mainGlobals "_law_need" = some (some (.ref f3)))
    (l3 : K.lookup f3 = some ⟨oc3, od3, .func (PySem.W.fnOf "_law_need" "_law_need" (defArgs s_l_need) (defBody s_l_need) (defScope s_l_need) .none kV3 dc3 pm3 an3 cd3 ct3), sl3⟩)
    (c3 : PySem.W.codeIn K cd3 "_law_need" = true)
    (k3 : PySem.W.keepIn K (.ref f3) = true)
    (a4 : PySem.W.nsIn K mainGlobals "_law_reckon" = some (some (.ref f4)))
    (l4 : K.lookup f4 = some ⟨oc4, od4, .func (PySem.W.fnOf "_law_reckon" "_law_reckon" (defArgs s_l_reckon) (defBody s_l_reckon) (defScope s_l_reckon) .none kV4 dc4 pm4 an4 cd4 ct4), sl4⟩)
    (c4 : PySem.W.codeIn K cd4 "_law_reckon" = true)
    (k4 : PySem.W.keepIn K (.ref f4) = true)
    (a5 : PySem.W.nsIn K mainGlobals "_law_act" = some (some (.ref f5)))
    (l5 : K.lookup f5 = some ⟨oc5, od5, .func (PySem.W.fnOf "_law_act" "_law_act" (defArgs s_l_act) (defBody s_l_act) (defScope s_l_act) .none kV5 dc5 pm5 an5 cd5 ct5), sl5⟩)
    (c5 : PySem.W.codeIn K cd5 "_law_act" = true)
    (k5 : PySem.W.keepIn K (.ref f5) = true)
    (a6 : PySem.W.nsIn K mainGlobals "_law_sign" = some (some (.ref f6)))
    (l6 : K.lookup f6 = some ⟨oc6, od6, .func (PySem.W.fnOf "_law_sign" "_law_sign" (defArgs s_l_sign) (defBody s_l_sign) (defScope s_l_sign) .none kV6 dc6 pm6 an6 cd6 ct6), sl6⟩)
    (c6 : PySem.W.codeIn K cd6 "_law_sign" = true)
    (k6 : PySem.W.keepIn K (.ref f6) = true)
    (a7 : PySem.W.nsIn K mainGlobals "_law_run" = some (some (.ref f7)))
    (l7 : K.lookup f7 = some ⟨oc7, od7, .func (PySem.W.fnOf "_law_run" "_law_run" (defArgs s_l_run) (defBody s_l_run) (defScope s_l_run) .none kV7 dc7 pm7 an7 cd7 ct7), sl7⟩)
    (c7 : PySem.W.codeIn K cd7 "_law_run" = true)
    (k7 : PySem.W.keepIn K (.ref f7) = true)
    (a8 : PySem.W.findIn K (.ref C_Machine) "__init__" = some (some (.ref f8)))
    (i8 : PySem.W.isFn K (.ref f8) = true)
    (l8 : K.lookup f8 = some ⟨oc8, od8, .func (PySem.W.fnOf "__init__" "Machine.__init__" (defArgs s_Machine_init) (defBody s_Machine_init) (defScope s_Machine_init) .none kV8 dc8 pm8 an8 cd8 ct8), sl8⟩)
    (c8 : PySem.W.codeIn K cd8 "Machine.__init__" = true)
    (k8 : PySem.W.keepIn K (.ref f8) = true)
    (a9 : PySem.W.findIn K (.ref C_Machine) "push" = some (some (.ref f9)))
    (i9 : PySem.W.isFn K (.ref f9) = true)
    (l9 : K.lookup f9 = some ⟨oc9, od9, .func (PySem.W.fnOf "push" "Machine.push" (defArgs s_Machine_push) (defBody s_Machine_push) (defScope s_Machine_push) .none kV9 dc9 pm9 an9 cd9 ct9), sl9⟩)
    (c9 : PySem.W.codeIn K cd9 "Machine.push" = true)
    (k9 : PySem.W.keepIn K (.ref f9) = true)
    (a10 : PySem.W.findIn K (.ref C_Machine) "pop" = some (some (.ref f10)))
    (i10 : PySem.W.isFn K (.ref f10) = true)
    (l10 : K.lookup f10 = some ⟨oc10, od10, .func (PySem.W.fnOf "pop" "Machine.pop" (defArgs s_Machine_pop) (defBody s_Machine_pop) (defScope s_Machine_pop) .none kV10 dc10 pm10 an10 cd10 ct10), sl10⟩)
    (c10 : PySem.W.codeIn K cd10 "Machine.pop" = true)
    (k10 : PySem.W.keepIn K (.ref f10) = true)
    (a11 : PySem.W.findIn K (.ref C_Machine) "reckon" = some (some (.ref f11)))
    (i11 : PySem.W.isFn K (.ref f11) = true)
    (l11 : K.lookup f11 = some ⟨oc11, od11, .func (PySem.W.fnOf "reckon" "Machine.reckon" (defArgs s_Machine_reckon) (defBody s_Machine_reckon) (defScope s_Machine_reckon) .none kV11 dc11 pm11 an11 cd11 ct11), sl11⟩)
    (c11 : PySem.W.codeIn K cd11 "Machine.reckon" = true)
    (k11 : PySem.W.keepIn K (.ref f11) = true)
    (a12 : PySem.W.findIn K (.ref C_Machine) "act" = some (some (.ref f12)))
    (i12 : PySem.W.isFn K (.ref f12) = true)
    (l12 : K.lookup f12 = some ⟨oc12, od12, .func (PySem.W.fnOf "act" "Machine.act" (defArgs s_Machine_act) (defBody s_Machine_act) (defScope s_Machine_act) .none kV12 dc12 pm12 an12 cd12 ct12), sl12⟩)
    (c12 : PySem.W.codeIn K cd12 "Machine.act" = true)
    (k12 : PySem.W.keepIn K (.ref f12) = true)
    (a13 : PySem.W.findIn K (.ref C_Machine) "step" = some (some (.ref f13)))
    (i13 : PySem.W.isFn K (.ref f13) = true)
    (l13 : K.lookup f13 = some ⟨oc13, od13, .func (PySem.W.fnOf "step" "Machine.step" (defArgs s_Machine_step) (defBody s_Machine_step) (defScope s_Machine_step) .none kV13 dc13 pm13 an13 cd13 ct13), sl13⟩)
    (c13 : PySem.W.codeIn K cd13 "Machine.step" = true)
    (k13 : PySem.W.keepIn K (.ref f13) = true)
    (a14 : PySem.W.findIn K (.ref C_Run) "__init__" = some (some (.ref f14)))
    (i14 : PySem.W.isFn K (.ref f14) = true)
    (l14 : K.lookup f14 = some ⟨oc14, od14, .func (PySem.W.fnOf "__init__" "Run.__init__" (defArgs s_Run_init) (defBody s_Run_init) (defScope s_Run_init) .none kV14 dc14 pm14 an14 cd14 ct14), sl14⟩)
    (c14 : PySem.W.codeIn K cd14 "Run.__init__" = true)
    (k14 : PySem.W.keepIn K (.ref f14) = true)
    (a15 : PySem.W.nsIn K mainGlobals "run" = some (some (.ref f15)))
    (l15 : K.lookup f15 = some ⟨oc15, od15, .func (PySem.W.fnOf "run" "run" (defArgs s_run) (defBody s_run) (defScope s_run) .none kV15 dc15 pm15 an15 cd15 ct15), sl15⟩)
    (c15 : PySem.W.codeIn K cd15 "run" = true)
    (k15 : PySem.W.keepIn K (.ref f15) = true)
    (a16 : PySem.W.nsIn K mainGlobals "_law_is_integer" = some (some (.ref f16)))
    (l16 : K.lookup f16 = some ⟨oc16, od16, .func (PySem.W.fnOf "_law_is_integer" "_law_is_integer" (defArgs s_l_is_integer) (defBody s_l_is_integer) (defScope s_l_is_integer) .none kV16 dc16 pm16 an16 cd16 ct16), sl16⟩)
    (c16 : PySem.W.codeIn K cd16 "_law_is_integer" = true)
    (k16 : PySem.W.keepIn K (.ref f16) = true)
    (a17 : PySem.W.nsIn K mainGlobals "law" = some (some (.ref f17)))
    (l17 : K.lookup f17 = some ⟨oc17, od17, .func (PySem.W.fnOf "law" "law" (defArgs s_law) (defBody s_law) (defScope s_law) .none kV17 dc17 pm17 an17 cd17 ct17), sl17⟩)
    (c17 : PySem.W.codeIn K cd17 "law" = true)
    (k17 : PySem.W.keepIn K (.ref f17) = true)
    (pg_Run : PySem.W.plainGet K C_Run Str.empty = true)
    (hd_Run : PySem.W.hasDictIn K C_Run = true)
    (po_Run : PySem.W.plainOver K C_Run = true)
    (sa_Run : PySem.W.findIn K (.ref C_Run) "__setattr__" = some (some (.builtin "object.__setattr__")))
    (mk_Run : PySem.W.makesIn K C_Run = true)
    (kc_Run : PySem.W.keepIn K (.ref C_Run) = true)
    (no_Run_paid : PySem.W.findIn K (.ref C_Run) "paid" = some none)
    (no_Run_steps : PySem.W.findIn K (.ref C_Run) "steps" = some none)
    (no_Run_store : PySem.W.findIn K (.ref C_Run) "store" = some none)
    (no_Run_well : PySem.W.findIn K (.ref C_Run) "well" = some none)
    (pg_Machine : PySem.W.plainGet K C_Machine Str.empty = true)
    (hd_Machine : PySem.W.hasDictIn K C_Machine = true)
    (po_Machine : PySem.W.plainOver K C_Machine = true)
    (sa_Machine : PySem.W.findIn K (.ref C_Machine) "__setattr__" = some (some (.builtin "object.__setattr__")))
    (mk_Machine : PySem.W.makesIn K C_Machine = true)
    (kc_Machine : PySem.W.keepIn K (.ref C_Machine) = true)
    (no_Machine_amount : PySem.W.findIn K (.ref C_Machine) "amount" = some none)
    (no_Machine_code : PySem.W.findIn K (.ref C_Machine) "code" = some none)
    (no_Machine_given : PySem.W.findIn K (.ref C_Machine) "given" = some none)
    (no_Machine_paid : PySem.W.findIn K (.ref C_Machine) "paid" = some none)
    (no_Machine_place : PySem.W.findIn K (.ref C_Machine) "place" = some none)
    (no_Machine_stack : PySem.W.findIn K (.ref C_Machine) "stack" = some none)
    (no_Machine_state : PySem.W.findIn K (.ref C_Machine) "state" = some none)
    (no_Machine_steps : PySem.W.findIn K (.ref C_Machine) "steps" = some none)
    (no_Machine_store : PySem.W.findIn K (.ref C_Machine) "store" = some none)
    (nb_bool : PySem.W.nsIn K mainGlobals "bool" = some none)
    (nb_dict : PySem.W.nsIn K mainGlobals "dict" = some none)
    (nb_int : PySem.W.nsIn K mainGlobals "int" = some none)
    (nb_isinstance : PySem.W.nsIn K mainGlobals "isinstance" = some none)
    (nb_len : PySem.W.nsIn K mainGlobals "len" = some none)
    (nb_max : PySem.W.nsIn K mainGlobals "max" = some none)
    (nb_range : PySem.W.nsIn K mainGlobals "range" = some none)
    (nb_sorted : PySem.W.nsIn K mainGlobals "sorted" = some none)
    (nc_MOST_STEPS : PySem.W.nsIn K mainGlobals "MOST_STEPS" = some (some (.int (200) tg_MOST_STEPS)))
    (nc_MOST_HEIGHT : PySem.W.nsIn K mainGlobals "MOST_HEIGHT" = some (some (.int (16) tg_MOST_HEIGHT)))
    (nc_MODULUS : PySem.W.nsIn K mainGlobals "MODULUS" = some (some (.int (1000000) tg_MODULUS))) :
    ∃ fd : FuncData, (∀ (s : Shared) (v : Value), BindsTo s fd ⟨[v], []⟩ [("_law_script", v)]) ∧ ∀ base : Heap, K.In base → base.Ns mainGlobals mg → FnOk l.prog w K mg base CX0 5 fa fd ["_law_script"] (lowSp K 1 spLawD) := by
  have e := hfa.symm.trans (PySem.W.mg_of X G a17)
  cases e
  have F1 := fun_mk (st := s_l_cell) l1 c1 k1
  have b1 := F1.binds (ps := ["_law_script", "_law_k"]) fun _ _ _ _ _ _ us hl => match us, hl with | [_, _], _ => rfl
  have F2 := fun_mk (st := s_l_row) l2 c2 k2
  have b2 := F2.binds (ps := ["_law_cell_here", "_law_count", "_law_size"]) fun _ _ _ _ _ _ us hl => match us, hl with | [_, _, _], _ => rfl
  have F3 := fun_mk (st := s_l_need) l3 c3 k3
  have b3 := F3.binds (ps := ["_law_sign_here"]) fun _ _ _ _ _ _ us hl => match us, hl with | [_], _ => rfl
  have F4 := fun_mk (st := s_l_reckon) l4 c4 k4
  have b4 := F4.binds (ps := ["_law_sign_here", "_law_left", "_law_right"]) fun _ _ _ _ _ _ us hl => match us, hl with | [_, _, _], _ => rfl
  have F5 := fun_mk (st := s_l_act) l5 c5 k5
  have b5 := F5.binds (ps := ["_law_sign_here", "_law_top", "_law_stack", "_law_store", "_law_state"]) fun _ _ _ _ _ _ us hl => match us, hl with | [_, _, _, _, _], _ => rfl
  have F6 := fun_mk (st := s_l_sign) l6 c6 k6
  have b6 := F6.binds (ps := ["_law_sign_here", "_law_given", "_law_amount", "_law_stack", "_law_store", "_law_state"]) fun _ _ _ _ _ _ us hl => match us, hl with | [_, _, _, _, _, _], _ => rfl
  have F7 := fun_mk (st := s_l_run) l7 c7 k7
  have b7 := F7.binds (ps := ["_law_code", "_law_given", "_law_amount", "_law_store"]) fun _ _ _ _ _ _ us hl => match us, hl with | [_, _, _, _], _ => rfl
  have F8 := fun_mk (st := s_Machine_init) l8 c8 k8
  have b8 := F8.binds (ps := ["self", "code", "given", "amount", "store"]) fun _ _ _ _ _ _ us hl => match us, hl with | [_, _, _, _, _], _ => rfl
  have F9 := fun_mk (st := s_Machine_push) l9 c9 k9
  have b9 := F9.binds (ps := ["self", "value"]) fun _ _ _ _ _ _ us hl => match us, hl with | [_, _], _ => rfl
  have F10 := fun_mk (st := s_Machine_pop) l10 c10 k10
  have b10 := F10.binds (ps := ["self"]) fun _ _ _ _ _ _ us hl => match us, hl with | [_], _ => rfl
  have F11 := fun_mk (st := s_Machine_reckon) l11 c11 k11
  have b11 := F11.binds (ps := ["self", "sign"]) fun _ _ _ _ _ _ us hl => match us, hl with | [_, _], _ => rfl
  have F12 := fun_mk (st := s_Machine_act) l12 c12 k12
  have b12 := F12.binds (ps := ["self", "sign"]) fun _ _ _ _ _ _ us hl => match us, hl with | [_, _], _ => rfl
  have F13 := fun_mk (st := s_Machine_step) l13 c13 k13
  have b13 := F13.binds (ps := ["self"]) fun _ _ _ _ _ _ us hl => match us, hl with | [_], _ => rfl
  have F14 := fun_mk (st := s_Run_init) l14 c14 k14
  have b14 := F14.binds (ps := ["self", "well", "store", "paid", "steps"]) fun _ _ _ _ _ _ us hl => match us, hl with | [_, _, _, _, _], _ => rfl
  have F15 := fun_mk (st := s_run) l15 c15 k15
  have b15 := F15.binds (ps := ["code", "given", "amount", "store"]) fun _ _ _ _ _ _ us hl => match us, hl with | [_, _, _, _], _ => rfl
  have F16 := fun_mk (st := s_l_is_integer) l16 c16 k16
  have b16 := F16.binds (ps := ["_law_actual"]) fun _ _ _ _ _ _ us hl => match us, hl with | [_], _ => rfl
  have F17 := fun_mk (st := s_law) l17 c17 k17
  have b17 := F17.binds (ps := ["_law_script"]) fun _ _ _ _ _ _ us hl => match us, hl with | [_], _ => rfl
  have T : Txt K mg { l_cell := f1, fd_l_cell := _, l_row := f2, fd_l_row := _, l_need := f3, fd_l_need := _, l_reckon := f4, fd_l_reckon := _, l_act := f5, fd_l_act := _, l_sign := f6, fd_l_sign := _, l_run := f7, fd_l_run := _, Machine_init := f8, fd_Machine_init := _, Machine_push := f9, fd_Machine_push := _, Machine_pop := f10, fd_Machine_pop := _, Machine_reckon := f11, fd_Machine_reckon := _, Machine_act := f12, fd_Machine_act := _, Machine_step := f13, fd_Machine_step := _, Run_init := f14, fd_Run_init := _, run := f15, fd_run := _, l_is_integer := f16, fd_l_is_integer := _, law := fa, fd_law := _, C_Run := C_Run, C_Machine := C_Machine } := { F_l_cell := F1, b_l_cell := b1, mg_l_cell := PySem.W.mg_of X G a1, F_l_row := F2, b_l_row := b2, mg_l_row := PySem.W.mg_of X G a2, F_l_need := F3, b_l_need := b3, mg_l_need := PySem.W.mg_of X G a3, F_l_reckon := F4, b_l_reckon := b4, mg_l_reckon := PySem.W.mg_of X G a4, F_l_act := F5, b_l_act := b5, mg_l_act := PySem.W.mg_of X G a5, F_l_sign := F6, b_l_sign := b6, mg_l_sign := PySem.W.mg_of X G a6, F_l_run := F7, b_l_run := b7, mg_l_run := PySem.W.mg_of X G a7, F_Machine_init := F8, b_Machine_init := b8, F_Machine_push := F9, b_Machine_push := b9, M_Machine_push := ⟨a9, i9, k9⟩, F_Machine_pop := F10, b_Machine_pop := b10, M_Machine_pop := ⟨a10, i10, k10⟩, F_Machine_reckon := F11, b_Machine_reckon := b11, M_Machine_reckon := ⟨a11, i11, k11⟩, F_Machine_act := F12, b_Machine_act := b12, M_Machine_act := ⟨a12, i12, k12⟩, F_Machine_step := F13, b_Machine_step := b13, M_Machine_step := ⟨a13, i13, k13⟩, F_Run_init := F14, b_Run_init := b14, F_run := F15, b_run := b15, mg_run := PySem.W.mg_of X G a15, F_l_is_integer := F16, b_l_is_integer := b16, mg_l_is_integer := PySem.W.mg_of X G a16, F_law := F17, b_law := b17, mg_law := PySem.W.mg_of X G a17, c_Run := ⟨pg_Run, hd_Run, po_Run, sa_Run⟩, mg_Run := PySem.W.mg_of X G ac_Run, mk_Run := ⟨mk_Run, a14, i14, kc_Run⟩, at_Run_paid := no_Run_paid, at_Run_steps := no_Run_steps, at_Run_store := no_Run_store, at_Run_well := no_Run_well, c_Machine := ⟨pg_Machine, hd_Machine, po_Machine, sa_Machine⟩, mg_Machine := PySem.W.mg_of X G ac_Machine, mk_Machine := ⟨mk_Machine, a8, i8, kc_Machine⟩, at_Machine_amount := no_Machine_amount, at_Machine_code := no_Machine_code, at_Machine_given := no_Machine_given, at_Machine_paid := no_Machine_paid, at_Machine_place := no_Machine_place, at_Machine_stack := no_Machine_stack, at_Machine_state := no_Machine_state, at_Machine_steps := no_Machine_steps, at_Machine_store := no_Machine_store, n_bool := PySem.W.mg_none_of X G nb_bool, n_dict := PySem.W.mg_none_of X G nb_dict, n_int := PySem.W.mg_none_of X G nb_int, n_isinstance := PySem.W.mg_none_of X G nb_isinstance, n_len := PySem.W.mg_none_of X G nb_len, n_max := PySem.W.mg_none_of X G nb_max, n_range := PySem.W.mg_none_of X G nb_range, n_sorted := PySem.W.mg_none_of X G nb_sorted, k_MOST_STEPS := ⟨_, PySem.W.mg_of X G nc_MOST_STEPS⟩, k_MOST_HEIGHT := ⟨_, PySem.W.mg_of X G nc_MOST_HEIGHT⟩, k_MODULUS := ⟨_, PySem.W.mg_of X G nc_MODULUS⟩ }
  exact ⟨_, fun s v => .of_eq rfl, fun base _ _ => ok_law T⟩
end Toy
open PySem PySem.W PyProof.Rows
set_option maxRecDepth 100000 in
set_option maxHeartbeats 0 in
theorem PySem.Challenge.cw_tribunal_k22_runs_of_programs_holds : PySem.Challenge.rw_tribunal_k22_runs_of_programs.Holds := by
  w_on; o_law; k_head; (case hw => w_witness2)
  k_fill
  refine DL.walkN (l := PySem.Challenge.rw_tribunal_k22_runs_of_programs) (k := 5) (x := "_law_script") rfl rfl ⟨rfl, by decide, by decide⟩ (fun w h Y => PySem.W.kIn_of Y) ?F
  case F =>
    intro w mg fa h KX G hmg
    refine' Toy.all_mk KX G hmg ?ac_Run ?ac_Machine ?a1 ?l1 ?c1 ?k1 ?a2 ?l2 ?c2 ?k2 ?a3 ?l3 ?c3 ?k3 ?a4 ?l4 ?c4 ?k4 ?a5 ?l5 ?c5 ?k5 ?a6 ?l6 ?c6 ?k6 ?a7 ?l7 ?c7 ?k7 ?a8 ?i8 ?l8 ?c8 ?k8 ?a9 ?i9 ?l9 ?c9 ?k9 ?a10 ?i10 ?l10 ?c10 ?k10 ?a11 ?i11 ?l11 ?c11 ?k11 ?a12 ?i12 ?l12 ?c12 ?k12 ?a13 ?i13 ?l13 ?c13 ?k13 ?a14 ?i14 ?l14 ?c14 ?k14 ?a15 ?l15 ?c15 ?k15 ?a16 ?l16 ?c16 ?k16 ?a17 ?l17 ?c17 ?k17 ?pg_Run ?hd_Run ?po_Run ?sa_Run ?mk_Run ?kc_Run ?no_Run_paid ?no_Run_steps ?no_Run_store ?no_Run_well ?pg_Machine ?hd_Machine ?po_Machine ?sa_Machine ?mk_Machine ?kc_Machine ?no_Machine_amount ?no_Machine_code ?no_Machine_given ?no_Machine_paid ?no_Machine_place ?no_Machine_stack ?no_Machine_state ?no_Machine_steps ?no_Machine_store ?nb_bool ?nb_dict ?nb_int ?nb_isinstance ?nb_len ?nb_max ?nb_range ?nb_sorted ?nc_MOST_STEPS ?nc_MOST_HEIGHT ?nc_MODULUS
    (case ac_Run => k_is)
    (case ac_Machine => k_is)
    (case a1 => k_is)
    (case l1 => k_is)
    (case c1 => k_is)
    (case k1 => k_is)
    (case a2 => k_is)
    (case l2 => k_is)
    (case c2 => k_is)
    (case k2 => k_is)
    (case a3 => k_is)
    (case l3 => k_is)
    (case c3 => k_is)
    (case k3 => k_is)
    (case a4 => k_is)
    (case l4 => k_is)
    (case c4 => k_is)
    (case k4 => k_is)
    (case a5 => k_is)
    (case l5 => k_is)
    (case c5 => k_is)
    (case k5 => k_is)
    (case a6 => k_is)
    (case l6 => k_is)
    (case c6 => k_is)
    (case k6 => k_is)
    (case a7 => k_is)
    (case l7 => k_is)
    (case c7 => k_is)
    (case k7 => k_is)
    (case a8 => k_is)
    (case i8 => k_is)
    (case l8 => k_is)
    (case c8 => k_is)
    (case k8 => k_is)
    (case a9 => k_is)
    (case i9 => k_is)
    (case l9 => k_is)
    (case c9 => k_is)
    (case k9 => k_is)
    (case a10 => k_is)
    (case i10 => k_is)
    (case l10 => k_is)
    (case c10 => k_is)
    (case k10 => k_is)
    (case a11 => k_is)
    (case i11 => k_is)
    (case l11 => k_is)
    (case c11 => k_is)
    (case k11 => k_is)
    (case a12 => k_is)
    (case i12 => k_is)
    (case l12 => k_is)
    (case c12 => k_is)
    (case k12 => k_is)
    (case a13 => k_is)
    (case i13 => k_is)
    (case l13 => k_is)
    (case c13 => k_is)
    (case k13 => k_is)
    (case a14 => k_is)
    (case i14 => k_is)
    (case l14 => k_is)
    (case c14 => k_is)
    (case k14 => k_is)
    (case a15 => k_is)
    (case l15 => k_is)
    (case c15 => k_is)
    (case k15 => k_is)
    (case a16 => k_is)
    (case l16 => k_is)
    (case c16 => k_is)
    (case k16 => k_is)
    (case a17 => k_is)
    (case l17 => k_is)
    (case c17 => k_is)
    (case k17 => k_is)
    (case pg_Run => k_is)
    (case hd_Run => k_is)
    (case po_Run => k_is)
    (case sa_Run => k_is)
    (case mk_Run => k_is)
    (case kc_Run => k_is)
    (case no_Run_paid => k_is)
    (case no_Run_steps => k_is)
    (case no_Run_store => k_is)
    (case no_Run_well => k_is)
    (case pg_Machine => k_is)
    (case hd_Machine => k_is)
    (case po_Machine => k_is)
    (case sa_Machine => k_is)
    (case mk_Machine => k_is)
    (case kc_Machine => k_is)
    (case no_Machine_amount => k_is)
    (case no_Machine_code => k_is)
    (case no_Machine_given => k_is)
    (case no_Machine_paid => k_is)
    (case no_Machine_place => k_is)
    (case no_Machine_stack => k_is)
    (case no_Machine_state => k_is)
    (case no_Machine_steps => k_is)
    (case no_Machine_store => k_is)
    (case nb_bool => k_is)
    (case nb_dict => k_is)
    (case nb_int => k_is)
    (case nb_isinstance => k_is)
    (case nb_len => k_is)
    (case nb_max => k_is)
    (case nb_range => k_is)
    (case nb_sorted => k_is)
    (case nc_MOST_STEPS => k_is)
    (case nc_MOST_HEIGHT => k_is)
    (case nc_MODULUS => k_is)
