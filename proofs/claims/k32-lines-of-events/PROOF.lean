import PyProof.Rows.All
import Wide.All
import OpenK.AllK
import Wide.FinOn
import HandS.ForMost
import HandS.Deep
import HandS.Evl
import HandS.Style
import HandS.WordsExc
import HandS.HotCalls
import HandS.IsInst
import HandS.SortInts
import HandS.Strs
import HandS.SetBool
import HandS.ExcIs
import HandS.TryElse
import KE.KExcSuper
import HandS.ExcInit
import HandS.ExcField
import KE.KExcIs
import HandS.RaiseMore
import HandS.StrMore
import HandS.SuiteRaise
import HandS.ExcInitHot
import KE.GoesMore
import KE.GoesEnum
import KE.IntTextText
import HandS.HeadHook3
import HandS.FStr
import HandS.WrittenGet
import HandS.TryOnly
import PySem.Challenge.RW_tribunal_k32_lines_of_events
set_option Elab.async false
set_option linter.all false
set_option maxRecDepth 100000
set_option maxHeartbeats 4000000
namespace DL
open PySem L2
open Evl (Ex)

/-! ### pure data -/
inductive D where
  | non | bl (b : Bool) | int (i : Int) | str (x : Str) | adr (a : Addr)
  | tup (ds : List D) | lst (ds : List D) | ins (C : Addr) (ks : List Str) (ds : List D)
  | set (S : Int → Bool) (n : Nat) | fz (ds : List D)

mutual
inductive Dn (K : PySem.W.Frag) (G : Hp) : D → V → Prop
  | non : Dn K G .non .non
  | bl (b : Bool) : Dn K G (.bl b) (.bl b)
  | int (i : Int) : Dn K G (.int i) (.int i)
  | str (x : Str) : Dn K G (.str x) (.str x)
  | adr (a : Addr) : Dn K G (.adr a) (.ref a)
  | tup {a : Addr} {xs : List V} {ds : List D} : SqT K G a xs → DnAll K G ds xs → Dn K G (.tup ds) (.ref a)
  | lst {a : Addr} {xs : List V} {ds : List D} : G a = some (.lst xs) → DnAll K G ds xs → Dn K G (.lst ds) (.ref a)
  | fz {a : Addr} {xs : List V} {ds : List D} : SqL K G a xs → DnAll K G ds xs → Dn K G (.fz ds) (.ref a)
  | ins {a C dx : Addr} {fs : List (Str × V)} {ks : List Str} {ds : List D} : G a = some (.ins C dx fs) → fs.map (·.1) = ks → DnAll K G ds (fs.map (·.2)) → Dn K G (.ins C ks ds) (.ref a)
  | set {a : Addr} {S : Int → Bool} {n : Nat} : G a = some (.set S n) → Dn K G (.set S n) (.ref a)
inductive DnAll (K : PySem.W.Frag) (G : Hp) : List D → List V → Prop
  | nil : DnAll K G [] []
  | cons {d : D} {ds : List D} {v : V} {vs : List V} : Dn K G d v → DnAll K G ds vs → DnAll K G (d :: ds) (v :: vs)
end

section
variable {K : PySem.W.Frag} {G G' H : Hp}
mutual
theorem Dn.mono (e : Ex G G') : ∀ {d : D} {v : V}, Dn K G d v → Dn K G' d v
  | _, _, .non => .non
  | _, _, .bl b => .bl b
  | _, _, .int b => .int b
  | _, _, .str b => .str b
  | _, _, .adr b => .adr b
  | _, _, .tup h hs => .tup (Evl.ex_t e h) (DnAll.mono e hs)
  | _, _, .lst h hs => .lst (e _ _ h) (DnAll.mono e hs)
  | _, _, .fz h hs => .fz (Evl.ex_l e h) (DnAll.mono e hs)
  | _, _, .ins h hk hs => .ins (e _ _ h) hk (DnAll.mono e hs)
  | _, _, .set h => .set (e _ _ h)
theorem DnAll.mono (e : Ex G G') : ∀ {ds : List D} {vs : List V}, DnAll K G ds vs → DnAll K G' ds vs
  | _, _, .nil => .nil
  | _, _, .cons h hs => .cons (Dn.mono e h) (DnAll.mono e hs)
end
theorem DnAll.length : ∀ {ds : List D} {vs : List V}, DnAll K G ds vs → ds.length = vs.length
  | _, _, .nil => rfl
  | _, _, .cons _ hs => by simp [DnAll.length hs]
theorem DnAll.append : ∀ {ds es : List D} {vs ws : List V}, DnAll K G ds vs → DnAll K G es ws → DnAll K G (ds ++ es) (vs ++ ws)
  | _, _, _, _, .nil, h => h
  | _, _, _, _, .cons h hs, k => .cons h (DnAll.append hs k)
theorem DnAll.get : ∀ {ds : List D} {vs : List V} {i : Nat} {d : D}, DnAll K G ds vs → ds[i]? = some d → ∃ v, vs[i]? = some v ∧ Dn K G d v
  | _, _, 0, _, .cons h _, e => ⟨_, rfl, by simp at e; subst e; exact h⟩
  | _, _, i + 1, _, .cons _ hs, e => by
    obtain ⟨v, h1, h2⟩ := DnAll.get (i := i) hs (by simpa using e)
    exact ⟨v, by simpa using h1, h2⟩
theorem DnAll.getV : ∀ {ds : List D} {vs : List V} {i : Nat} {v : V}, DnAll K G ds vs → vs[i]? = some v → ∃ d, ds[i]? = some d ∧ Dn K G d v
  | _, _, 0, _, .cons h _, e => ⟨_, rfl, by simp at e; subst e; exact h⟩
  | _, _, i + 1, _, .cons _ hs, e => by
    obtain ⟨v, h1, h2⟩ := DnAll.getV (i := i) hs (by simpa using e)
    exact ⟨v, by simpa using h1, h2⟩
theorem DnAll.take (n : Nat) : ∀ {ds : List D} {vs : List V}, DnAll K G ds vs → DnAll K G (ds.take n) (vs.take n) := by
  induction n with
  | zero => intro ds vs h; exact .nil
  | succ n ih =>
    intro ds vs h
    cases h with
    | nil => exact .nil
    | cons h hs => exact .cons h (ih hs)
theorem DnAll.drop (n : Nat) : ∀ {ds : List D} {vs : List V}, DnAll K G ds vs → DnAll K G (ds.drop n) (vs.drop n) := by
  induction n with
  | zero => intro ds vs h; exact h
  | succ n ih =>
    intro ds vs h
    cases h with
    | nil => exact .nil
    | cons h hs => exact ih hs
theorem DnAll.set {d : D} {v : V} (hd : Dn K G d v) : ∀ {ds : List D} {vs : List V} (i : Nat), DnAll K G ds vs → DnAll K G (ds.set i d) (vs.set i v)
  | _, _, _, .nil => .nil
  | _, _, 0, .cons _ hs => .cons hd hs
  | _, _, i + 1, .cons h hs => .cons h (DnAll.set hd i hs)
theorem DnAll.dropLast {ds : List D} {vs : List V} (h : DnAll K G ds vs) : DnAll K G ds.dropLast vs.dropLast := by
  rw [List.dropLast_eq_take, List.dropLast_eq_take, h.length]
  exact h.take _
theorem DnAll.ints : ∀ {ns : List Int} {vs : List V}, DnAll K G (ns.map D.int) vs → vs = ns.map V.int
  | [], _, .nil => rfl
  | _ :: _, _, .cons (.int _) hs => by rw [DnAll.ints hs]; rfl
theorem DnAll.of_ints : ∀ (ns : List Int), DnAll K G (ns.map D.int) (ns.map V.int)
  | [] => .nil
  | n :: ns => .cons (.int n) (DnAll.of_ints ns)
theorem DnAll.strs : ∀ {ns : List Str} {vs : List V}, DnAll K G (ns.map D.str) vs → vs = ns.map V.str
  | [], _, .nil => rfl
  | _ :: _, _, .cons (.str _) hs => by rw [DnAll.strs hs]; rfl
theorem DnAll.bls : ∀ {ns : List Bool} {vs : List V}, DnAll K G (ns.map D.bl) vs → vs = ns.map V.bl
  | [], _, .nil => rfl
  | _ :: _, _, .cons (.bl _) hs => by rw [DnAll.bls hs]; rfl
end

/-! ### mutable cells -/
inductive MO where
  | lst (ds : List D)
  | dct (ks : List Key) (ds : List D)
  | ins (C : Addr) (ks : List Str) (ds : List D)
abbrev MH := Addr → Option MO
abbrev Frm := List (Option D)
def mup (m : MH) (a : Addr) (o : MO) : MH := fun b => if b = a then some o else m b
theorem mup_same {m : MH} {a : Addr} {o : MO} : mup m a o a = some o := by unfold mup; rw [if_pos rfl]
theorem mup_ne {m : MH} {a b : Addr} {o : MO} (h : b ≠ a) : mup m a o b = m b := by unfold mup; rw [if_neg h]
theorem mup_mup {m : MH} {a : Addr} {o u : MO} : mup (mup m a o) a u = mup m a u := by
  funext b; unfold mup; split <;> rfl
def mdel (m : MH) (a : Addr) : MH := fun b => if b = a then none else m b
theorem mdel_mup {m : MH} {a : Addr} {o : MO} (h : m a = none) : mdel (mup m a o) a = m := by
  funext b; unfold mdel mup
  by_cases e : b = a
  · subst e; simp [h]
  · simp [e]
theorem mdel_same {m : MH} {a : Addr} : mdel m a a = none := by simp [mdel]
theorem mdel_ne {m : MH} {a b : Addr} (h : b ≠ a) : mdel m a b = m b := by simp [mdel, h]
theorem mdel_mup_ne {m : MH} {a b : Addr} {o : MO} (h : a ≠ b) : mdel (mup m a o) b = mup (mdel m b) a o := by
  funext c; unfold mdel mup
  by_cases e : c = b
  · subst e; simp [Ne.symm h]
  · simp [e]
theorem mdel_none {m : MH} {a : Addr} (h : m a = none) : mdel m a = m := by
  funext b; unfold mdel
  by_cases e : b = a
  · subst e; simp [h]
  · simp [e]

inductive MOr (K : PySem.W.Frag) (G : Hp) : MO → HO → Prop
  | lst {ds : List D} {xs : List V} : DnAll K G ds xs → MOr K G (.lst ds) (.lst xs)
  | dct {ks : List Key} {ds : List D} {kvs : List (Key × V)} : kvs.map (·.1) = ks → DnAll K G ds (kvs.map (·.2)) → MOr K G (.dct ks ds) (.dK kvs)
  | ins {C dx : Addr} {ks : List Str} {ds : List D} {fs : List (Str × V)} : fs.map (·.1) = ks → DnAll K G ds (fs.map (·.2)) → MOr K G (.ins C ks ds) (.ins C dx fs)
theorem MOr.mono {K : PySem.W.Frag} {G G' : Hp} (e : Ex G G') {o : MO} {h : HO} (r : MOr K G o h) : MOr K G' o h := by
  cases r with
  | lst h => exact .lst (h.mono e)
  | dct h1 h2 => exact .dct h1 (h2.mono e)
  | ins h1 h2 => exact .ins h1 (h2.mono e)

/-- the cells m and the frozen heap G stand in H -/
structure MSt (K : PySem.W.Frag) (G : Hp) (m : MH) (H : Hp) : Prop where
  ex : Ex G H
  mr : ∀ a o, m a = some o → G a = none ∧ ∃ ho, H a = some ho ∧ MOr K G o ho

/-- on the way from one state to another: G grows; what is no cell stays as it is -/
structure Stp (G : Hp) (m : MH) (H : Hp) (G' : Hp) (m' : MH) (H' : Hp) : Prop where
  ex : Ex G G'
  keep : ∀ a o, H a = some o → m a = none → H' a = some o ∧ m' a = none ∧ (G a = none → G' a = none)
theorem Stp.refl {G : Hp} {m : MH} {H : Hp} : Stp G m H G m H := ⟨Ex.refl G, fun _ _ h n => ⟨h, n, fun z => z⟩⟩
theorem Stp.trans {G G1 G2 : Hp} {m m1 m2 : MH} {H H1 H2 : Hp} (a : Stp G m H G1 m1 H1) (b : Stp G1 m1 H1 G2 m2 H2) : Stp G m H G2 m2 H2 :=
  ⟨a.ex.trans b.ex, fun x o h n => by
    obtain ⟨h1, n1, g1⟩ := a.keep x o h n
    obtain ⟨h2, n2, g2⟩ := b.keep x o h1 n1
    exact ⟨h2, n2, fun z => g2 (g1 z)⟩⟩
/-- a state to begin with -/
structure Bs where
  G : Hp
  m : MH
  H : Hp
def Bs.to (B : Bs) (G : Hp) (m : MH) (H : Hp) : Prop := Stp B.G B.m B.H G m H
theorem Bs.to.trans {B : Bs} {G G1 : Hp} {m m1 : MH} {H H1 : Hp} (a : B.to G m H) (b : Stp G m H G1 m1 H1) : B.to G1 m1 H1 := Stp.trans a b
section
variable {K : PySem.W.Frag} {G G' H H' : Hp} {m m' : MH} {a p : Addr}
theorem Stp.new (h : H p = none) {o : HO} : ∀ a u, H a = some u → m a = none → upd H p o a = some u ∧ m a = none ∧ (G a = none → upd G p o a = none) := fun a u e n => by
  have hb : a ≠ p := fun z => by subst z; rw [h] at e; cases e
  exact ⟨by rw [upd_ne hb]; exact e, n, fun z => by rw [upd_ne hb]; exact z⟩
theorem MSt.free (s : MSt K G m H) (h : H p = none) : G p = none ∧ m p = none := by
  constructor
  · exact Evl.fresh_back s.ex h
  · cases q : m p with
    | none => rfl
    | some o =>
      obtain ⟨_, ho, h1, _⟩ := s.mr p o q
      rw [h] at h1; cases h1
/-- a new frozen object -/
theorem MSt.newG (s : MSt K G m H) (h : H p = none) (o : HO) : Stp G m H (upd G p o) m (upd H p o) ∧ MSt K (upd G p o) m (upd H p o) := by
  obtain ⟨hg, hm⟩ := s.free h
  have e : Ex G (upd G p o) := Ex.new hg
  refine ⟨⟨e, Stp.new h⟩, fun b u q => ?_, fun b u q => ?_⟩
  · by_cases hb : b = p
    · subst hb; rw [upd_same] at q ⊢; exact q
    · rw [upd_ne hb] at q ⊢; exact s.ex b u q
  · have hb : b ≠ p := fun z => by subst z; rw [hm] at q; cases q
    obtain ⟨h1, ho, h2, h3⟩ := s.mr b u q
    exact ⟨by rw [upd_ne hb]; exact h1, ho, by rw [upd_ne hb]; exact h2, h3.mono e⟩
/-- a new cell -/
theorem MSt.newM (s : MSt K G m H) (h : H p = none) {o : MO} {ho : HO} (r : MOr K G o ho) : Stp G m H G (mup m p o) (upd H p ho) ∧ MSt K G (mup m p o) (upd H p ho) := by
  obtain ⟨hg, hm⟩ := s.free h
  refine ⟨⟨Ex.refl G, fun a u e n => ?_⟩, fun b u q => ?_, fun b u q => ?_⟩
  · have hb : a ≠ p := fun z => by subst z; rw [h] at e; cases e
    exact ⟨by rw [upd_ne hb]; exact e, by rw [mup_ne hb]; exact n, fun z => z⟩
  · have hb : b ≠ p := fun z => by subst z; rw [hg] at q; cases q
    rw [upd_ne hb]; exact s.ex b u q
  · by_cases hb : b = p
    · subst hb; rw [mup_same] at q; cases q
      exact ⟨hg, ho, upd_same, r⟩
    · rw [mup_ne hb] at q
      obtain ⟨h1, ho', h2, h3⟩ := s.mr b u q
      exact ⟨h1, ho', by rw [upd_ne hb]; exact h2, h3⟩
/-- a cell written -/
theorem MSt.write (s : MSt K G m H) {o0 : MO} (h : m p = some o0) {o : MO} {ho : HO} (r : MOr K G o ho) : Stp G m H G (mup m p o) (upd H p ho) ∧ MSt K G (mup m p o) (upd H p ho) := by
  obtain ⟨hg, _⟩ := s.mr p o0 h
  refine ⟨⟨Ex.refl G, fun a u e n => ?_⟩, fun b u q => ?_, fun b u q => ?_⟩
  · have hb : a ≠ p := fun z => by subst z; rw [h] at n; cases n
    exact ⟨by rw [upd_ne hb]; exact e, by rw [mup_ne hb]; exact n, fun z => z⟩
  · have hb : b ≠ p := fun z => by subst z; rw [hg] at q; cases q
    rw [upd_ne hb]; exact s.ex b u q
  · by_cases hb : b = p
    · subst hb; rw [mup_same] at q; cases q
      exact ⟨hg, ho, upd_same, r⟩
    · rw [mup_ne hb] at q
      obtain ⟨h1, ho', h2, h3⟩ := s.mr b u q
      exact ⟨h1, ho', by rw [upd_ne hb]; exact h2, h3⟩
/-- a cell frozen -/
theorem MSt.freeze (s : MSt K G m H) {o : MO} (h : m p = some o) : ∃ ho, MOr K G o ho ∧ Stp G m H (upd G p ho) (mdel m p) H ∧ MSt K (upd G p ho) (mdel m p) H := by
  obtain ⟨hg, ho, h1, h2⟩ := s.mr p o h
  refine ⟨ho, h2, ⟨Ex.new hg, fun a u e n => ?_⟩, fun b u q => ?_, fun b u q => ?_⟩
  · have z : a ≠ p := fun z => by subst z; rw [h] at n; cases n
    exact ⟨e, by rw [mdel_ne z]; exact n, fun w => by rw [upd_ne z]; exact w⟩
  · by_cases hb : b = p
    · subst hb; rw [upd_same] at q; rw [h1]; exact q
    · rw [upd_ne hb] at q; exact s.ex b u q
  · have hb : b ≠ p := fun z => by subst z; rw [mdel_same] at q; cases q
    rw [mdel_ne hb] at q
    obtain ⟨h1', ho', h2', h3'⟩ := s.mr b u q
    exact ⟨by rw [upd_ne hb]; exact h1', ho', h2', h3'.mono (Ex.new hg)⟩
theorem MSt.dn (s : MSt K G m H) {d : D} {v : V} (h : Dn K G d v) : Dn K H d v := h.mono s.ex
end

/-- the frame -/
def fget : Frm → Nat → Option D
  | [], _ => none
  | x :: _, 0 => x
  | _ :: r, n + 1 => fget r n
def fset : Frm → Nat → D → Frm
  | [], _, _ => []
  | _ :: r, 0, d => some d :: r
  | x :: r, n + 1, d => x :: fset r n d
inductive FrR (K : PySem.W.Frag) (G : Hp) : Frm → L2.St → Prop
  | nil : FrR K G [] []
  | no {ρ : Frm} {σ : L2.St} {x : Option V} : FrR K G ρ σ → FrR K G (none :: ρ) (x :: σ)
  | yes {ρ : Frm} {σ : L2.St} {d : D} {v : V} : Dn K G d v → FrR K G ρ σ → FrR K G (some d :: ρ) (some v :: σ)
section
variable {K : PySem.W.Frag} {G G' H H' : Hp} {m m' : MH}
theorem FrR.mono (e : Ex G G') : ∀ {ρ : Frm} {σ : L2.St}, FrR K G ρ σ → FrR K G' ρ σ
  | _, _, .nil => .nil
  | _, _, .no h => .no (FrR.mono e h)
  | _, _, .yes h hs => .yes (h.mono e) (FrR.mono e hs)
theorem FrR.get : ∀ {ρ : Frm} {σ : L2.St} {i : Nat} {d : D}, FrR K G ρ σ → fget ρ i = some d → ∃ v, σ[i]? = some (some v) ∧ Dn K G d v
  | _, _, 0, _, .no _, h => by cases h
  | _, _, 0, _, .yes h _, e => by
    have e' := Option.some.inj e
    subst e'
    exact ⟨_, rfl, h⟩
  | _, _, i + 1, _, .no hs, e => by
    obtain ⟨v, h1, h2⟩ := FrR.get (i := i) hs e
    exact ⟨v, by simpa using h1, h2⟩
  | _, _, i + 1, _, .yes _ hs, e => by
    obtain ⟨v, h1, h2⟩ := FrR.get (i := i) hs e
    exact ⟨v, by simpa using h1, h2⟩
theorem FrR.set {d : D} {v : V} (hd : Dn K G d v) : ∀ {ρ : Frm} {σ : L2.St} (i : Nat), FrR K G ρ σ → FrR K G (fset ρ i d) (σ.set i (some v))
  | _, _, _, .nil => .nil
  | _, _, 0, .no hs => .yes hd hs
  | _, _, 0, .yes _ hs => .yes hd hs
  | _, _, i + 1, .no hs => .no (FrR.set hd i hs)
  | _, _, i + 1, .yes h hs => .yes h (FrR.set hd i hs)
end
structure Sta (K : PySem.W.Frag) (G : Hp) (ρ : Frm) (σ : L2.St) (m : MH) (H : Hp) : Prop where
  fr : FrR K G ρ σ
  ms : MSt K G m H

/-! ### the judgements -/
abbrev VE := Frm → MH → (D → MH → Prop) → Prop
abbrev VT := Frm → MH → (Bool → MH → Prop) → Prop
abbrev VA := Frm → MH → (List D → MH → Prop) → Prop
/-- exceptions: class, attributes, cells -/
abbrev DX := Addr → List Str → List D → MH → Prop
structure VEnds where
  nx : Frm → MH → Prop
  rt : D → MH → Prop
  bk : Frm → MH → Prop := fun _ _ => False
  ct : Frm → MH → Prop := fun _ _ => False
abbrev VS := VEnds → Frm → MH → Prop

def lowE (K : PySem.W.Frag) (B : Bs) (t : VE) : TE := fun σ H Q => ∃ G ρ m P, B.to G m H ∧ Sta K G ρ σ m H ∧ t ρ m P ∧ ∀ d m' G' v H', P d m' → Stp G m H G' m' H' → MSt K G' m' H' → Dn K G' d v → Q v H'
def lowT (K : PySem.W.Frag) (B : Bs) (t : VT) : TT := fun σ H Q => ∃ G ρ m P, B.to G m H ∧ Sta K G ρ σ m H ∧ t ρ m P ∧ ∀ b m' G' H', P b m' → Stp G m H G' m' H' → MSt K G' m' H' → Q b H'
def lowA (K : PySem.W.Frag) (B : Bs) (t : VA) : TA := fun σ H Q => ∃ G ρ m P, B.to G m H ∧ Sta K G ρ σ m H ∧ t ρ m P ∧ ∀ ds m' G' vs H', P ds m' → Stp G m H G' m' H' → MSt K G' m' H' → DnAll K G' ds vs → Q vs H'
def lowS (K : PySem.W.Frag) (B : Bs) (t : VS) : TS := fun D σ H => ∃ G ρ m E, B.to G m H ∧ Sta K G ρ σ m H ∧ t E ρ m ∧
  (∀ ρ' m' G' σ' H', E.nx ρ' m' → Stp G m H G' m' H' → Sta K G' ρ' σ' m' H' → D.nx σ' H') ∧
  (∀ d m' G' v H', E.rt d m' → Stp G m H G' m' H' → MSt K G' m' H' → Dn K G' d v → D.rt v H') ∧
  (∀ ρ' m' G' σ' H', E.bk ρ' m' → Stp G m H G' m' H' → Sta K G' ρ' σ' m' H' → D.bk σ' H') ∧
  (∀ ρ' m' G' σ' H', E.ct ρ' m' → Stp G m H G' m' H' → Sta K G' ρ' σ' m' H' → D.ct σ' H')
structure UE (X : Cx) (B : Bs) (e : Expr) (t : VE) : Prop where
  pe : PE X e (lowE X.K B t)
structure UT (X : Cx) (B : Bs) (e : Expr) (t : VT) : Prop where
  pt : PT X e (lowT X.K B t)
structure UW (X : Cx) (B : Bs) (e : Expr) (t : VT) : Prop where
  pw : PW X e (lowT X.K B t)
structure UA (X : Cx) (B : Bs) (es : List Expr) (t : VA) : Prop where
  pa : PA X es (lowA X.K B t)
structure US (X : Cx) (B : Bs) (st : Stmt) (t : VS) : Prop where
  ps : PS X st (lowS X.K B t)
structure USs (X : Cx) (B : Bs) (st : List Stmt) (t : VS) : Prop where
  ps : PSs X st (lowS X.K B t)

section
variable {X : Cx} {B : Bs}
theorem _root_.L2.PE.weak {e : Expr} {t t' : TE} (h : PE X e t) (i : ∀ σ H Q, t' σ H Q → t σ H Q) : PE X e t' := ⟨fun pins s σ H Q I q => h.run pins s σ H Q I (i _ _ _ q)⟩
theorem _root_.L2.PT.weak {e : Expr} {t t' : TT} (h : PT X e t) (i : ∀ σ H Q, t' σ H Q → t σ H Q) : PT X e t' := ⟨fun pins s σ H Q I q => h.run pins s σ H Q I (i _ _ _ q)⟩
theorem _root_.L2.PW.weak {e : Expr} {t t' : TT} (h : PW X e t) (i : ∀ σ H Q, t' σ H Q → t σ H Q) : PW X e t' := ⟨fun whole pins s σ H Q I q => h.run whole pins s σ H Q I (i _ _ _ q)⟩
theorem _root_.L2.PA.weak {e : List Expr} {t t' : TA} (h : PA X e t) (i : ∀ σ H Q, t' σ H Q → t σ H Q) : PA X e t' := ⟨fun pos pins s σ H Q I q => h.run pos pins s σ H Q I (i _ _ _ q)⟩
theorem _root_.L2.PS.weak {e : Stmt} {t t' : TS} (h : PS X e t) (i : ∀ D σ H, t' D σ H → t D σ H) : PS X e t' := ⟨fun pins s σ H D I q => h.run pins s σ H D I (i _ _ _ q)⟩
theorem _root_.L2.PSs.weak {e : List Stmt} {t t' : TS} (h : PSs X e t) (i : ∀ D σ H, t' D σ H → t D σ H) : PSs X e t' := ⟨fun pins s σ H D I q => h.run pins s σ H D I (i _ _ _ q)⟩

/-! ### names, constants -/
def vVar (i : Nat) : VE := fun ρ m Q => match fget ρ i with | some d => Q d m | none => False
def vC (d : D) : VE := fun _ m Q => Q d m
theorem fin {K : PySem.W.Frag} {G : Hp} {m : MH} {P : D → MH → Prop} {H : Hp} {Q : VK} {d : D} {v : V} (k : ∀ d m' G' v H', P d m' → Stp G m H G' m' H' → MSt K G' m' H' → Dn K G' d v → Q v H') (q : P d m) (s : MSt K G m H) (h : Dn K G d v) : Q v H :=
  k d m G v H q Stp.refl s h
theorem low_var {K : PySem.W.Frag} {i : Nat} {σ : L2.St} {H : Hp} {Q : VK} (h : lowE K B (vVar i) σ H Q) : tVar i σ H Q := by
  obtain ⟨G, ρ, m, P, e0, s, t, k⟩ := h
  unfold vVar at t
  cases e : fget ρ i with
  | none => rw [e] at t; exact t.elim
  | some d =>
    rw [e] at t
    obtain ⟨v, h1, h2⟩ := s.fr.get e
    exact ⟨v, h1, fin k t s.ms h2⟩
theorem ue_var (i : Nat) {x : Str} {pos : Pos} (hN : X.N[i]? = some x := by rfl) (hv : Vis X.env.scope x := by first | exact Or.inl rfl | exact Or.inr (Or.inl rfl) | exact Or.inr (Or.inr rfl)) (hd : (x == ("__debug__" : Str)) = false := by decide)
    (hcd : (x == ("__classdict__" : Str)) = false := by decide) : UE X B (.Name x pos) (vVar i) := ⟨(pe_var hN hv hd hcd).weak fun _ _ _ h => low_var h⟩
theorem low_c {K : PySem.W.Frag} {d : D} {v : V} (r : ∀ G, Dn K G d v) {σ : L2.St} {H : Hp} {Q : VK} (h : lowE K B (vC d) σ H Q) : tC v σ H Q := by
  obtain ⟨G, ρ, m, P, e0, s, t, k⟩ := h
  exact fin k t s.ms (r G)
theorem ue_int {i j pos} : UE X B (.Constant (.int i) j pos) (vC (.int i)) := ⟨pe_int.weak fun _ _ _ h => low_c (fun _ => .int _) h⟩
theorem ue_bl {b j pos} : UE X B (.Constant (.bool b) j pos) (vC (.bl b)) := ⟨pe_bl.weak fun _ _ _ h => low_c (fun _ => .bl _) h⟩
theorem ue_non {j pos} : UE X B (.Constant .none j pos) (vC .non) := ⟨pe_non.weak fun _ _ _ h => low_c (fun _ => .non) h⟩
theorem ue_str {x j pos} : UE X B (.Constant (.str x) j pos) (vC (.str x)) := ⟨pe_str.weak fun _ _ _ h => low_c (fun _ => .str _) h⟩
theorem ue_glob {x : Str} {d : D} {v : V} {u : Value} {pos : Pos} (hg : Gl X x) (hm : X.mg x = some u) (r : RelV v u) (hd : ∀ G, Dn X.K G d v) (hdb : (x == ("__debug__" : Str)) = false := by decide) : UE X B (.Name x pos) (vC d) :=
  ⟨(pe_glob hg hm r hdb).weak fun _ _ _ h => low_c hd h⟩

/-! ### operators by values -/
/-- of two data and the cells: what it asks, what it gives; m stays, G may grow -/
abbrev VO := D → D → MH → (D → Prop) → Prop
def lowO (K : PySem.W.Frag) (o : VO) : R2 := fun x y H Q => ∃ G m dx dy P, MSt K G m H ∧ Dn K G dx x ∧ Dn K G dy y ∧ o dx dy m P ∧ ∀ d G' v H', P d → Stp G m H G' m H' → MSt K G' m H' → Dn K G' d v → Q v H'
def UO (X : Cx) (f : Value → Value → Sem Value) (o : VO) : Prop := OpR X f (lowO X.K o)
theorem opw {f : Value → Value → Sem Value} {r r' : R2} (h : OpR X f r) (i : ∀ x y H Q, r' x y H Q → r x y H Q) : OpR X f r' := fun pins s σ H x y v u Q I rx ry q => h pins s σ H x y v u Q I rx ry (i _ _ _ _ q)
/-- by two rules -/
theorem opsplit {f : Value → Value → Sem Value} {r r' r'' : R2} (h : OpR X f r) (h' : OpR X f r') (i : ∀ x y H Q, r'' x y H Q → r x y H Q ∨ r' x y H Q) : OpR X f r'' := opw (OpR.or h h') i
def vOp (o : VO) (ta tb : VE) : VE := fun ρ m Q => ta ρ m fun x m1 => tb ρ m1 fun y m2 => o x y m2 fun d => Q d m2
variable {a b c e : Expr} {ta tb tc te : VE} {pos : Pos}
theorem low_op {K : PySem.W.Frag} {o : VO} {σ : L2.St} {H : Hp} {Q : VK} (h : lowE K B (vOp o ta tb) σ H Q) : tOp (lowO K o) (lowE K B ta) (lowE K B tb) σ H Q := by
  obtain ⟨G, ρ, m, P, e0, s, t, k⟩ := h
  refine ⟨G, ρ, m, _, e0, s, t, fun x m1 G1 v1 H1 q1 e1 s1 r1 => ?_⟩
  refine ⟨G1, ρ, m1, _, e0.trans e1, ⟨s.fr.mono e1.ex, s1⟩, q1, fun y m2 G2 v2 H2 q2 e2 s2 r2 => ?_⟩
  exact ⟨G2, m2, x, y, _, s2, r1.mono e2.ex, r2, q2, fun d G3 v H3 q3 e3 s3 r3 => k d m2 G3 v H3 q3 ((e1.trans e2).trans e3) s3 r3⟩
theorem ue_op {op : Operator} {o : VO} (ho : UO X (binaryOp op) o) (ha : UE X B a ta) (hb : UE X B b tb) : UE X B (.BinOp a op b pos) (vOp o ta tb) := ⟨(pe_op ho ha.pe hb.pe).weak fun _ _ _ h => low_op h⟩
theorem ue_cmp {op : CmpOp} {o : VO} (ho : UO X (compareOp op) o) (ha : UE X B a ta) (hb : UE X B b tb) (hm : behindInMarks op b = false) : UE X B (.Compare a [op] [b] pos) (vOp o ta tb) := ⟨(pe_cmpR ho ha.pe hb.pe hm).weak fun _ _ _ h => low_op h⟩

/-- ints -/
def oI (C : Int → Int → Prop) (g : Int → Int → D) : VO := fun x y _ Q => match x, y with
  | .int i, .int j => C i j ∧ Q (g i j)
  | _, _ => False
def oI0 (g : Int → Int → D) : VO := fun x y _ Q => match x, y with
  | .int i, .int j => Q (g i j)
  | _, _ => False
theorem low_oI {K : PySem.W.Frag} {C : Int → Int → Prop} {g : Int → Int → D} {g' : Int → Int → V} (hg : ∀ i j G, Dn K G (g i j) (g' i j)) {x y : V} {H : Hp} {Q : VK} (h : lowO K (oI C g) x y H Q) : rI C g' x y H Q := by
  obtain ⟨G, m, dx, dy, P, s, hx, hy, t, k⟩ := h
  cases hx <;> cases hy <;> first | exact t.elim | skip
  obtain ⟨t1, t2⟩ := t
  exact ⟨_, _, rfl, rfl, t1, k _ G _ H t2 Stp.refl s (hg _ _ G)⟩
theorem low_oI0 {K : PySem.W.Frag} {g : Int → Int → D} {g' : Int → Int → V} (hg : ∀ i j G, Dn K G (g i j) (g' i j)) {x y : V} {H : Hp} {Q : VK} (h : lowO K (oI0 g) x y H Q) : rI0 g' x y H Q := by
  obtain ⟨G, m, dx, dy, P, s, hx, hy, t, k⟩ := h
  cases hx <;> cases hy <;> first | exact t.elim | skip
  exact ⟨_, _, rfl, rfl, k _ G _ H t Stp.refl s (hg _ _ G)⟩
theorem uo_sub : UO X (binaryOp .Sub) (oI0 fun i j => .int (i - j)) := opw op_sub fun _ _ _ _ h => low_oI0 (fun _ _ _ => .int _) h
theorem uo_mul : UO X (binaryOp .Mult) (oI CMul fun i j => .int (i * j)) := opw op_mul fun _ _ _ _ h => low_oI (fun _ _ _ => .int _) h
theorem uo_fdiv : UO X (binaryOp .FloorDiv) (oI CDiv fun i j => .int (i / j)) := opw op_fdiv fun _ _ _ _ h => low_oI (fun _ _ _ => .int _) h
theorem uo_mod : UO X (binaryOp .Mod) (oI (fun _ j => 0 < j) fun i j => .int (i % j)) := opw op_mod fun _ _ _ _ h => low_oI (fun _ _ _ => .int _) h
theorem uo_pow : UO X (binaryOp .Pow) (oI CPow fun i j => .int (i ^ j.toNat)) := opw op_pow fun _ _ _ _ h => low_oI (fun _ _ _ => .int _) h
theorem uo_lt : UO X (compareOp .Lt) (oI0 fun i j => .bl (decide (i < j))) := opw op_lt fun _ _ _ _ h => low_oI0 (fun _ _ _ => .bl _) h
theorem uo_le : UO X (compareOp .LtE) (oI0 fun i j => .bl (decide (i ≤ j))) := opw op_le fun _ _ _ _ h => low_oI0 (fun _ _ _ => .bl _) h
theorem uo_gt : UO X (compareOp .Gt) (oI0 fun i j => .bl (decide (j < i))) := opw op_gt fun _ _ _ _ h => low_oI0 (fun _ _ _ => .bl _) h
theorem uo_ge : UO X (compareOp .GtE) (oI0 fun i j => .bl (decide (j ≤ i))) := opw op_ge fun _ _ _ _ h => low_oI0 (fun _ _ _ => .bl _) h

/-! ### a list, frozen or a cell -/
/-- a list of the run's own -/
def asT (m : MH) : D → Option (List D)
  | .lst ds => some ds
  | .adr a => match m a with
    | some (.lst ds) => some ds
    | _ => none
  | _ => none
/-- any list -/
def asL (m : MH) : D → Option (List D)
  | .fz ds => some ds
  | d => asT m d
theorem asT_adr {m : MH} {a : Addr} {ds : List D} (h : m a = some (.lst ds)) : asT m (.adr a) = some ds := by
  simp only [asT, h]
theorem asL_adr {m : MH} {a : Addr} {ds : List D} (h : m a = some (.lst ds)) : asL m (.adr a) = some ds := by
  simp only [asL, asT, h]
theorem MSt.asT {K : PySem.W.Frag} {G H : Hp} {m : MH} (s : MSt K G m H) {d : D} {v : V} {ds : List D} (r : Dn K G d v) (h : asT m d = some ds) : ∃ a xs, v = .ref a ∧ H a = some (.lst xs) ∧ DnAll K G ds xs := by
  cases r with
  | lst h1 h2 => cases h; exact ⟨_, _, rfl, s.ex _ _ h1, h2⟩
  | adr a =>
    simp only [DL.asT] at h
    cases q : m a with
    | none => rw [q] at h; cases h
    | some o =>
      rw [q] at h
      cases o with
      | lst es =>
        cases h
        obtain ⟨_, ho, h1, h2⟩ := s.mr a _ q
        cases h2 with
        | lst h2 => exact ⟨a, _, rfl, h1, h2⟩
      | dct _ _ => cases h
      | ins _ _ _ => cases h
  | _ => cases h
theorem MSt.asL {K : PySem.W.Frag} {G H : Hp} {m : MH} (s : MSt K G m H) {d : D} {v : V} {ds : List D} (r : Dn K G d v) (h : asL m d = some ds) : ∃ a xs, v = .ref a ∧ SqL K H a xs ∧ DnAll K G ds xs := by
  have gen : DL.asT m d = some ds → ∃ a xs, v = .ref a ∧ SqL K H a xs ∧ DnAll K G ds xs := fun h => by
    obtain ⟨a, xs, e, h1, h2⟩ := s.asT r h
    exact ⟨a, xs, e, .of h1, h2⟩
  cases r with
  | fz h1 h2 => cases h; exact ⟨_, _, rfl, Evl.ex_l s.ex h1, h2⟩
  | _ => exact gen h
end
end DL

namespace DL
open PySem L2
open Evl (Ex)

/-! ### data as PyData -/
mutual
def D.py : D → PyData
  | .bl b => .bool b
  | .int i => .int i
  | .str x => .str x
  | .tup ds => .tuple (D.pys ds)
  | .lst ds => .list (D.pys ds)
  | _ => .none
def D.pys : List D → List PyData
  | [] => []
  | d :: ds => d.py :: D.pys ds
end
mutual
/-- data alone, its texts of code points -/
def D.dat : D → Bool
  | .non => true
  | .bl _ => true
  | .int _ => true
  | .str x => PyData.strOk x
  | .tup ds => D.dats ds
  | .lst ds => D.dats ds
  | _ => false
def D.dats : List D → Bool
  | [] => true
  | d :: ds => d.dat && D.dats ds
end
mutual
def D.dep : D → Nat
  | .tup ds => D.deps ds + 1
  | .lst ds => D.deps ds + 1
  | _ => 0
def D.deps : List D → Nat
  | [] => 0
  | d :: ds => max d.dep (D.deps ds)
end
def D.fit (d : D) : Bool := d.dat && decide (d.dep ≤ 64)
mutual
theorem D.lay : ∀ d : D, d.dat = true → d.py.canLay0 = true
  | .non, _ => rfl
  | .bl _, _ => rfl
  | .int _, _ => rfl
  | .str x, h => by simpa [D.py, PyData.canLay0, D.dat] using h
  | .adr _, h => by simp [D.dat] at h
  | .ins _ _ _, h => by simp [D.dat] at h
  | .set _ _, h => by simp [D.dat] at h
  | .fz _, h => by simp [D.dat] at h
  | .tup ds, h => by simp only [D.py, PyData.canLay0]; exact D.lays ds (by simpa [D.dat] using h)
  | .lst ds, h => by simp only [D.py, PyData.canLay0]; exact D.lays ds (by simpa [D.dat] using h)
theorem D.lays : ∀ ds : List D, D.dats ds = true → PyData.canLayAll0 (D.pys ds) = true
  | [], _ => rfl
  | d :: ds, h => by
    simp only [D.dats, Bool.and_eq_true] at h
    simp only [D.pys, PyData.canLayAll0, Bool.and_eq_true]
    exact ⟨D.lay d h.1, D.lays ds h.2⟩
end
mutual
theorem D.depth : ∀ d : D, d.py.depth = d.dep
  | .non => by simp [D.py, PyData.depth, D.dep]
  | .bl _ => by simp [D.py, PyData.depth, D.dep]
  | .int _ => by simp [D.py, PyData.depth, D.dep]
  | .str x => by simp [D.py, PyData.depth, D.dep]
  | .adr _ => by simp [D.py, PyData.depth, D.dep]
  | .ins _ _ _ => by simp [D.py, PyData.depth, D.dep]
  | .set _ _ => by simp [D.py, PyData.depth, D.dep]
  | .fz _ => by simp [D.py, PyData.depth, D.dep]
  | .tup ds => by simp only [D.py, PyData.depth, D.dep, D.depths ds]
  | .lst ds => by simp only [D.py, PyData.depth, D.dep, D.depths ds]
theorem D.depths : ∀ ds : List D, PyData.depthAll (D.pys ds) = D.deps ds
  | [] => by simp [D.pys, PyData.depthAll, D.deps]
  | d :: ds => by simp only [D.pys, PyData.depthAll, D.deps, D.depth d, D.depths ds]
end
theorem D.fit_shaped {d : D} (h : d.fit = true) : SeqAt.shaped d.py = true := by
  simp only [D.fit, Bool.and_eq_true, decide_eq_true_eq] at h
  show (d.py.canLay0 && decide (d.py.depth ≤ 64)) = true
  rw [Bool.and_eq_true, decide_eq_true_eq, D.depth]
  exact ⟨D.lay d h.1, h.2⟩
section
variable {K : PySem.W.Frag} {G H : Hp}
mutual
theorem Dn.dp : ∀ {d : D} {v : V}, Dn K G d v → d.dat = true → Dp K G v d.py
  | _, _, .non, _ => .non
  | _, _, .bl _, _ => .bl _
  | _, _, .int _, _ => .int _
  | _, _, .str _, _ => .str _
  | _, _, .tup h hs, hd => .tup h (DnAll.dp hs (by simpa [D.dat] using hd))
  | _, _, .lst h hs, hd => .lst (.of h) (DnAll.dp hs (by simpa [D.dat] using hd))
  | _, _, .adr _, hd => by simp [D.dat] at hd
  | _, _, .ins _ _ _, hd => by simp [D.dat] at hd
  | _, _, .set _, hd => by simp [D.dat] at hd
  | _, _, .fz _ _, hd => by simp [D.dat] at hd
theorem DnAll.dp : ∀ {ds : List D} {vs : List V}, DnAll K G ds vs → D.dats ds = true → DpAll K G vs (D.pys ds)
  | _, _, .nil, _ => .nil
  | _, _, .cons h hs, hd => by
    simp only [D.dats, Bool.and_eq_true] at hd
    exact .cons (Dn.dp h hd.1) (DnAll.dp hs hd.2)
end
end
/-- == of data -/
def deq (x y : D) : Bool := PyData.eqv x.py y.py
/-! no truth values in it -/
mutual
def D.nob : D → Bool
  | .bl _ => false
  | .tup ds => D.nobs ds
  | .lst ds => D.nobs ds
  | .non => true
  | .int _ => true
  | .str _ => true
  | _ => false
def D.nobs : List D → Bool
  | [] => true
  | d :: ds => d.nob && D.nobs ds
end
mutual
theorem deq_iff : ∀ (x y : D), x.nob = true → y.nob = true → (deq x y = true ↔ x = y)
  | .non, .non, _, _ => by simp [deq, D.py, PyData.eqv]
  | .non, .int _, _, _ => by simp [deq, D.py, PyData.eqv]
  | .non, .str _, _, _ => by simp [deq, D.py, PyData.eqv]
  | .non, .tup _, _, _ => by simp [deq, D.py, PyData.eqv]
  | .non, .lst _, _, _ => by simp [deq, D.py, PyData.eqv]
  | .int _, .non, _, _ => by simp [deq, D.py, PyData.eqv]
  | .int _, .int _, _, _ => by simp [deq, D.py, PyData.eqv]
  | .int _, .str _, _, _ => by simp [deq, D.py, PyData.eqv]
  | .int _, .tup _, _, _ => by simp [deq, D.py, PyData.eqv]
  | .int _, .lst _, _, _ => by simp [deq, D.py, PyData.eqv]
  | .str _, .non, _, _ => by simp [deq, D.py, PyData.eqv]
  | .str _, .int _, _, _ => by simp [deq, D.py, PyData.eqv]
  | .str _, .str _, _, _ => by simp [deq, D.py, PyData.eqv]
  | .str _, .tup _, _, _ => by simp [deq, D.py, PyData.eqv]
  | .str _, .lst _, _, _ => by simp [deq, D.py, PyData.eqv]
  | .tup _, .non, _, _ => by simp [deq, D.py, PyData.eqv]
  | .tup _, .int _, _, _ => by simp [deq, D.py, PyData.eqv]
  | .tup _, .str _, _, _ => by simp [deq, D.py, PyData.eqv]
  | .tup _, .lst _, _, _ => by simp [deq, D.py, PyData.eqv]
  | .lst _, .non, _, _ => by simp [deq, D.py, PyData.eqv]
  | .lst _, .int _, _, _ => by simp [deq, D.py, PyData.eqv]
  | .lst _, .str _, _, _ => by simp [deq, D.py, PyData.eqv]
  | .lst _, .tup _, _, _ => by simp [deq, D.py, PyData.eqv]
  | .tup xs, .tup ys, h, k => by
    have := deqs_iff xs ys (by simpa [D.nob] using h) (by simpa [D.nob] using k)
    simpa [deq, D.py, PyData.eqv] using this
  | .lst xs, .lst ys, h, k => by
    have := deqs_iff xs ys (by simpa [D.nob] using h) (by simpa [D.nob] using k)
    simpa [deq, D.py, PyData.eqv] using this
  | .bl _, _, h, _ => by simp [D.nob] at h
  | .adr _, _, h, _ => by simp [D.nob] at h
  | .ins _ _ _, _, h, _ => by simp [D.nob] at h
  | .set _ _, _, h, _ => by simp [D.nob] at h
  | .fz _, _, h, _ => by simp [D.nob] at h
  | _, .bl _, _, h => by simp [D.nob] at h
  | _, .adr _, _, h => by simp [D.nob] at h
  | _, .ins _ _ _, _, h => by simp [D.nob] at h
  | _, .set _ _, _, h => by simp [D.nob] at h
  | _, .fz _, _, h => by simp [D.nob] at h
theorem deqs_iff : ∀ (xs ys : List D), D.nobs xs = true → D.nobs ys = true → (PyData.eqvAll (D.pys xs) (D.pys ys) = true ↔ xs = ys)
  | [], [], _, _ => by simp [D.pys, PyData.eqvAll]
  | [], _ :: _, _, _ => by simp [D.pys, PyData.eqvAll]
  | _ :: _, [], _, _ => by simp [D.pys, PyData.eqvAll]
  | x :: xs, y :: ys, h, k => by
    simp only [D.nobs, Bool.and_eq_true] at h k
    have e1 := deq_iff x y h.1 k.1
    have e2 := deqs_iff xs ys h.2 k.2
    simp only [D.pys, PyData.eqvAll, Bool.and_eq_true, List.cons.injEq]
    rw [e2]
    constructor
    · intro ⟨p, q⟩; exact ⟨e1.mp p, q⟩
    · intro ⟨p, q⟩; exact ⟨e1.mpr p, q⟩
end

section
variable {X : Cx} {a b c e : Expr} {ta tb tc te : VE} {pos : Pos}
/-- the answer, or its opposite -/
abbrev nb (neg b : Bool) : Bool := match neg with
  | true => !b
  | false => b
/-- scalars -/
def dsc : D → D → Option Bool
  | .non, .non => some true
  | .non, .int _ => some false
  | .int _, .non => some false
  | .non, .bl _ => some false
  | .bl _, .non => some false
  | .non, .str _ => some false
  | .str _, .non => some false
  | .int i, .int j => some (decide (i = j))
  | .bl i, .bl j => some (decide (i = j))
  | .str i, .str j => some (decide (i = j))
  | .int _, .str _ => some false
  | .str _, .int _ => some false
  | .bl _, .str _ => some false
  | .str _, .bl _ => some false
  | _, _ => none
theorem dsc_ok {K : PySem.W.Frag} {G : Hp} {x y : D} {v u : V} {b : Bool} (hx : Dn K G x v) (hy : Dn K G y u) (h : dsc x y = some b) : scal v u = true ∧ b = decide (v = u) := by
  cases hx <;> cases hy <;> simp [dsc] at h <;> (try subst h) <;> simp [scal]
/-- what stands for it as data: a cell's list read -/
def view (m : MH) : D → D
  | .adr a => match m a with
    | some (.lst ds) => .lst ds
    | _ => .adr a
  | .fz ds => .lst ds
  | d => d
theorem view_adr {m : MH} {a : Addr} {ds : List D} (h : m a = some (.lst ds)) : view m (.adr a) = .lst ds := by simp only [view, h]
theorem MSt.vw {K : PySem.W.Frag} {G H : Hp} {m : MH} (s : MSt K G m H) {d : D} {v : V} (r : Dn K G d v) (f : (view m d).dat = true) : Dp K H v (view m d).py := by
  have gen : ∀ d : D, Dn K G d v → d.dat = true → Dp K H v d.py := fun d r f => (r.mono s.ex).dp f
  cases d with
  | adr a =>
    cases r
    simp only [view] at f ⊢
    cases q : m a with
    | none => rw [q] at f; simp [D.dat] at f
    | some o =>
      rw [q] at f
      cases o with
      | lst ds =>
        obtain ⟨_, ho, h1, h2⟩ := s.mr a _ q
        cases h2 with
        | lst h2 => exact .lst (.of h1) ((h2.mono s.ex).dp (by simpa [D.dat] using f))
      | dct _ _ => simp [D.dat] at f
      | ins _ _ _ => simp [D.dat] at f
  | fz ds =>
    cases r with
    | fz h1 h2 => exact .lst (Evl.ex_l s.ex h1) ((h2.mono s.ex).dp (by simpa [view, D.dat] using f))
  | _ => exact gen _ r f
/-- ==, !=: scalars; data -/
inductive EqG (neg : Bool) (x y : D) (m : MH) (Q : D → Prop) : Prop
  | sc {b : Bool} (h : dsc x y = some b) (q : Q (.bl (nb neg b)))
  | dt {x' y' : D} {b : Bool} (hx : view m x = x') (hy : view m y = y') (fx : x'.fit = true) (fy : y'.fit = true) (hb : deq x' y' = b) (q : Q (.bl (nb neg b)))
def oEqG (neg : Bool) : VO := fun x y m Q => EqG neg x y m Q
abbrev oEq : VO := oEqG false
abbrev oNe : VO := oEqG true
theorem fit_dat {d : D} (h : d.fit = true) : d.dat = true := by
  simp only [D.fit, Bool.and_eq_true] at h; exact h.1
theorem uo_eq (hu : X.A.units + 64 < cLine) : UO X (compareOp .Eq) oEq := opsplit op_eq (op_eqD hu) fun x y H Q h => by
  obtain ⟨G, m, dx, dy, P, s, hx, hy, t, k⟩ := h
  replace t : EqG false dx dy m P := t
  cases t with
  | sc q t =>
    obtain ⟨h1, h2⟩ := dsc_ok hx hy q
    refine .inl ⟨h1, ?_⟩
    rw [← h2]
    exact k _ G _ H t Stp.refl s (.bl _)
  | dt e1 e2 f1 f2 hb t =>
    subst e1 e2 hb
    exact .inr ⟨_, _, s.vw hx (fit_dat f1), s.vw hy (fit_dat f2), D.fit_shaped f1, D.fit_shaped f2, k _ G _ H t Stp.refl s (.bl _)⟩
theorem uo_ne (hu : X.A.units + 64 < cLine) : UO X (compareOp .NotEq) oNe := opsplit op_ne (op_neD hu) fun x y H Q h => by
  obtain ⟨G, m, dx, dy, P, s, hx, hy, t, k⟩ := h
  replace t : EqG true dx dy m P := t
  cases t with
  | sc q t =>
    obtain ⟨h1, h2⟩ := dsc_ok hx hy q
    refine .inl ⟨h1, ?_⟩
    rw [← h2]
    exact k _ G _ H t Stp.refl s (.bl _)
  | dt e1 e2 f1 f2 hb t =>
    subst e1 e2 hb
    exact .inr ⟨_, _, s.vw hx (fit_dat f1), s.vw hy (fit_dat f2), D.fit_shaped f1, D.fit_shaped f2, k _ G _ H t Stp.refl s (.bl _)⟩
/-- is None, is a bool -/
def isN : D → Bool
  | .non => true
  | _ => false
def oIsG (neg : Bool) : VO := fun x y _ Q => match y with
  | .non => Q (.bl (nb neg (isN x)))
  | .bl b => match x with
    | .bl a => Q (.bl (nb neg (decide (a = b))))
    | _ => False
  | _ => False
theorem isN_ok {K : PySem.W.Frag} {G : Hp} {x : D} {v : V} (hx : Dn K G x v) : isN x = decide (v = .non) := by
  cases hx <;> simp [isN]
theorem uo_is : UO X (compareOp .Is) (oIsG false) := opsplit op_isN op_isBl fun x y H Q h => by
  obtain ⟨G, m, dx, dy, P, s, hx, hy, t, k⟩ := h
  cases hy with
  | non =>
    refine .inl ⟨rfl, ?_⟩
    rw [← isN_ok hx]
    exact k _ G _ H t Stp.refl s (.bl _)
  | bl b =>
    cases hx with
    | bl a => exact .inr ⟨a, b, rfl, rfl, k _ G _ H t Stp.refl s (.bl _)⟩
    | _ => exact t.elim
  | _ => exact t.elim
theorem uo_isNot : UO X (compareOp .IsNot) (oIsG true) := opsplit op_notN op_notBl fun x y H Q h => by
  obtain ⟨G, m, dx, dy, P, s, hx, hy, t, k⟩ := h
  cases hy with
  | non =>
    refine .inl ⟨rfl, ?_⟩
    rw [← isN_ok hx]
    exact k _ G _ H t Stp.refl s (.bl _)
  | bl b =>
    cases hx with
    | bl a => exact .inr ⟨a, b, rfl, rfl, k _ G _ H t Stp.refl s (.bl _)⟩
    | _ => exact t.elim
  | _ => exact t.elim

/-! ### in -/
/-- any item that is == x -/
def din (x : D) (ds : List D) : Bool := ds.any fun z => deq z x
theorem din_pys {x : D} : ∀ ds : List D, ((D.pys ds).any fun z => PyData.eqv z x.py) = din x ds
  | [] => rfl
  | d :: ds => by
    have := din_pys (x := x) ds
    simp only [D.pys, List.any_cons, this]
    rfl
def D.flat : D → Bool
  | .non => true
  | .bl _ => true
  | .int _ => true
  | .str _ => true
  | _ => false
theorem flat_ok {K : PySem.W.Frag} {G : Hp} {x : D} {v : V} (hx : Dn K G x v) (h : x.flat = true) : flatV v = true := by
  cases hx <;> first | rfl | simp [D.flat] at h
theorem flat_eq {K : PySem.W.Frag} {G : Hp} {x y : D} {v u : V} (hx : Dn K G x v) (hy : Dn K G y u) (fx : x.flat = true) (fy : y.flat = true) : eqV v u = deq x y := by
  cases hx <;> cases hy <;> first | (simp [D.flat] at fx; done) | (simp [D.flat] at fy; done) | (simp [eqV, deq, D.py, PyData.eqv]; done) | rfl
theorem flats_ok {K : PySem.W.Frag} {G : Hp} : ∀ {ds : List D} {vs : List V}, DnAll K G ds vs → ds.all D.flat = true → vs.all flatV = true
  | _, _, .nil, _ => rfl
  | _, _, .cons h hs, f => by
    simp only [List.all_cons, Bool.and_eq_true] at f ⊢
    exact ⟨flat_ok h f.1, flats_ok hs f.2⟩
theorem flats_in {K : PySem.W.Frag} {G : Hp} {x : D} {v : V} (hx : Dn K G x v) (fx : x.flat = true) : ∀ {ds : List D} {vs : List V}, DnAll K G ds vs → ds.all D.flat = true → inV v vs = din x ds
  | _, _, .nil, _ => rfl
  | _, _, .cons h hs, f => by
    simp only [List.all_cons, Bool.and_eq_true] at f
    have := flats_in hx fx hs f.2
    unfold inV din at this ⊢
    rw [List.any_cons, List.any_cons, this, flat_eq h hx f.1 fx]
inductive InG (neg : Bool) (x y : D) (m : MH) (Q : D → Prop) : Prop
  | tup {ds : List D} {b : Bool} (e : y = .tup ds) (fx : x.flat = true) (fd : ds.all D.flat = true) (hb : din x ds = b) (q : Q (.bl (nb neg b)))
  | sg {c : Nat} {z : Str} (e1 : x = .str ⟨#[c]⟩) (e2 : y = .str z) (q : Q (.bl (nb neg (decide (c ∈ z.cps.toList)))))
  | lst {ds : List D} {b : Bool} (e : asL m y = some ds) (fx : x.fit = true) (fd : (D.lst ds).fit = true) (hb : din x ds = b) (q : Q (.bl (nb neg b)))
def oInG (neg : Bool) : VO := fun x y m Q => InG neg x y m Q
theorem asL_view {m : MH} {y : D} {ds : List D} (h : asL m y = some ds) : view m y = .lst ds := by
  cases y with
  | lst es => cases h; rfl
  | fz es => cases h; rfl
  | adr a =>
    simp only [asL, asT] at h
    simp only [view]
    cases q : m a with
    | none => rw [q] at h; cases h
    | some o =>
      rw [q] at h
      cases o with
      | lst es => cases h; rfl
      | dct _ _ => cases h
      | ins _ _ _ => cases h
  | _ => cases h
theorem in_list {K : PySem.W.Frag} {G H : Hp} {m : MH} {x y : D} {v u : V} {ds : List D} (s : MSt K G m H) (hx : Dn K G x v) (hy : Dn K G y u) (h : asL m y = some ds) (fx : x.fit = true) (fy : (D.lst ds).fit = true) :
    Dp K H v x.py ∧ Dp K H u (.list (D.pys ds)) ∧ SeqAt.shaped x.py = true ∧ SeqAt.shaped (.list (D.pys ds)) = true := by
  have e := asL_view h
  have q := s.vw hy (by rw [e]; exact fit_dat fy)
  rw [e] at q
  exact ⟨(hx.mono s.ex).dp (fit_dat fx), q, D.fit_shaped fx, D.fit_shaped fy⟩
theorem uo_in (hu : X.A.units + 65 < cLine) : UO X (compareOp .In) (oInG false) := opsplit (opsplit op_in_seq op_in_sign (r'' := fun x y H Q => rIn X.K false x y H Q ∨ ∃ (c : Nat) (z : Str), x = .str ⟨#[c]⟩ ∧ y = .str z ∧ Q (.bl (decide (c ∈ z.cps.toList))) H) fun _ _ _ _ h => h) (op_inD hu) fun x y H Q h => by
  obtain ⟨G, m, dx, dy, P, s, hx, hy, t, k⟩ := h
  replace t : InG false dx dy m P := t
  cases t with
  | tup e f1 f2 hb t =>
    subst e hb
    cases hy with
    | tup h1 h2 =>
      refine .inl (.inl ⟨_, _, rfl, .inr (Evl.ex_t s.ex h1), flat_ok hx f1, flats_ok h2 f2, ?_⟩)
      rw [flats_in hx f1 h2 f2]
      exact k _ G _ H t Stp.refl s (.bl _)
  | sg e1 e2 t =>
    subst e1 e2
    cases hx
    cases hy
    exact .inl (.inr ⟨_, _, rfl, rfl, k _ G _ H t Stp.refl s (.bl _)⟩)
  | lst h1 h2 h3 hb h4 =>
    subst hb
    obtain ⟨q1, q2, q3, q4⟩ := in_list s hx hy h1 h2 h3
    exact .inr ⟨_, _, q1, q2, q3, q4, by rw [din_pys]; exact k _ G _ H h4 Stp.refl s (.bl _)⟩
theorem uo_notIn (hu : X.A.units + 65 < cLine) : UO X (compareOp .NotIn) (oInG true) := opsplit (opsplit op_notIn_seq op_notIn_sign (r'' := fun x y H Q => rIn X.K true x y H Q ∨ ∃ (c : Nat) (z : Str), x = .str ⟨#[c]⟩ ∧ y = .str z ∧ Q (.bl (!decide (c ∈ z.cps.toList))) H) fun _ _ _ _ h => h) (op_notInD hu) fun x y H Q h => by
  obtain ⟨G, m, dx, dy, P, s, hx, hy, t, k⟩ := h
  replace t : InG true dx dy m P := t
  cases t with
  | tup e f1 f2 hb t =>
    subst e hb
    cases hy with
    | tup h1 h2 =>
      refine .inl (.inl ⟨_, _, rfl, .inr (Evl.ex_t s.ex h1), flat_ok hx f1, flats_ok h2 f2, ?_⟩)
      rw [flats_in hx f1 h2 f2]
      exact k _ G _ H t Stp.refl s (.bl _)
  | sg e1 e2 t =>
    subst e1 e2
    cases hx
    cases hy
    exact .inl (.inr ⟨_, _, rfl, rfl, k _ G _ H t Stp.refl s (.bl _)⟩)
  | lst h1 h2 h3 hb h4 =>
    subst hb
    obtain ⟨q1, q2, q3, q4⟩ := in_list s hx hy h1 h2 h3
    exact .inr ⟨_, _, q1, q2, q3, q4, by rw [din_pys]; exact k _ G _ H h4 Stp.refl s (.bl _)⟩
end
end DL

namespace DL
open PySem L2
open Evl (Ex)
section
variable {X : Cx} {B : Bs} {a b c e o : Expr} {es : List Expr} {ta tb tc te to : VE} {va : VA} {pos : Pos}

/-! ### + -/
def oAdd : VO := fun x y m Q => match x, y with
  | .int i, .int j => Q (.int (i + j))
  | .str i, .str j => i.length + j.length ≤ sizeLine ∧ Q (.str (i ++ j))
  | .tup xs, .tup ys => xs ≠ [] ∧ xs.length + ys.length ≤ sizeLine ∧ Q (.tup (xs ++ ys))
  | x, y => ∃ xs ys, asT m x = some xs ∧ asT m y = some ys ∧ xs.length + ys.length ≤ sizeLine ∧ Q (.lst (xs ++ ys))
/-- two lists added, a new list -/
theorem low_cat {K : PySem.W.Frag} {G H : Hp} {m : MH} {dx dy : D} {x y : V} {P : D → Prop} {Q : VK} {xs ys : List D} (s : MSt K G m H) (hx : Dn K G dx x) (hy : Dn K G dy y)
    (k : ∀ d G' v H', P d → Stp G m H G' m H' → MSt K G' m H' → Dn K G' d v → Q v H') (h1 : asT m dx = some xs) (h2 : asT m dy = some ys) (h3 : xs.length + ys.length ≤ sizeLine) (h4 : P (.lst (xs ++ ys))) : rCat x y H Q := by
  obtain ⟨a, us, rfl, ha, ra⟩ := s.asT hx h1
  obtain ⟨b, vs, rfl, hb, rb⟩ := s.asT hy h2
  refine ⟨a, b, us, vs, rfl, rfl, ha, hb, by rw [← ra.length, ← rb.length]; exact h3, fun p hp => ?_⟩
  obtain ⟨e, s'⟩ := s.newG hp (.lst (us ++ vs))
  exact k _ _ _ _ h4 e s' (.lst upd_same ((ra.append rb).mono e.ex))
theorem uo_add : UO X (binaryOp .Add) oAdd := opsplit (opsplit op_add op_add_str (r'' := fun x y H Q => rI0 (fun i j => .int (i + j)) x y H Q ∨ ∃ i j, x = .str i ∧ y = .str j ∧ i.length + j.length ≤ sizeLine ∧ Q (.str (i ++ j)) H) fun _ _ _ _ h => h)
    (opsplit op_catT op_cat (r'' := fun x y H Q => rCatT X.K x y H Q ∨ rCat x y H Q) fun _ _ _ _ h => h) fun x y H Q h => by
  obtain ⟨G, m, dx, dy, P, s, hx, hy, t, k⟩ := h
  unfold oAdd at t
  split at t
  · cases hx; cases hy
    exact .inl (.inl ⟨_, _, rfl, rfl, k _ G _ H t Stp.refl s (.int _)⟩)
  · cases hx; cases hy
    exact .inl (.inr ⟨_, _, rfl, rfl, t.1, k _ G _ H t.2 Stp.refl s (.str _)⟩)
  · cases hx with
    | tup h1 h2 =>
      cases hy with
      | tup h3 h4 =>
        obtain ⟨t1, t2, t3⟩ := t
        refine .inr (.inl ⟨_, _, _, _, rfl, rfl, Evl.ex_t s.ex h1, Evl.ex_t s.ex h3, ?_, by rw [← h2.length, ← h4.length]; exact t2, fun z => ?_, fun z p hp => ?_⟩)
        · intro z
          subst z
          cases h2
          exact t1 rfl
        · subst z
          cases h4
          rw [List.append_nil] at t3
          exact k _ G _ H t3 Stp.refl s (.tup h1 h2)
        · obtain ⟨e, s'⟩ := s.newG hp (.tup _)
          exact k _ _ _ _ t3 e s' (.tup (.of upd_same) ((h2.append h4).mono e.ex))
  · obtain ⟨xs, ys, h1, h2, h3, h4⟩ := t
    exact .inr (.inr (low_cat s hx hy k h1 h2 h3 h4))

/-! ### tests -/
def vTest (t : VE) : VT := fun ρ m Q => t ρ m fun d m' => match d with | .bl b => Q b m' | _ => False
theorem ut_cmp {op : CmpOp} {o : VO} (ho : UO X (compareOp op) o) (ha : UE X B a ta) (hb : UE X B b tb) (hm : behindInMarks op b = false) : UT X B (.Compare a [op] [b] pos) (vTest (vOp o ta tb)) :=
  ⟨(pt_cmpR ho ha.pe hb.pe hm).weak fun σ H Q h => by
    obtain ⟨G, ρ, m, P, e0, s, t, k⟩ := h
    refine low_op ⟨G, ρ, m, _, e0, s, t, fun d m' G' v H' q e1 s1 r1 => ?_⟩
    cases r1 <;> first | exact q.elim | exact ⟨_, rfl, k _ m' G' H' q e1 s1⟩⟩
/-- a chain a < b < c, the value of b held -/
def vChain (o o' : VO) (ta tb tc : VE) : VE := fun ρ m Q => ta ρ m fun x m1 => tb ρ m1 fun y m2 => o x y m2 fun d => match d with
  | .bl b1 => (b1 = true → tc ρ m2 fun z m3 => o' y z m3 fun d' => Q d' m3) ∧ (b1 = false → Q (.bl false) m2)
  | _ => False
theorem low_chain {o o' : VO} {ta tb tc : VE} {σ : L2.St} {H : Hp} {Q : VK} (h : lowE X.K B (vChain o o' ta tb tc) σ H Q) : tChain (lowO X.K o) (lowO X.K o') (lowE X.K B ta) (lowE X.K B tb) (lowE X.K B tc) σ H Q := by
  obtain ⟨G, ρ, m, P, e0, s, t, k⟩ := h
  refine ⟨G, ρ, m, _, e0, s, t, fun x m1 G1 v1 H1 q1 e1 s1 r1 => ?_⟩
  refine ⟨G1, ρ, m1, _, e0.trans e1, ⟨s.fr.mono e1.ex, s1⟩, q1, fun y m2 G2 v2 H2 q2 e2 s2 r2 => ?_⟩
  refine ⟨G2, m2, x, y, _, s2, r1.mono e2.ex, r2, q2, fun d G3 v H3 q3 e3 s3 r3 => ?_⟩
  cases r3 <;> first | exact q3.elim | skip
  rename_i b1
  obtain ⟨q4, q5⟩ := q3
  refine ⟨b1, rfl, ?_⟩
  cases b1 with
  | false =>
    rw [if_neg Bool.false_ne_true]
    exact k _ m2 G3 _ H3 (q5 rfl) ((e1.trans e2).trans e3) s3 (.bl _)
  | true =>
    rw [if_pos rfl]
    refine ⟨G3, ρ, m2, _, ((e0.trans e1).trans e2).trans e3, ⟨s.fr.mono ((e1.trans e2).trans e3).ex, s3⟩, q4 rfl, fun z m3 G4 v4 H4 q6 e4 s4 r4 => ?_⟩
    exact ⟨G4, m3, y, z, _, s4, r2.mono (e3.trans e4).ex, r4, q6, fun d G5 v5 H5 q7 e5 s5 r5 => k _ m3 G5 _ H5 q7 ((((e1.trans e2).trans e3).trans e4).trans e5) s5 r5⟩
theorem ue_chain {op op' : CmpOp} {o o' : VO} (ho : UO X (compareOp op) o) (ho' : UO X (compareOp op') o') (ha : UE X B a ta) (hb : UE X B b tb) (hc : UE X B c tc) (hm : lastMarks [op, op'] [b, c] = false := by rfl) : UE X B (.Compare a [op, op'] [b, c] pos) (vChain o o' ta tb tc) :=
  ⟨(pe_chain ho ho' ha.pe hb.pe hc.pe (hm := hm)).weak fun _ _ _ h => low_chain h⟩
theorem ut_chain {op op' : CmpOp} {o o' : VO} (ho : UO X (compareOp op) o) (ho' : UO X (compareOp op') o') (ha : UE X B a ta) (hb : UE X B b tb) (hc : UE X B c tc) (hm : lastMarks [op, op'] [b, c] = false := by rfl) : UT X B (.Compare a [op, op'] [b, c] pos) (vTest (vChain o o' ta tb tc)) :=
  ⟨(pt_chain ho ho' ha.pe hb.pe hc.pe (hm := hm)).weak fun σ H Q h => by
    obtain ⟨G, ρ, m, P, e0, s, t, k⟩ := h
    refine low_chain ⟨G, ρ, m, _, e0, s, t, fun d m' G' v H' q e1 s1 r1 => ?_⟩
    cases r1 <;> first | exact q.elim | exact ⟨_, rfl, k _ m' G' H' q e1 s1⟩⟩
/-- truth of a value -/
inductive TruG (m : MH) (d : D) (Q : Bool → Prop) : Prop
  | non (e : d = .non) (q : Q false)
  | bl {b : Bool} (e : d = .bl b) (q : Q b)
  | int {i : Int} (e : d = .int i) (q : Q (i != 0))
  | str {z : Str} (e : d = .str z) (l : z.length ≤ sizeLine) (q : Q ((z.length : Int) != 0))
  | tup {ds : List D} (e : d = .tup ds) (q : Q (!ds.isEmpty))
  | dct {a : Addr} {ks : List Key} {ds : List D} (e : d = .adr a) (h : m a = some (.dct ks ds)) (q : Q (!ks.isEmpty))
  | lst {ds : List D} (e : asL m d = some ds) (q : Q (!ds.isEmpty))
def dTru (m : MH) (d : D) (Q : Bool → Prop) : Prop := TruG m d Q
def vTru (t : VE) : VT := fun ρ m Q => t ρ m fun d m' => dTru m' d fun b => Q b m'
theorem DnAll.isEmpty {K : PySem.W.Frag} {G : Hp} {ds : List D} {vs : List V} (h : DnAll K G ds vs) : vs.isEmpty = ds.isEmpty := by
  cases h <;> rfl
theorem MSt.tru {K : PySem.W.Frag} {G H : Hp} {m : MH} (s : MSt K G m H) {d : D} {v : V} (r : Dn K G d v) {Q : Bool → Prop} (h : dTru m d Q) : ∃ k, TruV K v H k ∧ Q k := by
  replace h : TruG m d Q := h
  cases h with
  | non e q => subst e; cases r; exact ⟨_, rfl, q⟩
  | bl e q => subst e; cases r; exact ⟨_, rfl, q⟩
  | int e q => subst e; cases r; exact ⟨_, rfl, q⟩
  | str e l q => subst e; cases r; exact ⟨_, ⟨l, rfl⟩, q⟩
  | tup e q =>
    subst e
    cases r with
    | tup h1 h2 => exact ⟨_, .inr (.inl ⟨_, Evl.ex_t s.ex h1, rfl⟩), by rw [h2.isEmpty]; exact q⟩
  | dct e h1 q =>
    subst e
    cases r
    obtain ⟨_, ho, h3, h4⟩ := s.mr _ _ h1
    cases h4 with
    | dct e1 h4 =>
      rename_i kvs
      refine ⟨_, .inr (.inr ⟨_, h3, rfl⟩), ?_⟩
      subst e1
      cases kvs <;> exact q
  | lst h1 q =>
    obtain ⟨a, xs, rfl, h3, h4⟩ := s.asL r h1
    exact ⟨_, .inl ⟨_, h3, rfl⟩, by rw [h4.isEmpty]; exact q⟩
theorem ut_tru (ha : UE X B a ta) (he : ∀ whole, isTrue a X.env whole = (do let v ← whole; standAt a.pos; holding [v] (truthy v)) := by intro _; rfl) : UT X B a (vTru ta) :=
  ⟨(pt_truth ha.pe he).weak fun σ H Q h => by
    obtain ⟨G, ρ, m, P, e0, s, t, k⟩ := h
    refine ⟨G, ρ, m, _, e0, s, t, fun d m' G' v H' q e1 s1 r1 => ?_⟩
    obtain ⟨b, h1, h2⟩ := s1.tru r1 q
    exact ⟨b, h1, k b m' G' H' h2 e1 s1⟩⟩
variable {t u : VT}
/-- and, or of tests, way by way -/
def vAnd (t u : VT) : VT := fun ρ m Q => t ρ m fun b1 m1 => (b1 = true → u ρ m1 Q) ∧ (b1 = false → Q false m1)
def vOr (t u : VT) : VT := fun ρ m Q => t ρ m fun b1 m1 => (b1 = true → Q true m1) ∧ (b1 = false → u ρ m1 Q)
def vNot (t : VT) : VT := fun ρ m Q => t ρ m fun b m1 => Q (!b) m1
theorem low_and {K : PySem.W.Frag} {σ : L2.St} {H : Hp} {Q : Bool → Hp → Prop} (h : lowT K B (vAnd t u) σ H Q) : tAnd (lowT K B t) (lowT K B u) σ H Q := by
  obtain ⟨G, ρ, m, P, e0, s, t, k⟩ := h
  refine ⟨G, ρ, m, _, e0, s, t, fun b1 m1 G1 H1 q1 e1 s1 => ?_⟩
  cases b1 with
  | false => rw [if_neg Bool.false_ne_true]; exact k _ m1 G1 H1 (q1.2 rfl) e1 s1
  | true =>
    rw [if_pos rfl]
    exact ⟨G1, ρ, m1, _, e0.trans e1, ⟨s.fr.mono e1.ex, s1⟩, q1.1 rfl, fun c m2 G2 H2 q4 e2 s2 => k _ m2 G2 H2 q4 (e1.trans e2) s2⟩
theorem low_or {K : PySem.W.Frag} {σ : L2.St} {H : Hp} {Q : Bool → Hp → Prop} (h : lowT K B (vOr t u) σ H Q) : tOr (lowT K B t) (lowT K B u) σ H Q := by
  obtain ⟨G, ρ, m, P, e0, s, t, k⟩ := h
  refine ⟨G, ρ, m, _, e0, s, t, fun b1 m1 G1 H1 q1 e1 s1 => ?_⟩
  cases b1 with
  | true => rw [if_pos rfl]; exact k _ m1 G1 H1 (q1.1 rfl) e1 s1
  | false =>
    rw [if_neg Bool.false_ne_true]
    exact ⟨G1, ρ, m1, _, e0.trans e1, ⟨s.fr.mono e1.ex, s1⟩, q1.2 rfl, fun c m2 G2 H2 q4 e2 s2 => k _ m2 G2 H2 q4 (e1.trans e2) s2⟩
theorem UW.ut {e : Expr} (h : UW X B e t) : UT X B e t := ⟨h.pw.pt⟩
theorem uw_and1 (ha : UT X B a t) : UW X B (.BoolOp .And [a] pos) t := ⟨pw_and1 ha.pt⟩
theorem uw_or1 (ha : UT X B a t) : UW X B (.BoolOp .Or [a] pos) t := ⟨pw_or1 ha.pt⟩
theorem uw_and {rest : List Expr} (ha : UT X B a t) (hb : UW X B (.BoolOp .And (b :: rest) pos) u) : UW X B (.BoolOp .And (a :: b :: rest) pos) (vAnd t u) := ⟨(pw_and ha.pt hb.pw).weak fun _ _ _ h => low_and h⟩
theorem uw_or {rest : List Expr} (ha : UT X B a t) (hb : UW X B (.BoolOp .Or (b :: rest) pos) u) : UW X B (.BoolOp .Or (a :: b :: rest) pos) (vOr t u) := ⟨(pw_or ha.pt hb.pw).weak fun _ _ _ h => low_or h⟩
theorem ut_not (ha : UT X B a t) : UT X B (.UnaryOp .Not a pos) (vNot t) := ⟨(pt_not ha.pt).weak fun σ H Q h => by
  obtain ⟨G, ρ, m, P, e0, s, t, k⟩ := h
  exact ⟨G, ρ, m, _, e0, s, t, fun b m' G' H' q e1 s1 => k _ m' G' H' q e1 s1⟩⟩
/-- as values, of truth values -/
def vAndV (ta tb : VE) : VE := fun ρ m Q => ta ρ m fun x m1 => match x with
  | .bl b1 => (b1 = true → tb ρ m1 Q) ∧ (b1 = false → Q (.bl false) m1)
  | _ => False
def vOrV (ta tb : VE) : VE := fun ρ m Q => ta ρ m fun x m1 => match x with
  | .bl b1 => (b1 = true → Q (.bl true) m1) ∧ (b1 = false → tb ρ m1 Q)
  | _ => False
def vNotV (ta : VE) : VE := fun ρ m Q => ta ρ m fun x m1 => match x with | .bl b => Q (.bl (!b)) m1 | _ => False
theorem ue_one {op} (h : UE X B a ta) : UE X B (.BoolOp op [a] pos) ta := ⟨pe_one h.pe⟩
theorem ue_and {rest : List Expr} (ha : UE X B a ta) (hb : UE X B (.BoolOp .And (b :: rest) pos) tb) : UE X B (.BoolOp .And (a :: b :: rest) pos) (vAndV ta tb) := ⟨(pe_and ha.pe hb.pe).weak fun σ H Q h => by
  obtain ⟨G, ρ, m, P, e0, s, t, k⟩ := h
  refine ⟨G, ρ, m, _, e0, s, t, fun x m1 G1 v1 H1 q1 e1 s1 r1 => ?_⟩
  cases r1 <;> first | exact q1.elim | skip
  rename_i b1
  refine ⟨b1, rfl, ?_⟩
  cases b1 with
  | false => rw [if_neg Bool.false_ne_true]; exact k _ m1 G1 _ H1 (q1.2 rfl) e1 s1 (.bl _)
  | true =>
    rw [if_pos rfl]
    exact ⟨G1, ρ, m1, _, e0.trans e1, ⟨s.fr.mono e1.ex, s1⟩, q1.1 rfl, fun y m2 G2 v2 H2 q4 e2 s2 r2 => k _ m2 G2 _ H2 q4 (e1.trans e2) s2 r2⟩⟩
theorem ue_or {rest : List Expr} (ha : UE X B a ta) (hb : UE X B (.BoolOp .Or (b :: rest) pos) tb) : UE X B (.BoolOp .Or (a :: b :: rest) pos) (vOrV ta tb) := ⟨(pe_or ha.pe hb.pe).weak fun σ H Q h => by
  obtain ⟨G, ρ, m, P, e0, s, t, k⟩ := h
  refine ⟨G, ρ, m, _, e0, s, t, fun x m1 G1 v1 H1 q1 e1 s1 r1 => ?_⟩
  cases r1 <;> first | exact q1.elim | skip
  rename_i b1
  refine ⟨b1, rfl, ?_⟩
  cases b1 with
  | true => rw [if_pos rfl]; exact k _ m1 G1 _ H1 (q1.1 rfl) e1 s1 (.bl _)
  | false =>
    rw [if_neg Bool.false_ne_true]
    exact ⟨G1, ρ, m1, _, e0.trans e1, ⟨s.fr.mono e1.ex, s1⟩, q1.2 rfl, fun y m2 G2 v2 H2 q4 e2 s2 r2 => k _ m2 G2 _ H2 q4 (e1.trans e2) s2 r2⟩⟩
theorem ue_not (ha : UE X B a ta) : UE X B (.UnaryOp .Not a pos) (vNotV ta) := ⟨(pe_not ha.pe).weak fun σ H Q h => by
  obtain ⟨G, ρ, m, P, e0, s, t, k⟩ := h
  refine ⟨G, ρ, m, _, e0, s, t, fun x m1 G1 v1 H1 q1 e1 s1 r1 => ?_⟩
  cases r1 <;> first | exact q1.elim | skip
  exact ⟨_, rfl, k _ m1 G1 _ H1 q1 e1 s1 (.bl _)⟩⟩
def vIf (t : VT) (ta tb : VE) : VE := fun ρ m Q => t ρ m fun b m1 => (b = true → ta ρ m1 Q) ∧ (b = false → tb ρ m1 Q)
theorem ue_if (hc : UT X B c t) (ha : UE X B a ta) (hb : UE X B b tb) : UE X B (.IfExp c a b pos) (vIf t ta tb) := ⟨(pe_ifExp hc.pt ha.pe hb.pe).weak fun σ H Q h => by
  obtain ⟨G, ρ, m, P, e0, s, t, k⟩ := h
  refine ⟨G, ρ, m, _, e0, s, t, fun b1 m1 G1 H1 q1 e1 s1 => ?_⟩
  obtain ⟨q2, q3⟩ := q1
  cases b1 with
  | true => rw [if_pos rfl]; exact ⟨G1, ρ, m1, _, e0.trans e1, ⟨s.fr.mono e1.ex, s1⟩, q2 rfl, fun d m2 G2 v2 H2 q4 e2 => k d m2 G2 v2 H2 q4 (e1.trans e2)⟩
  | false => rw [if_neg Bool.false_ne_true]; exact ⟨G1, ρ, m1, _, e0.trans e1, ⟨s.fr.mono e1.ex, s1⟩, q3 rfl, fun d m2 G2 v2 H2 q4 e2 => k d m2 G2 v2 H2 q4 (e1.trans e2)⟩⟩
/-- -x -/
def vNeg (ta : VE) : VE := fun ρ m Q => ta ρ m fun x m1 => match x with | .int i => Q (.int (-i)) m1 | _ => False
theorem ue_neg (ha : UE X B a ta) : UE X B (.UnaryOp .USub a pos) (vNeg ta) := ⟨(pe_un un_neg ha.pe).weak fun σ H Q h => by
  obtain ⟨G, ρ, m, P, e0, s, t, k⟩ := h
  refine ⟨G, ρ, m, _, e0, s, t, fun x m1 G1 v1 H1 q1 e1 s1 r1 => ?_⟩
  cases r1 <;> first | exact q1.elim | exact ⟨_, rfl, k _ m1 G1 _ H1 q1 e1 s1 (.int _)⟩⟩

/-! ### subscripts -/
inductive IxG (x y : D) (m : MH) (Q : D → Prop) : Prop
  | tup {ds : List D} {i : Int} {d : D} (ey : y = .int i) (e : x = .tup ds) (h : atI ds i = some d) (q : Q d)
  | str {z : Str} {i : Int} {c : Nat} (ey : y = .int i) (e : x = .str z) (l : z.length ≤ sizeLine) (h : atI z.cps.toList i = some c) (q : Q (.str ⟨#[c]⟩))
  | lst {ds : List D} {i : Int} {d : D} (ey : y = .int i) (e : asL m x = some ds) (h : atI ds i = some d) (q : Q d)
def oIx : VO := fun x y m Q => IxG x y m Q
theorem DnAll.atI {K : PySem.W.Frag} {G : Hp} {ds : List D} {vs : List V} {i : Int} {d : D} (h : DnAll K G ds vs) (e : atI ds i = some d) : ∃ v, L2.atI vs i = some v ∧ Dn K G d v := by
  unfold L2.atI at e ⊢
  rw [← h.length]
  cases q : ixN ds.length i with
  | none => rw [q] at e; cases e
  | some j =>
    rw [q] at e
    exact h.get (show ds[j]? = some d from e)
theorem ux_low {x y : V} {H : Hp} {Q : VK} (h : lowO X.K oIx x y H Q) : rIx X.K x y H Q := by
  obtain ⟨G, m, dx, dy, P, s, hx, hy, t, k⟩ := h
  replace t : IxG dx dy m P := t
  cases t with
  | tup ey e h3 h4 =>
    subst ey e
    cases hy
    cases hx with
    | tup h1 h2 =>
      obtain ⟨v, h6, h7⟩ := h2.atI h3
      exact .inr (.inl ⟨_, _, _, v, rfl, rfl, Evl.ex_t s.ex h1, h6, k _ G _ H h4 Stp.refl s h7⟩)
  | str ey e h1 h2 h3 =>
    subst ey e
    cases hy
    cases hx
    exact .inr (.inr ⟨_, _, _, rfl, rfl, h1, h2, k _ G _ H h3 Stp.refl s (.str _)⟩)
  | lst ey h1 h2 h3 =>
    subst ey
    cases hy
    obtain ⟨p, xs, rfl, h4, h5⟩ := s.asL hx h1
    obtain ⟨v, h6, h7⟩ := h5.atI h2
    exact .inl ⟨p, xs, _, v, rfl, rfl, h4, h6, k _ G _ H h3 Stp.refl s h7⟩
theorem ue_ix (ha : UE X B a ta) (hb : UE X B b tb) (hs : PlainIx b := by exact fun _ _ => rfl) : UE X B (.Subscript a b pos) (vOp oIx ta tb) := by
  have hr : IxR X (lowO X.K oIx) := fun value slice pins s σ H x y v u Q I rx ry q hs => ix_seq value slice pins s σ H x y v u Q I rx ry (ux_low q) hs
  exact ⟨(pe_ix hr ha.pe hb.pe hs).weak fun _ _ _ h => low_op h⟩
/-- o[lo:hi] -/
abbrev VO3 := Frm → MH → (Option Int → MH → Prop) → Prop
def lowP (K : PySem.W.Frag) (B : Bs) (t : VO3) : TO := fun σ H Q => ∃ G ρ m P, B.to G m H ∧ Sta K G ρ σ m H ∧ t ρ m P ∧ ∀ i m' G' H', P i m' → Stp G m H G' m' H' → MSt K G' m' H' → Q i H'
structure UP (X : Cx) (B : Bs) (e : Option Expr) (t : VO3) : Prop where
  po : PO X e (lowP X.K B t)
def vNoP : VO3 := fun _ m Q => Q none m
def vPart (t : VE) : VO3 := fun ρ m Q => t ρ m fun d m1 => match d with | .int i => Q (some i) m1 | _ => False
theorem _root_.L2.PO.weak {e : Option Expr} {t t' : TO} (h : PO X e t) (i : ∀ σ H Q, t' σ H Q → t σ H Q) : PO X e t' := ⟨fun pins s σ H Q I q => h.run pins s σ H Q I (i _ _ _ q)⟩
theorem up_none : UP X B none vNoP := ⟨po_none.weak fun σ H Q h => by
  obtain ⟨G, ρ, m, P, e0, s, t, k⟩ := h
  exact k _ m G H t Stp.refl s.ms⟩
theorem up_some (h : UE X B e te) : UP X B (some e) (vPart te) := ⟨(po_some h.pe).weak fun σ H Q h => by
  obtain ⟨G, ρ, m, P, e0, s, t, k⟩ := h
  refine ⟨G, ρ, m, _, e0, s, t, fun x m1 G1 v1 H1 q1 e1 s1 r1 => ?_⟩
  cases r1 <;> first | exact q1.elim | exact ⟨_, rfl, k _ m1 G1 H1 q1 e1 s1⟩⟩
def cutD (xs : List D) (lo hi : Option Int) : List D := (xs.drop (HT.sIx xs.length 0 lo)).take (HT.sIx xs.length xs.length hi - HT.sIx xs.length 0 lo)
theorem DnAll.cut {K : PySem.W.Frag} {G : Hp} {ds : List D} {vs : List V} (h : DnAll K G ds vs) (lo hi : Option Int) : DnAll K G (cutD ds lo hi) (cutV vs lo hi) := by
  unfold cutD cutV
  rw [← h.length]
  exact (h.drop _).take _
abbrev VO4 := D → Option Int → Option Int → MH → (D → Prop) → Prop
def oSl : VO4 := fun x lo hi m Q => match x with
  | .str z => z.length ≤ sizeLine ∧ Q (.str (cutS z lo hi))
  | .tup ds => ¬ (HT.sIx ds.length 0 lo = 0 ∧ HT.sIx ds.length ds.length hi = ds.length) ∧ Q (.tup (cutD ds lo hi))
  | x => ∃ ds, asL m x = some ds ∧ Q (.lst (cutD ds lo hi))
def lowSl (K : PySem.W.Frag) (o : VO4) : V → Option Int → Option Int → Hp → VK → Prop := fun x lo hi H Q => ∃ G m dx P, MSt K G m H ∧ Dn K G dx x ∧ o dx lo hi m P ∧ ∀ d G' v H', P d → Stp G m H G' m H' → MSt K G' m H' → Dn K G' d v → Q v H'
theorem usl_low {x : V} {lo hi : Option Int} {H : Hp} {Q : VK} (h : lowSl X.K oSl x lo hi H Q) : rSlS x lo hi H Q ∨ (rSlT X.K x lo hi H Q ∨ rSlL X.K x lo hi H Q) := by
  obtain ⟨G, m, dx, P, s, hx, t, k⟩ := h
  have lst : ∀ ds, asL m dx = some ds → P (.lst (cutD ds lo hi)) → rSlL X.K x lo hi H Q := fun ds h1 h2 => by
    obtain ⟨p, xs, rfl, h4, h5⟩ := s.asL hx h1
    refine ⟨p, xs, rfl, h4, fun l hl => ?_⟩
    obtain ⟨e, s'⟩ := s.newG hl (.lst (cutV xs lo hi))
    exact k _ _ _ _ h2 e s' (.lst upd_same ((h5.cut lo hi).mono e.ex))
  cases hx with
  | str z => exact .inl ⟨z, rfl, t.1, k _ G _ H t.2 Stp.refl s (.str _)⟩
  | tup h1 h2 =>
    obtain ⟨t1, t2⟩ := t
    refine .inr (.inl ⟨_, _, rfl, Evl.ex_t s.ex h1, by rw [← h2.length]; exact t1, fun l hl => ?_⟩)
    obtain ⟨e, s'⟩ := s.newG hl (.tup _)
    exact k _ _ _ _ t2 e s' (.tup (.of upd_same) ((h2.cut lo hi).mono e.ex))
  | _ => obtain ⟨ds, h1, h2⟩ := t; exact .inr (.inr (lst ds h1 h2))
def vSl (o : VO4) (te : VE) (tl th : VO3) : VE := fun ρ m Q => te ρ m fun x m1 => tl ρ m1 fun lo m2 => th ρ m2 fun hi m3 => o x lo hi m3 fun d => Q d m3
theorem ue_slice {lo hi : Option Expr} {tl th : VO3} {p2 : Pos} (he : UE X B e te) (hl : UP X B lo tl) (hh : UP X B hi th) : UE X B (.Subscript e (.Slice lo hi none p2) pos) (vSl oSl te tl th) := by
  have hr : SlR X (lowSl X.K oSl) := fun pins s σ H x v vl vu lo hi sl Q I rx hs pl pu q => (sl_str.or (sl_tup.or sl_list)) pins s σ H x v vl vu lo hi sl Q I rx hs pl pu (usl_low q)
  exact ⟨(pe_slice hr he.pe hl.po hh.po).weak fun σ H Q h => by
    obtain ⟨G, ρ, m, P, e0, s, t, k⟩ := h
    refine ⟨G, ρ, m, _, e0, s, t, fun x m1 G1 v1 H1 q1 e1 s1 r1 => ?_⟩
    refine ⟨G1, ρ, m1, _, e0.trans e1, ⟨s.fr.mono e1.ex, s1⟩, q1, fun l m2 G2 H2 q2 e2 s2 => ?_⟩
    refine ⟨G2, ρ, m2, _, (e0.trans e1).trans e2, ⟨s.fr.mono (e1.trans e2).ex, s2⟩, q2, fun u m3 G3 H3 q3 e3 s3 => ?_⟩
    exact ⟨G3, m3, x, _, s3, r1.mono (e2.trans e3).ex, q3, fun d G4 v H4 q4 e4 s4 r4 => k d m3 G4 v H4 q4 (((e1.trans e2).trans e3).trans e4) s4 r4⟩⟩

/-! ### displays -/
def aNil : VA := fun _ m Q => Q [] m
def aCons (t : VE) (u : VA) : VA := fun ρ m Q => t ρ m fun d m1 => u ρ m1 fun ds m2 => Q (d :: ds) m2
theorem ua_nil : UA X B [] aNil := ⟨pa_nil.weak fun σ H Q h => by
  obtain ⟨G, ρ, m, P, e0, s, t, k⟩ := h
  exact k _ m G _ H t Stp.refl s.ms .nil⟩
theorem ua_cons {u : VA} (ha : UE X B e te) (hr : UA X B es u) (hs : starEach (e :: es) X.env = (false, eval e X.env) :: starEach es X.env := by rfl) : UA X B (e :: es) (aCons te u) := ⟨(pa_cons ha.pe hr.pa hs).weak fun σ H Q h => by
  obtain ⟨G, ρ, m, P, e0, s, t, k⟩ := h
  refine ⟨G, ρ, m, _, e0, s, t, fun x m1 G1 v1 H1 q1 e1 s1 r1 => ?_⟩
  refine ⟨G1, ρ, m1, _, e0.trans e1, ⟨s.fr.mono e1.ex, s1⟩, q1, fun ds m2 G2 vs H2 q2 e2 s2 r2 => ?_⟩
  exact k _ m2 G2 _ H2 q2 (e1.trans e2) s2 (.cons (r1.mono e2.ex) r2)⟩
def vTup (va : VA) : VE := fun ρ m Q => va ρ m fun ds m1 => ds.length ≤ sizeLine ∧ Q (.tup ds) m1
/-- a list that stays as it is -/
def vLst (va : VA) : VE := fun ρ m Q => va ρ m fun ds m1 => ds.length ≤ sizeLine ∧ Q (.lst ds) m1
/-- a list that will change -/
def vLstM (va : VA) : VE := fun ρ m Q => va ρ m fun ds m1 => ds.length ≤ sizeLine ∧ ∀ p, m1 p = none → Q (.adr p) (mup m1 p (.lst ds))
theorem ue_tup {x1} (h : UA X B es va) : UE X B (.Tuple es x1 pos) (vTup va) := ⟨(pe_tup h.pa).weak fun σ H Q h => by
  obtain ⟨G, ρ, m, P, e0, s, t, k⟩ := h
  refine ⟨G, ρ, m, _, e0, s, t, fun ds m1 G1 vs H1 q1 e1 s1 r1 => ⟨by rw [← r1.length]; exact q1.1, fun p hp => ?_⟩⟩
  obtain ⟨e2, s2⟩ := s1.newG hp (.tup vs)
  exact k _ m1 _ _ _ q1.2 (e1.trans e2) s2 (.tup (.of upd_same) (r1.mono e2.ex))⟩
theorem ue_lst (h : UA X B es va) : UE X B (.List es pos) (vLst va) := ⟨(pe_lst h.pa).weak fun σ H Q h => by
  obtain ⟨G, ρ, m, P, e0, s, t, k⟩ := h
  refine ⟨G, ρ, m, _, e0, s, t, fun ds m1 G1 vs H1 q1 e1 s1 r1 => ⟨by rw [← r1.length]; exact q1.1, fun p hp => ?_⟩⟩
  obtain ⟨e2, s2⟩ := s1.newG hp (.lst vs)
  exact k _ m1 _ _ _ q1.2 (e1.trans e2) s2 (.lst upd_same (r1.mono e2.ex))⟩
theorem ue_lstM (h : UA X B es va) : UE X B (.List es pos) (vLstM va) := ⟨(pe_lst h.pa).weak fun σ H Q h => by
  obtain ⟨G, ρ, m, P, e0, s, t, k⟩ := h
  refine ⟨G, ρ, m, _, e0, s, t, fun ds m1 G1 vs H1 q1 e1 s1 r1 => ⟨by rw [← r1.length]; exact q1.1, fun p hp => ?_⟩⟩
  exact k _ _ G1 _ _ (q1.2 p (s1.free hp).2) (e1.trans (s1.newM hp (.lst r1)).1) (s1.newM hp (.lst r1)).2 (.adr p)⟩

/-! ### a fresh value made a cell, a cell frozen (the value of an expression) -/
/-- a new list (a comprehension, a slice, a call's result ..) that will change: only where it is new -/
def vFrz (t : VE) : VE := fun ρ m Q => t ρ m fun d m1 => match d with
  | .adr a => (∃ ds, m1 a = some (.lst ds) ∧ Q (.lst ds) (mdel m1 a)) ∨ ∃ C ks ds, m1 a = some (.ins C ks ds) ∧ Q (.ins C ks ds) (mdel m1 a)
  | _ => False
theorem UE.weak {t t' : VE} (h : UE X B e t) (i : ∀ σ H Q, lowE X.K B t' σ H Q → lowE X.K B t σ H Q) : UE X B e t' := ⟨h.pe.weak i⟩
theorem ue_frz (h : UE X B e te) : UE X B e (vFrz te) := h.weak fun σ H Q h => by
  obtain ⟨G, ρ, m, P, e0, s, t, k⟩ := h
  refine ⟨G, ρ, m, _, e0, s, t, fun d m1 G1 v1 H1 q1 e1 s1 r1 => ?_⟩
  cases r1 <;> first | exact q1.elim | skip
  rename_i a
  rcases q1 with ⟨ds, h1, h2⟩ | ⟨C, ks, ds, h1, h2⟩
  · obtain ⟨ho, r, e2, s2⟩ := s1.freeze h1
    cases r with
    | lst r => exact k _ _ _ _ H1 h2 (e1.trans e2) s2 (.lst upd_same (r.mono e2.ex))
  · obtain ⟨ho, r, e2, s2⟩ := s1.freeze h1
    cases r with
    | ins hk r => exact k _ _ _ _ H1 h2 (e1.trans e2) s2 (.ins upd_same hk (r.mono e2.ex))

/-! ### instances -/
def insK (m : MH) : D → Option (Addr × List Str × List D)
  | .ins C ks ds => some (C, ks, ds)
  | .adr a => match m a with
    | some (.ins C ks ds) => some (C, ks, ds)
    | _ => none
  | _ => none
theorem insK_adr {m : MH} {a C : Addr} {ks : List Str} {ds : List D} (h : m a = some (.ins C ks ds)) : insK m (.adr a) = some (C, ks, ds) := by simp only [insK, h]
theorem MSt.insK {K : PySem.W.Frag} {G H : Hp} {m : MH} (s : MSt K G m H) {d : D} {v : V} {C : Addr} {ks : List Str} {ds : List D} (r : Dn K G d v) (h : insK m d = some (C, ks, ds)) :
    ∃ a dx fs, v = .ref a ∧ H a = some (.ins C dx fs) ∧ fs.map (·.1) = ks ∧ DnAll K G ds (fs.map (·.2)) := by
  cases r with
  | ins h1 h2 h3 => cases h; exact ⟨_, _, _, rfl, s.ex _ _ h1, h2, h3⟩
  | adr a =>
    simp only [DL.insK] at h
    cases q : m a with
    | none => rw [q] at h; cases h
    | some o =>
      rw [q] at h
      cases o with
      | ins C' ks' ds' =>
        cases h
        obtain ⟨_, ho, h1, h2⟩ := s.mr a _ q
        cases h2 with
        | ins h2 h3 => exact ⟨a, _, _, rfl, h1, h2, h3⟩
      | dct _ _ => cases h
      | lst _ => cases h
  | _ => cases h
theorem look_at {f : Str} : ∀ {fs : List (Str × V)} {i : Nat} {v : V}, (fs.map (·.1)).idxOf? f = some i → (fs.map (·.2))[i]? = some v → fs.lookup f = some v
  | [], _, _, h, _ => by simp at h
  | (k, x) :: r, i, v, h, hv => by
    rw [List.map_cons, List.idxOf?_cons] at h
    by_cases e : k = f
    · subst e
      simp at h
      subst h
      simp at hv
      subst hv
      simp [List.lookup]
    · have hb : (k == f) = false := beq_eq_false_iff_ne.mpr e
      have hb2 : (f == k) = false := beq_eq_false_iff_ne.mpr (Ne.symm e)
      simp only [hb] at h
      cases q : (r.map (·.1)).idxOf? f with
      | none => rw [q] at h; simp at h
      | some j =>
        rw [q] at h
        simp at h
        subst h
        simp only [List.lookup, hb2]
        exact look_at q (by simpa using hv)
theorem look_no {f : Str} : ∀ {fs : List (Str × V)}, f ∉ fs.map (·.1) → fs.lookup f = none
  | [], _ => rfl
  | (k, x) :: r, h => by
    rw [List.map_cons, List.mem_cons] at h
    have hb2 : (f == k) = false := beq_eq_false_iff_ne.mpr fun e => h (.inl e)
    simp only [List.lookup, hb2]
    exact look_no fun z => h (.inr z)
theorem put_no {f : Str} {v : V} : ∀ {fs : List (Str × V)}, f ∉ fs.map (·.1) → putF f v fs = fs ++ [(f, v)]
  | [], _ => rfl
  | (k, x) :: r, h => by
    rw [List.map_cons, List.mem_cons] at h
    rw [show putF f v ((k, x) :: r) = (if k = f then (k, v) :: r else (k, x) :: putF f v r) from rfl, if_neg fun e => h (.inl e.symm), put_no fun z => h (.inr z)]
    rfl
theorem put_at {f : Str} {v : V} : ∀ {fs : List (Str × V)} {i : Nat}, (fs.map (·.1)).idxOf? f = some i → (putF f v fs).map (·.1) = fs.map (·.1) ∧ (putF f v fs).map (·.2) = (fs.map (·.2)).set i v
  | [], _, h => by simp at h
  | (k, x) :: r, i, h => by
    rw [show putF f v ((k, x) :: r) = (if k = f then (k, v) :: r else (k, x) :: putF f v r) from rfl]
    rw [List.map_cons, List.idxOf?_cons] at h
    by_cases e : k = f
    · subst e
      simp at h
      subst h
      rw [if_pos rfl]
      exact ⟨rfl, rfl⟩
    · have hb : (k == f) = false := beq_eq_false_iff_ne.mpr e
      simp only [hb] at h
      rw [if_neg e]
      cases q : (r.map (·.1)).idxOf? f with
      | none => rw [q] at h; simp at h
      | some j =>
        rw [q] at h
        simp at h
        subst h
        obtain ⟨i1, i2⟩ := put_at (v := v) q
        refine ⟨by rw [List.map_cons, i1]; rfl, ?_⟩
        show x :: (putF f v r).map (·.2) = x :: (r.map (·.2)).set j v
        rw [i2]
/-- o.f: C the class, ks its instances' attributes in order, i the place of f -/
def vFld (C : Addr) (ks : List Str) (i : Nat) (to : VE) : VE := fun ρ m Q => to ρ m fun d m1 => ∃ ds x, insK m1 d = some (C, ks, ds) ∧ ds[i]? = some x ∧ Q x m1
theorem ue_fld {C : Addr} {ks : List Str} {i : Nat} {f : Str} (ho : UE X B o to) (hc : Cls X.K C) (hn : NoAttr X.K C f) (hi : ks.idxOf? f = some i) (hb : attributeBase o f X.env (eval o X.env) = eval o X.env := by rfl) :
    UE X B (.Attribute o f pos) (vFld C ks i to) := ⟨(pe_fld ho.pe hb).weak fun σ H Q h => by
  obtain ⟨G, ρ, m, P, e0, s, t, k⟩ := h
  refine ⟨G, ρ, m, _, e0, s, t, fun d m1 G1 v1 H1 q1 e1 s1 r1 => ?_⟩
  obtain ⟨ds, x, h1, h2, h3⟩ := q1
  obtain ⟨a, dx, fs, rfl, h4, h5, h6⟩ := s1.insK r1 h1
  obtain ⟨v, h7, h8⟩ := h6.get h2
  exact ⟨a, C, dx, fs, v, rfl, h4, hc, hn, look_at (by rw [h5]; exact hi) h7, k _ m1 G1 v H1 h3 e1 s1 h8⟩⟩
end
end DL

namespace DL
open PySem L2
open Evl (Ex)

/-! ### what a def promises, by values -/
abbrev VSp := List D → MH → (D → MH → Prop) → DX → Prop
/-- an exception's own attributes -/
def XR (K : PySem.W.Frag) (G : Hp) (ks : List Str) (ds : List D) (ox : Option Addr) : Prop :=
  (ks = [] ∧ ds = [] ∧ ox = none) ∨ ∃ d fs, ks ≠ [] ∧ ox = some d ∧ G d = some (.xd fs) ∧ fs.map (·.1) = ks ∧ DnAll K G ds (fs.map (·.2))
/-- the wish about exceptions, from B on -/
def Wsh (K : PySem.W.Frag) (B : Bs) (PX : DX) (E : XK) : Prop := ∀ C ks ds m G H ox, PX C ks ds m → B.to G m H → MSt K G m H → XR K G ks ds ox → E (.ref C) ox H
theorem Wsh.mono {K : PySem.W.Frag} {B : Bs} {G H : Hp} {m : MH} {PX : DX} {E : XK} (h : Wsh K B PX E) (e : B.to G m H) : Wsh K ⟨G, m, H⟩ PX E := fun C ks ds m G' H ox p e' => h C ks ds m G' H ox p (e.trans e')
def noX : DX := fun _ _ _ _ => False
theorem Wsh.no {K : PySem.W.Frag} {B : Bs} {E : XK} : Wsh K B noX E := fun _ _ _ _ _ _ _ p => p.elim
def lowSp (K : PySem.W.Frag) (n : Nat) (sp : VSp) : Sp := fun vs H Q E => vs.length = n ∧ ∃ G ds m P PX, MSt K G m H ∧ DnAll K G ds vs ∧ sp ds m P PX ∧
  (∀ d m' G' v H', P d m' → Stp G m H G' m' H' → MSt K G' m' H' → Dn K G' d v → Q v H') ∧ Wsh K ⟨G, m, H⟩ PX E

section
variable {X : Cx} {B : Bs} {a b c e o : Expr} {es : List Expr} {ta tb tc te to : VE} {va : VA} {pos : Pos} {x mt : Str} {CX : CXT} {k n : Nat} {f C : Addr} {fd : FuncData} {ps : List Str} {sp : VSp} {E : XK} {PX : DX} {p apos : Pos}
def vCall (n : Nat) (sp : VSp) (PX : DX) (va : VA) : VE := fun ρ m Q => va ρ m fun ds m1 => ds.length = n ∧ sp ds m1 Q PX
theorem ue_call (F : FnOk X.prog X.w X.K X.mg X.base CX k f fd ps (lowSp X.K n sp)) (hr : Room k X.A) (hg : Gl X x) (hm : X.mg x = some (.ref f)) (hk : PySem.W.keepIn X.K (.ref f) = true) (hb : Binds X.K fd ps []) (hx : Passes CX X E)
    (W : Wsh X.K B PX E) (ha : UA X B (e :: es) va) (hdb : (x == ("__debug__" : Str)) = false := by decide) (he : starEach (e :: es) X.env = (false, eval e X.env) :: starEach es X.env := by rfl) (hpl : (backTo pos (starEach es X.env)).any (·.1) = false := by rfl) :
    UE X B (.Call (.Name x p) (e :: es) [] pos) (vCall n sp PX va) := ⟨(pe_call F hr hg hm hk hb .nil hx ha.pa hdb he hpl).weak fun σ H Q h => by
  obtain ⟨G, ρ, m, P, e0, s, t, k⟩ := h
  refine ⟨G, ρ, m, _, e0, s, t, fun ds m1 G1 vs H1 q1 e1 s1 r1 => ?_⟩
  simp only [List.append_nil]
  exact ⟨r1.length.symm.trans q1.1, G1, ds, m1, _, PX, s1, r1, q1.2, fun d m2 G2 v H2 q2 e2 => k d m2 G2 v H2 q2 (e1.trans e2), W.mono (e0.trans e1)⟩⟩
theorem ue_call0 (F : FnOk X.prog X.w X.K X.mg X.base CX k f fd ps (lowSp X.K n sp)) (hr : Room k X.A) (hg : Gl X x) (hm : X.mg x = some (.ref f)) (hk : PySem.W.keepIn X.K (.ref f) = true) (hb : Binds X.K fd ps []) (hx : Passes CX X E)
    (W : Wsh X.K B PX E) (hdb : (x == ("__debug__" : Str)) = false := by decide) : UE X B (.Call (.Name x p) [] [] pos) (vCall n sp PX aNil) := ⟨(pe_call0 F hr hg hm hk hb .nil hx hdb).weak fun σ H Q h => by
  obtain ⟨G, ρ, m, P, e0, s, t, k⟩ := h
  refine ⟨t.1, G, [], m, _, PX, s.ms, .nil, t.2, k, W.mono e0⟩⟩
/-- o.m(..), o an instance of the class at C -/
def vMeth (C : Addr) (mt : Str) (n : Nat) (sp : VSp) (PX : DX) (to : VE) (va : VA) : VE := fun ρ m Q => to ρ m fun d m1 => (∃ ks ds, insK m1 d = some (C, ks, ds) ∧ mt ∉ ks) ∧ va ρ m1 fun ds m2 => ds.length + 1 = n ∧ sp (d :: ds) m2 Q PX
theorem low_meth {σ : L2.St} {H : Hp} {Q : VK} (W : Wsh X.K B PX E) (h : lowE X.K B (vMeth C mt n sp PX to va) σ H Q) : tMeth C mt (lowSp X.K n sp) [] E (lowE X.K B to) (lowA X.K B va) σ H Q := by
  obtain ⟨G, ρ, m, P, e0, s, t, k⟩ := h
  refine ⟨G, ρ, m, _, e0, s, t, fun d m1 G1 v1 H1 q1 e1 s1 r1 => ?_⟩
  obtain ⟨⟨ks, ds, h1, h2⟩, q1⟩ := q1
  obtain ⟨a, dx, fs, rfl, h4, h5, h6⟩ := s1.insK r1 h1
  refine ⟨a, dx, fs, rfl, h4, look_no (by rw [h5]; exact h2), G1, ρ, m1, _, e0.trans e1, ⟨s.fr.mono e1.ex, s1⟩, q1, fun es m2 G2 vs H2 q2 e2 s2 r2 => ?_⟩
  simp only [List.append_nil]
  exact ⟨by rw [List.length_cons, ← r2.length]; exact q2.1, G2, d :: es, m2, _, PX, s2, .cons (r1.mono e2.ex) r2, q2.2, fun d m3 G3 v H3 q3 e3 => k d m3 G3 v H3 q3 ((e1.trans e2).trans e3), W.mono ((e0.trans e1).trans e2)⟩
theorem ue_meth {pl : Sem Bool} (ho : UE X B o to) (c : Cls X.K C) (hm : Meth X.K C mt f) (F : FnOk X.prog X.w X.K X.mg X.base CX k f fd ps (lowSp X.K n sp)) (hr : Room k X.A) (hb : Binds X.K fd ps []) (hx : Passes CX X E) (W : Wsh X.K B PX E) (ha : UA X B (e :: es) va)
    (hst : starEach (e :: es) X.env = (false, eval e X.env) :: starEach es X.env := by rfl) (hpl : (backTo pos (starEach es X.env)).any (·.1) = false := by rfl)
    (ht : eval (.Call (.Attribute o mt apos) (e :: es) [] pos) X.env = (do
      let ov ← eval o X.env
      standAt apos.atName
      let (f, first) ← holding [ov] (getMethod ov mt pl)
      callWith pos f first (backTo pos (starEach (e :: es) X.env)) (backToKw pos (keywordEach [] X.env))) := by rfl) : UE X B (.Call (.Attribute o mt apos) (e :: es) [] pos) (vMeth C mt n sp PX to va) :=
  ⟨(pe_meth (pl := pl) ho.pe c hm F hr hb .nil hx ha.pa hst hpl ht).weak fun _ _ _ h => low_meth W h⟩
theorem ue_meth0 {pl : Sem Bool} (ho : UE X B o to) (c : Cls X.K C) (hm : Meth X.K C mt f) (F : FnOk X.prog X.w X.K X.mg X.base CX k f fd ps (lowSp X.K n sp)) (hr : Room k X.A) (hb : Binds X.K fd ps []) (hx : Passes CX X E) (W : Wsh X.K B PX E)
    (ht : eval (.Call (.Attribute o mt apos) [] [] pos) X.env = (do
      let ov ← eval o X.env
      standAt apos.atName
      let (f, first) ← holding [ov] (getMethod ov mt pl)
      callWith pos f first (backTo pos (starEach [] X.env)) (backToKw pos (keywordEach [] X.env))) := by rfl) : UE X B (.Call (.Attribute o mt apos) [] [] pos) (vMeth C mt n sp PX to aNil) :=
  ⟨(pe_meth0 (pl := pl) ho.pe c hm F hr hb .nil hx ht).weak fun σ H Q h => by
    obtain ⟨G, ρ, m, P, e0, s, t, k⟩ := low_meth W h
    refine ⟨G, ρ, m, P, e0, s, t, fun d m1 G1 v1 H1 q1 e1 s1 r1 => ?_⟩
    obtain ⟨a, dx, fs, h1, h2, h3, h4⟩ := k d m1 G1 v1 H1 q1 e1 s1 r1
    refine ⟨a, dx, fs, h1, h2, h3, ?_⟩
    obtain ⟨G2, ρ2, m2, P2, e2, s2, t2, k2⟩ := h4
    exact k2 [] m2 G2 [] H1 t2 Stp.refl s2.ms .nil⟩
/-- C(..): a new instance, then __init__ -/
def vMake (C : Addr) (n : Nat) (sp : VSp) (PX : DX) (va : VA) : VE := fun ρ m Q => va ρ m fun ds m1 => ∀ p, m1 p = none → ds.length + 1 = n ∧ sp (.adr p :: ds) (mup m1 p (.ins C [] [])) (fun d m2 => d = .non ∧ Q (.adr p) m2) PX
theorem low_make {σ : L2.St} {H : Hp} {Q : VK} (W : Wsh X.K B PX E) (h : lowE X.K B (vMake C n sp PX va) σ H Q) : tMake C (lowSp X.K n sp) [] E (lowA X.K B va) σ H Q := by
  obtain ⟨G, ρ, m, P, e0, s, t, k⟩ := h
  refine ⟨G, ρ, m, _, e0, s, t, fun ds m1 G1 vs H1 q1 e1 s1 r1 => ?_⟩
  intro x dx hx hdx hne
  obtain ⟨g1, g2⟩ := s1.free hx
  obtain ⟨q1, q2⟩ := q1 x g2
  obtain ⟨e2, s2⟩ := s1.newG hdx (.own x)
  obtain ⟨e25, s3⟩ := s2.newM (p := x) (by rw [upd_ne hne.symm]; exact hx) (o := .ins C [] []) (ho := .ins C dx []) (.ins rfl .nil)
  have e2 := e2.trans e25
  simp only [List.append_nil]
  refine ⟨by rw [List.length_cons, ← r1.length]; exact q1, _, .adr x :: ds, _, _, PX, s3, .cons (.adr x) (r1.mono e2.ex), q2, fun d m3 G3 v H3 q3 e3 s3 r3 => ?_, W.mono ((e0.trans e1).trans e2)⟩
  obtain ⟨rfl, q3⟩ := q3
  cases r3
  exact ⟨rfl, k _ m3 G3 _ H3 q3 ((e1.trans e2).trans e3) s3 (.adr x)⟩
theorem ue_make (M : Mk X.K C f) (F : FnOk X.prog X.w X.K X.mg X.base CX k f fd ps (lowSp X.K n sp)) (hr : Room (k + 1) X.A) (hg : Gl X x) (hm : X.mg x = some (.ref C)) (hb : Binds X.K fd ps []) (hx : Passes CX X E) (W : Wsh X.K B PX E)
    (ha : UA X B (e :: es) va) (hdb : (x == ("__debug__" : Str)) = false := by decide) (he : starEach (e :: es) X.env = (false, eval e X.env) :: starEach es X.env := by rfl) (hpl : (backTo pos (starEach es X.env)).any (·.1) = false := by rfl) :
    UE X B (.Call (.Name x p) (e :: es) [] pos) (vMake C n sp PX va) := ⟨(pe_make M F hr hg hm hb .nil hx ha.pa hdb he hpl).weak fun _ _ _ h => low_make W h⟩
theorem ue_make0 (M : Mk X.K C f) (F : FnOk X.prog X.w X.K X.mg X.base CX k f fd ps (lowSp X.K n sp)) (hr : Room (k + 1) X.A) (hg : Gl X x) (hm : X.mg x = some (.ref C)) (hb : Binds X.K fd ps []) (hx : Passes CX X E) (W : Wsh X.K B PX E)
    (hdb : (x == ("__debug__" : Str)) = false := by decide) : UE X B (.Call (.Name x p) [] [] pos) (vMake C n sp PX aNil) := ⟨(pe_make0 M F hr hg hm hb .nil hx hdb).weak fun σ H Q h => by
  obtain ⟨G, ρ, m, P, e0, s, t, k⟩ := low_make W h
  exact k [] m G [] H t Stp.refl s.ms .nil⟩

/-! ### calls of builtins by values -/
abbrev VB := List D → MH → (D → Prop) → Prop
def lowB (K : PySem.W.Frag) (o : VB) : List V → Hp → VK → Prop := fun vs H Q => ∃ G m ds P, MSt K G m H ∧ DnAll K G ds vs ∧ o ds m P ∧ ∀ d G' v H', P d → Stp G m H G' m H' → MSt K G' m H' → Dn K G' d v → Q v H'
def vB (o : VB) (va : VA) : VE := fun ρ m Q => va ρ m fun ds m1 => o ds m1 fun d => Q d m1
theorem low_b {K : PySem.W.Frag} {o : VB} {σ : L2.St} {H : Hp} {Q : VK} (h : lowE K B (vB o va) σ H Q) : tCB (lowB K o) (lowA K B va) σ H Q := by
  obtain ⟨G, ρ, m, P, e0, s, t, k⟩ := h
  refine ⟨G, ρ, m, _, e0, s, t, fun ds m1 G1 vs H1 q1 e1 s1 r1 => ?_⟩
  exact ⟨G1, m1, ds, _, s1, r1, q1, fun d G2 v H2 q2 e2 s2 r2 => k d m1 G2 v H2 q2 (e1.trans e2) s2 r2⟩
/-- f by values, f a builtin function or type -/
def UB (X : Cx) (f : Value) (o : VB) : Prop := CallR X f (lowB X.K o)
theorem callw {f : Value} {r r' : List V → Hp → VK → Prop} (h : CallR X f r) (i : ∀ vs H Q, r' vs H Q → r vs H Q) : CallR X f r' := fun pins s σ H vs us Q I r q => h pins s σ H vs us Q I r (i _ _ _ q)
theorem ue_callB {id : String} {o : VB} (hc : UB X (.builtin id) o) (hg : Gl X x) (hm : X.mg x = none) (hv : bootBuiltins x = some (.builtin id)) (ha : UA X B (e :: es) va) (hn : x ≠ "__name__" := by decide) (hdb : (x == ("__debug__" : Str)) = false := by decide)
    (he : starEach (e :: es) X.env = (false, eval e X.env) :: starEach es X.env := by rfl) (hpl : (backTo pos (starEach es X.env)).any (·.1) = false := by rfl) : UE X B (.Call (.Name x p) (e :: es) [] pos) (vB o va) :=
  ⟨(pe_callB hc hg hm hv ha.pa hn hdb he hpl).weak fun _ _ _ h => low_b h⟩
theorem ue_callTy {T : String} {o : VB} (hc : UB X (.type T) o) (hg : Gl X x) (hm : X.mg x = none) (hv : bootBuiltins x = some (.type T)) (ha : UA X B (e :: es) va) (hn : x ≠ "__name__" := by decide) (hdb : (x == ("__debug__" : Str)) = false := by decide)
    (he : starEach (e :: es) X.env = (false, eval e X.env) :: starEach es X.env := by rfl) (hpl : (backTo pos (starEach es X.env)).any (·.1) = false := by rfl) : UE X B (.Call (.Name x p) (e :: es) [] pos) (vB o va) :=
  ⟨(pe_callTy hc hg hm hv ha.pa hn hdb he hpl).weak fun _ _ _ h => low_b h⟩
/-- len -/
inductive LenG (m : MH) (Q : D → Prop) : List D → Prop
  | str {z : Str} (l : z.length ≤ sizeLine) (q : Q (.int z.length)) : LenG m Q [.str z]
  | tup {es : List D} (q : Q (.int es.length)) : LenG m Q [.tup es]
  | lst {d : D} {es : List D} (e : asL m d = some es) (q : Q (.int es.length)) : LenG m Q [d]
def bLen : VB := fun ds m Q => LenG m Q ds
theorem ub_len : UB X (.builtin "len") bLen := callw (CallR.or call_len_seq call_len_str) fun vs H Q h => by
  obtain ⟨G, m, ds, P, s, r, t, k⟩ := h
  replace t : LenG m P ds := t
  cases t with
  | str l t => cases r with | cons r1 r2 => cases r2; cases r1; exact .inr ⟨_, rfl, l, k _ G _ H t Stp.refl s (.int _)⟩
  | tup t =>
    cases r with
    | cons r1 r2 =>
      cases r2
      cases r1 with
      | tup h1 h2 => exact .inl ⟨_, _, rfl, .inr (Evl.ex_t s.ex h1), by rw [← h2.length]; exact k _ G _ H t Stp.refl s (.int _)⟩
  | lst h1 h2 =>
    cases r with
    | cons r1 r2 =>
      cases r2
      obtain ⟨a, xs, rfl, h3, h4⟩ := s.asL r1 h1
      exact .inl ⟨_, _, rfl, .inl h3, by rw [← h4.length]; exact k _ G _ H h2 Stp.refl s (.int _)⟩
/-- int of an int, of a bool -/
def bInt : VB := fun ds m Q => match ds with
  | [.int i] => Q (.int i)
  | [.bl b] => Q (.int (if b then 1 else 0))
  | _ => False
theorem ub_int : UB X (.type "int") bInt := callw call_int1 fun vs H Q h => by
  obtain ⟨G, m, ds, P, s, r, t, k⟩ := h
  unfold bInt at t
  split at t
  · cases r with
    | cons r1 r2 => cases r2; cases r1; exact .inl ⟨_, rfl, k _ G _ H t Stp.refl s (.int _)⟩
  · cases r with
    | cons r1 r2 => cases r2; cases r1; exact .inr ⟨_, rfl, k _ G _ H t Stp.refl s (.int _)⟩
  · exact t.elim
/-- sum of a list of ints -/
def bSum : VB := fun ds m Q => match ds with
  | [d] => ∃ ns : List Int, asL m d = some (ns.map D.int) ∧ Q (.int ns.sum)
  | _ => False
theorem ub_sum (hc : X.calm = true) : UB X (.builtin "sum") bSum := callw (cr_sum hc) fun vs H Q h => by
  obtain ⟨G, m, ds, P, s, r, t, k⟩ := h
  unfold bSum at t
  split at t
  · obtain ⟨ns, h1, h2⟩ := t
    cases r with
    | cons r1 r2 =>
      cases r2
      obtain ⟨a, xs, rfl, h3, h4⟩ := s.asL r1 h1
      rw [h4.ints] at h3
      exact ⟨a, ns, rfl, h3, k _ G _ H h2 Stp.refl s (.int _)⟩
  · exact t.elim
/-- any, all of a list of truth values -/
def bAny : VB := fun ds m Q => match ds with
  | [d] => ∃ bs : List Bool, asL m d = some (bs.map D.bl) ∧ Q (.bl (bs.any id))
  | _ => False
def bAll : VB := fun ds m Q => match ds with
  | [d] => ∃ bs : List Bool, asL m d = some (bs.map D.bl) ∧ Q (.bl (bs.all id))
  | _ => False
theorem ub_any (hc : X.calm = true) : UB X (.builtin "any") bAny := callw (cr_any hc) fun vs H Q h => by
  obtain ⟨G, m, ds, P, s, r, t, k⟩ := h
  unfold bAny at t
  split at t
  · obtain ⟨ns, h1, h2⟩ := t
    cases r with
    | cons r1 r2 =>
      cases r2
      obtain ⟨a, xs, rfl, h3, h4⟩ := s.asL r1 h1
      rw [h4.bls] at h3
      exact ⟨a, ns, rfl, h3, k _ G _ H h2 Stp.refl s (.bl _)⟩
  · exact t.elim
theorem ub_all (hc : X.calm = true) : UB X (.builtin "all") bAll := callw (cr_all hc) fun vs H Q h => by
  obtain ⟨G, m, ds, P, s, r, t, k⟩ := h
  unfold bAll at t
  split at t
  · obtain ⟨ns, h1, h2⟩ := t
    cases r with
    | cons r1 r2 =>
      cases r2
      obtain ⟨a, xs, rfl, h3, h4⟩ := s.asL r1 h1
      rw [h4.bls] at h3
      exact ⟨a, ns, rfl, h3, k _ G _ H h2 Stp.refl s (.bl _)⟩
  · exact t.elim
/-- list(xs), a new list; tuple(xs) -/
def bList : VB := fun ds m Q => match ds with
  | [.tup es] => Q (.lst es)
  | [d] => ∃ es, asL m d = some es ∧ Q (.lst es)
  | _ => False
theorem ub_list : UB X (.type "list") bList := callw call_list_of fun vs H Q h => by
  obtain ⟨G, m, ds, P, s, r, t, k⟩ := h
  unfold bList at t
  split at t
  · cases r with
    | cons r1 r2 =>
      cases r2
      cases r1 with
      | tup h1 h2 =>
        refine ⟨_, _, rfl, .inr (Evl.ex_t s.ex h1), fun l hl => ?_⟩
        obtain ⟨e, s'⟩ := s.newG hl (.lst _)
        exact k _ _ _ _ t e s' (.lst upd_same (h2.mono e.ex))
  · obtain ⟨es, h1, h2⟩ := t
    cases r with
    | cons r1 r2 =>
      cases r2
      obtain ⟨a, xs, rfl, h3, h4⟩ := s.asL r1 h1
      refine ⟨_, _, rfl, .inl h3, fun l hl => ?_⟩
      obtain ⟨e, s'⟩ := s.newG hl (.lst xs)
      exact k _ _ _ _ h2 e s' (.lst upd_same (h4.mono e.ex))
  · exact t.elim
def bTuple : VB := fun ds m Q => match ds with
  | [.tup es] => Q (.tup es)
  | [d] => ∃ es, asL m d = some es ∧ Q (.tup es)
  | _ => False
theorem ub_tuple : UB X (.type "tuple") bTuple := callw call_tuple_of fun vs H Q h => by
  obtain ⟨G, m, ds, P, s, r, t, k⟩ := h
  unfold bTuple at t
  split at t
  · cases r with
    | cons r1 r2 =>
      cases r2
      cases r1 with
      | tup h1 h2 => exact ⟨_, _, rfl, .inr ⟨Evl.ex_t s.ex h1, k _ G _ H t Stp.refl s (.tup h1 h2)⟩⟩
  · obtain ⟨es, h1, h2⟩ := t
    cases r with
    | cons r1 r2 =>
      cases r2
      obtain ⟨a, xs, rfl, h3, h4⟩ := s.asL r1 h1
      refine ⟨_, _, rfl, .inl ⟨h3, fun l hl => ?_⟩⟩
      obtain ⟨e, s'⟩ := s.newG hl (.tup xs)
      exact k _ _ _ _ h2 e s' (.tup (.of upd_same) (h4.mono e.ex))
  · exact t.elim
end
end DL

namespace DL
open PySem L2
open Evl (Ex)

/-! ### targets: a name, a row of names -/
inductive Tg where
  | one (i : Nat)
  | many (is : List Nat)
def gSeq : List Nat → TGs
  | [] => gNil
  | i :: is => gCons (gName i) (gSeq is)
def tgTG (K : PySem.W.Frag) : Tg → TG
  | .one i => gName i
  | .many is => gTup K is.length (gSeq is)
def fsets : List Nat → List D → Frm → Option Frm
  | [], [], ρ => some ρ
  | i :: is, d :: ds, ρ => fsets is ds (fset ρ i d)
  | _, _, _ => none
def tgSet : Tg → D → Frm → Option Frm
  | .one i, d, ρ => some (fset ρ i d)
  | .many is, .tup ds, ρ => fsets is ds ρ
  | .many _, _, _ => none
def Tg.slots : Tg → List Nat
  | .one i => [i]
  | .many is => is
theorem wipe_set {σ : L2.St} {i : Nat} {o : Option V} : ∀ {vs : List Nat}, i ∈ vs → wipe (σ.set i o) vs = wipe σ vs
  | v :: vs, h => by
    have ln : ∀ l : List Nat, (wipe (σ.set i o) l).length = (wipe σ l).length := fun l => by rw [wipe_length, wipe_length, List.length_set]
    have gen : ∀ (l : List Nat) (j : Nat), j ≠ i → (wipe (σ.set i o) l)[j]? = (wipe σ l)[j]? := fun l => by
      induction l with
      | nil => intro j hj; exact List.getElem?_set_ne (Ne.symm hj)
      | cons a r ih =>
        intro j hj
        unfold wipe
        by_cases e : a = j
        · subst e
          by_cases hl : a < (wipe σ r).length
          · rw [List.getElem?_set_self (by rw [ln]; exact hl), List.getElem?_set_self hl]
          · rw [List.getElem?_eq_none (by rw [List.length_set, ln]; omega), List.getElem?_eq_none (by rw [List.length_set]; omega)]
        · rw [List.getElem?_set_ne e, List.getElem?_set_ne e]
          exact ih j hj
    rcases List.mem_cons.mp h with e | e
    · subst e
      apply List.ext_getElem?
      intro j
      unfold wipe
      by_cases e : i = j
      · subst e
        by_cases hl : i < (wipe σ vs).length
        · rw [List.getElem?_set_self (by rw [ln]; exact hl), List.getElem?_set_self hl]
        · rw [List.getElem?_eq_none (by rw [List.length_set, ln]; omega), List.getElem?_eq_none (by rw [List.length_set]; omega)]
      · rw [List.getElem?_set_ne e, List.getElem?_set_ne e]
        exact gen vs j (Ne.symm e)
    · unfold wipe
      rw [wipe_set e]
section
variable {K : PySem.W.Frag} {G H : Hp} {m : MH}
theorem gSeq_ok {Q : L2.St → Hp → Prop} : ∀ {is : List Nat} {ds : List D} {xs : List V} {ρ ρ' : Frm} {σ : L2.St}, DnAll K G ds xs → FrR K G ρ σ → fsets is ds ρ = some ρ' →
    (∀ σ', FrR K G ρ' σ' → (∀ vs, (∀ i ∈ is, i ∈ vs) → wipe σ' vs = wipe σ vs) → Q σ' H) → gSeq is xs σ H Q
  | [], _, _, _, _, _, .nil, f, e, q => by
    cases e
    exact ⟨rfl, q _ f fun _ _ => rfl⟩
  | i :: is, _, _, ρ, ρ', σ, .cons (v := v) r rs, f, e, q => by
    refine ⟨_, _, rfl, ?_⟩
    refine gSeq_ok (is := is) rs (f.set r i) e fun σ' f' w => q σ' f' fun vs hv => ?_
    rw [w vs fun j hj => hv j (List.mem_cons_of_mem _ hj), wipe_set (hv i List.mem_cons_self)]
  | [], _, _, _, _, _, .cons _ _, f, e, q => by cases e
  | _ :: _, _, _, _, _, _, .nil, f, e, q => by cases e
theorem fsets_len : ∀ {is : List Nat} {ds : List D} {ρ ρ' : Frm}, fsets is ds ρ = some ρ' → ds.length = is.length
  | [], [], _, _, _ => rfl
  | _ :: is, _ :: ds, _, _, e => by simp [fsets_len (is := is) e]
  | [], _ :: _, _, _, e => by cases e
  | _ :: _, [], _, _, e => by cases e
theorem tg_ok {t : Tg} {d : D} {x : V} {ρ ρ' : Frm} {σ : L2.St} {Q : L2.St → Hp → Prop} (s : MSt K G m H) (r : Dn K G d x) (f : FrR K G ρ σ) (e : tgSet t d ρ = some ρ')
    (q : ∀ σ', FrR K G ρ' σ' → (∀ vs, (∀ i ∈ t.slots, i ∈ vs) → wipe σ' vs = wipe σ vs) → Q σ' H) : tgTG K t x σ H Q := by
  cases t with
  | one i =>
    cases e
    exact q _ (f.set r i) fun vs hv => wipe_set (hv i (by simp [Tg.slots]))
  | many is =>
    cases r with
    | tup h1 h2 =>
      have e : fsets is _ ρ = some ρ' := e
      refine ⟨_, _, rfl, Evl.ex_t s.ex h1, by rw [← h2.length]; exact fsets_len e, gSeq_ok h2 f e q⟩
    | _ => cases e
end

/-! ### what is walked -/
abbrev VI := Frm → MH → (List D → (MH → Prop) → MH → Prop) → Prop
structure Wk (K : PySem.W.Frag) (J : It) (G1 : Hp) (ds : List D) (stay : MH → Prop) : Prop where
  stop : ∀ i G m H, Ex G1 G → MSt K G m H → stay m → ds.length ≤ i → J.stop i H
  go : ∀ i G m H, Ex G1 G → MSt K G m H → stay m → i < ds.length → J.go i H
  yld : ∀ i G m H x H', Ex G1 G → MSt K G m H → stay m → i < ds.length → J.yld i H x H' → ∃ G' d, Stp G m H G' m H' ∧ MSt K G' m H' ∧ ds[i]? = some d ∧ Dn K G' d x
def lowI (K : PySem.W.Frag) (B : Bs) (t : VI) : TI := fun σ H R => ∃ G ρ m P, B.to G m H ∧ Sta K G ρ σ m H ∧ t ρ m P ∧
  ∀ ds stay m' G' H' J, P ds stay m' → Stp G m H G' m' H' → MSt K G' m' H' → Wk K J G' ds stay → stay m' → R J H'
structure UI (X : Cx) (B : Bs) (tg iter : Expr) (t : VI) : Prop where
  pi : PI X tg iter (lowI X.K B t)
theorem _root_.L2.PI.weak {X : Cx} {tg iter : Expr} {t t' : TI} (h : PI X tg iter t) (i : ∀ σ H R, t' σ H R → t σ H R) : PI X tg iter t' := ⟨fun pins s σ H R I q => h.run pins s σ H R I (i _ _ _ q)⟩
section
variable {X : Cx} {B : Bs} {a b c e o tg iter : Expr} {es : List Expr} {ta tb tc te to : VE} {va : VA} {pos : Pos}
def iL (te : VE) : VI := fun ρ m Q => te ρ m fun d m1 => ∃ ds, asL m1 d = some ds ∧ Q ds (fun m' => asL m' d = some ds) m1
theorem wk_list {K : PySem.W.Frag} {G1 : Hp} {d : D} {a : Addr} {ds : List D} (r : Dn K G1 d (.ref a)) : Wk K (Itl K a) G1 ds (fun m' => asL m' d = some ds) := by
  refine ⟨fun i G m H e s h hi => ?_, fun i G m H e s h hi => ?_, fun i G m H x H' e s h hi y => ?_⟩
  · obtain ⟨a', xs, e1, h3, h4⟩ := s.asL (r.mono e) h
    cases e1
    exact ⟨xs, h3, by rw [← h4.length]; exact hi⟩
  · obtain ⟨a', xs, e1, h3, h4⟩ := s.asL (r.mono e) h
    cases e1
    obtain ⟨v, h5, h6⟩ := h4.get (List.getElem?_eq_getElem hi)
    exact ⟨xs, v, h3, h5⟩
  · obtain ⟨a', xs, e1, h3, h4⟩ := s.asL (r.mono e) h
    cases e1
    obtain ⟨rfl, y⟩ := y
    obtain ⟨d, h5, h6⟩ := h4.getV (y xs h3)
    exact ⟨G, d, Stp.refl, s, h5, h6⟩
theorem ui_list (he : UE X B iter te) : UI X B tg iter (iL te) := ⟨(pi_list he.pe).weak fun σ H R h => by
  obtain ⟨G, ρ, m, P, e0, s, t, k⟩ := h
  refine ⟨G, ρ, m, _, e0, s, t, fun d m1 G1 v1 H1 q1 e1 s1 r1 => ?_⟩
  obtain ⟨ds, h1, h2⟩ := q1
  obtain ⟨a, xs, rfl, h3, h4⟩ := s1.asL r1 h1
  exact ⟨a, rfl, ⟨xs, h3⟩, k ds _ m1 G1 H1 _ h2 e1 s1 (wk_list r1) h1⟩⟩
/-- a tuple -/
def iT (te : VE) : VI := fun ρ m Q => te ρ m fun d m1 => match d with | .tup ds => Q ds (fun _ => True) m1 | _ => False
theorem ui_tup (he : UE X B iter te) : UI X B tg iter (iT te) := ⟨(pi_tup he.pe).weak fun σ H R h => by
  obtain ⟨G, ρ, m, P, e0, s, t, k⟩ := h
  refine ⟨G, ρ, m, _, e0, s, t, fun d m1 G1 v1 H1 q1 e1 s1 r1 => ?_⟩
  cases r1 <;> first | exact q1.elim | skip
  rename_i a xs ds h1 h2
  refine ⟨a, rfl, ⟨_, Evl.ex_t s1.ex h1⟩, k _ _ m1 G1 H1 _ q1 e1 s1 ?_ trivial⟩
  refine ⟨fun i G m H e s _ hi => ?_, fun i G m H e s _ hi => ?_, fun i G m H x H' e s _ hi y => ?_⟩
  · exact ⟨_, Evl.ex_t (e.trans s.ex) h1, by rw [← h2.length]; exact hi⟩
  · obtain ⟨v, h5, h6⟩ := h2.get (List.getElem?_eq_getElem hi)
    exact ⟨_, v, Evl.ex_t (e.trans s.ex) h1, h5⟩
  · obtain ⟨rfl, y⟩ := y
    obtain ⟨d, h5, h6⟩ := h2.getV (y _ (Evl.ex_t (e.trans s.ex) h1))
    exact ⟨G, d, Stp.refl, s, h5, h6.mono e⟩⟩
/-- range -/
def irng (lo : Int) (n : Nat) : List D := (List.range n).map fun i => D.int (lo + (i : Nat))
theorem irng_len (lo : Int) (n : Nat) : (irng lo n).length = n := by simp [irng]
theorem irng_at {lo : Int} {n i : Nat} (h : i < n) : (irng lo n)[i]? = some (.int (lo + (i : Nat))) := by simp [irng, h]
theorem wk_range {K : PySem.W.Frag} {G1 : Hp} {lo : Int} {n : Nat} : Wk K (Itr lo n) G1 (irng lo n) (fun _ => True) := by
  refine ⟨fun i G m H e s _ hi => ?_, fun i G m H e s _ hi => ?_, fun i G m H x H' e s _ hi y => ?_⟩
  · rw [irng_len] at hi; exact hi
  · rw [irng_len] at hi; exact hi
  · rw [irng_len] at hi
    obtain ⟨rfl, rfl⟩ := y
    exact ⟨G, _, Stp.refl, s, irng_at hi, .int _⟩
/-- an end of a range -/
structure Rg (j : Int) : Prop where
  lo : -(2 ^ 62) ≤ j
  hi : j < 2 ^ 62
def iR1 (va : VA) : VI := fun ρ m Q => va ρ m fun ds m1 => match ds with
  | [.int j] => Rg j ∧ Q (irng 0 j.toNat) (fun _ => True) m1
  | _ => False
def iR2 (va : VA) : VI := fun ρ m Q => va ρ m fun ds m1 => match ds with
  | [.int i, .int j] => Rg i ∧ Rg j ∧ Q (irng i (j - i).toNat) (fun _ => True) m1
  | _ => False
theorem DnAll.one {K : PySem.W.Frag} {G : Hp} {d : D} {vs : List V} (h : DnAll K G [d] vs) : ∃ v, vs = [v] ∧ Dn K G d v := by
  cases h with
  | cons h1 h2 => cases h2; exact ⟨_, rfl, h1⟩
theorem DnAll.two {K : PySem.W.Frag} {G : Hp} {d d' : D} {vs : List V} (h : DnAll K G [d, d'] vs) : ∃ v v', vs = [v, v'] ∧ Dn K G d v ∧ Dn K G d' v' := by
  cases h with
  | cons h1 h2 => cases h2 with | cons h2 h3 => cases h3; exact ⟨_, _, rfl, h1, h2⟩
theorem ui_range1 {p : Pos} (hg : Gl X "range") (hm : X.mg "range" = none) (ha : UA X B [a] va) (hs : starEach [a] X.env = [(false, eval a X.env)] := by rfl) : UI X B tg (.Call (.Name "range" p) [a] [] pos) (iR1 va) :=
  ⟨(pi_range1 hg hm ha.pa hs).weak fun σ H R h => by
    obtain ⟨G, ρ, m, P, e0, s, t, k⟩ := h
    refine ⟨G, ρ, m, _, e0, s, t, fun ds m1 G1 vs H1 q1 e1 s1 r1 => ?_⟩
    split at q1
    · obtain ⟨v, rfl, r⟩ := r1.one
      cases r
      exact ⟨_, rfl, q1.1.lo, q1.1.hi, k _ _ m1 G1 H1 _ q1.2 e1 s1 wk_range trivial⟩
    · exact q1.elim⟩
theorem ui_range2 {p : Pos} (hg : Gl X "range") (hm : X.mg "range" = none) (ha : UA X B [a, b] va) (hs : starEach [a, b] X.env = [(false, eval a X.env), (false, eval b X.env)] := by rfl) (hs2 : starEach [b] X.env = [(false, eval b X.env)] := by rfl) :
    UI X B tg (.Call (.Name "range" p) [a, b] [] pos) (iR2 va) :=
  ⟨(pi_range2 hg hm ha.pa hs hs2).weak fun σ H R h => by
    obtain ⟨G, ρ, m, P, e0, s, t, k⟩ := h
    refine ⟨G, ρ, m, _, e0, s, t, fun ds m1 G1 vs H1 q1 e1 s1 r1 => ?_⟩
    split at q1
    · obtain ⟨v, v', rfl, r, r'⟩ := r1.two
      cases r
      cases r'
      exact ⟨_, _, rfl, ⟨q1.1.lo, q1.1.hi, q1.2.1.lo, q1.2.1.hi⟩, k _ _ m1 G1 H1 _ q1.2.2 e1 s1 wk_range trivial⟩
    · exact q1.elim⟩
/-- enumerate(list) -/
def enumD (ds : List D) : List D := (List.range ds.length).map fun i => D.tup [.int (i : Nat), ds.getD i .non]
def iE (va : VA) : VI := fun ρ m Q => va ρ m fun ds m1 => match ds with
  | [d] => ∃ es, asL m1 d = some es ∧ Q (enumD es) (fun m' => asL m' d = some es) m1
  | _ => False
theorem ui_enum {elts : List Expr} {kk : Nat} {tpos p : Pos} (hg : Gl X "enumerate") (hm : X.mg "enumerate" = none) (ha : UA X B [a] va) (hs : starEach [a] X.env = [(false, eval a X.env)] := by rfl) :
    UI X B (.Tuple elts kk tpos) (.Call (.Name "enumerate" p) [a] [] pos) (iE va) :=
  ⟨(pi_enum hg hm ha.pa hs).weak fun σ H R h => by
    obtain ⟨G, ρ, m, P, e0, s, t, k⟩ := h
    refine ⟨G, ρ, m, _, e0, s, t, fun ds m1 G1 vs H1 q1 e1 s1 r1 => ?_⟩
    split at q1
    · obtain ⟨v, rfl, r⟩ := r1.one
      obtain ⟨es, h1, h2⟩ := q1
      obtain ⟨a, xs, rfl, h3, h4⟩ := s1.asL r h1
      refine ⟨a, xs, rfl, h3, k _ _ m1 G1 H1 _ h2 e1 s1 ?_ h1⟩
      refine ⟨fun i G m H e s h hi => ?_, fun i G m H e s h hi => ?_, fun i G m H x H' e s h hi y => ?_⟩
      · obtain ⟨a', xs, e1, h3, h4⟩ := s.asL (r.mono e) h
        cases e1
        refine ⟨xs, h3, by rw [← h4.length]; simpa [enumD] using hi⟩
      · obtain ⟨a', xs, e1, h3, h4⟩ := s.asL (r.mono e) h
        cases e1
        have hi' : i < es.length := by simpa [enumD] using hi
        obtain ⟨v, h5, h6⟩ := h4.get (List.getElem?_eq_getElem hi')
        exact ⟨xs, v, h3, h5⟩
      · obtain ⟨a', xs, e1, h3, h4⟩ := s.asL (r.mono e) h
        cases e1
        have hi' : i < es.length := by simpa [enumD] using hi
        obtain ⟨T, x, rfl, hT, rfl, y⟩ := y
        obtain ⟨d, h5, h6⟩ := h4.getV (y xs h3)
        obtain ⟨e2, s2⟩ := s.newG hT (.tup [.int (i : Nat), x])
        refine ⟨_, .tup [.int (i : Nat), d], e2, s2, ?_, .tup (.of upd_same) (.cons (.int _) (.cons (h6.mono e2.ex) .nil))⟩
        have : es[i] = d := by rw [List.getElem?_eq_getElem hi'] at h5; exact Option.some.inj h5
        simp [enumD, hi', this]
    · exact q1.elim⟩
/-- zip of two lists -/
def zipD : List D → List D → List D
  | x :: xs, y :: ys => .tup [x, y] :: zipD xs ys
  | _, _ => []
theorem zipD_len : ∀ xs ys : List D, (zipD xs ys).length = min xs.length ys.length
  | [], _ => by simp [zipD]
  | _ :: _, [] => by simp [zipD]
  | x :: xs, y :: ys => by simp [zipD, zipD_len xs ys]
theorem zipD_at : ∀ {xs ys : List D} {i : Nat} {x y : D}, xs[i]? = some x → ys[i]? = some y → (zipD xs ys)[i]? = some (.tup [x, y])
  | _ :: _, _ :: _, 0, _, _, h1, h2 => by simp at h1 h2; subst h1 h2; rfl
  | _ :: xs, _ :: ys, i + 1, _, _, h1, h2 => by
    have := zipD_at (xs := xs) (ys := ys) (i := i) (by simpa using h1) (by simpa using h2)
    simpa [zipD] using this
  | [], _, _, _, _, h1, _ => by simp at h1
  | _, [], _, _, _, _, h2 => by simp at h2
def iZ (va : VA) : VI := fun ρ m Q => va ρ m fun ds m1 => match ds with
  | [d, d'] => ∃ es es', asL m1 d = some es ∧ asL m1 d' = some es' ∧ Q (zipD es es') (fun m' => asL m' d = some es ∧ asL m' d' = some es') m1
  | _ => False
theorem ui_zip {elts : List Expr} {kk : Nat} {tpos p : Pos} (hg : Gl X "zip") (hm : X.mg "zip" = none) (ha : UA X B [a, b] va)
    (hs : starEach [a, b] X.env = (false, eval a X.env) :: starEach [b] X.env := by rfl) (hpl : (backTo pos (starEach [b] X.env)).any (·.1) = false := by rfl) : UI X B (.Tuple elts kk tpos) (.Call (.Name "zip" p) [a, b] [] pos) (iZ va) :=
  ⟨(pi_zip hg hm ha.pa hs hpl).weak fun σ H R h => by
    obtain ⟨G, ρ, m, P, e0, s, t, k⟩ := h
    refine ⟨G, ρ, m, _, e0, s, t, fun ds m1 G1 vs H1 q1 e1 s1 r1 => ?_⟩
    split at q1
    · obtain ⟨v, v', rfl, r, r'⟩ := r1.two
      obtain ⟨es, es', h1, h1', h2⟩ := q1
      obtain ⟨a, xs, rfl, h3, h4⟩ := s1.asL r h1
      obtain ⟨b, ys, rfl, h3', h4'⟩ := s1.asL r' h1'
      refine ⟨a, b, xs, ys, rfl, h3, h3', k _ _ m1 G1 H1 _ h2 e1 s1 ?_ ⟨h1, h1'⟩⟩
      refine ⟨fun i G m H e s h hi => ?_, fun i G m H e s h hi => ?_, fun i G m H x H' e s h hi y => ?_⟩
      · obtain ⟨a', xs, e1, h3, h4⟩ := s.asL (r.mono e) h.1
        obtain ⟨b', ys, e2, h3', h4'⟩ := s.asL (r'.mono e) h.2
        cases e1; cases e2
        rw [zipD_len] at hi
        refine ⟨xs, ys, h3, h3', ?_⟩
        rw [← h4.length, ← h4'.length]
        omega
      · obtain ⟨a', xs, e1, h3, h4⟩ := s.asL (r.mono e) h.1
        obtain ⟨b', ys, e2, h3', h4'⟩ := s.asL (r'.mono e) h.2
        cases e1; cases e2
        rw [zipD_len] at hi
        obtain ⟨v, h5, h6⟩ := h4.get (List.getElem?_eq_getElem (show i < es.length by omega))
        obtain ⟨v', h5', h6'⟩ := h4'.get (List.getElem?_eq_getElem (show i < es'.length by omega))
        exact ⟨xs, ys, v, v', h3, h3', h5, h5'⟩
      · obtain ⟨a', xs, e1, h3, h4⟩ := s.asL (r.mono e) h.1
        obtain ⟨b', ys, e2, h3', h4'⟩ := s.asL (r'.mono e) h.2
        cases e1; cases e2
        obtain ⟨T, x, x', rfl, hT, rfl, y, y'⟩ := y
        obtain ⟨d, h5, h6⟩ := h4.getV (y xs h3)
        obtain ⟨d', h5', h6'⟩ := h4'.getV (y' ys h3')
        obtain ⟨e2, s2⟩ := s.newG hT (.tup [x, x'])
        exact ⟨_, .tup [d, d'], e2, s2, zipD_at h5 h5', .tup (.of upd_same) (.cons (h6.mono e2.ex) (.cons (h6'.mono e2.ex) .nil))⟩
    · exact q1.elim⟩
/-- a text, sign by sign -/
def signs (z : Str) : List D := z.cps.toList.map fun c => D.str ⟨#[c]⟩
def iS (te : VE) : VI := fun ρ m Q => te ρ m fun d m1 => match d with | .str z => Q (signs z) (fun _ => True) m1 | _ => False
theorem ui_str (he : UE X B iter te) : UI X B tg iter (iS te) := ⟨(pi_str he.pe).weak fun σ H R h => by
  obtain ⟨G, ρ, m, P, e0, s, t, k⟩ := h
  refine ⟨G, ρ, m, _, e0, s, t, fun d m1 G1 v1 H1 q1 e1 s1 r1 => ?_⟩
  cases r1 <;> first | exact q1.elim | skip
  rename_i z
  refine ⟨z, rfl, k _ _ m1 G1 H1 _ q1 e1 s1 ?_ trivial⟩
  refine ⟨fun i G m H e s _ hi => ?_, fun i G m H e s _ hi => ?_, fun i G m H x H' e s _ hi y => ?_⟩
  · show z.cps.size ≤ i
    simpa [signs] using hi
  · show i < z.cps.size
    simpa [signs] using hi
  · obtain ⟨rfl, c, h, rfl⟩ := y
    refine ⟨G, _, Stp.refl, s, ?_, .str _⟩
    simp [signs, h]⟩
end
end DL

namespace DL
open PySem L2
open Evl (Ex)
section
variable {X : Cx} {B : Bs} {a b c e o tg iter : Expr} {es : List Expr} {ta tb tc te to : VE} {va : VA} {pos pos' : Pos} {st : Stmt} {sts rest : List Stmt} {t u : VS} {tt : VT}

/-! ### blocks -/
def vNext : VS := fun E ρ m => E.nx ρ m
def vSeq (t u : VS) : VS := fun E ρ m => t { E with nx := u E } ρ m
def vBreak : VS := fun E ρ m => E.bk ρ m
def vCont : VS := fun E ρ m => E.ct ρ m
theorem uss_nil : USs X B [] vNext := ⟨PSs.weak pss_nil fun D σ H h => by
  obtain ⟨G, ρ, m, E, e0, s, t, k, _⟩ := h
  exact k ρ m G σ H t Stp.refl s⟩
theorem uss_cons (h1 : US X B st t) (h2 : USs X B rest u) : USs X B (st :: rest) (vSeq t u) := ⟨PSs.weak (pss_cons h1.ps h2.ps) fun D σ H h => by
  obtain ⟨G, ρ, m, E, e0, s, t, k, kr, kb, kc⟩ := h
  refine ⟨G, ρ, m, { E with nx := u E }, e0, s, t, fun ρ' m' G' σ' H' q e1 s1 => ?_, kr, kb, kc⟩
  refine ⟨G', ρ', m', E, e0.trans e1, s1, q, fun ρ2 m2 G2 σ2 H2 q2 e2 => k ρ2 m2 G2 σ2 H2 q2 (e1.trans e2), fun d m2 G2 v H2 q2 e2 => kr d m2 G2 v H2 q2 (e1.trans e2), fun ρ2 m2 G2 σ2 H2 q2 e2 => kb ρ2 m2 G2 σ2 H2 q2 (e1.trans e2), fun ρ2 m2 G2 σ2 H2 q2 e2 => kc ρ2 m2 G2 σ2 H2 q2 (e1.trans e2)⟩⟩
theorem uss_one (h1 : US X B st t) : USs X B [st] t := ⟨pss_one h1.ps⟩
theorem us_pass : US X B (.Pass pos) vNext := ⟨PS.weak ps_pass fun D σ H h => by
  obtain ⟨G, ρ, m, E, e0, s, t, k, _⟩ := h
  exact k ρ m G σ H t Stp.refl s⟩
theorem us_break : US X B (.Break pos) vBreak := ⟨PS.weak ps_break fun D σ H h => by
  obtain ⟨G, ρ, m, E, e0, s, t, k, kr, kb, kc⟩ := h
  exact kb ρ m G σ H t Stp.refl s⟩
theorem us_continue : US X B (.Continue pos) vCont := ⟨PS.weak ps_continue fun D σ H h => by
  obtain ⟨G, ρ, m, E, e0, s, t, k, kr, kb, kc⟩ := h
  exact kc ρ m G σ H t Stp.refl s⟩
def vNever : VS := fun _ _ _ => False
theorem us_never : US X B st vNever := ⟨PS.weak ps_never fun D σ H h => by
  obtain ⟨G, ρ, m, E, e0, s, t, k⟩ := h
  exact t⟩
theorem uss_never : USs X B sts vNever := ⟨PSs.weak pss_never fun D σ H h => by
  obtain ⟨G, ρ, m, E, e0, s, t, k⟩ := h
  exact t⟩

/-! ### plain statements -/
def vDrop (te : VE) : VS := fun E ρ m => te ρ m fun _ m1 => E.nx ρ m1
theorem us_expr (he : UE X B e te) (hs : swapsWith e none pos.line X.env = pure false := by rfl) : US X B (.Expr e pos) (vDrop te) := ⟨PS.weak (ps_expr he.pe hs) fun D σ H h => by
  obtain ⟨G, ρ, m, E, e0, s, t, k, _⟩ := h
  exact ⟨G, ρ, m, _, e0, s, t, fun d m1 G1 v H1 q e1 s1 _ => k ρ m1 G1 σ H1 q e1 ⟨s.fr.mono e1.ex, s1⟩⟩⟩
def vRet (te : VE) : VS := fun E ρ m => te ρ m E.rt
theorem us_ret (he : UE X B e te) : US X B (.Return (some e) pos) (vRet te) := ⟨PS.weak (ps_ret he.pe) fun D σ H h => by
  obtain ⟨G, ρ, m, E, e0, s, t, k, kr, _⟩ := h
  exact ⟨G, ρ, m, _, e0, s, t, kr⟩⟩
def vRetN : VS := fun E _ m => E.rt .non m
theorem us_retN : US X B (.Return none pos) vRetN := ⟨PS.weak ps_retN fun D σ H h => by
  obtain ⟨G, ρ, m, E, e0, s, t, k, kr, _⟩ := h
  exact kr .non m G .non H t Stp.refl s.ms .non⟩
def vIfS (tt : VT) (t u : VS) : VS := fun E ρ m => tt ρ m fun b m1 => (b = true → t E ρ m1) ∧ (b = false → u E ρ m1)
theorem us_if {A A' : List Stmt} (hc : UT X B c tt) (ha : USs X B A t) (hb : USs X B A' u) : US X B (.If c A A' pos) (vIfS tt t u) := ⟨PS.weak (ps_if hc.pt ha.ps hb.ps) fun D σ H h => by
  obtain ⟨G, ρ, m, E, e0, s, t, k, kr, kb, kc⟩ := h
  refine ⟨G, ρ, m, _, e0, s, t, fun b m1 G1 H1 q e1 s1 => ?_⟩
  have ks := fun (t' : VS) (q' : t' E ρ m1) => (show lowS X.K B t' D σ H1 from ⟨G1, ρ, m1, E, e0.trans e1, ⟨s.fr.mono e1.ex, s1⟩, q', fun ρ2 m2 G2 σ2 H2 q2 e2 => k ρ2 m2 G2 σ2 H2 q2 (e1.trans e2), fun d m2 G2 v H2 q2 e2 => kr d m2 G2 v H2 q2 (e1.trans e2), fun ρ2 m2 G2 σ2 H2 q2 e2 => kb ρ2 m2 G2 σ2 H2 q2 (e1.trans e2), fun ρ2 m2 G2 σ2 H2 q2 e2 => kc ρ2 m2 G2 σ2 H2 q2 (e1.trans e2)⟩)
  cases b with
  | true => exact ks _ (q.1 rfl)
  | false => exact ks _ (q.2 rfl)⟩
/-- target = e -/
def vAsg (g : Tg) (te : VE) : VS := fun E ρ m => te ρ m fun d m1 => ∃ ρ1, tgSet g d ρ = some ρ1 ∧ E.nx ρ1 m1
theorem low_asg {g : Tg} {D : Ends} {σ : L2.St} {H : Hp} (h : lowS X.K B (vAsg g te) D σ H) : tAsg (lowE X.K B te) (tgTG X.K g) D σ H := by
  obtain ⟨G, ρ, m, E, e0, s, t, k, _⟩ := h
  refine ⟨G, ρ, m, _, e0, s, t, fun d m1 G1 v H1 q e1 s1 r1 => ?_⟩
  obtain ⟨ρ1, w, q⟩ := q
  exact tg_ok s1 r1 (s.fr.mono e1.ex) w fun σ' f' _ => k ρ1 m1 G1 σ' H1 q e1 ⟨f', s1⟩
theorem us_set {i : Nat} {x : Str} (hN : X.N.Nodup) (he : UE X B e te) (hi : X.N[i]? = some x := by rfl) (hx : Loc X.env.scope x := by first | exact Or.inl rfl | exact Or.inr rfl) (hs : swapsWith e (some (.Name x pos')) pos.line X.env = pure false := by rfl)
    (hf : X.fn x = true ∨ X.env.scope.names.lookup x = some .local := by first | exact .inl rfl | exact .inr rfl | assumption) : US X B (.Assign [.Name x pos'] e pos) (vAsg (.one i) te) :=
  ⟨PS.weak (ps_set hN hi hx he.pe hs hf) fun D σ H h => low_asg (g := .one i) h⟩
theorem us_asg {g : Tg} (hg : PG X tg (tgTG X.K g)) (he : UE X B e te) (hs : swapsWithSole [tg] e pos.line X.env = pure false := by rfl) (hw : swappedStores [tg] e X.env = pure none := by rfl)
    (h1 : (assignEach [tg] X.env).map (·.2) = [assign tg X.env] := by rfl) : US X B (.Assign [tg] e pos) (vAsg g te) := ⟨PS.weak (ps_asg he.pe hg hs hw h1) fun D σ H h => low_asg h⟩
/-- x, y = a, b -/
def vPar (i j : Nat) (va : VA) : VS := fun E ρ m => va ρ m fun ds m1 => match ds with | [d, d'] => ∃ ρ1, fset (fset ρ i d) j d' = ρ1 ∧ E.nx ρ1 m1 | _ => False
theorem us_par {i j : Nat} {x y : Str} {px py pt : Pos} {kt k2 pt2} (hc : X.calm = true) (hN : X.N.Nodup) (hi : X.N[i]? = some x) (hj : X.N[j]? = some y) (hij : i ≠ j)
    (hx : X.env.scope.names.lookup x = some .local) (hy : X.env.scope.names.lookup y = some .local) (ha : UA X B [a, b] va)
    (hw : swappedStores [.Tuple [.Name x px, .Name y py] kt pt] (.Tuple [a, b] k2 pt2) X.env = pure (some [x, y]))
    (hs : swapsWithSole [.Tuple [.Name x px, .Name y py] kt pt] (.Tuple [a, b] k2 pt2) pos.line X.env = pure false := by rfl) :
    US X B (.Assign [.Tuple [.Name x px, .Name y py] kt pt] (.Tuple [a, b] k2 pt2) pos) (vPar i j va) := ⟨PS.weak (ps_par hc hN hi hj hij hx hy ha.pa hw hs) fun D σ H h => by
  obtain ⟨G, ρ, m, E, e0, s, t, k, _⟩ := h
  refine ⟨G, ρ, m, _, e0, s, t, fun ds m1 G1 vs H1 q e1 s1 r1 => ?_⟩
  split at q
  · obtain ⟨v, v', rfl, r, r'⟩ := r1.two
    obtain ⟨_, rfl, q⟩ := q
    exact ⟨v, v', rfl, k _ m1 G1 _ H1 q e1 ⟨((s.fr.mono e1.ex).set r i).set r' j, s1⟩⟩
  · exact q.elim⟩
/-- o.f = e, f known at i -/
def vSetF (C : Addr) (ks : List Str) (i : Nat) (to te : VE) : VS := fun E ρ m => te ρ m fun y m1 => to ρ m1 fun d m2 => match d with
  | .adr a => ∃ ds, m2 a = some (.ins C ks ds) ∧ E.nx ρ (mup m2 a (.ins C ks (ds.set i y)))
  | _ => False
/-- o.f = e, f new -/
def vNewF (C : Addr) (ks : List Str) (f : Str) (to te : VE) : VS := fun E ρ m => te ρ m fun y m1 => to ρ m1 fun d m2 => match d with
  | .adr a => ∃ ds, m2 a = some (.ins C ks ds) ∧ E.nx ρ (mup m2 a (.ins C (ks ++ [f]) (ds ++ [y])))
  | _ => False
theorem us_setF {C : Addr} {ks : List Str} {i : Nat} {f : Str} (ho : UE X B o to) (he : UE X B e te) (hc : Cls X.K C) (hn : NoAttr X.K C f) (hi : ks.idxOf? f = some i) (hl : ks.length < 1000) (hs : swapsWith e (some (.Attribute o f pos')) pos.line X.env = pure false := by rfl) :
    US X B (.Assign [.Attribute o f pos'] e pos) (vSetF C ks i to te) := ⟨PS.weak (ps_fld ho.pe he.pe hs) fun D σ H h => by
  obtain ⟨G, ρ, m, E, e0, s, t, k, _⟩ := h
  refine ⟨G, ρ, m, _, e0, s, t, fun y m1 G1 v H1 q e1 s1 r1 => ?_⟩
  refine ⟨G1, ρ, m1, _, e0.trans e1, ⟨s.fr.mono e1.ex, s1⟩, q, fun d m2 G2 v2 H2 q2 e2 s2 r2 => ?_⟩
  cases r2 <;> first | exact q2.elim | skip
  rename_i a
  obtain ⟨ds, h1, h2⟩ := q2
  obtain ⟨_, ho, h3, h4⟩ := s2.mr a _ h1
  cases h4 with
  | ins h5 h6 =>
    rename_i dx fs
    obtain ⟨p1, p2⟩ := put_at (v := v) (show (fs.map (·.1)).idxOf? f = some i by rw [h5]; exact hi)
    obtain ⟨e3, s3⟩ := s2.write h1 (o := .ins C ks (ds.set i y)) (ho := .ins C dx (putF f v fs)) (.ins (p1.trans h5) (by rw [p2]; exact h6.set (r1.mono e2.ex) i))
    refine ⟨a, C, dx, fs, rfl, h3, hc, hn, ?_, k ρ _ _ σ _ h2 ((e1.trans e2).trans e3) ⟨s.fr.mono ((e1.trans e2).trans e3).ex, s3⟩⟩
    have := congrArg List.length h5
    rw [List.length_map] at this
    omega⟩
theorem us_newF {C : Addr} {ks : List Str} {f : Str} (ho : UE X B o to) (he : UE X B e te) (hc : Cls X.K C) (hn : NoAttr X.K C f) (hi : f ∉ ks) (hl : ks.length < 1000) (hs : swapsWith e (some (.Attribute o f pos')) pos.line X.env = pure false := by rfl) :
    US X B (.Assign [.Attribute o f pos'] e pos) (vNewF C ks f to te) := ⟨PS.weak (ps_fld ho.pe he.pe hs) fun D σ H h => by
  obtain ⟨G, ρ, m, E, e0, s, t, k, _⟩ := h
  refine ⟨G, ρ, m, _, e0, s, t, fun y m1 G1 v H1 q e1 s1 r1 => ?_⟩
  refine ⟨G1, ρ, m1, _, e0.trans e1, ⟨s.fr.mono e1.ex, s1⟩, q, fun d m2 G2 v2 H2 q2 e2 s2 r2 => ?_⟩
  cases r2 <;> first | exact q2.elim | skip
  rename_i a
  obtain ⟨ds, h1, h2⟩ := q2
  obtain ⟨_, ho, h3, h4⟩ := s2.mr a _ h1
  cases h4 with
  | ins h5 h6 =>
    rename_i dx fs
    have p1 : putF f v fs = fs ++ [(f, v)] := put_no (by rw [h5]; exact hi)
    obtain ⟨e3, s3⟩ := s2.write h1 (o := .ins C (ks ++ [f]) (ds ++ [y])) (ho := .ins C dx (putF f v fs)) (.ins (by rw [p1, List.map_append, h5]; rfl) (by rw [p1, List.map_append]; exact h6.append (.cons (r1.mono e2.ex) .nil)))
    refine ⟨a, C, dx, fs, rfl, h3, hc, hn, ?_, k ρ _ _ σ _ h2 ((e1.trans e2).trans e3) ⟨s.fr.mono ((e1.trans e2).trans e3).ex, s3⟩⟩
    have := congrArg List.length h5
    rw [List.length_map] at this
    omega⟩

/-! ### for -/
/-- keeps a reading closed -/
inductive Wn (p : Prop) : Prop
  | mk : p → Wn p
theorem Wn.out {p : Prop} : Wn p → p
  | .mk h => h
def forW (stay : MH → Prop) (g : Tg) (tb : VS) (E : VEnds) : List D → Frm → MH → Prop
  | [], ρ, m => E.nx ρ m
  | x :: xs, ρ, m => ∃ ρ1, tgSet g x ρ = some ρ1 ∧ ∃ N : Frm → MH → Prop, (∀ ρ' m', N ρ' m' → stay m' ∧ forW stay g tb E xs ρ' m') ∧ tb { E with nx := N, ct := N, bk := E.nx } ρ1 m
/-- by an invariant -/
theorem for_inv {stay : MH → Prop} {g : Tg} {tb : VS} {E : VEnds} (I : Nat → Frm → MH → Prop) : ∀ (ds : List D) (k : Nat) {ρ : Frm} {m : MH}, I k ρ m → (∀ i ρ m, I i ρ m → stay m) →
    (∀ i x ρ m, ds[i]? = some x → I (k + i) ρ m → ∃ ρ1, tgSet g x ρ = some ρ1 ∧ tb { E with nx := I (k + i + 1), ct := I (k + i + 1), bk := E.nx } ρ1 m) → (∀ ρ m, I (k + ds.length) ρ m → E.nx ρ m) → forW stay g tb E ds ρ m
  | [], k, ρ, m, h0, _, _, hd => hd ρ m h0
  | x :: xs, k, ρ, m, h0, hst, hs, hd => by
    obtain ⟨ρ1, e, q⟩ := hs 0 x ρ m rfl h0
    refine ⟨ρ1, e, I (k + 1), fun ρ' m' h => ⟨hst _ _ _ h, for_inv I xs (k + 1) h hst (fun i y ρ2 m2 hy h2 => ?_) fun ρ2 m2 h2 => hd ρ2 m2 (by rw [List.length_cons]; rw [show k + (xs.length + 1) = k + 1 + xs.length by omega]; exact h2)⟩, q⟩
    have := hs (i + 1) y ρ2 m2 (by simpa using hy) (by rw [show k + (i + 1) = k + 1 + i by omega]; exact h2)
    rw [show k + (i + 1) + 1 = k + 1 + i + 1 by omega] at this
    exact this
def vFor (wi : VI) (g : Tg) (tb : VS) : VS := fun E ρ m => wi ρ m fun ds stay m1 => Wn (forW stay g tb E ds ρ m1)
theorem us_for {wi : VI} {g : Tg} {body : List Stmt} (hp : PassesOwn (model X.prog X.w) X.A X.env X.xe) (hc : X.calm = true) (hi : UI X B tg iter wi) (hg : PG X tg (tgTG X.K g)) (hb : USs X B body t)
    (hs : ∀ x, foldedSetIterable iter X.env x = pure x := by intro _; rfl) : US X B (.For tg iter body [] pos) (vFor wi g t) := ⟨PS.weak (ps_for hp hc hi.pi hg hb.ps hs) fun D σ H h => by
  obtain ⟨G, ρ, m, E, e0, s, q, k, kr, kb, kc⟩ := h
  refine ⟨G, ρ, m, _, e0, s, q, fun ds stay m1 G1 H1 J q1 e1 s1 w hst => ?_⟩
  refine ⟨fun i n σ H => n = ds.length - i ∧ i ≤ ds.length ∧ ∃ G2 ρ m2, Stp G1 m1 H1 G2 m2 H ∧ Sta X.K G2 ρ σ m2 H ∧ stay m2 ∧ forW stay g t E (ds.drop i) ρ m2,
    ⟨ds.length, by simp, Nat.zero_le _, G1, ρ, m1, Stp.refl, ⟨s.fr.mono e1.ex, s1⟩, hst, q1.out⟩, ?_⟩
  rintro i n σ2 H2 ⟨rfl, hi, G2, ρ2, m2, e2, s2, hst2, q2⟩
  by_cases hlt : i < ds.length
  · refine .inr ⟨w.go i G2 m2 H2 e2.ex s2.ms hst2 hlt, fun σ' H' => i + 1 ≤ ds.length ∧ ∃ G2 ρ m2, Stp G1 m1 H1 G2 m2 H' ∧ Sta X.K G2 ρ σ' m2 H' ∧ stay m2 ∧ forW stay g t E (ds.drop (i + 1)) ρ m2,
      fun σ' H' p' => ⟨ds.length - (i + 1), by omega, rfl, p'⟩, fun x H3 y => ?_⟩
    obtain ⟨G3, d, e3, s3, h3, r3⟩ := w.yld i G2 m2 H2 x H3 e2.ex s2.ms hst2 hlt y
    have hd : ds.drop i = d :: ds.drop (i + 1) := by
      rw [List.drop_eq_getElem_cons hlt]
      rw [List.getElem?_eq_getElem hlt] at h3
      rw [Option.some.inj h3]
    rw [hd] at q2
    unfold forW at q2
    obtain ⟨ρ3, z, q2⟩ := q2
    focus
      obtain ⟨N, hN, q2⟩ := q2
      refine tg_ok s3 r3 (s2.fr.mono e3.ex) z fun σ3 f3 _ => ?_
      have e13 := (e1.trans e2).trans e3
      refine ⟨G3, ρ3, m2, _, e0.trans e13, ⟨f3, s3⟩, q2, fun ρ4 m4 G4 σ4 H4 q4 e4 s4 => ⟨hlt, G4, ρ4, m4, (e2.trans e3).trans e4, s4, (hN _ _ q4).1, (hN _ _ q4).2⟩, fun d m4 G4 v H4 q4 e4 => kr d m4 G4 v H4 q4 (e13.trans e4),
        fun ρ4 m4 G4 σ4 H4 q4 e4 s4 => k ρ4 m4 G4 σ4 H4 q4 (e13.trans e4) s4, fun ρ4 m4 G4 σ4 H4 q4 e4 s4 => ⟨hlt, G4, ρ4, m4, (e2.trans e3).trans e4, s4, (hN _ _ q4).1, (hN _ _ q4).2⟩⟩
  · have hi' : ds.length ≤ i := by omega
    rw [List.drop_eq_nil_of_le hi'] at q2
    exact .inl ⟨w.stop i G2 m2 H2 e2.ex s2.ms hst2 hi', k ρ2 m2 G2 σ2 H2 q2 (e1.trans e2) s2⟩⟩

/-! ### while -/
def vWhile (tt : VT) (tb : VS) : VS := fun E ρ m => ∃ W : Nat → Frm → MH → Prop, (∃ n, W n ρ m) ∧ ∀ n ρ m, W n ρ m → tt ρ m fun b m1 =>
  (b = true → ∃ N : Frm → MH → Prop, (∀ ρ' m', N ρ' m' → ∃ k, k < n ∧ W k ρ' m') ∧ tb { E with nx := N, ct := N, bk := E.nx } ρ m1) ∧ (b = false → E.nx ρ m1)
theorem us_while {body : List Stmt} (hp : PassesOwn (model X.prog X.w) X.A X.env X.xe) (hc : UT X B c tt) (hb : USs X B body t) : US X B (.While c body [] pos) (vWhile tt t) := ⟨PS.weak (ps_while hp hc.pt hb.ps) fun D σ H h => by
  obtain ⟨G, ρ, m, E, e0, s, ⟨W, ⟨n, q⟩, turn⟩, k, kr, kb, kc⟩ := h
  refine ⟨fun n σ2 H2 => ∃ G2 ρ m2, Stp G m H G2 m2 H2 ∧ Sta X.K G2 ρ σ2 m2 H2 ∧ W n ρ m2, ⟨n, G, ρ, m, Stp.refl, s, q⟩, ?_⟩
  rintro n σ2 H2 ⟨G2, ρ2, m2, e2, s2, q2⟩
  refine ⟨G2, ρ2, m2, _, e0.trans e2, s2, turn n ρ2 m2 q2, fun b m3 G3 H3 q3 e3 s3 => ?_⟩
  cases b with
  | false => exact k ρ2 m3 G3 σ2 H3 (q3.2 rfl) (e2.trans e3) ⟨s2.fr.mono e3.ex, s3⟩
  | true =>
    obtain ⟨N, hN, q3⟩ := q3.1 rfl
    refine ⟨fun σ' H' => ∃ G2 ρ m2, Stp G m H G2 m2 H' ∧ Sta X.K G2 ρ σ' m2 H' ∧ N ρ m2, fun σ' H' ⟨G4, ρ4, m4, e4, s4, q4⟩ => ?_, ?_⟩
    · obtain ⟨k', hk, q5⟩ := hN _ _ q4
      exact ⟨k', hk, G4, ρ4, m4, e4, s4, q5⟩
    · refine ⟨G3, ρ2, m3, _, e0.trans (e2.trans e3), ⟨s2.fr.mono e3.ex, s3⟩, q3, fun ρ4 m4 G4 σ4 H4 q4 e4 s4 => ⟨G4, ρ4, m4, (e2.trans e3).trans e4, s4, q4⟩, fun d m4 G4 v H4 q4 e4 => kr d m4 G4 v H4 q4 ((e2.trans e3).trans e4),
        fun ρ4 m4 G4 σ4 H4 q4 e4 s4 => k ρ4 m4 G4 σ4 H4 q4 ((e2.trans e3).trans e4) s4, fun ρ4 m4 G4 σ4 H4 q4 e4 s4 => ⟨G4, ρ4, m4, (e2.trans e3).trans e4, s4, q4⟩⟩⟩

/-! ### comprehensions of elements that leave the cells as they are -/
def fwipe : Frm → List Nat → Frm
  | ρ, [] => ρ
  | ρ, v :: vs => fdel (fwipe ρ vs) v
where fdel : Frm → Nat → Frm
  | [], _ => []
  | _ :: r, 0 => none :: r
  | x :: r, n + 1 => x :: fdel r n
theorem FrR.del {K : PySem.W.Frag} {G : Hp} : ∀ {ρ : Frm} {σ : L2.St} (i : Nat) (o : Option V), FrR K G ρ σ → FrR K G (fwipe.fdel ρ i) (σ.set i o)
  | _, _, _, _, .nil => .nil
  | _, _, 0, _, .no hs => .no hs
  | _, _, 0, _, .yes _ hs => .no hs
  | _, _, i + 1, o, .no hs => .no (FrR.del i o hs)
  | _, _, i + 1, o, .yes h hs => .yes h (FrR.del i o hs)
theorem FrR.wipe {K : PySem.W.Frag} {G : Hp} {ρ : Frm} {σ : L2.St} (f : FrR K G ρ σ) : ∀ vs : List Nat, FrR K G (fwipe ρ vs) (wipe σ vs)
  | [] => f
  | v :: vs => (FrR.wipe f vs).del v none
def lcW (g : Tg) (tt : VT) (te : VE) (vs : List Nat) (ρ : Frm) (m : MH) (F : List D → Prop) : List D → List D → Prop
  | [], acc => F acc
  | x :: xs, acc => ∃ ρ1, tgSet g x (fwipe ρ vs) = some ρ1 ∧ tt ρ1 m fun b m2 => m2 = m ∧ (b = true → te ρ1 m fun y m3 => m3 = m ∧ acc.length < sizeLine ∧ lcW g tt te vs ρ m F xs (acc ++ [y])) ∧ (b = false → lcW g tt te vs ρ m F xs acc)
def vLc (wi : VI) (g : Tg) (tt : VT) (te : VE) (vs : List Nat) : VE := fun ρ m Q => wi ρ m fun ds stay m1 => Wn (lcW g tt te vs ρ m1 (fun acc => Q (.lst acc) m1) ds [])
/-- .. a list that will change -/
def vLcM (wi : VI) (g : Tg) (tt : VT) (te : VE) (vs : List Nat) : VE := fun ρ m Q => wi ρ m fun ds stay m1 => Wn (lcW g tt te vs ρ m1 (fun acc => ∀ p, m1 p = none → Q (.adr p) (mup m1 p (.lst acc))) ds [])
def vLcF (fin : MH → (D → MH → Prop) → List D → Prop) (wi : VI) (g : Tg) (tt : VT) (te : VE) (vs : List Nat) : VE := fun ρ m Q => wi ρ m fun ds stay m1 => Wn (lcW g tt te vs ρ m1 (fin m1 Q) ds [])
/-- tests of a comprehension -/
structure UTs (X : Cx) (B : Bs) (ifs : List Expr) (t : VT) : Prop where
  pt : PTs X ifs (lowT X.K B t)
theorem _root_.L2.PTs.weak {e : List Expr} {t t' : TT} (h : PTs X e t) (i : ∀ σ H Q, t' σ H Q → t σ H Q) : PTs X e t' := ⟨fun pins s σ H Q I q => h.run pins s σ H Q I (i _ _ _ q)⟩
def vYes : VT := fun _ m Q => Q true m
theorem uts_nil : UTs X B [] vYes := ⟨PTs.weak pts_nil fun σ H Q h => by
  obtain ⟨G, ρ, m, P, e0, s, t, k⟩ := h
  exact k _ m G H t Stp.refl s.ms⟩
theorem uts_one (h : UT X B c tt) : UTs X B [c] tt := ⟨pts_one h.pt⟩
theorem low_lcF {fin : MH → (D → MH → Prop) → List D → Prop} {wi : VI} {g : Tg} {vs : List Nat} {σ : L2.St} {H : Hp} {Q : VK}
    (hfin : ∀ {m1 : MH} {P : D → MH → Prop} {acc : List D} {G : Hp} {H2 : Hp} {L : Addr} {us : List V}, fin m1 P acc → MSt X.K G m1 H2 → G L = none → m1 L = none → H2 L = some (.lst us) → DnAll X.K G acc us → ∃ d m' G', P d m' ∧ Ex G G' ∧ MSt X.K G' m' H2 ∧ Dn X.K G' d (.ref L) ∧ ∀ a, a ≠ L → G' a = G a ∧ m' a = m1 a)
    (hv : ∀ i ∈ g.slots, i ∈ vs) (h : lowE X.K B (vLcF fin wi g tt te vs) σ H Q) :
    tLc (lowI X.K B wi) (tgTG X.K g) (lowT X.K B tt) (lowE X.K B te) vs σ H Q := by
  obtain ⟨G, ρ, m, P, e0, s, q, k⟩ := h
  refine ⟨G, ρ, m, _, e0, s, q, fun ds stay m1 G1 H1 J q1 e1 s1 w hst => ?_⟩
  intro L hL
  -- the new list at L: not a cell, not frozen
  have hLn := s1.free hL
  have ne1 : ∀ {G2 : Hp} {H2 : Hp}, MSt X.K G2 m1 H2 → G2 L = none → ∀ us, Stp G2 m1 H2 G2 m1 (upd H2 L us) → MSt X.K G2 m1 (upd H2 L us) := fun {G2 H2} s2 g us _ => by
    refine ⟨fun b u q => ?_, fun b u q => ?_⟩
    · have hb : b ≠ L := fun z => by subst z; rw [g] at q; cases q
      rw [upd_ne hb]; exact s2.ex b u q
    · have hb : b ≠ L := fun z => by subst z; rw [hLn.2] at q; cases q
      obtain ⟨h1, ho, h2, h3⟩ := s2.mr b u q
      exact ⟨h1, ho, by rw [upd_ne hb]; exact h2, h3⟩
  -- what stands but L
  let Inv2 : Hp → Hp → Prop := fun G2 H2 => Ex G1 G2 ∧ G2 L = none ∧ (∀ a o, H1 a = some o → m1 a = none → H2 a = some o ∧ (G1 a = none → G2 a = none)) ∧ MSt X.K G2 m1 H2
  have step : ∀ {G2 H2 G3 H3}, Inv2 G2 H2 → H2 L ≠ none → Stp G2 m1 H2 G3 m1 H3 → MSt X.K G3 m1 H3 → Inv2 G3 H3 := fun {G2 H2 G3 H3} i hl e s3 => by
    obtain ⟨i1, i2, i3, i4⟩ := i
    refine ⟨i1.trans e.ex, ?_, fun a o h n => ?_, s3⟩
    · cases z : H2 L with
      | none => exact absurd z hl
      | some o => exact (e.keep L o z hLn.2).2.2 i2
    · obtain ⟨h1, h2⟩ := i3 a o h n
      obtain ⟨h3, _, h4⟩ := e.keep a o h1 n
      exact ⟨h3, fun z => h4 (h2 z)⟩
  have app : ∀ {G2 H2} (o : HO), Inv2 G2 H2 → Inv2 G2 (upd H2 L o) := fun {G2 H2} o i => by
    obtain ⟨i1, i2, i3, i4⟩ := i
    refine ⟨i1, i2, fun a u h n => ?_, ⟨fun b u q => ?_, fun b u q => ?_⟩⟩
    · have hb : a ≠ L := fun z => by subst z; rw [hL] at h; cases h
      rw [upd_ne hb]; exact i3 a u h n
    · have hb : b ≠ L := fun z => by subst z; rw [i2] at q; cases q
      rw [upd_ne hb]; exact i4.ex b u q
    · have hb : b ≠ L := fun z => by subst z; rw [hLn.2] at q; cases q
      obtain ⟨h1, ho, h2, h3⟩ := i4.mr b u q
      exact ⟨h1, ho, by rw [upd_ne hb]; exact h2, h3⟩
  refine ⟨fun i n H2 => n = ds.length - i ∧ i ≤ ds.length ∧ ∃ G2 acc us, Inv2 G2 H2 ∧ H2 L = some (.lst us) ∧ DnAll X.K G2 acc us ∧ lcW g tt te vs ρ m1 (fin m1 P) (ds.drop i) acc,
    ⟨ds.length, by simp, Nat.zero_le _, G1, [], [], app _ ⟨Ex.refl G1, hLn.1, fun a o h n => ⟨h, fun z => z⟩, s1⟩, upd_same, .nil, q1.out⟩, ?_⟩
  rintro i n H2 ⟨rfl, hi, G2, acc, us, i2, hL2, ra, q2⟩
  by_cases hlt : i < ds.length
  · refine .inr ⟨w.go i G2 m1 H2 i2.1 i2.2.2.2 hst hlt, fun H' => i + 1 ≤ ds.length ∧ ∃ G2 acc us, Inv2 G2 H' ∧ H' L = some (.lst us) ∧ DnAll X.K G2 acc us ∧ lcW g tt te vs ρ m1 (fin m1 P) (ds.drop (i + 1)) acc,
      fun H' p' => ⟨ds.length - (i + 1), by omega, rfl, p'⟩, fun x H3 y => ?_⟩
    obtain ⟨G3, d, e3, s3, h3, r3⟩ := w.yld i G2 m1 H2 x H3 i2.1 i2.2.2.2 hst hlt y
    have hd : ds.drop i = d :: ds.drop (i + 1) := by
      rw [List.drop_eq_getElem_cons hlt]
      rw [List.getElem?_eq_getElem hlt] at h3
      rw [Option.some.inj h3]
    rw [hd] at q2
    unfold lcW at q2
    have i3 := step i2 (by rw [hL2]; exact fun z => nomatch z) e3 s3
    have hL3 := (e3.keep L _ hL2 hLn.2).1
    obtain ⟨ρ3, z, q2⟩ := q2
    focus
      have f0 : FrR X.K G3 ρ σ := s.fr.mono (e1.ex.trans i3.1)
      refine tg_ok s3 r3 (f0.wipe vs) z fun σ3 f3 w3 => ?_
      refine ⟨(w3 vs hv).trans (by
        have : ∀ l : List Nat, (∀ i ∈ l, i ∈ vs) → wipe (wipe σ vs) l = wipe σ vs := fun l => by
          induction l with
          | nil => intro _; rfl
          | cons a r ih =>
            intro hl
            show (wipe (wipe σ vs) r).set a none = wipe σ vs
            rw [ih fun j hj => hl j (List.mem_cons_of_mem _ hj)]
            have ha := hl a List.mem_cons_self
            have gen : ∀ (l : List Nat) (τ : L2.St), a ∈ l → (wipe τ l).set a none = wipe τ l := fun l τ => by
              induction l with
              | nil => intro h; cases h
              | cons b r2 ih2 =>
                intro h
                unfold wipe
                by_cases e : a = b
                · subst e; rw [List.set_set]
                · rcases List.mem_cons.mp h with z | z
                  · exact absurd z e
                  · rw [List.set_comm _ _ (Ne.symm e), ih2 z]
            exact gen vs σ ha
        exact this vs fun _ h => h), ?_⟩
      have eB : B.to G3 m1 H3 := ⟨e0.ex.trans (e1.ex.trans i3.1), fun a o h n => by
        obtain ⟨h1, n1, g1⟩ := (e0.trans e1).keep a o h n
        obtain ⟨h2, g2⟩ := i3.2.2.1 a o h1 n1
        exact ⟨h2, n1, fun z => g2 (g1 z)⟩⟩
      refine ⟨G3, ρ3, m1, _, eB, ⟨f3, s3⟩, q2, fun b m4 G4 H4 q4 e4 s4 => ?_⟩
      obtain ⟨rfl, q4, q5⟩ := q4
      have i4 := step i3 (by rw [hL3]; exact fun z => nomatch z) e4 s4
      have hL4 := (e4.keep L _ hL3 hLn.2).1
      cases b with
      | false => exact ⟨hlt, G4, acc, us, i4, hL4, ra.mono (e3.trans e4).ex, q5 rfl⟩
      | true =>
        refine ⟨G4, ρ3, _, _, eB.trans e4, ⟨f3.mono e4.ex, s4⟩, q4 rfl, fun y m5 G5 v5 H5 q6 e5 s5 r5 => ?_⟩
        obtain ⟨rfl, q6, q7⟩ := q6
        have i5 := step i4 (by rw [hL4]; exact fun z => nomatch z) e5 s5
        have hL5 := (e5.keep L _ hL4 hLn.2).1
        have ra5 := ra.mono ((e3.trans e4).trans e5).ex
        exact ⟨us, hL5, by rw [← ra5.length]; exact q6, hlt, G5, acc ++ [y], us ++ [v5], app _ i5, upd_same, ra5.append (.cons r5 .nil), q7⟩
  · have hi' : ds.length ≤ i := by omega
    rw [List.drop_eq_nil_of_le hi'] at q2
    obtain ⟨j1, j2, j3, j4⟩ := i2
    refine .inl ⟨w.stop i G2 m1 H2 j1 j4 hst hi', ?_⟩
    -- the list at L is frozen, or a cell
    obtain ⟨d, m', G', p1, p2, p3, p4, p5⟩ := hfin q2 j4 j2 hLn.2 hL2 ra
    refine k d m' G' (.ref L) H2 p1 ⟨(e1.ex.trans j1).trans p2, fun a o h n => ?_⟩ p3 p4
    obtain ⟨h1, n1, g1⟩ := e1.keep a o h n
    obtain ⟨h2, g2⟩ := j3 a o h1 n1
    have hb : a ≠ L := fun z => by subst z; rw [hL] at h1; cases h1
    exact ⟨h2, by rw [(p5 a hb).2]; exact n1, fun z => by rw [(p5 a hb).1]; exact g2 (g1 z)⟩
theorem low_lc {wi : VI} {g : Tg} {vs : List Nat} {σ : L2.St} {H : Hp} {Q : VK} (hv : ∀ i ∈ g.slots, i ∈ vs) (h : lowE X.K B (vLc wi g tt te vs) σ H Q) :
    tLc (lowI X.K B wi) (tgTG X.K g) (lowT X.K B tt) (lowE X.K B te) vs σ H Q := low_lcF (fin := fun m1 Q acc => Q (.lst acc) m1) (fun {m1 P acc G H2 L us} p s g n hl r => by
  refine ⟨_, _, upd G L (.lst us), p, Ex.new g, ⟨fun b u q => ?_, fun b u q => ?_⟩, .lst upd_same (r.mono (Ex.new g)), fun a ha => ⟨upd_ne ha, rfl⟩⟩
  · by_cases hb : b = L
    · subst hb; rw [upd_same] at q; rw [hl]; exact q
    · rw [upd_ne hb] at q; exact s.ex b u q
  · have hb : b ≠ L := fun z => by subst z; rw [n] at q; cases q
    obtain ⟨h1, ho, h2, h3⟩ := s.mr b u q
    exact ⟨by rw [upd_ne hb]; exact h1, ho, h2, h3.mono (Ex.new g)⟩) hv h
theorem low_lcM {wi : VI} {g : Tg} {vs : List Nat} {σ : L2.St} {H : Hp} {Q : VK} (hv : ∀ i ∈ g.slots, i ∈ vs) (h : lowE X.K B (vLcM wi g tt te vs) σ H Q) :
    tLc (lowI X.K B wi) (tgTG X.K g) (lowT X.K B tt) (lowE X.K B te) vs σ H Q := low_lcF (fin := fun m1 Q acc => ∀ p, m1 p = none → Q (.adr p) (mup m1 p (.lst acc))) (fun {m1 P acc G H2 L us} p s g n hl r => by
  refine ⟨_, _, G, p L n, Ex.refl G, ⟨s.ex, fun b u q => ?_⟩, .adr L, fun a ha => ⟨rfl, mup_ne ha⟩⟩
  by_cases hb : b = L
  · subst hb
    rw [mup_same] at q
    cases q
    exact ⟨g, _, hl, .lst r⟩
  · rw [mup_ne hb] at q
    exact s.mr b u q) hv h
section
variable {elt : Expr} {ifs : List Expr} {scope : Scope} {own : List (Str × Nat)} {wi : VI} {g : Tg}
abbrev Blk (X : Cx) (scope : Scope) (s : Shared) (H : Hp) (C : Addr) (cl : List (Str × Addr)) (fp : List Addr) : Cx := X.blk s H scope (compEnvC scope cl C X.env) fp
theorem ue_lc (hc : X.calm = true) (hN : X.N.Nodup) (hi : UI X B tg iter wi) (ok : BlkOk X.N X.env.scope scope own)
    (hg : ∀ s H C cl fp, PG (Blk X scope s H C cl fp) tg (tgTG X.K g)) (ht : ∀ s H C cl fp, UTs (Blk X scope s H C cl fp) B ifs tt) (he : ∀ s H C cl fp, UE (Blk X scope s H C cl fp) B elt te)
    (hv : ∀ i ∈ g.slots, i ∈ own.map (·.2)) (hs : ∀ x, foldedSetIterable iter X.env x = pure x := by intro _; rfl) : UE X B (.ListComp elt [⟨tg, iter, ifs, 0⟩] scope pos) (vLc wi g tt te (own.map (·.2))) :=
  ⟨(pe_lc hc hN hi.pi ok hg (fun s H C cl fp => (ht s H C cl fp).pt) (fun s H C cl fp => (he s H C cl fp).pe) hs).weak fun σ H Q h => low_lc hv h⟩
theorem ue_lcM (hc : X.calm = true) (hN : X.N.Nodup) (hi : UI X B tg iter wi) (ok : BlkOk X.N X.env.scope scope own)
    (hg : ∀ s H C cl fp, PG (Blk X scope s H C cl fp) tg (tgTG X.K g)) (ht : ∀ s H C cl fp, UTs (Blk X scope s H C cl fp) B ifs tt) (he : ∀ s H C cl fp, UE (Blk X scope s H C cl fp) B elt te)
    (hv : ∀ i ∈ g.slots, i ∈ own.map (·.2)) (hs : ∀ x, foldedSetIterable iter X.env x = pure x := by intro _; rfl) : UE X B (.ListComp elt [⟨tg, iter, ifs, 0⟩] scope pos) (vLcM wi g tt te (own.map (·.2))) :=
  ⟨(pe_lc hc hN hi.pi ok hg (fun s H C cl fp => (ht s H C cl fp).pt) (fun s H C cl fp => (he s H C cl fp).pe) hs).weak fun σ H Q h => low_lcM hv h⟩
/-- y = [..], y a local -/
theorem us_setLc {i : Nat} {y : Str} {py spos : Pos} (hc : X.calm = true) (hN : X.N.Nodup) (hy : X.N[i]? = some y) (hyl : X.env.scope.names.lookup y = some .local)
    (hsw : swapsWith (.ListComp elt [⟨tg, iter, ifs, 0⟩] scope pos) (some (.Name y py)) spos.line X.env = pure true) (hi : UI X B tg iter wi) (ok : BlkOk X.N X.env.scope scope own)
    (hg : ∀ s H C cl fp, PG (Blk X scope s H C cl fp) tg (tgTG X.K g)) (ht : ∀ s H C cl fp, UTs (Blk X scope s H C cl fp) B ifs tt) (he : ∀ s H C cl fp, UE (Blk X scope s H C cl fp) B elt te)
    (hv : ∀ i ∈ g.slots, i ∈ own.map (·.2)) (hs : ∀ x, foldedSetIterable iter X.env x = pure x := by intro _; rfl) :
    US X B (.Assign [.Name y py] (.ListComp elt [⟨tg, iter, ifs, 0⟩] scope pos) spos) (vAsg (.one i) (vLc wi g tt te (own.map (·.2)))) :=
  ⟨PS.weak (ps_setLc hc hN hy hyl hsw hi.pi ok hg (fun s H C cl fp => (ht s H C cl fp).pt) (fun s H C cl fp => (he s H C cl fp).pe) hs) fun D σ H h => by
    obtain ⟨G, ρ, m, E, e0, s, t, k, _⟩ := h
    refine low_lc hv ⟨G, ρ, m, _, e0, s, t, fun d m1 G1 v H1 q e1 s1 r1 => ?_⟩
    obtain ⟨ρ1, z, q⟩ := q
    exact tg_ok (t := .one i) s1 r1 (s.fr.mono e1.ex) z fun σ' f' _ => k _ m1 G1 σ' H1 q e1 ⟨f', s1⟩⟩
theorem us_setLcM {i : Nat} {y : Str} {py spos : Pos} (hc : X.calm = true) (hN : X.N.Nodup) (hy : X.N[i]? = some y) (hyl : X.env.scope.names.lookup y = some .local)
    (hsw : swapsWith (.ListComp elt [⟨tg, iter, ifs, 0⟩] scope pos) (some (.Name y py)) spos.line X.env = pure true) (hi : UI X B tg iter wi) (ok : BlkOk X.N X.env.scope scope own)
    (hg : ∀ s H C cl fp, PG (Blk X scope s H C cl fp) tg (tgTG X.K g)) (ht : ∀ s H C cl fp, UTs (Blk X scope s H C cl fp) B ifs tt) (he : ∀ s H C cl fp, UE (Blk X scope s H C cl fp) B elt te)
    (hv : ∀ i ∈ g.slots, i ∈ own.map (·.2)) (hs : ∀ x, foldedSetIterable iter X.env x = pure x := by intro _; rfl) :
    US X B (.Assign [.Name y py] (.ListComp elt [⟨tg, iter, ifs, 0⟩] scope pos) spos) (vAsg (.one i) (vLcM wi g tt te (own.map (·.2)))) :=
  ⟨PS.weak (ps_setLc hc hN hy hyl hsw hi.pi ok hg (fun s H C cl fp => (ht s H C cl fp).pt) (fun s H C cl fp => (he s H C cl fp).pe) hs) fun D σ H h => by
    obtain ⟨G, ρ, m, E, e0, s, t, k, _⟩ := h
    refine low_lcM hv ⟨G, ρ, m, _, e0, s, t, fun d m1 G1 v H1 q e1 s1 r1 => ?_⟩
    obtain ⟨ρ1, z, q⟩ := q
    exact tg_ok (t := .one i) s1 r1 (s.fr.mono e1.ex) z fun σ' f' _ => k _ m1 G1 σ' H1 q e1 ⟨f', s1⟩⟩
end
end
end DL

namespace DL
open PySem L2
open Evl (Ex)
/-- the frame at a def's entry -/
def fstart : List Str → List D → Frm
  | [], ds => ds.map some
  | _ :: N, d :: ds => some d :: fstart N ds
  | _ :: N, [] => none :: fstart N []
theorem frR_start {K : PySem.W.Frag} {G : Hp} : ∀ (N : List Str) {ds : List D} {vs : List V}, DnAll K G ds vs → FrR K G (fstart N ds) (L2.start N vs)
  | [], ds, vs, h => by
    have e : L2.start [] vs = vs.map some := by unfold L2.start; rw [List.length_nil, Nat.zero_sub, List.replicate_zero, List.append_nil]
    rw [e]
    have : ∀ {ds : List D} {vs : List V}, DnAll K G ds vs → FrR K G (ds.map some) (vs.map some) := by
      intro ds
      induction ds with
      | nil => intro vs h; cases h; exact .nil
      | cons d ds ih => intro vs h; cases h with | cons h1 h2 => exact .yes h1 (ih h2)
    exact this h
  | n :: N, _, _, .nil => by
    have e : L2.start (n :: N) [] = none :: L2.start N [] := rfl
    rw [e]
    exact .no (frR_start N .nil)
  | n :: N, _, _, .cons (v := v) (vs := vs) h1 h2 => by
    have e : L2.start (n :: N) (v :: vs) = some v :: L2.start N vs := by
      unfold L2.start
      rw [List.length_cons, List.length_cons, Nat.succ_sub_succ]
      rfl
    rw [e]
    exact .yes h1 (frR_start N h2)
section
variable {P : Program} {w : World} {K : PySem.W.Frag} {mg : Str → Option Value} {base : Heap}
/-- the context of a def's body that raises nothing -/
abbrev cxN (P : Program) (w : World) (K : PySem.W.Frag) (mg : Str → Option Value) (base : Heap) (N : List Str) (qual : Str) (st : Stmt) (f : Addr) (cdv : Value) (A : Around) (outer : List Env) (s : Shared) (H : Hp) (E : XK) : Cx :=
  (cxOf CX0 P w K mg base N qual (defScope st) f cdv A outer s H E).nox
abbrev cxX (P : Program) (w : World) (K : PySem.W.Frag) (mg : Str → Option Value) (base : Heap) (N : List Str) (qual : Str) (st : Stmt) (f : Addr) (cdv : Value) (A : Around) (outer : List Env) (s : Shared) (H : Hp) (E : XK) : Cx :=
  cxOf (L2N.CX P w) P w K mg base N qual (defScope st) f cdv A outer s H E
theorem ufun {x qual : Str} {st : Stmt} {f : Addr} {fd : FuncData} {N ps : List Str} {k : Nat} {sp : VSp} (F : Fun K x qual st f fd) (S : FnScope N ps (defScope st))
    (hbody : ∀ (cdv : Value) (A : Around) (outer : List Env) (s : Shared) (H : Hp) (E : XK) (B : Bs), Room k (cxN P w K mg base N qual st f cdv A outer s H E).A →
      ∃ t, USs (cxN P w K mg base N qual st f cdv A outer s H E) B (defBody st) t ∧ ∀ ds m Q PX, ds.length = ps.length → sp ds m Q PX → t { nx := fun _ m' => Q .non m', rt := Q } (fstart N ds) m) :
    FnOk P w K mg base CX0 (k + 1) f fd ps (lowSp K ps.length sp) := by
  refine F.ok S (fun vs H Q E h => h.1) (fun cdv A outer s H vs Q E hr h => ?_)
  obtain ⟨hl, G, ds, m, P', PX, s1, r1, h1, k1, W⟩ := h
  obtain ⟨t, ht, hq⟩ := hbody cdv A outer s H E ⟨G, m, H⟩ hr
  refine ⟨_, ht.ps, G, fstart N ds, m, { nx := fun _ m' => P' .non m', rt := P' }, Stp.refl, ⟨frR_start N r1, s1⟩, hq ds m P' PX (r1.length.trans hl) h1, fun ρ' m' G' σ' H' q e s => ?_, fun d m' G' v H' q e s r => ?_, fun ρ' m' G' σ' H' q => q.elim, fun ρ' m' G' σ' H' q => q.elim⟩
  · exact k1 _ _ _ _ _ q e s.ms .non
  · exact k1 _ _ _ _ _ q e s r
theorem ufunX {x qual : Str} {st : Stmt} {f : Addr} {fd : FuncData} {N ps : List Str} {k : Nat} {sp : VSp} (F : Fun K x qual st f fd) (S : FnScope N ps (defScope st))
    (hbody : ∀ (cdv : Value) (A : Around) (outer : List Env) (s : Shared) (H : Hp) (E : XK) (B : Bs) (PX : DX), Room k (cxX P w K mg base N qual st f cdv A outer s H E).A → Wsh K B PX E →
      ∃ t, USs (cxX P w K mg base N qual st f cdv A outer s H E) B (defBody st) t ∧ ∀ ds m Q, ds.length = ps.length → sp ds m Q PX → t { nx := fun _ m' => Q .non m', rt := Q } (fstart N ds) m) :
    FnOk P w K mg base (L2N.CX P w) (k + 1) f fd ps (lowSp K ps.length sp) := by
  obtain ⟨oc, od, kV, doc, pm, an, cdv, ct, osl, rfl, lk, hcd⟩ := F.ex
  refine fn_of lk hcd S (fun vs H Q E h => h.1) (fun A outer s H vs Q E hr h => ?_)
  obtain ⟨hl, G, ds, m, P', PX, s1, r1, h1, k1, W⟩ := h
  obtain ⟨t, ht, hq⟩ := hbody cdv A outer s H E ⟨G, m, H⟩ PX hr W
  refine ⟨_, ht.ps, G, fstart N ds, m, { nx := fun _ m' => P' .non m', rt := P' }, Stp.refl, ⟨frR_start N r1, s1⟩, hq ds m P' (r1.length.trans hl) h1, fun ρ' m' G' σ' H' q e s => ?_, fun d m' G' v H' q e s r => ?_, fun ρ' m' G' σ' H' q => q.elim, fun ρ' m' G' σ' H' q => q.elim⟩
  · exact k1 _ _ _ _ _ q e s.ms .non
  · exact k1 _ _ _ _ _ q e s r
end
theorem u64 {k : Nat} {A : Around} (hr : Room k A) : A.units + 64 < cLine := hr.units
theorem u65 {k : Nat} {A : Around} (hr : Room k A) : A.units + 65 < cLine := by have := hr.un; omega
/-- a law's promise -/
def spLawD : VSp := fun ds m Q _ => ∃ ns : List Int, ds = [.fz (ns.map D.int)] ∧ ns.length ≤ 63 ∧ m = (fun _ => none) ∧ ∀ m', Q (.bl true) m'
theorem law_sp (K : PySem.W.Frag) (H : Hp) (a : Addr) (ns : List Int) (h : ns.length ≤ 63) (hS : SqL K H a (ns.map V.int)) : lowSp K 1 spLawD [.ref a] H (fun v _ => v = .bl true) fun _ _ _ => False := by
  refine ⟨rfl, H, [.fz (ns.map D.int)], fun _ => none, fun d _ => d = .bl true, noX, ⟨Ex.refl H, fun a o h => nomatch h⟩, .cons (.fz hS (DnAll.of_ints ns)) .nil, ⟨ns, rfl, h, rfl, fun _ => rfl⟩, fun d m' G' v H' q e s r => ?_, Wsh.no⟩
  subst q
  cases r
  rfl
theorem walkN {l : PySem.W.OpenLaw} {k : Nat} {q : Program} {loose : List Str} {XP : (Str → Option Value) → Heap → Prop} {YP : World → Heap → Prop} {d : DefRec} {K : Params → PySem.W.Frag} {x : Str} (hn : l.most = some 63) (hdf : d.params.defaults = []) (hr : Room k callerA)
    (hY : ∀ (w : World) (h : Heap), YP w h → (K w.params).In h)
    (F : ∀ (w : World) (mg : Str → Option Value) (fa : Addr) (h : Heap), (K w.params).In h → h.Ns mainGlobals mg → mg d.name = some (.ref fa) →
      ∃ fd : FuncData, (∀ (s : Shared) (u : Value), BindsTo s fd ⟨[u], []⟩ [(x, u)]) ∧ ∀ base : Heap, (K w.params).In base → base.Ns mainGlobals mg → FnOk l.prog w (K w.params) mg base CX0 k fa fd [x] (lowSp (K w.params) 1 spLawD)) :
    PySem.W.WalkO q loose XP YP l.row.toRowW d [] (fun f vs => PySem.call f vs) :=
  L2.walk_of (n := 63) (k := k) (x := x) (CX := fun _ => CX0) (sp := fun w => lowSp (K w.params) 1 spLawD) hn (by decide) hdf hr hY F (fun w H a ns hl _ hS => law_sp _ H a ns hl hS) fun _ _ _ _ _ z => z
end DL

namespace DL
open PySem L2
open Evl (Ex)
theorem bt_len : bootBuiltins "len" = some (.builtin "len") := by decide +kernel
theorem bt_sum : bootBuiltins "sum" = some (.builtin "sum") := by decide +kernel
theorem bt_any : bootBuiltins "any" = some (.builtin "any") := by decide +kernel
theorem bt_all : bootBuiltins "all" = some (.builtin "all") := by decide +kernel
theorem bt_max : bootBuiltins "max" = some (.builtin "max") := by decide +kernel
theorem bt_min : bootBuiltins "min" = some (.builtin "min") := by decide +kernel
theorem bt_sorted : bootBuiltins "sorted" = some (.builtin "sorted") := by decide +kernel
theorem bt_isinstance : bootBuiltins "isinstance" = some (.builtin "isinstance") := by decide +kernel
theorem bt_int : bootBuiltins "int" = some (.type "int") := by decide +kernel
theorem bt_bool : bootBuiltins "bool" = some (.type "bool") := by decide +kernel
theorem bt_str : bootBuiltins "str" = some (.type "str") := by decide +kernel
theorem bt_list : bootBuiltins "list" = some (.type "list") := by decide +kernel
theorem bt_tuple : bootBuiltins "tuple" = some (.type "tuple") := by decide +kernel
theorem bt_dict : bootBuiltins "dict" = some (.type "dict") := by decide +kernel
theorem bt_set : bootBuiltins "set" = some (.type "set") := by decide +kernel
section
variable {X : Cx} {B : Bs} {a b c e o tg iter : Expr} {es : List Expr} {ta tb tc te to : VE} {va : VA} {pos p p2 : Pos} {x y : Str}
theorem pgn (i : Nat) {x : Str} {pos : Pos} (hN : X.N.Nodup) (hi : X.N[i]? = some x := by rfl) (hx : Loc X.env.scope x := by first | exact Or.inl rfl | exact Or.inr rfl)
    (hf : X.fn x = true ∨ X.env.scope.names.lookup x = some .local := by first | exact .inl rfl | exact .inr rfl | assumption) : PG X (.Name x pos) (gName i) := pg_name hN hi hx hf

/-! ### isinstance of built-in types -/
def dty (m : MH) : D → Option String
  | .non => some "NoneType"
  | .bl _ => some "bool"
  | .int _ => some "int"
  | .str _ => some "str"
  | .tup _ => some "tuple"
  | .lst _ => some "list"
  | .fz _ => some "list"
  | .adr a => match m a with
    | some (.lst _) => some "list"
    | some (.dct _ _) => some "dict"
    | _ => none
  | _ => none
theorem MSt.ty {K : PySem.W.Frag} {G H : Hp} {m : MH} (s : MSt K G m H) {d : D} {v : V} {n : String} (r : Dn K G d v) (h : dty m d = some n) : TyX K H v (.type n) := by
  cases r with
  | non => cases h; exact .base .non
  | bl b => cases h; exact .base (.bl b)
  | int b => cases h; exact .base (.int b)
  | str b => cases h; exact .base (.str b)
  | tup h1 h2 =>
    cases h
    rcases Evl.ex_t s.ex h1 with (h1 | ⟨o, h1⟩) | ⟨o, its, n, h1, h3, _⟩
    · exact .base (.tup h1)
    · exact .fTuple h1
    · exact .kTuple h1 h3
  | lst h1 h2 => cases h; exact .base (.lst (s.ex _ _ h1))
  | fz h1 h2 =>
    cases h
    rcases Evl.ex_l s.ex h1 with (h1 | ⟨o, h1⟩) | ⟨o, its, n, h1, h3, _⟩
    · exact .base (.lst h1)
    · exact .base (.frz h1)
    · exact .kList h1 h3
  | adr a =>
    simp only [dty] at h
    cases q : m a with
    | none => rw [q] at h; cases h
    | some o =>
      rw [q] at h
      obtain ⟨_, ho, h1, h2⟩ := s.mr a _ q
      cases h2 with
      | lst h2 => cases h; exact .base (.lst h1)
      | dct h2 h3 => cases h; exact .base (.dK h1)
      | ins h2 h3 => cases h
  | ins _ _ _ => cases h
  | set _ => cases h
def vIsi (t : String) (tx : VE) : VE := fun ρ m Q => tx ρ m fun d m1 => ∃ n b, dty m1 d = some n ∧ kitB n t = some b ∧ Q (.bl b) m1
theorem ue_isinst {t : String} (hg : Gl X "isinstance") (hm : X.mg "isinstance" = none) (hb : bootBuiltins "isinstance" = some (.builtin "isinstance")) (hx : UE X B e te) (hg2 : Gl X y) (hm2 : X.mg y = none) (hb2 : bootBuiltins y = some (.type t))
    (hn : y ≠ "__name__" := by decide) (hd : (y == ("__debug__" : Str)) = false := by decide) (he : starEach [e, .Name y p2] X.env = (false, eval e X.env) :: starEach [.Name y p2] X.env := by rfl) (hpl : (backTo pos (starEach [.Name y p2] X.env)).any (·.1) = false := by rfl)
    (hs : starEach [.Name y p2] X.env = (false, eval (.Name y p2) X.env) :: starEach [] X.env := by rfl) : UE X B (.Call (.Name "isinstance" p) [e, .Name y p2] [] pos) (vIsi t te) :=
  ⟨(pe_callB (x := "isinstance") (id := "isinstance") call_isi hg hm hb (pa_cons hx.pe (pa_cons (pe_bltn (v := .ty t) hg2 hm2 hb2 rfl hn hd) pa_nil hs) he) (by decide) (by decide) he hpl).weak fun σ H Q h => by
    obtain ⟨G, ρ, m, P, e0, s, t, k⟩ := h
    refine ⟨G, ρ, m, _, e0, s, t, fun d m1 G1 v1 H1 q1 e1 s1 r1 => ?_⟩
    obtain ⟨n, b, h1, h2, h3⟩ := q1
    exact ⟨_, _, _, _, b, rfl, .ty _, s1.ty r1 h1, kit_ty h2, k _ m1 G1 _ H1 h3 e1 s1 (.bl b)⟩⟩

/-! ### max, min, sorted -/
def bMax2 : VB := fun ds _ Q => match ds with
  | [.int i, .int j] => Q (.int (if j > i then j else i))
  | _ => False
def bMin2 : VB := fun ds _ Q => match ds with
  | [.int i, .int j] => Q (.int (if j < i then j else i))
  | _ => False
theorem ub_max2 (hc : X.calm = true) : UB X (.builtin "max") bMax2 := callw (call_max2 hc) fun vs H Q h => by
  obtain ⟨G, m, ds, P, s, r, t, k⟩ := h
  unfold bMax2 at t
  split at t
  · obtain ⟨v, v', rfl, r, r'⟩ := r.two
    cases r; cases r'
    exact ⟨_, _, rfl, k _ G _ H t Stp.refl s (.int _)⟩
  · exact t.elim
theorem ub_min2 (hc : X.calm = true) : UB X (.builtin "min") bMin2 := callw (call_min2 hc) fun vs H Q h => by
  obtain ⟨G, m, ds, P, s, r, t, k⟩ := h
  unfold bMin2 at t
  split at t
  · obtain ⟨v, v', rfl, r, r'⟩ := r.two
    cases r; cases r'
    exact ⟨_, _, rfl, k _ G _ H t Stp.refl s (.int _)⟩
  · exact t.elim
def maxI : Int → List Int → Int
  | a, [] => a
  | a, x :: xs => maxI (if x > a then x else a) xs
theorem maxI_ge : ∀ (xs : List Int) (a : Int), a ≤ maxI a xs ∧ ∀ x ∈ xs, x ≤ maxI a xs
  | [], a => ⟨Int.le_refl _, fun x h => nomatch h⟩
  | y :: xs, a => by
    obtain ⟨h1, h2⟩ := maxI_ge xs (if y > a then y else a)
    have h3 : a ≤ (if y > a then y else a) ∧ y ≤ (if y > a then y else a) := by split <;> omega
    refine ⟨Int.le_trans h3.1 h1, fun x h => ?_⟩
    rcases List.mem_cons.mp h with e | e
    · subst e; exact Int.le_trans h3.2 h1
    · exact h2 x e
theorem maxI_mem : ∀ (xs : List Int) (a : Int), maxI a xs = a ∨ maxI a xs ∈ xs
  | [], a => .inl rfl
  | y :: xs, a => by
    show maxI (if y > a then y else a) xs = a ∨ maxI (if y > a then y else a) xs ∈ y :: xs
    rcases maxI_mem xs (if y > a then y else a) with h | h
    · rw [h]
      split
      · exact .inr List.mem_cons_self
      · exact .inl rfl
    · exact .inr (List.mem_cons_of_mem _ h)
/-- the greatest of a list of ints that is not empty -/
def bMax : VB := fun ds m Q => match ds with
  | [d] => ∃ (n : Int) (ns : List Int), asL m d = some ((n :: ns).map D.int) ∧ Q (.int (maxI n ns))
  | _ => False
theorem ub_max (hc : X.calm = true) : UB X (.builtin "max") bMax := callw (cr_max hc) fun vs H Q h => by
  obtain ⟨G, m, ds, P, s, r, t, k⟩ := h
  unfold bMax at t
  split at t
  · obtain ⟨n, ns, h1, h2⟩ := t
    obtain ⟨v, rfl, r1⟩ := r.one
    obtain ⟨a, xs, rfl, h3, h4⟩ := s.asL r1 h1
    rw [h4.ints] at h3
    refine ⟨a, n :: ns, rfl, h3, by simp, fun j hj hle => ?_⟩
    obtain ⟨g1, g2⟩ := maxI_ge ns n
    have e : j = maxI n ns := by
      apply Int.le_antisymm
      · rcases List.mem_cons.mp hj with e | e
        · subst e; exact g1
        · exact g2 j e
      · rcases maxI_mem ns n with e | e
        · rw [e]; exact hle n List.mem_cons_self
        · exact hle _ (List.mem_cons_of_mem _ e)
    subst e
    exact k _ G _ H h2 Stp.refl s (.int _)
  · exact t.elim
/-- insertion sort -/
def insI (x : Int) : List Int → List Int
  | [] => [x]
  | y :: ys => if x ≤ y then x :: y :: ys else y :: insI x ys
def sortI : List Int → List Int
  | [] => []
  | x :: xs => insI x (sortI xs)
theorem insI_perm (x : Int) : ∀ ys, (insI x ys).Perm (x :: ys)
  | [] => List.Perm.refl _
  | y :: ys => by
    unfold insI
    split
    · exact List.Perm.refl _
    · exact ((insI_perm x ys).cons y).trans (List.Perm.swap _ _ _)
theorem sortI_perm : ∀ xs, (sortI xs).Perm xs
  | [] => List.Perm.refl _
  | x :: xs => (insI_perm x (sortI xs)).trans ((sortI_perm xs).cons x)
theorem insI_sorted {x : Int} : ∀ {ys : List Int}, ys.Pairwise (· ≤ ·) → (insI x ys).Pairwise (· ≤ ·)
  | [], _ => by simp [insI]
  | y :: ys, h => by
    unfold insI
    split
    · rename_i hxy
      refine List.pairwise_cons.mpr ⟨fun z hz => ?_, h⟩
      rcases List.mem_cons.mp hz with e | e
      · subst e; exact hxy
      · exact Int.le_trans hxy ((List.pairwise_cons.mp h).1 z e)
    · rename_i hxy
      refine List.pairwise_cons.mpr ⟨fun z hz => ?_, insI_sorted (List.pairwise_cons.mp h).2⟩
      have := (insI_perm x ys).mem_iff.mp hz
      rcases List.mem_cons.mp this with e | e
      · subst e; omega
      · exact (List.pairwise_cons.mp h).1 z e
theorem sortI_sorted : ∀ xs, (sortI xs).Pairwise (· ≤ ·)
  | [] => List.Pairwise.nil
  | x :: xs => insI_sorted (sortI_sorted xs)
theorem sorted_unique : ∀ {xs ys : List Int}, xs.Perm ys → xs.Pairwise (· ≤ ·) → ys.Pairwise (· ≤ ·) → xs = ys
  | [], ys, h, _, _ => by rw [List.nil_perm.mp h]
  | x :: xs, [], h, _, _ => absurd (List.perm_nil.mp h) (by simp)
  | x :: xs, y :: ys, h, hx, hy => by
    have h1 := List.pairwise_cons.mp hx
    have h2 := List.pairwise_cons.mp hy
    have e : x = y := by
      have m1 : x ∈ y :: ys := h.mem_iff.mp List.mem_cons_self
      have m2 : y ∈ x :: xs := h.mem_iff.mpr List.mem_cons_self
      rcases List.mem_cons.mp m1 with e | e
      · exact e
      · rcases List.mem_cons.mp m2 with e' | e'
        · exact e'.symm
        · exact Int.le_antisymm (h1.1 y e') (h2.1 x e)
    subst e
    rw [sorted_unique (List.Perm.cons_inv h) h1.2 h2.2]
def bSorted : VB := fun ds m Q => match ds with
  | [d] => ∃ ns : List Int, asL m d = some (ns.map D.int) ∧ Q (.lst ((sortI ns).map D.int))
  | _ => False
theorem ub_sorted : UB X (.builtin "sorted") bSorted := callw cr_sortedI fun vs H Q h => by
  obtain ⟨G, m, ds, P, s, r, t, k⟩ := h
  unfold bSorted at t
  split at t
  · obtain ⟨ns, h1, h2⟩ := t
    obtain ⟨v, rfl, r1⟩ := r.one
    obtain ⟨a, xs, rfl, h3, h4⟩ := s.asL r1 h1
    rw [h4.ints] at h3
    refine ⟨a, ns, rfl, h3, fun ns' p hp hs hn => ?_⟩
    have e : ns' = sortI ns := sorted_unique (hp.trans (sortI_perm ns).symm) hs (sortI_sorted ns)
    subst e
    obtain ⟨e, s'⟩ := s.newG hn (.lst ((sortI ns).map V.int))
    exact k _ _ _ _ h2 e s' (.lst upd_same (DnAll.of_ints _))
  · exact t.elim

/-! ### methods of builtin types -/
/-- by values, the cells may change -/
abbrev VM := D → List D → MH → (D → MH → Prop) → Prop
def lowM (K : PySem.W.Frag) (T : String) (o : VM) : V → List V → Hp → VK → Prop := fun x vs H Q => ∃ G m dx ds P, MSt K G m H ∧ Dn K G dx x ∧ DnAll K G ds vs ∧ o dx ds m P ∧ ∀ d m' G' v H', P d m' → Stp G m H G' m' H' → MSt K G' m' H' → Dn K G' d v → Q v H'
def vBM (T : String) (o : VM) (to : VE) (va : VA) : VE := fun ρ m Q => to ρ m fun d m1 => dty m1 d = some T ∧ va ρ m1 fun ds m2 => o d ds m2 Q
def UM (X : Cx) (id : String) (o : VM) : Prop := ∀ T, MtR X id (lowM X.K T o)
theorem mtw {id : String} {r r' : V → List V → Hp → VK → Prop} (h : MtR X id r) (i : ∀ x vs H Q, r' x vs H Q → r x vs H Q) : MtR X id r' := fun pins s σ H x xs v us Q I rx rs q => h pins s σ H x xs v us Q I rx rs (i _ _ _ _ q)
theorem MSt.tyV {K : PySem.W.Frag} {G H : Hp} {m : MH} (s : MSt K G m H) {d : D} {v : V} {T : String} (r : Dn K G d v) (h : dty m d = some T) (hT : T = "list" ∨ T = "str" ∨ T = "dict") : L2.tyV K T v H := by
  cases r with
  | non => cases h; simp at hT
  | bl b => cases h; simp at hT
  | int b => cases h; simp at hT
  | str b => cases h; exact rfl
  | tup h1 h2 => cases h; simp at hT
  | lst h1 h2 => cases h; exact .inl ⟨rfl, _, .of (s.ex _ _ h1)⟩
  | fz h1 h2 => cases h; exact .inl ⟨rfl, _, Evl.ex_l s.ex h1⟩
  | adr a =>
    simp only [dty] at h
    cases q : m a with
    | none => rw [q] at h; cases h
    | some o =>
      rw [q] at h
      obtain ⟨_, ho, h1, h2⟩ := s.mr a _ q
      cases h2 with
      | lst h2 => cases h; exact .inl ⟨rfl, _, .of h1⟩
      | dct h2 h3 => cases h; exact .inr (.inr (.inl ⟨rfl, .inl ⟨_, h1⟩⟩))
      | ins h2 h3 => cases h
  | ins _ _ _ => cases h
  | set _ => cases h
theorem low_bm {T : String} {om : VM} {σ : L2.St} {H : Hp} {Q : VK} (hT : T = "list" ∨ T = "str" ∨ T = "dict") (h : lowE X.K B (vBM T om to va) σ H Q) : tBM X.K T (lowM X.K T om) (lowE X.K B to) (lowA X.K B va) σ H Q := by
  obtain ⟨G, ρ, m, P, e0, s, t, k⟩ := h
  refine ⟨G, ρ, m, _, e0, s, t, fun d m1 G1 v1 H1 q1 e1 s1 r1 => ?_⟩
  refine ⟨s1.tyV r1 q1.1 hT, G1, ρ, m1, _, e0.trans e1, ⟨s.fr.mono e1.ex, s1⟩, q1.2, fun ds m2 G2 vs H2 q2 e2 s2 r2 => ?_⟩
  exact ⟨G2, m2, d, ds, P, s2, r1.mono e2.ex, r2, q2, fun d m3 G3 v H3 q3 e3 => k d m3 G3 v H3 q3 ((e1.trans e2).trans e3)⟩
theorem ue_bm {T id : String} {name : Str} {apos : Pos} {om : VM} (pa : PlainAttrs T) (slot : Slot T name id) (hty : typeOf (.builtin id) = pure (.type "method_descriptor")) (hm : UM X id om) (ho : UE X B o to) (ha : UA X B (e :: es) va)
    (hT : T = "list" ∨ T = "str" ∨ T = "dict" := by decide)
    (hbase : attributeBase o name X.env (eval o X.env) = eval o X.env := by rfl)
    (hfew : ((backTo pos (starEach (e :: es) X.env)).all (fun x => !x.1) && (backToKw pos (keywordEach [] X.env)).all (fun x => x.1.isSome)
      && decide ((e :: es).length + ([] : List Keyword).length + (if ([] : List Keyword).isEmpty then 0 else 1) < 30)) = true := by rfl)
    (hline : (apos.endLine == pos.line) = true := by rfl) (hs : starEach (e :: es) X.env = (false, eval e X.env) :: starEach es X.env := by rfl) (hplain : (backTo pos (starEach es X.env)).any (·.1) = false := by rfl) :
    UE X B (.Call (.Attribute o name apos) (e :: es) [] pos) (vBM T om to va) := ⟨(pe_bm pa slot hty (hm T) ho.pe ha.pa hbase hfew hline hs hplain).weak fun _ _ _ h => low_bm hT h⟩
theorem ue_bm0 {T id : String} {name : Str} {apos : Pos} {om : VM} (pa : PlainAttrs T) (slot : Slot T name id) (hty : typeOf (.builtin id) = pure (.type "method_descriptor")) (hm : UM X id om) (ho : UE X B o to)
    (hT : T = "list" ∨ T = "str" ∨ T = "dict" := by decide)
    (hbase : attributeBase o name X.env (eval o X.env) = eval o X.env := by rfl) (hline : (apos.endLine == pos.line) = true := by rfl) : UE X B (.Call (.Attribute o name apos) [] [] pos) (vBM T om to aNil) :=
  ⟨(pe_bm0 pa slot hty (hm T) ho.pe hbase hline).weak fun σ H Q h => by
    obtain ⟨G, ρ, m, P, e0, s, t, k⟩ := h
    refine ⟨G, ρ, m, _, e0, s, t, fun d m1 G1 v1 H1 q1 e1 s1 r1 => ?_⟩
    exact ⟨s1.tyV r1 q1.1 hT, G1, m1, d, [], P, s1, r1, .nil, q1.2, fun d m3 G3 v H3 q3 e3 => k d m3 G3 v H3 q3 (e1.trans e3)⟩⟩
/-- append -/
def oAppend : VM := fun d ds m Q => match d, ds with
  | .adr a, [y] => ∃ es, m a = some (.lst es) ∧ es.length < sizeLine ∧ Q .non (mup m a (.lst (es ++ [y])))
  | _, _ => False
theorem um_append : UM X "list.append" oAppend := fun T => mtw mt_append fun x vs H Q h => by
  obtain ⟨G, m, dx, ds, P, s, rx, r, t, k⟩ := h
  unfold oAppend at t
  split at t
  · obtain ⟨es, h1, h2, h3⟩ := t
    obtain ⟨v, rfl, r1⟩ := r.one
    cases rx
    obtain ⟨_, ho, h4, h5⟩ := s.mr _ _ h1
    cases h5 with
    | lst h5 =>
      rename_i xs
      obtain ⟨e, s'⟩ := s.write h1 (o := .lst (es ++ [_])) (ho := .lst (xs ++ [v])) (.lst (h5.append (.cons r1 .nil)))
      exact ⟨_, xs, v, rfl, rfl, h4, by rw [← h5.length]; exact h2, k _ _ _ _ _ h3 e s' .non⟩
  · exact t.elim
/-- extend by a list -/
def oExtend : VM := fun d ds m Q => match d, ds with
  | .adr a, [y] => ∃ es zs, m a = some (.lst es) ∧ asT m y = some zs ∧ es.length + zs.length ≤ sizeLine ∧ Q .non (mup m a (.lst (es ++ zs)))
  | _, _ => False
theorem um_extend : UM X "list.extend" oExtend := fun T => mtw mt_extend fun x vs H Q h => by
  obtain ⟨G, m, dx, ds, P, s, rx, r, t, k⟩ := h
  unfold oExtend at t
  split at t
  · obtain ⟨es, zs, h1, h6, h2, h3⟩ := t
    obtain ⟨v, rfl, r1⟩ := r.one
    cases rx
    obtain ⟨_, ho, h4, h5⟩ := s.mr _ _ h1
    obtain ⟨b, ys, rfl, h7, h8⟩ := s.asT r1 h6
    cases h5 with
    | lst h5 =>
      rename_i xs
      obtain ⟨e, s'⟩ := s.write h1 (o := .lst (es ++ zs)) (ho := .lst (xs ++ ys)) (.lst (h5.append h8))
      exact ⟨_, b, xs, ys, rfl, rfl, h4, h7, by rw [← h5.length, ← h8.length]; exact h2, k _ _ _ _ _ h3 e s' .non⟩
  · exact t.elim
/-- pop() -/
def oPop : VM := fun d ds m Q => match d, ds with
  | .adr a, [] => ∃ es y, m a = some (.lst es) ∧ es[es.length - 1]? = some y ∧ Q y (mup m a (.lst es.dropLast))
  | _, _ => False
theorem um_pop : UM X "list.pop" oPop := fun T => mtw mt_pop fun x vs H Q h => by
  obtain ⟨G, m, dx, ds, P, s, rx, r, t, k⟩ := h
  unfold oPop at t
  split at t
  · obtain ⟨es, y, h1, h2, h3⟩ := t
    cases r
    cases rx
    obtain ⟨_, ho, h4, h5⟩ := s.mr _ _ h1
    cases h5 with
    | lst h5 =>
      rename_i xs
      obtain ⟨v, h6, h7⟩ := h5.get h2
      obtain ⟨e, s'⟩ := s.write h1 (o := .lst es.dropLast) (ho := .lst xs.dropLast) (.lst h5.dropLast)
      exact ⟨_, xs, v, rfl, rfl, h4, by rw [← h5.length]; exact h6, k _ _ _ _ _ h3 e s' h7⟩
  · exact t.elim
/-- sep.join(list of texts) -/
def oJoin : VM := fun d ds m Q => match d, ds with
  | .str a, [y] => ∃ ys : List Str, asL m y = some (ys.map D.str) ∧ (ys.map Str.length).sum + ys.length * a.length ≤ 16777216 ∧ Q (.str (Txt.join a ys)) m
  | _, _ => False
theorem um_join : UM X "str.join" oJoin := fun T => mtw mt_join fun x vs H Q h => by
  obtain ⟨G, m, dx, ds, P, s, rx, r, t, k⟩ := h
  unfold oJoin at t
  split at t
  · obtain ⟨ys, h1, h2, h3⟩ := t
    obtain ⟨v, rfl, r1⟩ := r.one
    cases rx
    obtain ⟨p, xs, rfl, h4, h5⟩ := s.asL r1 h1
    rw [h5.strs] at h4
    exact ⟨_, p, ys, rfl, rfl, .inl h4, h2, k _ m G _ H h3 Stp.refl s (.str _)⟩
  · exact t.elim
end
end DL

namespace DL
open PySem L2
open Evl (Ex)

/-! ### a constant of the module -/
theorem ue_gint {x : Str} {i : Int} {pos : Pos} (h : ∃ t, X.mg x = some (.int i t)) (hg : Gl X x) (hdb : (x == ("__debug__" : Str)) = false := by decide) : UE X B (.Name x pos) (vC (.int i)) := by
  obtain ⟨t, h⟩ := h
  exact ue_glob (v := .int i) (d := .int i) hg h ⟨t, rfl⟩ (fun _ => .int _) hdb

/-- an invariant, kept closed -/
inductive Iv (p : Prop) : Prop
  | mk : p → Iv p
  | no : False → Iv p
theorem Iv.out {p : Prop} : Iv p → p
  | .mk h => h
  | .no h => h.elim
/-! ### joins: a value or a test that comes to one answer whatever way; a cut ahead of what follows -/
def vJn (t : VT) : VT := fun ρ m Q => ∃ c, Iv (t ρ m (fun b m1 => b = c ∧ m1 = m)) ∧ Q c m
theorem ut_join {t : VT} (h : UT X B e t) : UT X B e (vJn t) := ⟨h.pt.weak fun σ H Q h => by
  obtain ⟨G, ρ, m, P, e0, s, ⟨c, t, q⟩, k⟩ := h
  refine ⟨G, ρ, m, _, e0, s, t.out, fun b m' G' H' p e1 s1 => ?_⟩
  obtain ⟨rfl, rfl⟩ := p
  exact k _ _ _ _ q e1 s1⟩
def vJnE (t : VE) : VE := fun ρ m Q => ∃ c, Iv (t ρ m (fun b m1 => b = c ∧ m1 = m)) ∧ Q c m
theorem ue_join {t : VE} (h : UE X B e t) : UE X B e (vJnE t) := ⟨h.pe.weak fun σ H Q h => by
  obtain ⟨G, ρ, m, P, e0, s, ⟨c, t, q⟩, k⟩ := h
  refine ⟨G, ρ, m, _, e0, s, t.out, fun b m' G' v H' p e1 s1 r1 => ?_⟩
  obtain ⟨rfl, rfl⟩ := p
  exact k _ _ _ _ _ q e1 s1 r1⟩
def vCut (t u : VS) : VS := fun E ρ m => ∃ N : Frm → MH → Prop, Iv (t { E with nx := N } ρ m) ∧ ∀ ρ m, N ρ m → u E ρ m
theorem uss_cut {t u : VS} {st : Stmt} {rest : List Stmt} (h1 : US X B st t) (h2 : USs X B rest u) : USs X B (st :: rest) (vCut t u) := ⟨PSs.weak (pss_cons h1.ps h2.ps) fun D σ H h => by
  obtain ⟨G, ρ, m, E, e0, s, ⟨N, t, q⟩, k, kr, kb, kc⟩ := h
  refine ⟨G, ρ, m, { E with nx := N }, e0, s, t.out, fun ρ' m' G' σ' H' q1 e1 s1 => ?_, kr, kb, kc⟩
  exact ⟨G', ρ', m', E, e0.trans e1, s1, q _ _ q1, fun ρ2 m2 G2 σ2 H2 q2 e2 => k ρ2 m2 G2 σ2 H2 q2 (e1.trans e2), fun d m2 G2 v H2 q2 e2 => kr d m2 G2 v H2 q2 (e1.trans e2), fun ρ2 m2 G2 σ2 H2 q2 e2 => kb ρ2 m2 G2 σ2 H2 q2 (e1.trans e2), fun ρ2 m2 G2 σ2 H2 q2 e2 => kc ρ2 m2 G2 σ2 H2 q2 (e1.trans e2)⟩⟩
/-! ### readings of comprehensions and walks, by a list of what is walked -/
/-- [f x for x in xs if p x] -/
theorem lc_sel0 {α : Type} {g : Tg} {tt : VT} {te : VE} {vs : List Nat} {ρ : Frm} {m : MH} {F : List D → Prop} (enc : α → D) (p : α → Bool) (f : α → D) : ∀ (xs : List α) (acc : List D), acc.length + xs.length ≤ sizeLine →
    (∀ x ∈ xs, ∀ acc (R : List D → Prop), acc.length < sizeLine → (p x = true → R (acc ++ [f x])) → (p x = false → R acc) →
      ∃ ρ1, tgSet g (enc x) (fwipe ρ vs) = some ρ1 ∧ tt ρ1 m fun b m2 => m2 = m ∧ (b = true → te ρ1 m fun y m3 => m3 = m ∧ acc.length < sizeLine ∧ R (acc ++ [y])) ∧ (b = false → R acc)) →
    F (acc ++ (xs.filter p).map f) → lcW g tt te vs ρ m F (xs.map enc) acc
  | [], acc, _, _, hF => by
    rw [List.filter_nil, List.map_nil, List.append_nil] at hF
    exact hF
  | x :: xs, acc, hn, step, hF => by
    rw [List.length_cons] at hn
    obtain ⟨ρ1, e, q⟩ := step x (List.mem_cons_self ..) acc (lcW g tt te vs ρ m F (xs.map enc)) (by omega)
      (fun hp => lc_sel0 enc p f xs (acc ++ [f x]) (by rw [List.length_append]; simp only [List.length_cons, List.length_nil]; omega) (fun y hy => step y (List.mem_cons_of_mem _ hy)) (by
        rw [List.filter_cons_of_pos hp, List.map_cons] at hF
        rw [List.append_assoc]
        exact hF))
      (fun hp => lc_sel0 enc p f xs acc (by omega) (fun y hy => step y (List.mem_cons_of_mem _ hy)) (by
        rw [List.filter_cons_of_neg (by rw [hp]; exact Bool.false_ne_true)] at hF
        exact hF))
    exact ⟨ρ1, e, q⟩
theorem lc_sel {α : Type} {g : Tg} {tt : VT} {te : VE} {vs : List Nat} {ρ : Frm} {m : MH} {F : List D → Prop} (enc : α → D) (p : α → Bool) (f : α → D) (xs : List α) (acc : List D) (hn : acc.length + xs.length ≤ sizeLine)
    (step : ∀ x ∈ xs, ∀ acc (R : List D → Prop), acc.length < sizeLine → (p x = true → R (acc ++ [f x])) → (p x = false → R acc) →
      ∃ ρ1, tgSet g (enc x) (fwipe ρ vs) = some ρ1 ∧ tt ρ1 m fun b m2 => m2 = m ∧ (b = true → te ρ1 m fun y m3 => m3 = m ∧ acc.length < sizeLine ∧ R (acc ++ [y])) ∧ (b = false → R acc))
    (hF : F (acc ++ (xs.filter p).map f)) : Wn (lcW g tt te vs ρ m F (xs.map enc) acc) := .mk (lc_sel0 enc p f xs acc hn step hF)
/-- [f x for x in xs] -/
theorem lc_all {α : Type} {g : Tg} {tt : VT} {te : VE} {vs : List Nat} {ρ : Frm} {m : MH} {F : List D → Prop} (enc : α → D) (f : α → D) (xs : List α) (hn : xs.length ≤ sizeLine)
    (step : ∀ x ∈ xs, ∀ acc (R : List D → Prop), acc.length < sizeLine → R (acc ++ [f x]) →
      ∃ ρ1, tgSet g (enc x) (fwipe ρ vs) = some ρ1 ∧ tt ρ1 m fun b m2 => m2 = m ∧ (b = true → te ρ1 m fun y m3 => m3 = m ∧ acc.length < sizeLine ∧ R (acc ++ [y])) ∧ (b = false → R acc))
    (hF : F (xs.map f)) : Wn (lcW g tt te vs ρ m F (xs.map enc) []) :=
  lc_sel enc (fun _ => true) f xs [] (by simpa using hn) (fun x hx acc R hl h1 _ => step x hx acc R hl (h1 rfl)) (by rw [List.nil_append, List.filter_eq_self.mpr fun _ _ => rfl]; exact hF)
theorem for_ix {stay : MH → Prop} {g : Tg} {tb : VS} {E : VEnds} (I : Nat → Frm → MH → Prop) (ds : List D) {ρ : Frm} {m : MH} (h0 : I 0 ρ m) (hst : ∀ i ρ m, I i ρ m → stay m)
    (step : ∀ i x ρ m, ds[i]? = some x → I i ρ m → ∃ ρ1, tgSet g x ρ = some ρ1 ∧ tb { E with nx := fun ρ m => Iv (I (i + 1) ρ m), ct := fun ρ m => Iv (I (i + 1) ρ m), bk := E.nx } ρ1 m)
    (done : ∀ ρ m, I ds.length ρ m → E.nx ρ m) : Wn (forW stay g tb E ds ρ m) := .mk <|
  for_inv (fun i ρ m => Iv (I i ρ m)) ds 0 (.mk h0) (fun i ρ m h => hst i ρ m h.out)
    (fun i x ρ m hx h => by
      have := step i x ρ m hx (by rw [Nat.zero_add] at h; exact h.out)
      simp only [Nat.zero_add]
      exact this)
    (fun ρ m h => done ρ m (by rw [Nat.zero_add] at h; exact h.out))
/-- for x in xs, by what was walked -/
theorem for_pre {α : Type} {stay : MH → Prop} {g : Tg} {tb : VS} {E : VEnds} (enc : α → D) (I : List α → Frm → MH → Prop) (xs : List α) {ρ : Frm} {m : MH} (h0 : I [] ρ m)
    (hst : ∀ pre ρ m, I pre ρ m → stay m)
    (step : ∀ pre x post ρ m, xs = pre ++ x :: post → I pre ρ m → ∃ ρ1, tgSet g (enc x) ρ = some ρ1 ∧ tb { E with nx := fun ρ m => Iv (I (pre ++ [x]) ρ m), ct := fun ρ m => Iv (I (pre ++ [x]) ρ m), bk := E.nx } ρ1 m)
    (done : ∀ ρ m, I xs ρ m → E.nx ρ m) : Wn (forW stay g tb E (xs.map enc) ρ m) := by
  refine for_ix (fun i ρ m => I (xs.take i) ρ m) (xs.map enc) h0 (fun i ρ m h => hst _ _ _ h) ?_ ?_
  · intro i d ρ m hd hI
    rw [List.getElem?_map] at hd
    cases e : xs[i]? with
    | none => rw [e] at hd; cases hd
    | some x =>
      rw [e] at hd
      cases hd
      have e2 : xs[i]'((List.getElem?_eq_some_iff.mp e).1) = x := (List.getElem?_eq_some_iff.mp e).2
      have e3 : xs.take (i + 1) = xs.take i ++ [x] := by rw [List.take_add_one, e]; rfl
      have := step (xs.take i) x (xs.drop (i + 1)) ρ m (by rw [← e2]; simp) hI
      rw [e3]
      exact this
  · intro ρ m hI
    rw [List.length_map, List.take_length] at hI
    exact done ρ m hI
theorem irng0 (n : Nat) : irng 0 n = (List.range n).map fun i : Nat => D.int (i : Int) := by
  unfold irng
  refine List.map_congr_left fun i _ => ?_
  rw [Int.zero_add]
/-- [d] * k -/
def oRep : VO := fun x y m Q => match y with
  | .int k => ∃ xs, asT m x = some xs ∧ (-(2 ^ 63) ≤ k ∧ k < 2 ^ 63) ∧ xs.length * k.toNat ≤ sizeLine ∧ Q (.lst (List.replicate k.toNat xs).flatten)
  | _ => False
theorem DnAll.rep {K : PySem.W.Frag} {G : Hp} {ds : List D} {vs : List V} (h : DnAll K G ds vs) : ∀ n : Nat, DnAll K G (List.replicate n ds).flatten (List.replicate n vs).flatten
  | 0 => .nil
  | n + 1 => by
    rw [List.replicate_succ, List.replicate_succ, List.flatten_cons, List.flatten_cons]
    exact h.append (DnAll.rep h n)
theorem uo_rep : UO X (binaryOp .Mult) oRep := opw op_rep fun x y H Q h => by
  obtain ⟨G, m, dx, dy, P, s, hx, hy, t, k⟩ := h
  cases hy with
  | int i =>
    obtain ⟨xs, h1, h2, h3, h4⟩ := t
    obtain ⟨a, us, rfl, ha, ra⟩ := s.asT hx h1
    refine ⟨a, i, us, rfl, rfl, ha, h2.1, h2.2, by rw [← ra.length]; exact h3, fun p hp => ?_⟩
    obtain ⟨e, s'⟩ := s.newG hp (.lst (List.replicate i.toNat us).flatten)
    exact k _ _ _ _ h4 e s' (.lst upd_same ((ra.rep _).mono e.ex))
  | _ => exact t.elim
theorem rep_one {n : Nat} {d : D} : (List.replicate n [d]).flatten = List.replicate n d := by
  induction n with
  | zero => rfl
  | succ n ih => rw [List.replicate_succ, List.flatten_cons, ih]; rfl
/-! ### data of which much is made -/
theorem oIn_asL {neg : Bool} {x y : D} {m : MH} {Q : D → Prop} {ds : List D} (h : asL m y = some ds) (hx : x.fit = true) (hd : (D.lst ds).fit = true) (q : Q (.bl (nb neg (din x ds)))) : oInG neg x y m Q := .lst h hx hd rfl q
/-- every member of a list fits -/
theorem fit_of (n : Nat) (hn : n < 64) : ∀ ds : List D, (∀ d ∈ ds, d.dat = true ∧ d.dep ≤ n) → (D.lst ds).fit = true := by
  have h : ∀ ds : List D, (∀ d ∈ ds, d.dat = true ∧ d.dep ≤ n) → D.dats ds = true ∧ D.deps ds ≤ n := by
    intro ds
    induction ds with
    | nil => intro _; exact ⟨by simp [D.dats], by simp [D.deps]⟩
    | cons d ds ih =>
      intro h
      obtain ⟨i1, i2⟩ := ih fun x hx => h x (List.mem_cons_of_mem _ hx)
      obtain ⟨j1, j2⟩ := h d (List.mem_cons_self ..)
      simp only [D.dats, D.deps, j1, i1, Bool.and_self, true_and]
      omega
  intro ds h2
  obtain ⟨i1, i2⟩ := h ds h2
  unfold D.fit
  rw [Bool.and_eq_true]
  exact ⟨by simpa [D.dat] using i1, decide_eq_true (by simp only [D.dep]; omega)⟩
theorem fit_ints (ms : List Int) : (D.lst (ms.map D.int)).fit = true := fit_of 0 (by decide) _ fun d hd => by
  obtain ⟨i, _, rfl⟩ := List.mem_map.mp hd
  exact ⟨by simp [D.dat], by simp [D.dep]⟩
theorem fit_int (i : Int) : (D.int i).fit = true := by simp [D.fit, D.dat, D.dep]
theorem din_int {k : Int} : ∀ {ms : List Int}, din (.int k) (ms.map D.int) = decide (k ∈ ms)
  | [] => rfl
  | m :: ms => by
    have ih := din_int (k := k) (ms := ms)
    unfold din at ih ⊢
    rw [List.map_cons, List.any_cons, ih]
    have : deq (.int m) (.int k) = decide (m = k) := by
      rw [Bool.eq_iff_iff, deq_iff _ _ rfl rfl]
      simp
    rw [this]
    by_cases h : m = k
    · subst h; simp
    · have h2 : ¬ k = m := fun e => h e.symm
      simp [h, h2]
/-- k in a list of ints -/
theorem oIn_int {neg : Bool} {k : Int} {y : D} {m : MH} {Q : D → Prop} {ms : List Int} (h : asL m y = some (ms.map D.int)) (q : Q (.bl (nb neg (decide (k ∈ ms))))) : oInG neg (.int k) y m Q :=
  oIn_asL h (fit_int k) (fit_ints ms) (by rw [din_int]; exact q)
/-- xs[i] of a list that is mapped -/
theorem atI_map {α : Type} {f : α → D} {xs : List α} {i : Int} {x : α} (h0 : 0 ≤ i) (h : xs[i.toNat]? = some x) : atI (xs.map f) i = some (f x) := by
  obtain ⟨n, rfl⟩ := Int.eq_ofNat_of_zero_le h0
  refine atI_nat (v := f x) ?_
  rw [List.getElem?_map]
  have h : xs[n]? = some x := h
  rw [h]
  rfl
theorem atI_ints {xs : List Int} {i : Nat} (h : i < xs.length) : atI (xs.map D.int) (i : Int) = some (.int (xs.getD i 0)) := by
  refine atI_map (x := xs.getD i 0) (by omega) ?_
  show xs[i]? = _
  rw [List.getD_eq_getElem?_getD, List.getElem?_eq_getElem h]
  rfl
theorem szl {n : Nat} (h : n < 16777216) : n < sizeLine := h
theorem dty_lst {m : MH} {a : Addr} {ds : List D} (h : m a = some (.lst ds)) : dty m (.adr a) = some "list" := by simp only [dty, h]
theorem asL_same {m : MH} {a : Addr} {ds : List D} : asL (mup m a (.lst ds)) (.adr a) = some ds := asL_adr mup_same
theorem asL_cases {m : MH} {d : D} {ds : List D} (h : asL m d = some ds) : d = .lst ds ∨ d = .fz ds ∨ ∃ p, d = .adr p ∧ m p = some (.lst ds) := by
  cases d with
  | lst _ => cases h; exact .inl rfl
  | fz _ => cases h; exact .inr (.inl rfl)
  | adr p =>
    refine .inr (.inr ⟨p, rfl, ?_⟩)
    simp only [asL, asT] at h
    cases q : m p with
    | none => rw [q] at h; cases h
    | some o =>
      rw [q] at h
      cases o with
      | lst _ => cases h; rfl
      | dct _ _ => cases h
      | ins _ _ _ => cases h
  | _ => cases h
end DL

namespace DL
open PySem L2
open Evl (Ex)

/-! ### cells that nobody needs any more -/
/-- m2 is a part of m1 -/
def Gc (m1 m2 : MH) : Prop := ∀ a o, m2 a = some o → m1 a = some o
theorem Gc.refl (m : MH) : Gc m m := fun _ _ h => h
theorem Gc.up {m1 m2 : MH} {p : Addr} {o : MO} (h : m2 p = none) (g : Gc m1 m2) : Gc (mup m1 p o) m2 := fun a u e => by
  have hp : a ≠ p := fun z => by subst z; rw [h] at e; cases e
  rw [mup_ne hp]
  exact g a u e
theorem Gc.both {m1 m2 : MH} {p : Addr} {o : MO} (g : Gc m1 m2) : Gc (mup m1 p o) (mup m2 p o) := fun a u e => by
  by_cases z : a = p
  · subst z
    rw [mup_same] at e ⊢
    exact e
  · rw [mup_ne z] at e ⊢
    exact g a u e
theorem asL_up {m : MH} {p : Addr} {o : MO} {d : D} {ds : List D} (h : asL m d = some ds) (hp : m p = none) : asL (mup m p o) d = some ds := by
  rcases asL_cases h with rfl | rfl | ⟨q, rfl, hq⟩
  · rfl
  · rfl
  · have hne : q ≠ p := fun z => by subst z; rw [hp] at hq; cases hq
    exact asL_adr (by rw [mup_ne hne]; exact hq)
theorem fresh_up {m : MH} {p q : Addr} {o u : MO} (h : mup m q o p = none) : mup m q u p = none := by
  have hp : p ≠ q := fun z => by subst z; rw [mup_same] at h; cases h
  rw [mup_ne hp] at h ⊢
  exact h
theorem fresh_dn {m : MH} {p q : Addr} {o : MO} (h : mup m q o p = none) : m p = none := by
  have hp : p ≠ q := fun z => by subst z; rw [mup_same] at h; cases h
  rw [mup_ne hp] at h
  exact h
theorem fresh_ne {m : MH} {p q : Addr} {o : MO} (h : mup m q o p = none) : p ≠ q := fun z => by subst z; rw [mup_same] at h; cases h
theorem MSt.gc {K : PySem.W.Frag} {G H : Hp} {m1 m2 : MH} (s : MSt K G m1 H) (g : Gc m1 m2) : MSt K G m2 H := ⟨s.ex, fun b u q => s.mr b u (g b u q)⟩
theorem Stp.gc {G H G1 H1 : Hp} {m m1 m2 : MH} (e : Stp G m H G1 m1 H1) (g : Gc m1 m2) : Stp G m H G1 m2 H1 := ⟨e.ex, fun a o h n => by
  obtain ⟨h1, h2, h3⟩ := e.keep a o h n
  refine ⟨h1, ?_, h3⟩
  cases z : m2 a with
  | none => rfl
  | some u => rw [g a u z] at h2; cases h2⟩
section
variable {X : Cx} {B : Bs}
structure GcR (m1 m2 : MH) : Prop where
  g : Gc m1 m2
def vGc (t : VE) : VE := fun ρ m Q => t ρ m fun d m1 => ∃ m2, Q d m2 ∧ GcR m1 m2
theorem ue_gc {e : Expr} {t : VE} (h : UE X B e t) : UE X B e (vGc t) := ⟨h.pe.weak fun σ H Q h => by
  obtain ⟨G, ρ, m, P, e0, s, t, k⟩ := h
  refine ⟨G, ρ, m, _, e0, s, t, fun d m' G' v H' p e1 s1 r1 => ?_⟩
  obtain ⟨m2, q, ⟨g⟩⟩ := p
  exact k d m2 G' v H' q (e1.gc g) (s1.gc g) r1⟩
def vGcS (t : VS) : VS := fun E ρ m => t { E with nx := fun ρ' m1 => ∃ m2, E.nx ρ' m2 ∧ Gc m1 m2, ct := fun ρ' m1 => ∃ m2, E.ct ρ' m2 ∧ Gc m1 m2 } ρ m
theorem uss_gc {sts : List Stmt} {t : VS} (h : USs X B sts t) : USs X B sts (vGcS t) := ⟨PSs.weak h.ps fun D σ H h => by
  obtain ⟨G, ρ, m, E, e0, s, t, k, kr, kb, kc⟩ := h
  refine ⟨G, ρ, m, _, e0, s, t, fun ρ' m' G' σ' H' q e1 s1 => ?_, kr, kb, fun ρ' m' G' σ' H' q e1 s1 => ?_⟩
  · obtain ⟨m2, q, g⟩ := q
    exact k ρ' m2 G' σ' H' q (e1.gc g) ⟨s1.fr, s1.ms.gc g⟩
  · obtain ⟨m2, q, g⟩ := q
    exact kc ρ' m2 G' σ' H' q (e1.gc g) ⟨s1.fr, s1.ms.gc g⟩⟩
/-- .. what is kept is told by hand -/
def vGcM (t : VE) : VE := fun ρ m Q => t ρ m fun d m1 => ∃ m2, Q d m2 ∧ Gc m1 m2
theorem ue_gcM {e : Expr} {t : VE} (h : UE X B e t) : UE X B e (vGcM t) := ⟨h.pe.weak fun σ H Q h => by
  obtain ⟨G, ρ, m, P, e0, s, t, k⟩ := h
  refine ⟨G, ρ, m, _, e0, s, t, fun d m' G' v H' p e1 s1 r1 => ?_⟩
  obtain ⟨m2, q, g⟩ := p
  exact k d m2 G' v H' q (e1.gc g) (s1.gc g) r1⟩
def vGcT (t : VS) : VS := fun E ρ m => t { E with nx := fun ρ' m1 => ∃ m2, E.nx ρ' m2 ∧ GcR m1 m2 } ρ m
theorem uss_gcR {sts : List Stmt} {t : VS} (h : USs X B sts t) : USs X B sts (vGcT t) := ⟨PSs.weak h.ps fun D σ H h => by
  obtain ⟨G, ρ, m, E, e0, s, t, k, kr, kb, kc⟩ := h
  refine ⟨G, ρ, m, _, e0, s, t, fun ρ' m' G' σ' H' q e1 s1 => ?_, kr, kb, kc⟩
  obtain ⟨m2, q, ⟨g⟩⟩ := q
  exact k ρ' m2 G' σ' H' q (e1.gc g) ⟨s1.fr, s1.ms.gc g⟩⟩
end
/-- a promise that nobody asks -/
theorem fn_false {P : Program} {w : World} {K : PySem.W.Frag} {mg : Str → Option Value} {base : Heap} {CX : CXT} {k n : Nat} {f : Addr} {fd : FuncData} {ps : List Str} {sp : VSp} (h : ∀ ds m Q PX, ¬ sp ds m Q PX) : FnOk P w K mg base CX k f fd ps (lowSp K n sp) :=
  ⟨fun vs H Q E z => by
    obtain ⟨_, G, ds, m, P', PX, _, _, q, _⟩ := z
    exact (h _ _ _ _ q).elim, fun A outer s H args us vs Q E _ _ _ _ z => by
    obtain ⟨_, G, ds, m, P', PX, _, _, q, _⟩ := z
    exact (h _ _ _ _ q).elim⟩
end DL

namespace DL
open PySem PySem.Spec PyProof.Rows L2
open Evl (Ex)

/-! ### {e for x in xs if t}, e an int: a set that grows -/
/-- the reading of a set that grows at D -/
def tSi (w : World) (wi : TI) (g : TG) (tt : TT) (te : TE) (vs : List Nat) : TE := fun σ H Q => wi σ H fun J H1 => ∀ D, H1 D = none →
  ∃ Y : Nat → Nat → Hp → Prop, (∃ m, Y 0 m (upd H1 D (SetO w D (fun _ => false) 0))) ∧ ∀ i m H2, Y i m H2 → (J.stop i H2 ∧ Q (.ref D) H2) ∨
    (J.go i H2 ∧ ∃ N : Hp → Prop, (∀ H3, N H3 → ∃ k, k < m ∧ Y (i + 1) k H3) ∧ ∀ x H3, J.yld i H2 x H3 → g x (wipe σ vs) H3 fun τ H4 => wipe τ vs = wipe σ vs ∧ tt τ H4 fun b H5 =>
      if b = true then te τ H5 fun y H6 => ∃ (c : Int) (S : Int → Bool) (n : Nat), y = .int c ∧ H6 D = some (SetO w D S n) ∧ n + 1 < scanBound ∧ N (upd H6 D (SetO w D (fun j => S j || decide (j = c)) (if S c = true then n else n + 1))) else N H5)
theorem seto_add {X : Cx} {pins : List (Addr × Obj)} {σ : L2.St} {H : Hp} {s : Shared} {E : Value → Shared → Prop} {D : Addr} {S : Int → Bool} {n : Nat} {y : Int} {tk : Tok} {Q : Value → Shared → Prop} (J : Inv X pins σ H s) (hd : H D = some (SetO X.w D S n)) (hr : n + 1 < scanBound)
    (q : ∀ t, Inv X pins σ (upd H D (SetO X.w D (fun j => S j || decide (j = y)) (if S y = true then n else n + 1))) t → Q .none t) : wpAny (model X.prog X.w) X.A (call (.builtin "set.add") [.ref D, .int y tk]) Q E s :=
  setR_add (setO_get J hd) hr fun h1 but now => q _ (J.write (e := D) (t' := s.toks + 1) (by rw [hd]; trivial) (.inl rfl) (fun c v hc hv => (but.2 c hc).trans hv) (by obtain ⟨v, _, _, _, hv, _⟩ := now; exact ⟨v, hv⟩) (setO_new now))
theorem pe_si {X : Cx} {elt tg iter : Expr} {ifs : List Expr} {scope : Scope} {own : List (PySem.Str × Nat)} {pos : Pos} {wi : TI} {g : TG} {tt : TT} {te : TE} (calm : X.calm = true) (nd : X.N.Nodup) (pi : PI X tg iter wi) (blk : BlkOk X.N X.env.scope scope own)
    (pg : ∀ s H C cl fp, PG (Blk X scope s H C cl fp) tg g) (pt : ∀ s H C cl fp, PTs (Blk X scope s H C cl fp) ifs tt) (pe : ∀ s H C cl fp, PE (Blk X scope s H C cl fp) elt te)
    (unf : ∀ x, foldedSetIterable iter X.env x = pure x := by intro _; rfl) : PE X (.SetComp elt [⟨tg, iter, ifs, 0⟩] scope pos) (tSi X.w wi g tt te (own.map (·.2))) := by
  refine ⟨fun pins s σ H Q J h => ?_⟩
  rw [PpSet.eval_SetComp]
  have cells : ∀ y ∈ scope.names, y.2 = .free → ∃ c, X.env.cells.lookup y.1 = some c := fun y hy e => J.ok.has _ (blk.free y hy e)
  refine wpAny_comprehension_free (use := _) rfl unf (closure_ok cells) blk.kind (fun y hy e => by rw [blk.uniq y hy, e]) (thn (pi.run pins s σ H _ J h) fun v0 t1 h1 => thn h1 fun v1 t2 h2 => ?_)
  obtain ⟨it, fp, tn, T, H2, rfl, J2, wk, a2, f2, q⟩ := h2
  refine PpSet.newSet_ok (newEnv_comp ?_)
  obtain ⟨D, eD⟩ : ∃ D, D = t2.heap.objs.size := ⟨_, rfl⟩
  rw [← eD]
  have fresh : H2 D = none := J2.hok.fresh (Nat.le_of_eq eD.symm)
  obtain ⟨Y, ⟨m0, y0⟩, turn⟩ := q D fresh
  obtain ⟨t3, e3⟩ : ∃ t3 : Shared, t3 = { t2 with heap := t2.heap.push { cls := .type "set", dict := none, data := .set #[] 0 (.fresh 0 0 (!X.w.params.followText "set-order")) } } := ⟨_, rfl⟩
  rw [← e3]
  have p3 : t3.heap = t2.heap.push { cls := .type "set", dict := none, data := .set #[] 0 (.fresh 0 0 (!X.w.params.followText "set-order")) } := by rw [e3]
  have keep3 : ∀ b o, t2.heap.get? b = some o → t3.heap.get? b = some o := fun b o e => by rw [p3]; exact Heap.get?_push_of_some _ e
  have J3 : Inv X pins σ (upd H2 D (SetO X.w D (fun _ => false) 0)) t3 := by
    rw [e3]
    exact J2.laid (t' := t2.toks) (fun b o e => Heap.get?_push_of_some _ e) (Nat.le_of_eq eD.symm) (by rw [eD]; exact setO_new (setR_fresh X.w))
  have low : ∀ b ∈ fp, b < t2.heap.objs.size := fun b hb => by
    obtain ⟨o, e, _⟩ := wk.obj _ _ a2 b hb
    exact Heap.lt_size e
  obtain ⟨H3, eH⟩ : ∃ H3, H3 = upd H2 D (SetO X.w D (fun _ => false) 0) := ⟨_, rfl⟩
  rw [← eH] at J3 y0
  have f3 : ∀ b ∈ fp, FpOk X pins H3 b ∧ b < t3.heap.objs.size := fun b hb => by
    have lt := low b hb
    exact ⟨⟨by rw [eH, upd_ne (by rw [eD]; exact Nat.ne_of_lt lt)]; exact (f2 b hb).1, (f2 b hb).2⟩, by rw [p3, Heap.size_push]; exact Nat.lt_succ_of_lt lt⟩
  have a3 : tn 0 t3.heap := wk.keep _ _ _ a2 fun b _ o e => keep3 b o e
  obtain ⟨ce, ec⟩ : ∃ ce, ce = compEnvC scope (cellsFrom (t3.heap.objs.size + 1) scope.names (cloFrom X.env.cells scope.names [])) t3.heap.objs.size X.env := ⟨_, rfl⟩
  have J4 := block_start J3 blk nd f3
  have pg := pg t3 H3 t3.heap.objs.size (cellsFrom (t3.heap.objs.size + 1) scope.names (cloFrom X.env.cells scope.names [])) fp
  have pt := pt t3 H3 t3.heap.objs.size (cellsFrom (t3.heap.objs.size + 1) scope.names (cloFrom X.env.cells scope.names [])) fp
  have pe := pe t3 H3 t3.heap.objs.size (cellsFrom (t3.heap.objs.size + 1) scope.names (cloFrom X.env.cells scope.names [])) fp
  show codeAny _ _ (.compStart (.SetComp elt [⟨tg, iter, ifs, 0⟩] scope pos) 0 (.ref it) (.ref D) (compEnvC scope (cellsFrom (t3.heap.objs.size + 1) scope.names (cloFrom X.env.cells scope.names [])) t3.heap.objs.size X.env)) _ { t3 with heap := pushCells (t3.heap.push { cls := .type "dict", data := .dict #[] }) scope.names }
  unfold Blk at pg pt pe
  rw [← ec] at J4 pg pt pe ⊢
  have loc : ce.locals = t3.heap.objs.size := by rw [ec]; rfl
  obtain ⟨t4, e4⟩ : ∃ t4 : Shared, t4 = { t3 with heap := pushCells (t3.heap.push { cls := .type "dict", data := .dict #[] }) scope.names } := ⟨_, rfl⟩
  rw [← e4] at J4 ⊢
  have a4 : tn 0 t4.heap := wk.keep _ _ _ a3 fun b _ o e => by rw [e4]; exact pushCells_keeps _ _ _ _ (Heap.get?_push_of_some _ e)
  have foot : ∀ {τ : L2.St} {H' : Hp} {u : Shared}, Inv (X.blk t3 H3 scope ce fp) [] τ H' u → (∀ b ∈ fp, H' b = none) → ∀ b ∈ fp, FpOk (X.blk t3 H3 scope ce fp) [] H' b := fun {τ H' u} K hn b hb =>
    ⟨hn b hb, (K.ok.exf b hb).1, K.ok.exfs b hb, .inl hb, fun x c e => (K.ok.exf b hb).2 x c e, fun p hp => absurd hp (by simp [Cx.blk])⟩
  refine PpSet.codeAny_compStart_set ?loop (wk.self X.A 0 _ _ _ a4 ?loop)
  refine PpSet.compLoopS_any (fun n u => ∃ i H', Inv (X.blk t3 H3 scope ce fp) [] (wipe σ (own.map (·.2))) H' u ∧ tn i u.heap ∧ (∀ b ∈ fp, H' b = none) ∧ Y i n H') ?_ m0 ⟨0, H3, J4, a4, fun b hb => (f3 b hb).1.1, y0⟩
  rintro n t5 ⟨i, H5, J5, a5, n5, y5⟩
  rcases turn i n H5 y5 with ⟨stop, qq⟩ | ⟨go, N, hN, step⟩
  · refine thnF (wk.done (X.blk t3 H3 scope ce fp) rfl rfl rfl calm i [] t5 _ H5 (fun _ _ => False) J5 (foot J5 n5) a5 stop) fun r t6 ⟨hr, J6⟩ => ?_
    subst hr
    have J7 : Inv X pins σ H5 t6 := J3.call' (ch := fp) J6.os J6.base J6.hok J6.bare fun b hb => by
      obtain ⟨_, z1, _, z2, z3, z4⟩ := (f3 b hb).1
      exact ⟨z2, z1, z3, z4⟩
    have free : H5 t3.heap.objs.size = none := by rw [← loc]; exact J6.free
    obtain ⟨mm, hn, _⟩ := J6.loc
    replace hn : t6.heap.Ns ce.locals mm := hn
    rw [loc] at hn
    obtain ⟨k0, k1, k2, k3, k4, k5⟩ := J3.fpOk (Nat.le_refl _) free
    exact ⟨mm, hn, fun hh but => ⟨.ref D, H5, J7.turned (t' := t6.toks) (fun b o hb e => (but.2 b hb).trans e) k0 k1 k3 k4 k5, rfl, qq⟩⟩
  · refine thnF (wk.item (X.blk t3 H3 scope ce fp) rfl rfl rfl calm i [] t5 _ H5 (fun _ _ => False) J5 (foot J5 n5) a5 go) fun r t6 ⟨u, hr, h6⟩ => ?_
    subst hr
    refine thnF h6 fun _ t7 ⟨x, H7, J7, r7, y7, a7, n7⟩ => ?_
    have J7p := J7.pinned (foot J7 n7) (wk.obj _ _ a7)
    refine thnF (pg.run _ t7 _ H7 x u _ J7p r7 (step x H7 y7)) fun _ t8 ⟨τ, H8, J8, w8, q8⟩ => thnF (pt.run _ t8 τ H8 _ J8 q8) fun b t9 ⟨H9, J9, q9⟩ => ?_
    have done : ∀ {u' : Shared} {H' : Hp}, Inv (X.blk t3 H3 scope ce fp) ([] ++ pinsAt fp t7.heap) τ H' u' → N H' → ∃ m, m < n ∧ ∃ i H', Inv (X.blk t3 H3 scope ce fp) [] (wipe σ (own.map (·.2))) H' u' ∧ tn i u'.heap ∧ (∀ b ∈ fp, H' b = none) ∧ Y i m H' := fun {u' H'} K nx => by
      obtain ⟨m', hm, y'⟩ := hN H' nx
      have pinned : ∀ b ∈ fp, ∀ o, t7.heap.get? b = some o → u'.heap.get? b = some o ∧ H' b = none := fun b hb o e => by
        obtain ⟨z1, z2, _⟩ := K.pin (b, o) (List.mem_append_right _ (List.mem_append_right _ (mem_pinsAt hb e)))
        exact ⟨z1, z2⟩
      refine ⟨m', hm, i + 1, H', (K.unpinned (pins := [])).weak (by rw [← w8, wipe_length]) (fun j v e => by rw [← w8] at e; exact (wipe_some e).1), wk.keep _ _ _ a7 fun b hb o e => (pinned b hb o e).1, fun b hb => ?_, y'⟩
      obtain ⟨o, e, _⟩ := wk.obj _ _ a7 b hb
      exact (pinned b hb o e).2
    cases b with
    | false =>
      rw [if_neg Bool.false_ne_true] at q9 ⊢
      exact done J9 q9
    | true =>
      rw [if_pos rfl] at q9 ⊢
      refine thnF (pe.run _ t9 τ H9 _ J9 q9) fun z t10 ⟨yv, H10, J10, r10, c, S0, n0, ey, hD10, room, nx⟩ => ?_
      subst ey
      obtain ⟨tk, rfl⟩ : ∃ tk, z = Value.int c tk := r10
      exact seto_add (X := X.blk t3 H3 scope ce fp) J10 hD10 room fun t11 J11 => done J11 nx

/-! ### sorted({e for x in xs if t}) -/
def dedI : List Int → List Int
  | [] => []
  | x :: xs => if x ∈ xs then dedI xs else x :: dedI xs
theorem dedI_mem {k : Int} : ∀ {xs : List Int}, k ∈ dedI xs ↔ k ∈ xs
  | [] => Iff.rfl
  | x :: xs => by
    unfold dedI
    split
    · rename_i h
      rw [dedI_mem, List.mem_cons]
      exact ⟨.inr, fun z => z.elim (fun e => e ▸ h) id⟩
    · rw [List.mem_cons, List.mem_cons, dedI_mem]
theorem dedI_nodup : ∀ xs : List Int, (dedI xs).Nodup
  | [] => List.nodup_nil
  | x :: xs => by
    unfold dedI
    split
    · exact dedI_nodup xs
    · rename_i h
      exact List.nodup_cons.mpr ⟨fun z => h (dedI_mem.mp z), dedI_nodup xs⟩
/-- the members, each once, ascending -/
def ascI (xs : List Int) : List Int := sortI (dedI xs)
theorem ascI_mem {k : Int} {xs : List Int} : k ∈ ascI xs ↔ k ∈ xs := (sortI_perm _).mem_iff.trans dedI_mem
theorem ascI_lt (xs : List Int) : (ascI xs).Pairwise (· < ·) := by
  have h1 := sortI_sorted (dedI xs)
  have h2 : (sortI (dedI xs)).Nodup := (sortI_perm _).nodup_iff.mpr (dedI_nodup xs)
  exact (h1.and h2).imp fun ⟨a, b⟩ => by omega
theorem asc_unique : ∀ {xs ys : List Int}, xs.Pairwise (· < ·) → ys.Pairwise (· < ·) → (∀ k, k ∈ xs ↔ k ∈ ys) → xs = ys
  | [], [], _, _, _ => rfl
  | [], y :: ys, _, _, h => absurd ((h y).mpr List.mem_cons_self) (by simp)
  | x :: xs, [], _, _, h => absurd ((h x).mp List.mem_cons_self) (by simp)
  | x :: xs, y :: ys, hx, hy, h => by
    obtain ⟨x1, x2⟩ := List.pairwise_cons.mp hx
    obtain ⟨y1, y2⟩ := List.pairwise_cons.mp hy
    have e : x = y := by
      rcases List.mem_cons.mp ((h x).mp List.mem_cons_self) with e | e
      · exact e
      · rcases List.mem_cons.mp ((h y).mpr List.mem_cons_self) with e' | e'
        · exact e'.symm
        · have := y1 x e
          have := x1 y e'
          omega
    subst e
    rw [asc_unique x2 y2 fun k => ?_]
    have := h k
    rw [List.mem_cons, List.mem_cons] at this
    constructor
    · intro z
      rcases this.mp (.inr z) with e | e
      · exact absurd (x1 k z) (by omega)
      · exact e
    · intro z
      rcases this.mpr (.inr z) with e | e
      · exact absurd (y1 k z) (by omega)
      · exact e
/-- the ints that come, one after the other -/
def scW (g : Tg) (tt : VT) (te : VE) (vs : List Nat) (ρ : Frm) (m : MH) (F : List Int → Prop) : List D → List Int → Prop
  | [], acc => F acc
  | x :: xs, acc => ∃ ρ1, tgSet g x (fwipe ρ vs) = some ρ1 ∧ tt ρ1 m fun b m2 => m2 = m ∧ (b = true → te ρ1 m fun y m3 => m3 = m ∧ ∃ k, y = .int k ∧ scW g tt te vs ρ m F xs (acc ++ [k])) ∧ (b = false → scW g tt te vs ρ m F xs acc)
def vSo (wi : VI) (g : Tg) (tt : VT) (te : VE) (vs : List Nat) : VE := fun ρ m Q => wi ρ m fun ds stay m1 => ds.length ≤ 4000 ∧ Wn (scW g tt te vs ρ m1 (fun acc => (ascI acc).length < 64 ∧ Q (.lst ((ascI acc).map D.int)) m1) ds [])
/-- what a set of these ints is -/
structure SetIs (w : World) (H : Hp) (L : Addr) (acc : List Int) (S : Int → Bool) (n : Nat) : Prop where
  at' : H L = some (SetO w L S n)
  mem : ∀ k, S k = true ↔ k ∈ acc
  len : n = (dedI acc.reverse).length
theorem setIs_add {w : World} {H : Hp} {L : Addr} {acc : List Int} {S : Int → Bool} {n : Nat} (h : SetIs w H L acc S n) (c : Int) (H' : Hp) :
    SetIs w (upd H' L (SetO w L (fun j => S j || decide (j = c)) (if S c = true then n else n + 1))) L (acc ++ [c]) (fun j => S j || decide (j = c)) (if S c = true then n else n + 1) := by
  refine ⟨upd_same, fun k => ?_, ?_⟩
  · simp [h.mem k]
  · rw [List.reverse_append, List.reverse_singleton, List.singleton_append, dedI, h.len]
    by_cases e : S c = true
    · rw [if_pos e, if_pos (List.mem_reverse.mpr ((h.mem c).mp e))]
    · rw [if_neg e, if_neg fun z => e ((h.mem c).mpr (List.mem_reverse.mp z))]
      rfl
theorem ascI_rev (xs : List Int) : ascI xs.reverse = ascI xs := asc_unique (ascI_lt _) (ascI_lt _) fun k => by rw [ascI_mem, ascI_mem, List.mem_reverse]
theorem ascI_len (xs : List Int) : (ascI xs).length = (dedI xs).length := (sortI_perm _).length_eq
theorem low_so {X : Cx} {B : Bs} {wi : VI} {g : Tg} {tt : VT} {te : VE} {vs : List Nat} {σ : L2.St} {H : Hp} {Q : VK} (hv : ∀ i ∈ g.slots, i ∈ vs) (h : lowE X.K B (vSo wi g tt te vs) σ H Q) :
    tSi X.w (lowI X.K B wi) (tgTG X.K g) (lowT X.K B tt) (lowE X.K B te) vs σ H (fun v H2 => rSortedSet X.w [v] H2 Q) := by
  obtain ⟨G, ρ, m, P, e0, s, q, k⟩ := h
  refine ⟨G, ρ, m, _, e0, s, q, fun ds stay m1 G1 H1 J q1 e1 s1 w hst => ?_⟩
  obtain ⟨hsz, q1⟩ := q1
  intro L hL
  have hLn := s1.free hL
  let Inv2 : Hp → Hp → Prop := fun G2 H2 => Ex G1 G2 ∧ G2 L = none ∧ (∀ a o, H1 a = some o → m1 a = none → H2 a = some o ∧ (G1 a = none → G2 a = none)) ∧ MSt X.K G2 m1 H2
  have step : ∀ {G2 H2 G3 H3}, Inv2 G2 H2 → H2 L ≠ none → Stp G2 m1 H2 G3 m1 H3 → MSt X.K G3 m1 H3 → Inv2 G3 H3 := fun {G2 H2 G3 H3} i hl e s3 => by
    obtain ⟨i1, i2, i3, i4⟩ := i
    refine ⟨i1.trans e.ex, ?_, fun a o h n => ?_, s3⟩
    · cases z : H2 L with
      | none => exact absurd z hl
      | some o => exact (e.keep L o z hLn.2).2.2 i2
    · obtain ⟨h1, h2⟩ := i3 a o h n
      obtain ⟨h3, _, h4⟩ := e.keep a o h1 n
      exact ⟨h3, fun z => h4 (h2 z)⟩
  have app : ∀ {G2 H2} (o : HO), Inv2 G2 H2 → Inv2 G2 (upd H2 L o) := fun {G2 H2} o i => by
    obtain ⟨i1, i2, i3, i4⟩ := i
    refine ⟨i1, i2, fun a u h n => ?_, ⟨fun b u q => ?_, fun b u q => ?_⟩⟩
    · have hb : a ≠ L := fun z => by subst z; rw [hL] at h; cases h
      rw [upd_ne hb]; exact i3 a u h n
    · have hb : b ≠ L := fun z => by subst z; rw [i2] at q; cases q
      rw [upd_ne hb]; exact i4.ex b u q
    · have hb : b ≠ L := fun z => by subst z; rw [hLn.2] at q; cases q
      obtain ⟨h1, ho, h2, h3⟩ := i4.mr b u q
      exact ⟨h1, ho, by rw [upd_ne hb]; exact h2, h3⟩
  refine ⟨fun i n H2 => n = ds.length - i ∧ i ≤ ds.length ∧ ∃ G2 acc S c, Inv2 G2 H2 ∧ SetIs X.w H2 L acc S c ∧ acc.length ≤ i ∧ scW g tt te vs ρ m1 (fun acc => (ascI acc).length < 64 ∧ P (.lst ((ascI acc).map D.int)) m1) (ds.drop i) acc,
    ⟨ds.length, by simp, Nat.zero_le _, G1, [], _, _, app _ ⟨Ex.refl G1, hLn.1, fun a o h n => ⟨h, fun z => z⟩, s1⟩, ⟨upd_same, by simp, rfl⟩, Nat.le_refl _, q1.out⟩, ?_⟩
  rintro i n H2 ⟨rfl, hi, G2, acc, S, c, i2, st, hal, q2⟩
  by_cases hlt : i < ds.length
  · refine .inr ⟨w.go i G2 m1 H2 i2.1 i2.2.2.2 hst hlt, fun H' => i + 1 ≤ ds.length ∧ ∃ G2 acc S c, Inv2 G2 H' ∧ SetIs X.w H' L acc S c ∧ acc.length ≤ i + 1 ∧ scW g tt te vs ρ m1 (fun acc => (ascI acc).length < 64 ∧ P (.lst ((ascI acc).map D.int)) m1) (ds.drop (i + 1)) acc,
      fun H' p' => ⟨ds.length - (i + 1), by omega, rfl, p'⟩, fun x H3 y => ?_⟩
    obtain ⟨G3, d, e3, s3, h3, r3⟩ := w.yld i G2 m1 H2 x H3 i2.1 i2.2.2.2 hst hlt y
    have hd : ds.drop i = d :: ds.drop (i + 1) := by
      rw [List.drop_eq_getElem_cons hlt]
      rw [List.getElem?_eq_getElem hlt] at h3
      rw [Option.some.inj h3]
    rw [hd] at q2
    unfold scW at q2
    have i3 := step i2 (by rw [st.at']; exact fun z => nomatch z) e3 s3
    have hL3 := (e3.keep L _ st.at' hLn.2).1
    obtain ⟨ρ3, z, q2⟩ := q2
    have f0 : FrR X.K G3 ρ σ := s.fr.mono (e1.ex.trans i3.1)
    refine tg_ok s3 r3 (f0.wipe vs) z fun σ3 f3 w3 => ?_
    refine ⟨(w3 vs hv).trans (by
        have gen : ∀ (l : List Nat) (τ : L2.St) (a : Nat), a ∈ l → (wipe τ l).set a none = wipe τ l := fun l τ a => by
          induction l with
          | nil => intro h; cases h
          | cons b r2 ih2 =>
            intro h
            unfold wipe
            by_cases e : a = b
            · subst e; rw [List.set_set]
            · rcases List.mem_cons.mp h with z | z
              · exact absurd z e
              · rw [List.set_comm _ _ (Ne.symm e), ih2 z]
        have this : ∀ l : List Nat, (∀ i ∈ l, i ∈ vs) → wipe (wipe σ vs) l = wipe σ vs := fun l => by
          induction l with
          | nil => intro _; rfl
          | cons a r ih =>
            intro hl
            show (wipe (wipe σ vs) r).set a none = wipe σ vs
            rw [ih fun j hj => hl j (List.mem_cons_of_mem _ hj)]
            exact gen vs σ a (hl a List.mem_cons_self)
        exact this vs fun _ h => h), ?_⟩
    have eB : B.to G3 m1 H3 := ⟨e0.ex.trans (e1.ex.trans i3.1), fun a o h n => by
      obtain ⟨h1, n1, g1⟩ := (e0.trans e1).keep a o h n
      obtain ⟨h2, g2⟩ := i3.2.2.1 a o h1 n1
      exact ⟨h2, n1, fun z => g2 (g1 z)⟩⟩
    refine ⟨G3, ρ3, m1, _, eB, ⟨f3, s3⟩, q2, fun b m4 G4 H4 q4 e4 s4 => ?_⟩
    obtain ⟨rfl, q4, q5⟩ := q4
    have i4 := step i3 (by rw [hL3]; exact fun z => nomatch z) e4 s4
    have hL4 := (e4.keep L _ hL3 hLn.2).1
    cases b with
    | false => exact ⟨hlt, G4, acc, S, c, i4, ⟨hL4, st.mem, st.len⟩, by omega, q5 rfl⟩
    | true =>
      refine ⟨G4, ρ3, _, _, eB.trans e4, ⟨f3.mono e4.ex, s4⟩, q4 rfl, fun y m5 G5 v5 H5 q6 e5 s5 r5 => ?_⟩
      obtain ⟨rfl, kk, rfl, q7⟩ := q6
      cases r5
      have i5 := step i4 (by rw [hL4]; exact fun z => nomatch z) e5 s5
      have hL5 := (e5.keep L _ hL4 hLn.2).1
      have hded : (dedI acc.reverse).length ≤ acc.length := by
        have gl : ∀ l : List Int, (dedI l).length ≤ l.length := fun l => by
          induction l with
          | nil => exact Nat.le_refl _
          | cons a r ih =>
            unfold dedI
            split
            · exact Nat.le_succ_of_le ih
            · exact Nat.succ_le_succ ih
        simpa using gl acc.reverse
      exact ⟨kk, S, c, rfl, hL5, by have := st.len; unfold scanBound; omega, hlt, G5, acc ++ [kk], _, _, app _ i5, setIs_add ⟨hL5, st.mem, st.len⟩ kk _, by rw [List.length_append, List.length_singleton]; omega, q7⟩
  · have hi' : ds.length ≤ i := by omega
    rw [List.drop_eq_nil_of_le hi'] at q2
    obtain ⟨h64, q2⟩ := q2
    obtain ⟨j1, j2, j3, j4⟩ := i2
    refine .inl ⟨w.stop i G2 m1 H2 j1 j4 hst hi', L, S, c, rfl, st.at', by rw [st.len, ← ascI_len, ascI_rev]; exact h64, fun ns p asc mem len hp => ?_⟩
    have en : ns = ascI acc := asc_unique asc (ascI_lt _) fun k => by rw [mem k, st.mem k, ascI_mem]
    subst en
    obtain ⟨e5, s5⟩ := j4.newG hp (.lst ((ascI acc).map V.int))
    refine k _ m1 _ (.ref p) _ q2 ⟨(e1.ex.trans j1).trans e5.ex, fun a o h n => ?_⟩ s5 (.lst upd_same (DnAll.of_ints _))
    obtain ⟨h1, n1, g1⟩ := e1.keep a o h n
    obtain ⟨h2, g2⟩ := j3 a o h1 n1
    obtain ⟨h3, _, g3⟩ := e5.keep a o h2 n1
    exact ⟨h3, n1, fun z => g3 (g2 (g1 z))⟩
theorem ue_so {X : Cx} {B : Bs} {elt tg iter : Expr} {ifs : List Expr} {scope : Scope} {own : List (PySem.Str × Nat)} {wi : VI} {g : Tg} {tt : VT} {te : VE} {p p2 pos : Pos} (hc : X.calm = true) (hN : X.N.Nodup) (hgl : Gl X "sorted") (hm : X.mg "sorted" = none) (hi : UI X B tg iter wi) (ok : BlkOk X.N X.env.scope scope own)
    (hg : ∀ s H C cl fp, PG (Blk X scope s H C cl fp) tg (tgTG X.K g)) (ht : ∀ s H C cl fp, UTs (Blk X scope s H C cl fp) B ifs tt) (he : ∀ s H C cl fp, UE (Blk X scope s H C cl fp) B elt te)
    (hv : ∀ i ∈ g.slots, i ∈ own.map (·.2)) (hs : ∀ x, foldedSetIterable iter X.env x = pure x := by intro _; rfl)
    (hst : starEach [.SetComp elt [⟨tg, iter, ifs, 0⟩] scope p2] X.env = (false, eval (.SetComp elt [⟨tg, iter, ifs, 0⟩] scope p2) X.env) :: starEach [] X.env := by rfl) (hpl : (backTo pos (starEach [] X.env)).any (·.1) = false := by rfl) :
    UE X B (.Call (.Name "sorted" p) [.SetComp elt [⟨tg, iter, ifs, 0⟩] scope p2] [] pos) (vSo wi g tt te (own.map (·.2))) :=
  ⟨(pe_callB (cr_sortedSet hc) hgl hm bt_sorted (pa_cons (pe_si hc hN hi.pi ok hg (fun s H C cl fp => (ht s H C cl fp).pt) (fun s H C cl fp => (he s H C cl fp).pe) hs) pa_nil hst) (by decide) (by decide) hst hpl).weak fun σ H Q h => low_so hv h⟩
/-- {f x for x in xs if p x}, sorted -/
theorem sc_sel0 {α : Type} {g : Tg} {tt : VT} {te : VE} {vs : List Nat} {ρ : Frm} {m : MH} {F : List Int → Prop} (enc : α → D) (p : α → Bool) (f : α → Int) : ∀ (xs : List α) (acc : List Int),
    (∀ x ∈ xs, ∀ acc (R : List Int → Prop), (p x = true → R (acc ++ [f x])) → (p x = false → R acc) →
      ∃ ρ1, tgSet g (enc x) (fwipe ρ vs) = some ρ1 ∧ tt ρ1 m fun b m2 => m2 = m ∧ (b = true → te ρ1 m fun y m3 => m3 = m ∧ ∃ k, y = .int k ∧ R (acc ++ [k])) ∧ (b = false → R acc)) →
    F (acc ++ (xs.filter p).map f) → scW g tt te vs ρ m F (xs.map enc) acc
  | [], acc, _, hF => by
    rw [List.filter_nil, List.map_nil, List.append_nil] at hF
    exact hF
  | x :: xs, acc, step, hF => by
    obtain ⟨ρ1, e, q⟩ := step x (List.mem_cons_self ..) acc (scW g tt te vs ρ m F (xs.map enc))
      (fun hp => sc_sel0 enc p f xs (acc ++ [f x]) (fun y hy => step y (List.mem_cons_of_mem _ hy)) (by
        rw [List.filter_cons_of_pos hp, List.map_cons] at hF
        rw [List.append_assoc]
        exact hF))
      (fun hp => sc_sel0 enc p f xs acc (fun y hy => step y (List.mem_cons_of_mem _ hy)) (by
        rw [List.filter_cons_of_neg (by rw [hp]; exact Bool.false_ne_true)] at hF
        exact hF))
    exact ⟨ρ1, e, q⟩
theorem sc_sel {α : Type} {g : Tg} {tt : VT} {te : VE} {vs : List Nat} {ρ : Frm} {m : MH} {F : List Int → Prop} (enc : α → D) (p : α → Bool) (f : α → Int) (xs : List α)
    (step : ∀ x ∈ xs, ∀ acc (R : List Int → Prop), (p x = true → R (acc ++ [f x])) → (p x = false → R acc) →
      ∃ ρ1, tgSet g (enc x) (fwipe ρ vs) = some ρ1 ∧ tt ρ1 m fun b m2 => m2 = m ∧ (b = true → te ρ1 m fun y m3 => m3 = m ∧ ∃ k, y = .int k ∧ R (acc ++ [k])) ∧ (b = false → R acc))
    (hF : F ((xs.filter p).map f)) : Wn (scW g tt te vs ρ m F (xs.map enc) []) := .mk (sc_sel0 enc p f xs [] step (by rw [List.nil_append]; exact hF))
end DL

namespace DL
open PySem L2
open Evl (Ex)
/-! ### range(a, b, -1) -/
def irngD (lo : Int) (n : Nat) : List D := (List.range n).map fun i : Nat => D.int (lo - (i : Int))
theorem irngD_len (lo : Int) (n : Nat) : (irngD lo n).length = n := by simp [irngD]
theorem irngD_at {lo : Int} {n i : Nat} (h : i < n) : (irngD lo n)[i]? = some (.int (lo - (i : Int))) := by simp [irngD, h]
theorem wk_rangeD {K : PySem.W.Frag} {G1 : Hp} {lo : Int} {n : Nat} : Wk K (Itc lo (-1) n) G1 (irngD lo n) (fun _ => True) := by
  refine ⟨fun i G m H e s _ hi => ?_, fun i G m H e s _ hi => ?_, fun i G m H x H' e s _ hi y => ?_⟩
  · rw [irngD_len] at hi; exact hi
  · rw [irngD_len] at hi; exact hi
  · rw [irngD_len] at hi
    obtain ⟨rfl, rfl⟩ := y
    refine ⟨G, _, Stp.refl, s, irngD_at hi, ?_⟩
    rw [show lo + (i : Int) * -1 = lo - (i : Int) by omega]
    exact .int _
def iR3 (va : VA) : VI := fun ρ m Q => va ρ m fun ds m1 => match ds with
  | [.int i, .int j, .int k] => (k = -1) ∧ Rg i ∧ Rg j ∧ Q (irngD i (i - j).toNat) (fun _ => True) m1
  | _ => False
theorem DnAll.three {K : PySem.W.Frag} {G : Hp} {d d' d'' : D} {vs : List V} (h : DnAll K G [d, d', d''] vs) : ∃ v v' v'', vs = [v, v', v''] ∧ Dn K G d v ∧ Dn K G d' v' ∧ Dn K G d'' v'' := by
  cases h with
  | cons h1 h2 =>
    obtain ⟨v, v', rfl, h3, h4⟩ := h2.two
    exact ⟨_, _, _, rfl, h1, h3, h4⟩
theorem ui_range3 {X : Cx} {B : Bs} {a b c tg : Expr} {va : VA} {p pos : Pos} (hg : Gl X "range") (hm : X.mg "range" = none) (ha : UA X B [a, b, c] va)
    (hs : starEach [a, b, c] X.env = (false, eval a X.env) :: starEach [b, c] X.env := by rfl) (hpl : (backTo pos (starEach [b, c] X.env)).any (·.1) = false := by rfl) : UI X B tg (.Call (.Name "range" p) [a, b, c] [] pos) (iR3 va) :=
  ⟨(pi_range3 hg hm ha.pa (hs := hs) (hpl := hpl)).weak fun σ H R h => by
    obtain ⟨G, ρ, m, P, e0, s, t, k⟩ := h
    refine ⟨G, ρ, m, _, e0, s, t, fun ds m1 G1 vs H1 q1 e1 s1 r1 => ?_⟩
    split at q1
    · obtain ⟨v, v', v'', rfl, r, r', r''⟩ := r1.three
      cases r
      cases r'
      cases r''
      obtain ⟨rfl, h1, h2, q1⟩ := q1
      exact ⟨_, _, _, _, rfl, RgC.neg h1.lo h1.hi h2.lo h2.hi, k _ _ m1 G1 H1 _ q1 e1 s1 wk_rangeD trivial⟩
    · exact q1.elim⟩
/-! ### xs[i] = e -/
def vSetL (to ti te : VE) : VS := fun E ρ m => te ρ m fun y m1 => to ρ m1 fun d m2 => ti ρ m2 fun i m3 => match d, i with
  | .adr a, .int k => ∃ ds, m3 a = some (.lst ds) ∧ ∃ j, ixN ds.length k = some j ∧ E.nx ρ (mup m3 a (.lst (ds.set j y)))
  | _, _ => False
theorem us_setL {X : Cx} {B : Bs} {o i e : Expr} {to ti te : VE} {pos pos' : Pos} (ho : UE X B o to) (hi : UE X B i ti) (he : UE X B e te) (hs : swapsWithSole [.Subscript o i pos'] e pos.line X.env = pure false := by rfl) (hw : swappedStores [.Subscript o i pos'] e X.env = pure none := by rfl)
    (h1 : (assignEach [.Subscript o i pos'] X.env).map (·.2) = [assign (.Subscript o i pos') X.env] := by rfl)
    (hsub : ∀ v, assign (.Subscript o i pos') X.env v = (do
      let ov ← holding [v] (eval o X.env)
      let iv ← holding [v, ov] (eval i X.env)
      standAt pos'
      holding [v, ov, iv] (setItem ov iv v)
      release [v, ov, iv] []) := by intro _; rfl) : US X B (.Assign [.Subscript o i pos'] e pos) (vSetL to ti te) :=
  ⟨PS.weak (ps_asg he.pe (pg_sub ho.pe hi.pe set_list hsub) hs hw h1) fun D σ H h => by
    obtain ⟨G, ρ, m, E, e0, s, t, k, _⟩ := h
    refine ⟨G, ρ, m, _, e0, s, t, fun y m1 G1 v H1 q1 e1 s1 r1 => ?_⟩
    refine ⟨G1, ρ, m1, _, e0.trans e1, ⟨s.fr.mono e1.ex, s1⟩, q1, fun d m2 G2 v2 H2 q2 e2 s2 r2 => ?_⟩
    refine ⟨G2, ρ, m2, _, (e0.trans e1).trans e2, ⟨s.fr.mono (e1.trans e2).ex, s2⟩, q2, fun i m3 G3 v3 H3 q3 e3 s3 r3 => ?_⟩
    split at q3
    · cases r3
      cases r2
      obtain ⟨ds, h2, j, h3, q⟩ := q3
      obtain ⟨_, ho, h4, h5⟩ := s3.mr _ _ h2
      cases h5 with
      | lst h5 =>
        rename_i xs
        obtain ⟨e4, s4⟩ := s3.write h2 (o := .lst (ds.set j y)) (ho := .lst (xs.set j v)) (.lst (h5.set (r1.mono (e2.trans e3).ex) j))
        exact ⟨_, xs, _, j, rfl, rfl, h4, by rw [← h5.length]; exact h3, k ρ _ _ σ _ q (((e1.trans e2).trans e3).trans e4) ⟨s.fr.mono (((e1.trans e2).trans e3).trans e4).ex, s4⟩⟩
    · exact q3.elim⟩
theorem ixN_nat {n i : Nat} (h : i < n) : ixN n (i : Int) = some i := by
  unfold ixN
  rw [if_pos (Int.natCast_nonneg i), if_pos (Int.ofNat_lt.mpr h)]
  rfl
theorem ixN_int {n : Nat} {i : Int} (h0 : 0 ≤ i) (h : i < n) : ixN n i = some i.toNat := by
  unfold ixN
  rw [if_pos h0, if_pos h]
/-! ### list(xs), to be changed -/
inductive ListG (m : MH) (Q : List D → Prop) : List D → Prop
  | tup {es : List D} (q : Q es) : ListG m Q [.tup es]
  | lst {d : D} {es : List D} (e : asL m d = some es) (q : Q es) : ListG m Q [d]
def vListM (va : VA) : VE := fun ρ m Q => va ρ m fun ds m1 => ListG m1 (fun es => ∀ p, m1 p = none → Q (.adr p) (mup m1 p (.lst es))) ds
theorem ue_listM {X : Cx} {B : Bs} {e : Expr} {es : List Expr} {va : VA} {p pos : Pos} (hg : Gl X "list") (hm : X.mg "list" = none) (ha : UA X B (e :: es) va)
    (he : starEach (e :: es) X.env = (false, eval e X.env) :: starEach es X.env := by rfl) (hpl : (backTo pos (starEach es X.env)).any (·.1) = false := by rfl) : UE X B (.Call (.Name "list" p) (e :: es) [] pos) (vListM va) :=
  ⟨(pe_callTy call_list_of hg hm bt_list ha.pa (by decide) (by decide) he hpl).weak fun σ H Q h => by
    obtain ⟨G, ρ, m, P, e0, s, t, k⟩ := h
    refine ⟨G, ρ, m, _, e0, s, t, fun ds m1 G1 vs H1 q1 e1 s1 r1 => ?_⟩
    cases q1 with
    | tup q =>
      obtain ⟨v, rfl, r⟩ := r1.one
      cases r with
      | tup h1 h2 =>
        refine ⟨_, _, rfl, .inr (Evl.ex_t s1.ex h1), fun l hl => ?_⟩
        obtain ⟨e2, s2⟩ := s1.newM hl (o := .lst _) (ho := .lst _) (.lst h2)
        exact k _ _ G1 _ _ (q l (s1.free hl).2) (e1.trans e2) s2 (.adr l)
    | lst h1 q =>
      obtain ⟨v, rfl, r⟩ := r1.one
      obtain ⟨b, xs, rfl, h2, h3⟩ := s1.asL r h1
      refine ⟨_, _, rfl, .inl h2, fun l hl => ?_⟩
      obtain ⟨e2, s2⟩ := s1.newM hl (o := .lst _) (ho := .lst _) (.lst h3)
      exact k _ _ G1 _ _ (q l (s1.free hl).2) (e1.trans e2) s2 (.adr l)⟩
/-- list(xs), a list that stays -/
def vListF (va : VA) : VE := fun ρ m Q => va ρ m fun ds m1 => ListG m1 (fun es => Q (.lst es) m1) ds
theorem ue_listF {X : Cx} {B : Bs} {e : Expr} {es : List Expr} {va : VA} {p pos : Pos} (hg : Gl X "list") (hm : X.mg "list" = none) (ha : UA X B (e :: es) va)
    (he : starEach (e :: es) X.env = (false, eval e X.env) :: starEach es X.env := by rfl) (hpl : (backTo pos (starEach es X.env)).any (·.1) = false := by rfl) : UE X B (.Call (.Name "list" p) (e :: es) [] pos) (vListF va) :=
  ⟨(pe_callTy call_list_of hg hm bt_list ha.pa (by decide) (by decide) he hpl).weak fun σ H Q h => by
    obtain ⟨G, ρ, m, P, e0, s, t, k⟩ := h
    refine ⟨G, ρ, m, _, e0, s, t, fun ds m1 G1 vs H1 q1 e1 s1 r1 => ?_⟩
    cases q1 with
    | tup q =>
      obtain ⟨v, rfl, r⟩ := r1.one
      cases r with
      | tup h1 h2 =>
        refine ⟨_, _, rfl, .inr (Evl.ex_t s1.ex h1), fun l hl => ?_⟩
        obtain ⟨e2, s2⟩ := s1.newG hl (.lst _)
        exact k _ m1 _ _ _ q (e1.trans e2) s2 (.lst upd_same (h2.mono e2.ex))
    | lst h1 q =>
      obtain ⟨v, rfl, r⟩ := r1.one
      obtain ⟨b, xs, rfl, h2, h3⟩ := s1.asL r h1
      refine ⟨_, _, rfl, .inl h2, fun l hl => ?_⟩
      obtain ⟨e2, s2⟩ := s1.newG hl (.lst xs)
      exact k _ m1 _ _ _ q (e1.trans e2) s2 (.lst upd_same (h3.mono e2.ex))⟩
end DL

/-! ### sorted lists of (int, text), the texts "a" and "b" -/
namespace DLS
open PySem PyProof.Rows Srt SrtO
def rkS (b : Str) : Int := if b = Str.ofString "a" then 0 else 1
def abS (b : Str) : Prop := b = Str.ofString "a" ∨ b = Str.ofString "b"
theorem rk_lt {b c : Str} (hb : abS b) (hc : abS c) : decide (b.cps.toList < c.cps.toList) = decide (rkS b < rkS c) := by
  rcases hb with rfl | rfl <;> rcases hc with rfl | rfl <;> decide +kernel
theorem rk_inj {b c : Str} (hb : abS b) (hc : abS c) : (b == c) = decide (rkS b = rkS c) := by
  rcases hb with rfl | rfl <;> rcases hc with rfl | rfl <;> decide +kernel
section
variable {prog : Program} {w : World} {A : Around} {E : Value → Shared → Prop} {s : Shared}
def PairS (h : Heap) (v : Value) (x y : Int) : Prop := ∃ a o t b u n, v = .ref a ∧ h.get? a = some o ∧ o.cls = .type "tuple" ∧ o.data = .seq #[.int x t, .str b u] n ∧ abS b ∧ rkS b = y
theorem PairS.keeps {h h' : Heap} {v : Value} {x y : Int} (p : PairS h v x y) (k : ∀ b o, h.get? b = some o → o.cls = .type "tuple" → h'.get? b = some o) : PairS h' v x y := by
  obtain ⟨a, o, t, b, u, n, e, ho, hc, hd, hr⟩ := p
  exact ⟨a, o, t, b, u, n, e, k _ _ ho hc, hc, hd, hr⟩
theorem firsts_ofS {h : Heap} : ∀ {vs : List Value}, (∀ v ∈ vs, ∃ x y, PairS h v x y) → ∃ fs : List Value, PySem.W.KatTups h vs fs ∧ fs.length = vs.length ∧ ∀ f ∈ fs, ∃ x t, f = Value.int x t
  | [], _ => ⟨[], PySem.W.KatTups.nil, rfl, fun _ hm => by simp at hm⟩
  | v :: vs, hp => by
    obtain ⟨fs, h1, h2, h3⟩ := firsts_ofS (vs := vs) fun v' hm => hp v' (List.mem_cons_of_mem _ hm)
    obtain ⟨x, y, a, o, t, b, u, n, e, ho, hc, hd, _⟩ := hp v (List.mem_cons_self ..)
    subst e
    refine ⟨.int x t :: fs, PySem.W.KatTups.cons ho hc hd rfl h1, by rw [List.length_cons, List.length_cons, h2], fun f hm => ?_⟩
    rcases List.mem_cons.mp hm with rfl | hm
    · exact ⟨x, t, rfl⟩
    · exact h3 f hm
theorem pairS_cmp {vs : List Value} {k : Value → Int × Int} (hp : ∀ v ∈ vs, PairS s.heap v (k v).1 (k v).2) : Cmp prog w A s (tuples' true) (fun p => p.1 ∈ vs) (lt2 fun v u => lexB (k v) (k u)) := by
  intro p q hm hm'
  have h1 := hp _ hm
  have h2 := hp _ hm'
  show wpAny (model prog w) A (keyLt' (tuples' true) p.1 q.1) (fun r s' => s' = s ∧ r = lexB (k p.1) (k q.1)) (fun _ _ => False) s
  unfold lexB
  generalize (k p.1).1 = x at h1 ⊢
  generalize (k p.1).2 = y at h1 ⊢
  generalize (k q.1).1 = x' at h2 ⊢
  generalize (k q.1).2 = y' at h2 ⊢
  obtain ⟨a, o, t, b, u, n, e, ho, hc, hd, hb, rfl⟩ := h1
  obtain ⟨a', o', t', b', u', n', e', ho', hc', hd', hb', rfl⟩ := h2
  rw [e, e']
  refine PySem.W.kat_lt ho hd ho' hd' ?_
  show PySem.W.KatLex prog w A true (decide (2 < 2)) _ [(.int x t, .int x' t'), (.str b u, .str b' u')] 0 s
  refine PySem.W.kat_cons (SeqAt.EqAt.int_int x t x' t' prog w _ _ ?_)
  refine PySem.W.kat_go (fun e1 => ?_) (fun e1 => ?_)
  · have ex : x = x' := by simpa using e1
    refine PySem.W.kat_yes (PySem.W.kat_cons (SeqAt.EqAt.str_str b u b' u' prog w _ _ ?_))
    rw [rk_inj hb hb']
    refine PySem.W.kat_go (fun e2 => ?_) (fun e2 => ?_)
    · have ey : rkS b = rkS b' := by simpa using e2
      have e3 : (if x = x' then decide (rkS b < rkS b') else decide (x < x')) = false := by
        rw [if_pos ex, ey]
        exact decide_eq_false (Int.lt_irrefl _)
      exact PySem.W.kat_yes (PySem.W.kat_nil ⟨rfl, e3.symm⟩)
    · have e3 : (if x = x' then decide (rkS b < rkS b') else decide (x < x')) = decide (rkS b < rkS b') := if_pos ex
      refine PySem.W.kat_no (PySem.W.kat_one _ _ (PyProof.Rows.lt_str ?_))
      exact (show s = s ∧ decide (b.cps.toList < b'.cps.toList) = (if x = x' then decide (rkS b < rkS b') else decide (x < x')) from ⟨rfl, (rk_lt hb hb').trans e3.symm⟩)
  · have ex : ¬ x = x' := by simpa using e1
    have e3 : (if x = x' then decide (rkS b < rkS b') else decide (x < x')) = decide (x < x') := if_neg ex
    exact PySem.W.kat_no (oneLt_int ⟨rfl, e3.symm⟩)
theorem pairS_sortableO {a : Addr} {vs : List Value} {k : Value → Int × Int} (h0 : 0 < vs.length) (hp : ∀ v ∈ vs, PairS s.heap v (k v).1 (k v).2) (ha : ∀ o, s.heap.get? a = some o → o.cls ≠ .type "tuple") : SortableO prog w A s a vs fun v u => lexB (k v) (k u) := by
  intro h' keep
  have hp' : ∀ v ∈ vs, PairS h' v (k v).1 (k v).2 := fun v hm => (hp v hm).keeps fun b o e c => keep b o (fun z => by subst z; exact ha o e c) e
  obtain ⟨fs, h1, h2, h3⟩ := firsts_ofS fun v hm => ⟨_, _, hp' v hm⟩
  refine ⟨tuples' true, fun Q E hq => ?_, pairS_cmp hp'⟩
  refine PySem.W.kat_kind (T := .type "int") h1 (by omega) (fun f hm => ?_) (by rfl) ?_
  · obtain ⟨x, t, rfl⟩ := h3 f hm
    exact PySem.W.Looks.now
  · have e : (Value.type "int" != Value.type "tuple") = true := by first | decide +kernel | rfl | decide
    rw [e]
    exact hq
theorem sorted_pairS {l : Addr} {vs : List Value} {k : Value → Int × Int} {Q : Value → Shared → Prop} (hl : s.heap.IsList l vs.toArray) (hz : vs.length ≤ sizeLine) (hp : ∀ v ∈ vs, PairS s.heap v (k v).1 (k v).2)
    (h : ∀ (h' : Heap) (d : Addr) (out : List Value), Srtd (fun v u => lexB (k v) (k u)) out → Stb (fun v u => lexB (k v) (k u)) out vs → (∀ b o, s.heap.get? b = some o → h'.get? b = some o) → s.heap.objs.size ≤ d → (∃ n, h'.get? d = some (seqObj "list" out.toArray n)) → Q (.ref d) { s with heap := h' }) :
    wpAny (model prog w) A (call (.builtin "sorted") [.ref l]) Q E s := by
  refine sorted_ord (swo_lex k) hl hz (fun h2 h₁ a ha kk => ?_) fun out hs hb => ?_
  · refine pairS_sortableO (s := { s with heap := h₁ }) (by omega) (fun v hm => (hp v hm).keeps fun b o e _ => (kk b o e).2) fun o e => ?_
    have e' : some o = some (seqObj "list" vs.toArray 0) := e.symm.trans ha
    cases e'
    intro c
    exact absurd (Value.type.inj c) (by decide)
  · exact h _ _ out hs hb (fun b o e => sortedAll_old e) (Nat.le_succ _) (sortedAll_at s.heap vs out.toArray)
end
end DLS
namespace L2
open PySem PySem.Spec PyProof.Rows Srt
def decS (h : Heap) : Value → Int × Str
  | .ref a => match h.get? a with
    | some o => match o.data with
      | .seq its _ => match its.toList with
        | [.int x _, .str b _] => (x, b)
        | _ => (0, Str.ofString "a")
      | _ => (0, Str.ofString "a")
    | none => (0, Str.ofString "a")
  | _ => (0, Str.ofString "a")
def rSortedPS (K : PySem.W.Frag) : List V → Hp → VK → Prop := fun vs H Q => ∃ (a : Addr) (L : List (V × (Int × Str))), vs = [V.ref a] ∧ SqL K H a (L.map Prod.fst) ∧ (∀ x ∈ L, ∃ t, x.1 = V.ref t ∧ SqT K H t [.int x.2.1, .str x.2.2] ∧ DLS.abS x.2.2) ∧
  ∀ (L' : List (V × (Int × Str))) (p : Addr), L'.Perm L → (L'.Pairwise fun x y => ¬ (y.2.1 < x.2.1 ∨ (y.2.1 = x.2.1 ∧ DLS.rkS y.2.2 < DLS.rkS x.2.2))) → H p = none → Q (.ref p) (upd H p (.lst (L'.map Prod.fst)))
theorem pairs_dec {X : Cx} {pins : List (Addr × Obj)} {σ : St} {H : Hp} {s : Shared} (I : Inv X pins σ H s) : ∀ (L : List (V × (Int × Str))) (its : List Value), Vals (L.map Prod.fst) its →
    (∀ x ∈ L, ∃ t, x.1 = V.ref t ∧ SqT X.K H t [.int x.2.1, .str x.2.2] ∧ DLS.abS x.2.2) → L = its.map (fun u => (backV u, decS s.heap u)) ∧ ∀ u ∈ its, DLS.PairS s.heap u (decS s.heap u).1 (DLS.rkS (decS s.heap u).2) ∧ ∃ a, u = Value.ref a
  | [], _, h, _ => by cases h; exact ⟨rfl, fun _ h => nomatch h⟩
  | (x, c) :: L, _, h, hx => by
    cases h with
    | cons r t =>
      rename_i u us
      obtain ⟨e, ih⟩ := pairs_dec I L us t fun y hy => hx y (List.mem_cons_of_mem _ hy)
      obtain ⟨ad, rfl, ht, hab⟩ := hx (x, c) List.mem_cons_self
      obtain rfl : u = Value.ref ad := r
      obtain ⟨its2, r2, ⟨o, ho, hc, n, hd⟩, _⟩ := I.tuple ht
      obtain ⟨u1, u2, rfl, ri, rj⟩ := vals2 r2
      obtain ⟨t1, rfl⟩ := ri
      obtain ⟨t2, rfl⟩ := rj
      have ed : decS s.heap (Value.ref ad) = c := by
        unfold decS
        simp only [ho, hd]
      refine ⟨by rw [List.map_cons, ed, ← e]; rfl, fun v hv => ?_⟩
      rcases List.mem_cons.mp hv with rfl | hv
      · rw [ed]
        exact ⟨⟨ad, o, t1, c.2, t2, n, rfl, ho, hc, hd, hab, rfl⟩, _, rfl⟩
      · exact ih v hv
theorem cr_sortedPS {X : Cx} : CallR X (.builtin "sorted") (rSortedPS X.K) := by
  intro pins s σ H vs us Q I r h
  obtain ⟨a, L, rfl, hs, hx, q⟩ := h
  obtain ⟨its, rv, hl, hz⟩ := I.list hs
  obtain ⟨u, rfl, ru⟩ := vals1 r
  obtain rfl : u = Value.ref a := ru
  obtain ⟨e1, e2⟩ := pairs_dec I L its rv hx
  refine DLS.sorted_pairS (k := fun u => ((decS s.heap u).1, DLS.rkS (decS s.heap u).2)) hl.isList (by rw [← rv.length]; exact hz) (fun v hv => (e2 v hv).1) fun h' d out h1 h2 kp hd hn => ?_
  have h3 : ∀ u ∈ out, ∃ a, u = Value.ref a := fun u hu => (e2 u (h2.perm.mem_iff.mp hu)).2
  obtain ⟨n, hn⟩ := hn
  have e3 : (out.map fun u => (backV u, decS s.heap u)).map Prod.fst = out.map backV := by rw [List.map_map]; rfl
  refine ⟨.ref d, upd H d (.lst ((out.map fun u => (backV u, decS s.heap u)).map Prod.fst)), I.laid (t' := s.toks) kp hd ⟨?_, out, n, by rw [e3]; exact vals_back h3, hn⟩, rfl, q _ d (by rw [e1]; exact h2.perm.map _) (List.pairwise_map.mpr (h1.imp fun {x y} h => SrtO.lexB_no.mp h)) (I.hok.fresh hd)⟩
  rw [e3, List.length_map, h2.len, ← rv.length]
  exact hz
end L2
namespace DL
open PySem L2
open Evl (Ex)
def pD (c : Int × Str) : D := .tup [.int c.1, .str c.2]
def codeS (c : Int × Str) : Int := 2 * c.1 + DLS.rkS c.2
def leS (c d : Int × Str) : Bool := decide (codeS c ≤ codeS d)
def sortS (cs : List (Int × Str)) : List (Int × Str) := cs.mergeSort leS
theorem sortS_perm (cs : List (Int × Str)) : (sortS cs).Perm cs := List.mergeSort_perm ..
theorem sortS_sorted (cs : List (Int × Str)) : (sortS cs).Pairwise fun c d => codeS c ≤ codeS d := by
  have := List.pairwise_mergeSort (le := leS) (fun a b c h1 h2 => by
    have h1 := of_decide_eq_true h1
    have h2 := of_decide_eq_true h2
    exact decide_eq_true (by omega)) (fun a b => by
    simp only [leS, Bool.or_eq_true, decide_eq_true_iff]
    omega) cs
  exact this.imp fun h => of_decide_eq_true h
theorem codeS_inj {c d : Int × Str} (hc : DLS.abS c.2) (hd : DLS.abS d.2) (h : codeS c = codeS d) : c = d := by
  obtain ⟨i, b⟩ := c
  obtain ⟨j, b'⟩ := d
  have h : 2 * i + DLS.rkS b = 2 * j + DLS.rkS b' := h
  have hc : b = Str.ofString "a" ∨ b = Str.ofString "b" := hc
  have hd : b' = Str.ofString "a" ∨ b' = Str.ofString "b" := hd
  have r1 : DLS.rkS (Str.ofString "a") = 0 := by decide +kernel
  have r2 : DLS.rkS (Str.ofString "b") = 1 := by decide +kernel
  rcases hc with rfl | rfl <;> rcases hd with rfl | rfl
  · rw [show i = j by omega]
  · rw [r1, r2] at h; omega
  · rw [r1, r2] at h; omega
  · rw [show i = j by omega]
theorem sortS_uniq : ∀ {xs ys : List (Int × Str)}, xs.Perm ys → (∀ c ∈ xs, DLS.abS c.2) → (xs.Pairwise fun c d => codeS c ≤ codeS d) → (ys.Pairwise fun c d => codeS c ≤ codeS d) → xs = ys
  | [], ys, h, _, _, _ => (List.nil_perm.mp h).symm
  | x :: xs, [], h, _, _, _ => absurd (List.perm_nil.mp h) (by simp)
  | x :: xs, y :: ys, h, ha, hx, hy => by
    have h1 := List.pairwise_cons.mp hx
    have h2 := List.pairwise_cons.mp hy
    have e : x = y := by
      have m1 : x ∈ y :: ys := h.mem_iff.mp List.mem_cons_self
      have m2 : y ∈ x :: xs := h.mem_iff.mpr List.mem_cons_self
      rcases List.mem_cons.mp m1 with e | e
      · exact e
      · rcases List.mem_cons.mp m2 with e' | e'
        · exact e'.symm
        · exact codeS_inj (ha x (by simp)) (ha y m2) (Int.le_antisymm (h1.1 y e') (h2.1 x e))
    subst e
    rw [sortS_uniq (List.Perm.cons_inv h) (fun c hc => ha c (List.mem_cons_of_mem _ hc)) h1.2 h2.2]
def bSortS : VB := fun ds m Q => match ds with
  | [d] => ∃ cs : List (Int × Str), asL m d = some (cs.map pD) ∧ (∀ c ∈ cs, DLS.abS c.2) ∧ Q (.lst ((sortS cs).map pD))
  | _ => False
theorem dn_pairs {K : PySem.W.Frag} {G H : Hp} (ex : Ex G H) : ∀ {cs : List (Int × Str)} {xs : List V}, DnAll K G (cs.map pD) xs → ∃ L : List (V × (Int × Str)), xs = L.map Prod.fst ∧ cs = L.map Prod.snd ∧ ∀ x ∈ L, Dn K G (pD x.2) x.1 ∧ ∃ t, x.1 = V.ref t ∧ SqT K H t [.int x.2.1, .str x.2.2]
  | [], _, h => by cases h; exact ⟨[], rfl, rfl, fun _ h => nomatch h⟩
  | c :: cs, _, h => by
    cases h with
    | cons h1 h2 =>
      obtain ⟨L, rfl, rfl, ih⟩ := dn_pairs ex h2
      rename_i v
      have h0 := h1
      unfold pD at h1
      cases h1 with
      | tup k1 k2 =>
        obtain ⟨v1, v2, rfl, r1, r2⟩ := k2.two
        cases r1
        cases r2
        refine ⟨(_, c) :: L, rfl, rfl, fun x hx => ?_⟩
        rcases List.mem_cons.mp hx with rfl | hx
        · exact ⟨h0, _, rfl, Evl.ex_t ex k1⟩
        · exact ih x hx
theorem DnAll.of_pairs {K : PySem.W.Frag} {G : Hp} : ∀ {L : List (V × (Int × Str))}, (∀ x ∈ L, Dn K G (pD x.2) x.1) → DnAll K G ((L.map Prod.snd).map pD) (L.map Prod.fst)
  | [], _ => .nil
  | x :: L, h => .cons (h x (by simp)) (DnAll.of_pairs fun y hy => h y (List.mem_cons_of_mem _ hy))
theorem ub_sortedS {X : Cx} : UB X (.builtin "sorted") bSortS := callw cr_sortedPS fun vs H Q h => by
  obtain ⟨G, m, ds, P, s, r, t, k⟩ := h
  unfold bSortS at t
  split at t
  · obtain ⟨cs, h1, hab, h2⟩ := t
    obtain ⟨v, rfl, r1⟩ := r.one
    obtain ⟨a, xs, rfl, h3, h4⟩ := s.asL r1 h1
    obtain ⟨L, rfl, rfl, hx⟩ := dn_pairs s.ex h4
    refine ⟨a, L, rfl, h3, fun x m => ?_, fun L' p pm srt hn => ?_⟩
    · obtain ⟨_, t, e, ht⟩ := hx x m
      exact ⟨t, e, ht, hab _ (List.mem_map_of_mem m)⟩
    · have so : (L'.map Prod.snd).Pairwise fun c d => codeS c ≤ codeS d := by
        refine List.pairwise_map.mpr (srt.imp_of_mem fun {x y} hx1 hy1 z => ?_)
        have b1 := hab x.2 (List.mem_map_of_mem (pm.mem_iff.mp hx1))
        have b2 := hab y.2 (List.mem_map_of_mem (pm.mem_iff.mp hy1))
        have r1 : DLS.rkS (Str.ofString "a") = 0 := by decide +kernel
        have r2 : DLS.rkS (Str.ofString "b") = 1 := by decide +kernel
        unfold codeS
        rcases b1 with b1 | b1 <;> rcases b2 with b2 | b2 <;> rw [b1, b2] at z ⊢ <;> simp only [r1, r2] at z ⊢ <;> omega
      have pm2 := pm.map (Prod.snd : V × (Int × Str) → Int × Str)
      have e : L'.map Prod.snd = sortS (L.map Prod.snd) := sortS_uniq (pm2.trans (sortS_perm _).symm) (fun c hc => hab c (pm2.mem_iff.mp hc)) so (sortS_sorted _)
      have dn : DnAll X.K G ((sortS (L.map Prod.snd)).map pD) (L'.map Prod.fst) := by
        rw [← e]
        exact DnAll.of_pairs fun x hx1 => (hx x (pm.mem_iff.mp hx1)).1
      obtain ⟨e2, s'⟩ := s.newG hn (.lst (L'.map Prod.fst))
      exact k _ _ _ _ h2 e2 s' (.lst upd_same (dn.mono e2.ex))
  · exact t.elim
end DL

namespace DL
open PySem L2
open Evl (Ex)
/-! ### xs + ys, to be changed -/
inductive CatG (m : MH) (Q : List D → Prop) : D → D → Prop
  | mk {x y : D} {xs ys : List D} (e1 : asT m x = some xs) (e2 : asT m y = some ys) (l : xs.length + ys.length ≤ sizeLine) (q : Q (xs ++ ys)) : CatG m Q x y
def vCatM (ta tb : VE) : VE := fun ρ m Q => ta ρ m fun x m1 => tb ρ m1 fun y m2 => CatG m2 (fun es => ∀ p, m2 p = none → Q (.adr p) (mup m2 p (.lst es))) x y
theorem ue_catM {X : Cx} {B : Bs} {a b : Expr} {ta tb : VE} {pos : Pos} (ha : UE X B a ta) (hb : UE X B b tb) : UE X B (.BinOp a .Add b pos) (vCatM ta tb) :=
  ⟨(pe_op op_cat ha.pe hb.pe).weak fun σ H Q h => by
    obtain ⟨G, ρ, m, P, e0, s, t, k⟩ := h
    refine ⟨G, ρ, m, _, e0, s, t, fun x m1 G1 v1 H1 q1 e1 s1 r1 => ?_⟩
    refine ⟨G1, ρ, m1, _, e0.trans e1, ⟨s.fr.mono e1.ex, s1⟩, q1, fun y m2 G2 v2 H2 q2 e2 s2 r2 => ?_⟩
    cases q2 with
    | mk h1 h2 h3 h4 =>
      obtain ⟨a, us, rfl, ha, ra⟩ := s2.asT (r1.mono e2.ex) h1
      obtain ⟨b, vs, rfl, hb, rb⟩ := s2.asT r2 h2
      refine ⟨a, b, us, vs, rfl, rfl, ha, hb, by rw [← ra.length, ← rb.length]; exact h3, fun p hp => ?_⟩
      obtain ⟨e3, s3⟩ := s2.newM hp (o := .lst _) (ho := .lst (us ++ vs)) (.lst (ra.append rb))
      exact k _ _ _ _ _ (h4 p (s2.free hp).2) ((e1.trans e2).trans e3) s3 (.adr p)⟩
end DL

namespace DL
open PySem L2
open Evl (Ex)
/-! ### exceptions: raised, passed on, caught -/
/-- a wish about exceptions, by the frame -/
abbrev DXF := Frm → DX
def WshF (K : PySem.W.Frag) (B : Bs) (PXF : DXF) (W : WX) : Prop := ∀ ρ C ks ds m G σ H ox, PXF ρ C ks ds m → B.to G m H → Sta K G ρ σ m H → XR K G ks ds ox → W (.ref C) ox σ H
theorem Wsh.f {K : PySem.W.Frag} {B : Bs} {PX : DX} {E : XK} (h : Wsh K B PX E) : WshF K B (fun _ => PX) (fun cls d _ H => E cls d H) := fun _ C ks ds m G _ H ox p e s x => h C ks ds m G H ox p e s.ms x
/-- raise C('..'), a class of one's own without own __init__ -/
def vRaise (C : Addr) (PXF : DXF) : VS := fun _ ρ m => PXF ρ C [] [] m
theorem us_raise {X : Cx} {B : Bs} {W : WX} {PXF : DXF} {x mt : Str} {C : Addr} {bmB : List Value} {Bn newId initId : String} {j : Nat} {p p2 pos pos' : Pos} (hc : X.calm = true) (tk : L2N.Takes X W) (wh : WshF X.K B PXF W)
    (F : ExcBaseFacts Bn newId initId bmB) (q : PySem.W.excIn X.K C bmB newId = true) (gC : X.mg x = some (.ref C)) (kC : PySem.W.keepIn X.K (.ref C) = true) (r : Raises X (.ref C)) (hg : Gl X x)
    (hdb : (x == ("__debug__" : Str)) = false := by decide) : US X B (.Raise (some (.Call (.Name x p) [.Constant (.str mt) j p2] [] pos')) none pos) (vRaise C PXF) :=
  ⟨(L2N.ps_raise hc tk (L2N.pmk_own F q gC kC r hg hdb)).weak fun D σ H h => by
    obtain ⟨G, ρ, m, E, e0, s, t, _⟩ := h
    exact wh ρ C [] [] m G σ H none t e0 s (.inl ⟨rfl, rfl, rfl⟩)⟩
/-- a call within a try -/
def vCallX (n : Nat) (sp : VSp) (PXF : DXF) (va : VA) : VE := fun ρ m Q => va ρ m fun ds m1 => ds.length = n ∧ sp ds m1 Q (PXF ρ)
theorem ue_callX {X : Cx} {B : Bs} {W : WX} {PXF : DXF} {k n : Nat} {f : Addr} {fd : FuncData} {ps : List Str} {sp : VSp} {x : Str} {p pos : Pos} {e : Expr} {es : List Expr} {va : VA}
    (F : FnOk X.prog X.w X.K X.mg X.base (L2N.CX X.prog X.w) k f fd ps (lowSp X.K n sp)) (hr : Room k X.A) (hg : Gl X x) (hm : X.mg x = some (.ref f)) (hk : PySem.W.keepIn X.K (.ref f) = true) (hb : Binds X.K fd ps []) (tk : L2N.Takes X W) (wh : WshF X.K B PXF W)
    (ha : UA X B (e :: es) va) (hdb : (x == ("__debug__" : Str)) = false := by decide) (he : starEach (e :: es) X.env = (false, eval e X.env) :: starEach es X.env := by rfl) (hpl : (backTo pos (starEach es X.env)).any (·.1) = false := by rfl) :
    UE X B (.Call (.Name x p) (e :: es) [] pos) (vCallX n sp PXF va) :=
  ⟨(pe_callS (E := WE W) F hr hg hm hk hb (fun σ => L2N.passAt tk σ) ha.pa hdb he hpl).weak fun σ H Q h => by
    obtain ⟨G, ρ, m, P, e0, s, t, k⟩ := h
    refine ⟨G, ρ, m, _, e0, s, t, fun ds m1 G1 vs H1 q1 e1 s1 r1 => ?_⟩
    refine ⟨r1.length.symm.trans q1.1, G1, ds, m1, _, PXF ρ, s1, r1, q1.2, fun d m2 G2 v H2 q2 e2 => k d m2 G2 v H2 q2 (e1.trans e2), fun C ks es m2 G2 H2 ox p2 e2 s2 x2 => ?_⟩
    exact wh ρ C ks es m2 G2 σ H2 ox p2 ((e0.trans e1).trans e2) ⟨s.fr.mono (e1.trans e2).ex, s2⟩ x2⟩
theorem takes_no {X : Cx} : L2N.Takes X (fun _ _ _ _ => False) := fun _ _ ⟨_, _, _, _, _, _, _, _, _, _, _, _, _, _, _, _, w⟩ => w.elim
/-- try: body / except c as n: suite; what the body may raise is of the class C0, without attributes -/
def vTry1 (i : Nat) (C0 : Addr) (tb : DXF → VS) (ts : Addr → VS) : VS := fun E ρ m => tb (fun ρ' C ks _ m' => C = C0 ∧ ks = [] ∧ ∀ a, m' a = none →
  ts a { nx := fun ρ2 m2 => E.nx (fwipe.fdel ρ2 i) m2, rt := E.rt, bk := fun ρ2 m2 => E.bk (fwipe.fdel ρ2 i) m2, ct := fun ρ2 m2 => E.ct (fwipe.fdel ρ2 i) m2 } (fset ρ' i (.adr a)) m') E ρ m
theorem us_try1 {X : Cx} {B : Bs} {i : Nat} {x n : Str} {c : Value} {C0 : Addr} {body suite : List Stmt} {b₀ : Stmt} {np pos pos' : Pos} {tb : DXF → VS} {ts : Addr → VS}
    (hs : X.stack = X.env :: X.outer) (hf : X.env.frame = some X.env.locals) (hN : X.N.Nodup) (hi : X.N[i]? = some n) (hln : X.env.kindOf n = some .local) (hc : Names X x c) (hm : PySem.W.exmOne X.K (.ref C0) c = some true)
    (hb : ∀ (B : Bs) (PXF : DXF) (W : WX) (pn : List (Addr × Obj)) (xe : Value → Shared → Prop), L2N.Takes (X.tr pn xe) W → WshF X.K B PXF W → USs (X.tr pn xe) B body (tb PXF))
    (hsu : ∀ (B : Bs) (a : Addr) (oe : Obj) (pn : List (Addr × Obj)), Zc (.ref C0) none oe → (∃ vs, oe.data = .fields vs) → USs (X.suite a ((a, oe) :: pn)) B (b₀ :: suite) (ts a)) :
    US X B (.Try body [.ExceptHandler (some (.Name x np)) (some n) (b₀ :: suite) pos'] [] [] pos) (vTry1 i C0 tb ts) :=
  ⟨PS.weak (L2N.ps_try_as (Wout := fun _ _ _ _ => False) (tb := fun W D σ H => ∃ (B : Bs) (PXF : DXF), WshF X.K B PXF W ∧ lowS X.K B (tb PXF) D σ H)
      (ts := fun a cls d D σ H => cls = .ref C0 ∧ d = none ∧ ∃ B : Bs, lowS X.K B (ts a) D σ H) hs hf hN hi hln hc takes_no
      (fun W pn xe tk _ => ⟨fun pins s σ H D I h => by
        obtain ⟨B, PXF, wh, h⟩ := h
        exact (hb B PXF W pn xe tk wh).ps.run pins s σ H D I h⟩)
      (fun a oe cls d pn hz hv => ⟨fun pins s σ H D I h => by
        obtain ⟨rfl, rfl, B, h⟩ := h
        exact (hsu B a oe pn hz.zc hv).ps.run pins s σ H D I h⟩)) fun D σ H h => by
    obtain ⟨G, ρ, m, E, e0, s, t, k1, k2, k3, k4⟩ := h
    refine ⟨⟨G, m, H⟩, _, ?_, G, ρ, m, E, Stp.refl, s, t, k1, k2, k3, k4⟩
    rintro ρ' C ks ds m' G' σ' H' ox ⟨rfl, rfl, hts⟩ e1 s1 xr
    have e1 : Stp G m H G' m' H' := e1
    have hox : ox = none := by
      rcases xr with ⟨_, _, z⟩ | ⟨_, _, z, _⟩
      · exact z
      · exact absurd rfl z
    refine ⟨true, hm, fun _ a ha => ⟨rfl, hox, ⟨G', m', H'⟩, G', fset ρ' i (.adr a), m', _, Stp.refl, ⟨s1.fr.set (.adr a) i, s1.ms⟩, hts a (s1.ms.free ha).2, ?_, ?_, ?_, ?_⟩, fun z => nomatch z⟩
    · intro ρ2 m2 G2 σ2 H2 q e2 s2
      exact k1 _ m2 G2 _ H2 q (e1.trans e2) ⟨FrR.del i none s2.fr, s2.ms⟩
    · intro d m2 G2 v H2 q e2 s2 r2
      exact k2 d m2 G2 v H2 q (e1.trans e2) s2 r2
    · intro ρ2 m2 G2 σ2 H2 q e2 s2
      exact k3 _ m2 G2 _ H2 q (e1.trans e2) ⟨FrR.del i none s2.fr, s2.ms⟩
    · intro ρ2 m2 G2 σ2 H2 q e2 s2
      exact k4 _ m2 G2 _ H2 q (e1.trans e2) ⟨FrR.del i none s2.fr, s2.ms⟩⟩
/-- isinstance(e, C), e what the suite holds -/
def bIsE (a C : Addr) (b : Bool) : VB := fun ds _ Q => ds = [.adr a, .adr C] ∧ Q (.bl b)
theorem ub_isE {X : Cx} {a D C : Addr} {b : Bool} {oe : Obj} {pn : List (Addr × Obj)} (hC : ExcC X.K D) (hz : Zc (.ref D) none oe) (hf : ∃ vs, oe.data = .fields vs) (hk : PySem.W.kitOne X.K (.ref D) (.ref C) = some b) :
    UB (X.suite a ((a, oe) :: pn)) (.builtin "isinstance") (bIsE a C b) := callw (call_isE hC hz hf) fun vs H Q h => by
  obtain ⟨G, m, ds, P, s, r, ⟨rfl, t⟩, k⟩ := h
  obtain ⟨v1, v2, rfl, r1, r2⟩ := r.two
  cases r1
  cases r2
  exact ⟨_, .ref C, b, rfl, fun u hu => hu, hk, k _ G _ H t Stp.refl s (.bl b)⟩
/-- a class, named -/
theorem ue_cls {X : Cx} {B : Bs} {x : Str} {C : Addr} {pos : Pos} (hg : Gl X x) (hm : X.mg x = some (.ref C)) (hdb : (x == ("__debug__" : Str)) = false := by decide) : UE X B (.Name x pos) (vC (.adr C)) :=
  ue_glob hg hm (v := .ref C) rfl (fun _ => .adr C) hdb
end DL

namespace DLE
open PySem L2 PySem.Spec PyProof.Rows
/-! ### try .. except C as n .. else -/
section
variable {X : Cx} {W0 : WX} {i : Nat} {x n : Str} {c : Value} {body suite rest : List Stmt} {b0 : Stmt} {q1 q2 q3 : Pos} {tb : WX → TS} {ts : Addr → Value → Option Addr → TS} {u : TS}
/-- what happens to an exception that came out of the body -/
theorem caught (st : X.stack = X.env :: X.outer) (fr : X.env.frame = some X.env.locals) (nd : X.N.Nodup) (ni : X.N[i]? = some n) (kn : X.env.kindOf n = some .local) (nc : Names X x c) (tk : L2N.Takes X W0)
    (hsu : ∀ (a : Addr) (oe : Obj) (cls : Value) (d : Option Addr) (pn : List (Addr × Obj)), L2N.Zn cls d oe → (∃ vs, oe.data = .fields vs) → PSs (X.suite a ((a, oe) :: pn)) (b0 :: suite) (ts a cls d))
    (ok : X.Ok) {pins : List (Addr × Obj)} {D : Ends} {xe : Value → Shared → Prop} {v : Value} {s' : Shared} (y : L2N.XE (X.tr (X.pn ++ pins) xe) (wAs X.K c i ts W0 D) v s') :
    wpAny (model X.prog X.w) X.A (noteFrame v X.env) (fun _ s2 => wpAny (model X.prog X.w) X.A (setFlight v none) (fun _ s3 => wpAny (model X.prog X.w) X.A (handleBy v X.env [.ExceptHandler (some (.Name x q1)) (some n) (b0 :: suite) q2]) (SP X pins D) X.xe s3) X.xe s2) X.xe s' := by
  have lo : Loc X.env.scope n := .inl kn
  obtain ⟨a, B, t, pins', τ, G, cl, d, rfl, K', below, up1, fly, none_a, osEq, gens, way, exm, way1, way0⟩ := y
  have K : Inv X pins τ G t := K'.ofTry ok
  refine L2N.Sky.land (env := X.env) (outer := X.outer) (L := X.env.locals) L2N.Zn.steady (by rw [ok.frames, st]) fr (by rw [← st]; exact fly) fun g held up2 => ?_
  have K2 : Inv X pins τ G { s' with heap := g } := K.landed below held.1 (up1.trans up2) osEq gens
  obtain ⟨oa, fa, ga, za, da⟩ := held.there
  have off : ∀ {o : Obj} {fs : Array Value}, g.get? a = some o → o.data = .fields fs → a ∉ frs (X.env :: X.outer) := fun e1 e2 m => by
    obtain ⟨_, _, e3, no⟩ := held.2.2.1.mem m
    rw [e1] at e3; cases e3
    exact no _ e2
  have out := off ga da
  have aL : a ≠ X.env.locals := fun e => out (List.mem_filterMap.mpr ⟨X.env, List.mem_cons_self, fr.trans (congrArg some e.symm)⟩)
  have aF : a ∉ X.fs := fun m => by
    obtain ⟨en, hen, e⟩ := List.mem_filterMap.mp m
    exact out (List.mem_filterMap.mpr ⟨en, List.mem_cons_of_mem _ hen, e⟩)
  have S := K2.suite ga da none_a aL aF
  have kind : PySem.W.Looks (model X.prog X.w) g (typeOf (.ref a)) cl := fun _ _ _ z k e => wpAny_typeOf_ref (k _ _ ga) (by rw [za.1]; exact e)
  refine wpAny_handleBy_cons (codeAny_handlers_test ?_) (fun e => nomatch e)
  have name : ∀ {Q : Value → Shared → Prop} {E : Value → Shared → Prop}, Q c { s' with heap := g } → wpAny (model X.prog X.w) (X.A.mark (some (.ref a))) (eval (.Name x q1) X.env) Q E { s' with heap := g } := fun {Q E} e => by
    rcases nc with ⟨k1, k2, k3 | ⟨k3, k4, k5⟩⟩
    · exact ld_glob (X := X.suite a ((a, oa) :: (X.pn ++ pins))) S k1 k3 e k2
    · exact ld_blt (X := X.suite a ((a, oa) :: (X.pn ++ pins))) S k1 k3 k4 e k5 k2
  refine name ((PySem.W.exm_one (M := model X.prog X.w) K2.kIn kind exm).here ?_)
  cases way with
  | false =>
    show wpAny _ X.A (handleBy (.ref a) X.env []) _ _ _
    refine wpAny_handleBy_nil ?_
    have held2 := held
    obtain ⟨_, _, _, o2, v2, T, _, _, g2, _, d2, f2, _⟩ := held
    unfold PySem.passOn
    refine wpAny_bind (wpAny_field g2 d2 f2 ?_)
    rw [if_neg (by simp)]
    have go : wpAny (model X.prog X.w) X.A (setFlight (.ref a) X.env.frame) (fun _ z => wpAny (model X.prog X.w) X.A (throw (.ref a) : Sem Flow) (SP X pins D) X.xe z) X.xe { s' with heap := g } := by
      rw [fr]
      refine HandSPX.setFlight_upZ held2 fun g3 hg3 up3 => wpAny_throw (tk _ _ ?_)
      exact ⟨a, B, t, pins, τ, G, cl, d, rfl, K, below, (up1.trans up2).trans up3, .inr (.inr (by rw [st]; exact hg3)), none_a, osEq, gens, way0 rfl⟩
    first | exact wpAny_bind go | exact wpAny_bind (wpAny_pure (wpAny_bind go))
  | true =>
    refine codeAny_handlers_suite_as (HandSPX.lands_againZ held fun g4 held4 up4 => ?_)
    have K4 : Inv X pins τ G { s' with heap := g4 } := K.landed below held4.1 ((up1.trans up2).trans up4) osEq gens
    obtain ⟨o4, f4, e4, z4, d4⟩ := held4.there
    have S4 := K4.suite e4 d4 none_a aL aF
    refine store_ok (X := X.suite a ((a, o4) :: (X.pn ++ pins))) (v := .ref a) S4 nd ni lo rfl (fun z5 S5 => ?_) (.inr kn)
    refine wpAny_mono ((hsu a o4 cl d (X.pn ++ pins) z4 ⟨_, d4⟩).run [] z5 _ G _ S5 (way1 rfl a none_a)) (fun fl z6 done => ?_) (fun _ _ no => no.elim)
    have drop : ∀ {τ6 : L2.St} {G6 : Hp} {Q : Shared → Prop}, Inv (X.suite a ((a, o4) :: (X.pn ++ pins))) [] τ6 G6 z6 → (∀ z7, Inv X pins (τ6.set i none) G6 z7 → Q z7) → wpAny (model X.prog X.w) X.A (do bindName X.env n .none; unbindBehindTheSuite X.env n q2) (fun _ z7 => Q z7) X.xe z6 :=
      fun S6 k => gone_ok (S6.unsuite ok) nd ni kn k
    cases fl with
    | ret r =>
      obtain ⟨w, τ6, G6, S6, rr, k6⟩ := done
      exact drop S6 fun z7 K7 => ⟨_, _, _, K7, rr, k6⟩
    | _ =>
      obtain ⟨τ6, G6, S6, k6⟩ := done
      exact drop S6 fun z7 K7 => ⟨_, _, K7, k6⟩
theorem ps_asE (el : PSs X rest u) (st : X.stack = X.env :: X.outer) (fr : X.env.frame = some X.env.locals) (nd : X.N.Nodup) (ni : X.N[i]? = some n) (kn : X.env.kindOf n = some .local) (nc : Names X x c) (tk : L2N.Takes X W0)
    (hb : ∀ (W : WX) (pn : List (Addr × Obj)) (xe : Value → Shared → Prop), L2N.Takes (X.tr pn xe) W → PassesOwn (model X.prog X.w) X.A X.env xe → PSs (X.tr pn xe) body (tb W))
    (hsu : ∀ (a : Addr) (oe : Obj) (cls : Value) (d : Option Addr) (pn : List (Addr × Obj)), L2N.Zn cls d oe → (∃ vs, oe.data = .fields vs) → PSs (X.suite a ((a, oe) :: pn)) (b0 :: suite) (ts a cls d)) :
    PS X (.Try body [.ExceptHandler (some (.Name x q1)) (some n) (b0 :: suite) q2] rest [] q3) (fun D σ H => tb (wAs X.K c i ts W0 D) { D with nx := u D } σ H) := ⟨fun pins s σ H D I h => by
  have ok := I.ok
  refine wpAny_Try_except (wpAny_mono ((hb (wAs X.K c i ts W0 D) (X.pn ++ pins) _ (fun v s' y => caught st fr nd ni kn nc tk hsu ok y) PassesOwn.looking).run [] s σ H { D with nx := u D } (I.toTry _) h) (fun fl s1 p => ?_) (fun _ _ z => z))
  cases fl with
  | next =>
    obtain ⟨τ, G, J, q⟩ := p
    exact el.run pins s1 τ G D (J.ofTry ok) q
  | ret w =>
    obtain ⟨v, τ, G, J, r, q⟩ := p
    exact ⟨v, τ, G, J.ofTry ok, r, q⟩
  | _ =>
    obtain ⟨τ, G, J, q⟩ := p
    exact ⟨τ, G, J.ofTry ok, q⟩⟩
end
end DLE
namespace DL
open PySem L2
open Evl (Ex)
/-- try: body / except c as n: suite / else: rest; what the body may raise is of the class C0, without attributes -/
def vTry1E (i : Nat) (C0 : Addr) (tb : DXF → VS) (ts : Addr → VS) (te : VS) : VS := fun E ρ m => tb (fun ρ' C ks _ m' => C = C0 ∧ ks = [] ∧ ∀ a, m' a = none →
  ts a { nx := fun ρ2 m2 => E.nx (fwipe.fdel ρ2 i) m2, rt := E.rt, bk := fun ρ2 m2 => E.bk (fwipe.fdel ρ2 i) m2, ct := fun ρ2 m2 => E.ct (fwipe.fdel ρ2 i) m2 } (fset ρ' i (.adr a)) m') { E with nx := fun ρ' m' => te E ρ' m' } ρ m
theorem us_try1E {X : Cx} {B : Bs} {i : Nat} {x n : Str} {c : Value} {C0 : Addr} {body suite rest : List Stmt} {b₀ : Stmt} {np pos pos' : Pos} {tb : DXF → VS} {ts : Addr → VS} {te : VS}
    (hs : X.stack = X.env :: X.outer) (hf : X.env.frame = some X.env.locals) (hN : X.N.Nodup) (hi : X.N[i]? = some n) (hln : X.env.kindOf n = some .local) (hc : Names X x c) (hm : PySem.W.exmOne X.K (.ref C0) c = some true)
    (hb : ∀ (B : Bs) (PXF : DXF) (W : WX) (pn : List (Addr × Obj)) (xe : Value → Shared → Prop), L2N.Takes (X.tr pn xe) W → WshF X.K B PXF W → USs (X.tr pn xe) B body (tb PXF))
    (hsu : ∀ (B : Bs) (a : Addr) (oe : Obj) (pn : List (Addr × Obj)), Zc (.ref C0) none oe → (∃ vs, oe.data = .fields vs) → USs (X.suite a ((a, oe) :: pn)) B (b₀ :: suite) (ts a))
    (hel : ∀ B : Bs, USs X B rest te) :
    US X B (.Try body [.ExceptHandler (some (.Name x np)) (some n) (b₀ :: suite) pos'] rest [] pos) (vTry1E i C0 tb ts te) :=
  ⟨PS.weak (DLE.ps_asE (W0 := fun _ _ _ _ => False) (tb := fun W D σ H => ∃ (B : Bs) (PXF : DXF), WshF X.K B PXF W ∧ lowS X.K B (tb PXF) D σ H)
      (ts := fun a cls d D σ H => cls = .ref C0 ∧ d = none ∧ ∃ B : Bs, lowS X.K B (ts a) D σ H) (u := fun D σ H => ∃ B : Bs, lowS X.K B te D σ H)
      ⟨fun pins s σ H D I h => by
        obtain ⟨B, h⟩ := h
        exact (hel B).ps.run pins s σ H D I h⟩ hs hf hN hi hln hc takes_no
      (fun W pn xe tk _ => ⟨fun pins s σ H D I h => by
        obtain ⟨B, PXF, wh, h⟩ := h
        exact (hb B PXF W pn xe tk wh).ps.run pins s σ H D I h⟩)
      (fun a oe cls d pn hz hv => ⟨fun pins s σ H D I h => by
        obtain ⟨rfl, rfl, B, h⟩ := h
        exact (hsu B a oe pn hz.zc hv).ps.run pins s σ H D I h⟩)) fun D σ H h => by
    obtain ⟨G, ρ, m, E, e0, s, t, k1, k2, k3, k4⟩ := h
    refine ⟨⟨G, m, H⟩, _, ?_, G, ρ, m, _, Stp.refl, s, t, fun ρ2 m2 G2 σ2 H2 q e2 s2 => ⟨⟨G2, m2, H2⟩, G2, ρ2, m2, E, Stp.refl, s2, q, fun ρ3 m3 G3 σ3 H3 q3 e3 => k1 ρ3 m3 G3 σ3 H3 q3 (e2.trans e3), fun d m3 G3 v H3 q3 e3 => k2 d m3 G3 v H3 q3 (e2.trans e3), fun ρ3 m3 G3 σ3 H3 q3 e3 => k3 ρ3 m3 G3 σ3 H3 q3 (e2.trans e3), fun ρ3 m3 G3 σ3 H3 q3 e3 => k4 ρ3 m3 G3 σ3 H3 q3 (e2.trans e3)⟩, k2, k3, k4⟩
    rintro ρ' C ks ds m' G' σ' H' ox ⟨rfl, rfl, hts⟩ e1 s1 xr
    have e1 : Stp G m H G' m' H' := e1
    have hox : ox = none := by
      rcases xr with ⟨_, _, z⟩ | ⟨_, _, z, _⟩
      · exact z
      · exact absurd rfl z
    refine ⟨true, hm, fun _ a ha => ⟨rfl, hox, ⟨G', m', H'⟩, G', fset ρ' i (.adr a), m', _, Stp.refl, ⟨s1.fr.set (.adr a) i, s1.ms⟩, hts a (s1.ms.free ha).2, ?_, ?_, ?_, ?_⟩, fun z => nomatch z⟩
    · intro ρ2 m2 G2 σ2 H2 q e2 s2
      exact k1 _ m2 G2 _ H2 q (e1.trans e2) ⟨FrR.del i none s2.fr, s2.ms⟩
    · intro d m2 G2 v H2 q e2 s2 r2
      exact k2 d m2 G2 v H2 q (e1.trans e2) s2 r2
    · intro ρ2 m2 G2 σ2 H2 q e2 s2
      exact k3 _ m2 G2 _ H2 q (e1.trans e2) ⟨FrR.del i none s2.fr, s2.ms⟩
    · intro ρ2 m2 G2 σ2 H2 q e2 s2
      exact k4 _ m2 G2 _ H2 q (e1.trans e2) ⟨FrR.del i none s2.fr, s2.ms⟩⟩
end DL

namespace DL
open PySem L2
open Evl (Ex)
theorem u64s {X : Cx} {k : Nat} {a : Addr} {pn : List (Addr × Obj)} (hr : Room k X.A) : (X.suite a pn).A.units + 64 < cLine := by
  have h := u64 hr
  exact h
theorem u65s {X : Cx} {k : Nat} {a : Addr} {pn : List (Addr × Obj)} (hr : Room k X.A) : (X.suite a pn).A.units + 65 < cLine := by
  have h := u65 hr
  exact h
/-! ### abs -/
theorem bt_abs : bootBuiltins "abs" = some (.builtin "abs") := by decide +kernel
def absI (i : Int) : Int := if i < 0 then -i else i
def bAbs : VB := fun ds _ Q => match ds with
  | [.int i] => Q (.int (absI i))
  | _ => False
theorem ub_abs {X : Cx} : UB X (.builtin "abs") bAbs := callw call_abs fun vs H Q h => by
  obtain ⟨G, m, ds, P, s, r, t, k⟩ := h
  unfold bAbs at t
  split at t
  · obtain ⟨v, e, r⟩ := r.one
    cases r
    exact ⟨_, e, k _ G _ H t Stp.refl s (.int _)⟩
  · exact t.elim
theorem absI_nn (i : Int) : 0 ≤ absI i := by unfold absI; split <;> omega
/-! ### xs[::-1] -/
theorem DnAll.reverse {K : PySem.W.Frag} {G : Hp} : ∀ {ds : List D} {vs : List V}, DnAll K G ds vs → DnAll K G ds.reverse vs.reverse
  | _, _, .nil => .nil
  | _, _, .cons h hs => by
    rw [List.reverse_cons, List.reverse_cons]
    exact (DnAll.reverse hs).append (.cons h .nil)
def vRev (te : VE) : VE := fun ρ m Q => te ρ m fun d m1 => ∃ ds, asL m1 d = some ds ∧ Q (.lst ds.reverse) m1
theorem ue_rev {X : Cx} {B : Bs} {e : Expr} {te : VE} {k : Nat} {p1 p2 p3 pos : Pos} (he : UE X B e te) : UE X B (.Subscript e (.Slice none none (some (.UnaryOp .USub (.Constant (.int 1) k p1) p2)) p3) pos) (vRev te) :=
  ⟨(pe_revL he.pe).weak fun σ H Q h => by
    obtain ⟨G, ρ, m, P, e0, s, t, kk⟩ := h
    refine ⟨G, ρ, m, _, e0, s, t, fun d m1 G1 v1 H1 q1 e1 s1 r1 => ?_⟩
    obtain ⟨ds, h1, h2⟩ := q1
    obtain ⟨a, xs, rfl, h3, h4⟩ := s1.asL r1 h1
    refine ⟨a, xs, rfl, h3, fun p hp => ?_⟩
    obtain ⟨e2, s2⟩ := s1.newG hp (.lst xs.reverse)
    exact kk _ m1 _ _ _ h2 (e1.trans e2) s2 (.lst upd_same (h4.reverse.mono e2.ex))⟩
end DL

/-! ### exceptions whose __init__ says super().__init__("..") and keeps one attribute -/
namespace DLX
open PySem L2 PySem.Spec PyProof.Rows PySem.Calls PySem.W
structure SupS (scope : Scope) (pn : Str) : Prop where
  kind : scope.kind = .function
  co : scope.isCoroutine = false
  gen : scope.isGenerator = false
  ne : pn ≠ "self"
  me : scope.names.lookup ("self" : Str) = some .local
  par : scope.names.lookup pn = some .local
  sup : scope.names.lookup ("super" : Str) = some .globalImplicit
  cls : scope.names.lookup ("__class__" : Str) = some .free
  nocell : ∀ x ∈ scope.names, x.2 ≠ .cell
  nd : (pn == ("__debug__" : Str)) = false
  ncd : (pn == ("__classdict__" : Str)) = false
  free : ∀ x ∈ scope.names, x.2 = .free → x.1 = "__class__"
section
variable {CX : CXT} {P : Program} {w : World} {K : PySem.W.Frag} {mg : Str → Option Value} {base : Heap} {qual : Str} {scope : Scope} {f cc C : Addr} {cd : Value} {A : Around} {outer : List Env} {s : Shared} {H : Hp} {E : XK} {pn : Str}
def cxS (CX : CXT) (P : Program) (w : World) (K : PySem.W.Frag) (mg : Str → Option Value) (base : Heap) (qual : Str) (scope : Scope) (pn : Str) (f cc : Addr) (cd : Value) (A : Around) (outer : List Env) (s : Shared) (H : Hp) (E : XK) (cm : Bool) : Cx where
  prog := P
  w := w
  K := K
  mg := mg
  base := base
  A := A.deeper (ksEnv qual scope s.heap.objs.size f cd cc)
  N := ["self", pn]
  s_0 := s
  H_0 := H
  env := ksEnv qual scope s.heap.objs.size f cd cc
  outer := outer
  stack := ksEnv qual scope s.heap.objs.size f cd cc :: outer
  ex := []
  calm := cm
  fn := fun y => !(y == ("__class__" : Str))
  pn := []
  xe := fun e s' => wpAny (model P w) (A.deeper (ksEnv qual scope s.heap.objs.size f cd cc)) (leaving (ksEnv qual scope s.heap.objs.size f cd cc) e) (fun _ s'' => CX outer H s E e s'') (fun e' s'' => CX outer H s E e' s'') s'
theorem cell1 {x : Str} {c cc : Addr} (h : ([("__class__", cc)] : List (Str × Addr)).lookup x = some c) : x = "__class__" ∧ c = cc := by
  rw [List.lookup_cons] at h
  by_cases e : (x == "__class__") = true
  · rw [e] at h
    exact ⟨eq_of_beq e, (Option.some.inj h).symm⟩
  · rw [Bool.not_eq_true] at e
    rw [e] at h
    cases h
theorem inv_super {cm : Bool} (S : SupS scope pn) (hd : cm = true → A.handled = none) (e0 : Env0 P w K mg base A outer s H) {v0 v1 : V} {u0 u1 : Value} (r0 : RelV v0 u0) (r1 : RelV v1 u1) {h1 : Heap} {t : Nat} {cl : Value} {cld : Option Addr} {csl : Array (Option Value)}
    (hns : h1.Ns s.heap.objs.size (fun x => ((["self", pn] : List Str).zip [u0, u1]).reverse.lookup x)) (kk : ∀ b o, s.heap.get? b = some o → h1.get? b = some o) (hc : K.lookup cc = some ⟨cl, cld, .cell (some (.ref C)), csl⟩) :
    Inv (cxS CX P w K mg base qual scope pn f cc cd A outer s H E cm) [] [some v0, some v1] H { s with heap := h1, toks := t } := by
  have noA : ∀ b : Addr, b ∉ (cxS CX P w K mg base qual scope pn f cc cd A outer s H E cm).ex := fun b z => absurd (show b ∈ ([] : List Addr) from z) (by simp)
  have cb := e0.mod.kin _ _ hc
  have cs := (e0.bs _ _ cb).1
  refine ⟨⟨e0.mod, S.kind, rfl, rfl, Nat.le_refl _, fun y z c h1 h2 => ?_, fun y hy => ?_, fun y c hf h => ?_, hd, Around.frames_deeper e0.frames, .inr ⟨rfl, rfl⟩, fun b z => absurd z (noA b), e0.bs, e0.bsz, fun b _ _ => noA b, fun b z => absurd z (noA b), e0.funs, e0.frf⟩,
    rfl, e0.bare, Un.kept kk, ⟨_, hns, fun i y v h1 h2 h3 => ?_⟩, fun y c h => ?_, e0.hok.fresh (Nat.le_refl _), fun y c h => ?_, fun p hp => absurd (show p ∈ ([] : List (Addr × Obj)) from hp) (by simp), e0.hok.kept kk, rfl⟩
  · rw [(cell1 h1).1, (cell1 h2).1]
  · have hy : scope.names.lookup y = some .cell ∨ scope.names.lookup y = some .free := hy
    rcases hy with hy | hy
    · exact absurd rfl (S.nocell _ (PySem.mem_of_lookup hy))
    · have := S.free _ (PySem.mem_of_lookup hy) rfl
      have this : y = "__class__" := this
      subst this
      exact ⟨cc, List.lookup_cons_self⟩
  · have := (cell1 h).1
    subst this
    exact absurd (show (!(("__class__" : Str) == ("__class__" : Str))) = true from hf) (by decide)
  · have e2 : (["self", pn] : List Str)[i]? = some y := h1
    match i, e2, h2 with
    | 0, e2, h2 =>
      cases e2
      cases h2
      refine ⟨u0, r0, .inl ⟨S.me, ?_⟩⟩
      show List.lookup ("self" : Str) [(pn, u1), (("self" : Str), u0)] = some u0
      rw [List.lookup_cons, beq_eq_false_iff_ne.mpr (Ne.symm S.ne)]
      exact List.lookup_cons_self
    | 1, e2, h2 =>
      cases e2
      cases h2
      refine ⟨u1, r1, .inl ⟨S.par, ?_⟩⟩
      exact List.lookup_cons_self
    | i + 2, e2, _ => cases e2
  · rw [(cell1 h).2]
    exact ⟨_, _, kk _ _ cs, rfl⟩
  · rw [(cell1 h).2]
    exact (e0.bs _ _ cb).2
theorem mw_call {X : Cx} {pins : List (Addr × Obj)} {σ : L2.St} {H : Hp} {s : Shared} {u a C : Addr} {us : List Value} {Q : Value → Shared → Prop} {E : Value → Shared → Prop} (T : OexC X.K C) (I : L2.Inv X pins σ H s) (hu : s.heap.get? u = some (kxs_mw "ValueError.__init__" a)) (e : H a = some (exo a C none))
    (hl : us.length ≤ sizeLine) (h : ∀ s', L2.Inv X pins σ H s' → Q .none s') : wpAny (model X.prog X.w) X.A (call (.ref u) us) Q E s := by
  obtain ⟨n0, n1, n2, n3, bm, n5, n6, n7, n8, n9, m0, m1, m2, m3, m5, hC, hbm⟩ := T.cls
  obtain ⟨t1, ho⟩ := exo_at I.hok e
  have hCh := I.kIn _ _ hC
  obtain ⟨hp, g, d, t, os⟩ := s
  refine wpAny_call (codeAny_of_tree ?_)
  show wpAny _ X.A.in1 (callAny (.ref u) ⟨us, []⟩) _ _ _
  simp only [callAny]
  refine wpAny_bind (wpAny_load hu ?_)
  simp only [kxs_mw, show (Value.type "method-wrapper" == Value.type "method" || Value.type "method-wrapper" == Value.type "builtin_function_or_method" || Value.type "method-wrapper" == Value.type "method-wrapper") = true by decide, if_true]
  refine KFB.if_so (by decide) (wpAny_bind (check_bound_init PySem.F.excBase_ValueError.toExcCallFacts hCh ho rfl (wpAny_bind (wpAny_pure (wpAny_pure ?_)))))
  refine ⟨plainId_quiet PySem.F.excBase_ValueError.init.plain _, codeAny_builtin PySem.F.excBase_ValueError.initEntry (exc_init_tree (cls := .ref C) (t0 := t1) (dv := none) (c2 := .none) (c3 := .none) (b4 := .bool false) ho hl fun h' k hx _ => ?_)⟩
  have J := I.write (t' := t) (x := a) (e := a) (o := exo a C none) (by rw [e]; exact True.intro) (.inl rfl) k ⟨_, hx⟩ (exo_ok hx)
  rw [show upd H a (exo a C none) = H from funext fun b => by
    by_cases hb : b = a
    · rw [hb, upd_same, e]
    · rw [upd_ne hb]] at J
  exact h _ J
/-- the class's own facts for super() -/
structure SupF (P : Program) (K : PySem.W.Frag) (C f cc cda : Addr) (fd : FuncData) (scope : Scope) (qual pn atn : Str) : Prop where
  lk : ∃ oc od osl, K.lookup f = some ⟨oc, od, .func fd, osl⟩
  code : PySem.W.codeIn K (.ref cda) qual = true
  cell : ∃ cl cld csl, K.lookup cc = some ⟨cl, cld, .cell (some (.ref C)), csl⟩
  cobj : ∃ ccl cdd vs ccs file tf, K.lookup cda = some ⟨ccl, cdd, .fields vs, ccs⟩ ∧ vs[2]? = some (.str file tf) ∧ ((P.main.file : Str) == file) = true
  top : (P.main.scope.names.lookup ("super" : Str)).isSome = false
  opq : nsIn K cStatics "thirdparty.any" = some none
  sup : ks_superIn K C C "__init__" = some (some (.builtin "ValueError.__init__"))
  ve : subIn K (.ref C) (.type "ValueError") = some true
  isC : (clsIn K C).isSome = true
  self : mroIn K C (.ref C) = some true
  nat : findIn K (.ref C) atn = some none
  oex : OexC K C
abbrev supE (msg : Str) (j : Nat) (p0 p1 p2 p3 p4 : Pos) : Expr := .Call (.Attribute (.Call (.Name "super" p0) [] [] p1) "__init__" p2) [.Constant (.str msg) j p3] [] p4
abbrev supB (msg atn pn : Str) (j : Nat) (p0 p1 p2 p3 p4 p5 p6 p7 p8 p9 : Pos) : List Stmt := [.Expr (supE msg j p0 p1 p2 p3 p4) p5, .Assign [.Attribute (.Name "self" p6) atn p7] (.Name pn p8) p9]
/-- what the two statements are, read in the def's frame -/
structure SupE (env : Env) (msg atn pn : Str) (j : Nat) (p0 p1 p2 p3 p4 p5 p6 p7 p8 p9 : Pos) : Prop where
  call : ∃ pl, eval (supE msg j p0 p1 p2 p3 p4) env = (do
      let ov ← attributeBase (.Call (.Name "super" p0) [] [] p1) "__init__" env (eval (.Call (.Name "super" p0) [] [] p1) env)
      standAt p2.atName
      let (f, first) ← holding [ov] (getMethod ov "__init__" pl)
      callWith p4 f first (backTo p4 (starEach [.Constant (.str msg) j p3] env)) [])
  sw1 : swapsWith (supE msg j p0 p1 p2 p3 p4) none p5.line env = pure false
  star : starEach [.Constant (.str msg) j p3] env = (false, eval (.Constant (.str msg) j p3) env) :: starEach [] env
  sw2 : swapsWith (.Name pn p8) (some (.Attribute (.Name "self" p6) atn p7)) p9.line env = pure false
abbrev spSup (C : Addr) (atn : Str) : Sp := fun vs H Q _ => ∃ (a : Addr) (v : V), vs = [.ref a, v] ∧ H a = some (exo a C none) ∧ ∀ d, H d = none → d ≠ a → Q .non (upd (upd H d (exd d [(atn, v)])) a (exo a C (some d)))
theorem run_super {cm : Bool} {k : Nat} {nm : Str} {params : Arguments} {dV kV doc pm ct : Value} {an : Option Addr} {cda : Addr} {atn msg : Str} {j : Nat} {p0 p1 p2 p3 p4 p5 p6 p7 p8 p9 : Pos} (S : SupS scope pn)
    (hm : mg "super" = none) {ar : Arg} (hp : (params.posonlyargs ++ params.args).head? = some ar) (har : ar.arg = "self") (hE : ∀ L, SupE (ksEnv qual scope L f (.ref cda) cc) msg atn pn j p0 p1 p2 p3 p4 p5 p6 p7 p8 p9)
    (F : SupF P K C f cc cda (ksFn nm qual params (supB msg atn pn j p0 p1 p2 p3 p4 p5 p6 p7 p8 p9) scope dV kV doc pm an (.ref cda) ct cc) scope qual pn atn) :
    ∀ (A : Around) (outer : List Env) (s : Shared) (H : Hp) (args : Args) (us : List Value) (vs : List V) (Q : VK) (E : XK), L2H.RoomH (k + 1) A → (cm = true → A.handled = none) → Env0 P w K mg base A outer s H → BindsTo s (ksFn nm qual params (supB msg atn pn j p0 p1 p2 p3 p4 p5 p6 p7 p8 p9) scope dV kV doc pm an (.ref cda) ct cc) args ((["self", pn] : List Str).zip us) → Vals vs us → spSup C atn vs H Q E →
      codeAny (model P w) A (.call (.ref f) args) (CR CX outer P w H s Q E) s := by
  intro A outer s H args us vs Q E hr hcm e0 hb r hsp
  obtain ⟨a, v, rfl, ha, hq⟩ := hsp
  have KX : K.In s.heap := e0.mod.kin.keeps fun b o e => (e0.bs b o e).1
  have lim : s.heap.NoLimit := e0.mod.nolimit.keeps fun b o e => (e0.bs b o e).1
  obtain ⟨oc, od, osl, lk⟩ := F.lk
  obtain ⟨cl, cld, csl, lc⟩ := F.cell
  obtain ⟨ccl, cdd, vs, ccs, file, tf, lo, hvs, hfile⟩ := F.cobj
  obtain ⟨u1, rfl, r1⟩ : ∃ u1, us = [.ref a, u1] ∧ RelV v u1 := by
    cases r with
    | cons x y =>
      cases y with
      | cons x2 y2 =>
        cases y2
        cases x
        exact ⟨_, rfl, x2⟩
  refine ks_codeAny_call_defAt (body := supB msg atn pn j p0 p1 p2 p3 p4 p5 p6 p7 p8 p9) hr.depth (KX _ _ lk) rfl lim (codeRec_of KX F.code) rfl hb S.nocell (fun x hx => ?_) (fun h0 hns kk => ?_) S.co S.gen S.kind
  · obtain ⟨n, z⟩ := x
    have := (List.of_mem_zip hx).1
    simp only [List.mem_cons, List.not_mem_nil, or_false] at this
    rcases this with rfl | rfl
    · exact S.me
    · exact S.par
  have I : L2.Inv (cxS CX P w K mg base qual scope pn f cc (.ref cda) A outer s H E cm) [] [some (.ref a), some v] H { s with heap := h0, toks := s.toks + ((["self", pn] : List Str).zip [Value.ref a, u1]).length } := inv_super (cm := cm) S hcm e0 (v0 := .ref a) (u0 := .ref a) rfl r1 hns kk lc
  have keep : ∀ b o, base.get? b = some o → h0.get? b = some o := fun b o e => kk b o (e0.bs b o e).1
  obtain ⟨mb, nb, hb2⟩ := e0.mod.blt
  have k0 : K.In h0 := e0.mod.kin.keeps keep
  obtain ⟨nm', q', N', bs', bm', sn', sub', ab', col', dd', q0, q1, q2, q3, q5, lC, hbm⟩ := F.oex.cls
  obtain ⟨t1, hx⟩ := exo_at I.hok ha
  cases hcl : clsIn K C with
  | none =>
    have := F.isC
    rw [hcl] at this
    cases this
  | some cdC =>
  obtain ⟨⟨pl, hcall⟩, sw1, star, sw2⟩ := hE s.heap.objs.size
  refine ks_wpAt_execs_cons (ks_wpAt_Expr_any (ks_wpAt_MethodCall (pl := pl) ?_ hcall) I.quiet sw1)
  refine ks_wpAt_super_base (f := f) (cc := cda) S.sup S.cls (by decide) rfl (k0 _ _ lk) rfl hp rfl (k0 _ _ lo) rfl hvs hfile F.top ?_
  refine ks_loadName_global S.kind S.sup (loadGlobal_builtin (e0.mod.glob.keeps keep) hm (nb.keeps keep) ((hb2 _ (by decide +kernel)).trans (show bootBuiltins "super" = some (.type "super") by decide +kernel)) ⟨rfl, ?_⟩)
  refine wpAny_loadName_free S.kind S.cls List.lookup_cons_self ⟨_, k0 _ _ lc, rfl⟩ ?_
  refine wpAny_loadName_local (v := .ref a) S.kind (by rw [har]; exact S.me) hns (by rw [har]; show List.lookup ("self" : Str) [(pn, u1), (("self" : Str), Value.ref a)] = _; rw [List.lookup_cons, beq_eq_false_iff_ne.mpr (Ne.symm S.ne)]; exact List.lookup_cons_self) ?_
  refine ks_wpAny_isType_cls (k0 _ _ lC) rfl ⟨rfl, ?_⟩
  refine ks_wpAny_call_super (k0 _ _ lC) rfl hx rfl (fun c e => nomatch e) (looks_mroIn k0 F.self) (fun h1 e1 k1 => ?_)
  have kk1 : K.In h1 := fun b o e => k1 _ _ (k0 _ _ e)
  have hx1 := k1 _ _ hx
  have inst : InstAt h1 a ({ cls := .ref C, dict := none, data := .fields #[.ref t1, .none, .none, .none, .bool false, .none] } : Obj) C none := ⟨hx1, rfl, rfl, trivial⟩
  have hal := F.sup
  unfold ks_superIn at hal
  rw [hcl] at hal
  refine kxs_getMethod kxs_ValueError e1 (looks_opaque kk1 F.opq) (l₀ := cdC.mro) (fun A Q E s k q => wpAny_bind ((looks_clsIn kk1 hcl) A _ E s k (wpAny_pure q))) rfl kk1 hal (inst.type.andThen (looks_subIn kk1 F.ve)) (ks_ne kk1 inst hcl) (by decide) ?_
  -- the wrapper at u, called
  have up : ∀ b o, h1.get? b = some o → (h1.push (kxs_mw "ValueError.__init__" a)).get? b = some o := fun b o e => Heap.get?_push_of_some _ e
  have hu : (h1.push (kxs_mw "ValueError.__init__" a)).get? h1.objs.size = some (kxs_mw "ValueError.__init__" a) := Heap.get?_push_at rfl rfl
  have kk2 : ∀ b o, h0.get? b = some o → (h1.push (kxs_mw "ValueError.__init__" a)).get? b = some o := fun b o e => up b o (k1 b o e)
  have le1 : h0.objs.size ≤ h1.objs.size := Nat.le_of_lt (Heap.lt_size e1)
  have I2 := I.kept (t' := s.toks + ((["self", pn] : List Str).zip [Value.ref a, u1]).length + 1) kk2
  have I3 := I2.pins_of (pins' := [(h1.objs.size, kxs_mw "ValueError.__init__" a)]) fun p hp => by
    have hp := List.mem_singleton.mp hp
    subst hp
    exact ⟨hu, I.hok.fresh le1, fun e => absurd I.lt (by rw [← e]; exact Nat.not_lt.mpr le1), I.nofs le1, fun v z => nomatch z⟩
  refine kxs_callWith (u := h1.objs.size) (i := "ValueError.__init__") (x := a) ?_ ?_
  · show (backTo p4 (starEach [.Constant (.str msg) j p3] (ksEnv qual scope s.heap.objs.size f (.ref cda) cc))).any (·.1) = false
    rw [star]
    rfl
  show wpAny (model P w) (A.deeper (ksEnv qual scope s.heap.objs.size f (.ref cda) cc)) (evalArgs (.ref h1.objs.size) true (backTo p4 (starEach [.Constant (.str msg) j p3] (ksEnv qual scope s.heap.objs.size f (.ref cda) cc))) []) _ _ _
  rw [star]
  refine evalArgs_plain ?_
  have pa : PA (cxS CX P w K mg base qual scope pn f cc (.ref cda) A outer s H E cm) [.Constant (.str msg) j p3] _ := pa_cons pe_str pa_nil star
  have run := pa.run p4 _ _ _ _ (fun vs H1 => vs = [.str msg] ∧ H1 = H) I3 ⟨rfl, rfl⟩
  rw [show (cxS CX P w K mg base qual scope pn f cc (.ref cda) A outer s H E cm).env = ksEnv qual scope s.heap.objs.size f (.ref cda) cc from rfl, star] at run
  refine thn run fun us s2 ⟨vs2, H2, I4, r4, ev, eH⟩ => ?_
  subst ev
  rw [eH] at I4
  clear eH
  have hp4 := I4.pin (h1.objs.size, kxs_mw "ValueError.__init__" a) (List.mem_append_right _ (List.mem_singleton.mpr rfl))
  refine ⟨hp4.1, ?_⟩
  refine mw_call F.oex I4 hp4.1 ha (by show us.length ≤ sizeLine; rw [← r4.length]; show 1 ≤ sizeLine; decide) fun s3 I5 => ?_
  show PySem.wpAt _ _ _ _ _ _ _
  refine wpAt_of_wpAny ?_
  have hs : PS (cxS CX P w K mg base qual scope pn f cc (.ref cda) A outer s H E cm) (.Assign [.Attribute (.Name "self" p6) atn p7] (.Name pn p8) p9) _ := ps_ost (pe_var (i := 0) rfl (.inl S.me)) (pe_var (i := 1) rfl (.inl S.par) S.nd S.ncd) sw2
  have hss := pss_cons hs pss_nil
  have I6 : L2.Inv (cxS CX P w K mg base qual scope pn f cc (.ref cda) A outer s H E cm) [] [some (.ref a), some v] H s3 := I5.pins_of fun p hp => absurd hp List.not_mem_nil
  have run2 := hss.run [] s3 _ H { nx := fun _ H' => Q .non H', rt := fun _ _ => False, bk := fun _ _ => False, ct := fun _ _ => False } I6 ?_
  · refine wpAny_mono run2 (fun fl s4 h4 => ?_) (fun _ _ z => z)
    cases fl with
    | next =>
      obtain ⟨σ', H', J, q⟩ := h4
      exact ⟨.non, H', J.os, J.bare, J.base, J.hok, rfl, q⟩
    | ret u =>
      obtain ⟨_, _, _, _, _, z⟩ := h4
      exact z.elim
    | _ =>
      obtain ⟨_, _, _, z⟩ := h4
      exact z.elim
  · exact ⟨v, rfl, .ref a, rfl, a, C, rfl, F.oex, F.nat, .inl ⟨ha, fun d hd hne => hq d hd hne⟩⟩
theorem fn_super {k : Nat} {nm : Str} {params : Arguments} {dV kV doc pm ct : Value} {an : Option Addr} {cda : Addr} {atn msg : Str} {j : Nat} {p0 p1 p2 p3 p4 p5 p6 p7 p8 p9 : Pos} (S : SupS scope pn)
    (hm : mg "super" = none) {ar : Arg} (hp : (params.posonlyargs ++ params.args).head? = some ar) (har : ar.arg = "self") (hE : ∀ L, SupE (ksEnv qual scope L f (.ref cda) cc) msg atn pn j p0 p1 p2 p3 p4 p5 p6 p7 p8 p9)
    (F : SupF P K C f cc cda (ksFn nm qual params (supB msg atn pn j p0 p1 p2 p3 p4 p5 p6 p7 p8 p9) scope dV kV doc pm an (.ref cda) ct cc) scope qual pn atn) :
    FnOk P w K mg base CX (k + 1) f (ksFn nm qual params (supB msg atn pn j p0 p1 p2 p3 p4 p5 p6 p7 p8 p9) scope dV kV doc pm an (.ref cda) ct cc) ["self", pn] (spSup C atn) :=
  ⟨fun vs H Q E h => by
    obtain ⟨a, v, rfl, _⟩ := h
    rfl, fun A outer s H args us vs Q E hr e0 hb r hsp => run_super (cm := true) S hm hp har hE F A outer s H args us vs Q E ⟨hr.dp, hr.un⟩ (fun _ => hr.hd) e0 hb r hsp⟩
/-- the same while an exception is handled -/
theorem fn_superH {k : Nat} {nm : Str} {params : Arguments} {dV kV doc pm ct : Value} {an : Option Addr} {cda : Addr} {atn msg : Str} {j : Nat} {p0 p1 p2 p3 p4 p5 p6 p7 p8 p9 : Pos} (S : SupS scope pn)
    (hm : mg "super" = none) {ar : Arg} (hp : (params.posonlyargs ++ params.args).head? = some ar) (har : ar.arg = "self") (hE : ∀ L, SupE (ksEnv qual scope L f (.ref cda) cc) msg atn pn j p0 p1 p2 p3 p4 p5 p6 p7 p8 p9)
    (F : SupF P K C f cc cda (ksFn nm qual params (supB msg atn pn j p0 p1 p2 p3 p4 p5 p6 p7 p8 p9) scope dV kV doc pm an (.ref cda) ct cc) scope qual pn atn) :
    L2H.FnH P w K mg base CX (k + 1) f (ksFn nm qual params (supB msg atn pn j p0 p1 p2 p3 p4 p5 p6 p7 p8 p9) scope dV kV doc pm an (.ref cda) ct cc) ["self", pn] (spSup C atn) :=
  ⟨fun vs H Q E h => by
    obtain ⟨a, v, rfl, _⟩ := h
    rfl, fun A outer s H args us vs Q E _ hr _ _ e0 hb r hsp => run_super (cm := false) S hm hp har hE F A outer s H args us vs Q E hr (fun z => nomatch z) e0 hb r hsp⟩
end
end DLX

/-! ### exceptions with an attribute: raised, caught, read -/
namespace DLX
open PySem PySem.Spec PyProof.Rows L2
section
variable {X : Cx} {CX : CXT} {x : Str} {e : Expr} {es : List Expr} {ta : TA} {p pos : Pos} {C fI : Addr} {k : Nat} {fd : FuncData} {ps : List Str} {sp : Sp}
/-- C(e, ..), a class of one's own with an own __init__, where nothing is handled: the context of what is made is None -/
theorem pmk_oexN (T : OexC X.K C) (iC : PySem.W.findIn X.K (.ref C) "__init__" = some (some (.ref fI))) (tI : PySem.W.typeIn X.K (.ref fI) = some (.type "function")) (F1 : FnOk X.prog X.w X.K X.mg X.base CX k fI fd ps sp) (hr : Room (k + 1) X.A) (hb : Binds X.K fd ps [])
    (hx : Passes CX X (fun _ _ _ => False)) (hg : Gl X x) (hm : X.mg x = some (.ref C)) (ha : PA X (e :: es) ta) (hdb : (x == ("__debug__" : Str)) = false := by decide)
    (he : starEach (e :: es) X.env = (false, eval e X.env) :: starEach es X.env := by rfl) (hpl : (backTo pos (starEach es X.env)).any (·.1) = false := by rfl) : L2N.PMk X (.Call (.Name x p) (e :: es) [] pos) (tMkO C sp [] ta) := fun pins s σ H Q I h =>
  wpAny_Call_Name_kw (ld_glob I hg hm (PySem.W.callWith_K (h₀ := X.base) I.ok.mod.kin T.kC (thn (ha.run pos pins s σ H _ I h) fun us s1 y => by
    obtain ⟨vs, H1, J, r, small, q⟩ := y
    refine ⟨J.kIn, ?_⟩
    obtain ⟨_, _, _, _, bm, _, _, _, _, _, _, _, _, _, _, cls, ve⟩ := T.cls
    obtain ⟨hp, gn, dr, tk, os⟩ := s1
    have up : ∀ b o, hp.get? b = some o → ((hp.push (PySem.W.kdv_tup us)).push (PySem.HandSPX.excO C hp.objs.size)).get? b = some o := fun b o z => Heap.get?_push_of_some _ (Heap.get?_push_of_some _ z)
    have at1 : ((hp.push (PySem.W.kdv_tup us)).push (PySem.HandSPX.excO C hp.objs.size)).get? (hp.objs.size + 1) = some (PySem.HandSPX.excO C hp.objs.size) := by heap_get
    have q1 := q (hp.objs.size + 1) (J.hok.fresh (Nat.le_succ _))
    rw [List.append_nil] at q1
    have J2 := J.laid (t' := tk) (a := hp.objs.size + 1) (o := exo (hp.objs.size + 1) C none) (h' := (hp.push (PySem.W.kdv_tup us)).push (PySem.HandSPX.excO C hp.objs.size)) up (Nat.le_succ _) (exo_ok at1)
    have r2 : Vals (V.ref (hp.objs.size + 1) :: vs) (Value.ref (hp.objs.size + 1) :: us) := .cons rfl r
    have len : (Value.ref (hp.objs.size + 1) :: us ++ []).length = ps.length := by
      have z := r2.length
      rw [F1.len _ _ _ _ q1] at z
      rw [List.append_nil]
      exact z.symm
    have bb := hb _ (Value.ref (hp.objs.size + 1) :: us) J2.kIn len
    rw [List.append_nil] at bb
    have room : us.length ≤ sizeLine := by
      have z := Paired.length r
      rw [sizeLine_eq]
      omega
    refine wpAny_call (PySem.HandSPX.call_own F.excBase_ValueError (fun Y => PySem.HandSPX.refsVE_contains Y bm ve) (J.kIn _ _ cls) (PySem.W.looks_findIn J.kIn iC) (fun self => PySem.W.bind_fn J.kIn self tI) room
      (codeAny_mono (F1.run _ X.stack _ _ ⟨Value.ref (hp.objs.size + 1) :: us, []⟩ (Value.ref (hp.objs.size + 1) :: us) _ _ (fun _ _ _ => False) (hr.make C us []) (J2.env0.make C us []) bb r2 q1) fun fl s2 z => ?_))
    cases fl with
    | error w => exact hx pins σ _ _ w s2 J2 z
    | ok fl =>
      cases fl with
      | ret u =>
        obtain ⟨v, H2, oseq, bare, un, ok2, rv, ev, d, fs, ea, ed, hd1, q2⟩ := z
        subst ev
        obtain ⟨h2, g2, d2, t2, os2⟩ := s2
        obtain ⟨t0, G, J3, kG, ge, hoe, na⟩ := mk_end0 (d2 := d2) (t2 := t2) J (Nat.le_succ _) up un ok2 oseq bare ea ed hd1
        exact ⟨rv, hp.objs.size + 1, _, _, ⟨G, g2, d2, t2, os2⟩, _, .ref C, some d, rfl, J3, kG, ge, hoe, ⟨rfl, rfl, fun vs hv => by cases hv; rfl⟩, rfl, rfl, na, rfl, bare, raises_own T.exC T.tyC, q2⟩
      | _ => exact False.elim z) he hpl) hdb)
end
end DLX
namespace DL
open PySem L2 DLX
open Evl (Ex)
def vRaiseA (C : Addr) (atn : Str) (PXF : DXF) (te : VE) : VS := fun _ ρ m => te ρ m fun d m1 => PXF ρ C [atn] [d] m1
theorem us_raiseA {X : Cx} {B : Bs} {W : WX} {PXF : DXF} {x pn atn : Str} {C fI : Addr} {k : Nat} {fd : FuncData} {e : Expr} {te : VE} {p pos pos' : Pos} (hc : X.calm = true) (tk : L2N.Takes X W) (wh : WshF X.K B PXF W)
    (T : OexC X.K C) (iC : PySem.W.findIn X.K (.ref C) "__init__" = some (some (.ref fI))) (tI : PySem.W.typeIn X.K (.ref fI) = some (.type "function")) (F1 : FnOk X.prog X.w X.K X.mg X.base CX0 k fI fd ["self", pn] (spSup C atn)) (hr : Room (k + 1) X.A)
    (hb : Binds X.K fd ["self", pn] []) (hx : Passes CX0 X (fun _ _ _ => False)) (hg : Gl X x) (hm : X.mg x = some (.ref C)) (he : UE X B e te) (hdb : (x == ("__debug__" : Str)) = false := by decide)
    (hs : starEach [e] X.env = (false, eval e X.env) :: starEach [] X.env := by rfl) (hpl : (backTo pos' (starEach [] X.env)).any (·.1) = false := by rfl) :
    US X B (.Raise (some (.Call (.Name x p) [e] [] pos')) none pos) (vRaiseA C atn PXF te) :=
  ⟨(L2N.ps_raise hc tk (pmk_oexN T iC tI F1 hr hb hx hg hm (ua_cons he ua_nil hs).pa hdb hs hpl)).weak fun D σ H h => by
    obtain ⟨G, ρ, m, E, e0, s, t, _⟩ := h
    refine ⟨G, ρ, m, fun ds m1 => match ds with | [d] => PXF ρ C [atn] [d] m1 | _ => False, e0, s, t, fun ds m1 G1 vs H1 q1 e1 s1 r1 => ?_⟩
    dsimp only at q1
    split at q1
    case h_2 => exact q1.elim
    · rename_i d
      have q := q1
      obtain ⟨v, rfl, r⟩ := r1.one
      refine ⟨by show 1 ≤ 1000; decide, fun a ha => ⟨a, v, rfl, upd_same, fun dx hd hne => ?_⟩⟩
      have hd1 : H1 dx = none := by rw [upd_ne hne] at hd; exact hd
      refine ⟨rfl, dx, [(atn, v)], upd_same, (upd_ne hne).trans upd_same, hd1, ?_⟩
      have eH : upd (del (upd (upd (upd H1 a (exo a C none)) dx (exd dx [(atn, v)])) a (exo a C (some dx))) a) dx (.xd [(atn, v)]) = upd H1 dx (.xd [(atn, v)]) := by
        funext b
        by_cases hb : b = dx
        · subst hb; rw [upd_same, upd_same]
        · rw [upd_ne hb, upd_ne hb]
          by_cases hba : b = a
          · subst hba; rw [del_same, ha]
          · rw [del_ne hba, upd_ne hba, upd_ne hb, upd_ne hba]
      rw [eH]
      obtain ⟨e2, s2⟩ := s1.newG hd1 (.xd [(atn, v)])
      exact wh ρ C [atn] [d] m1 _ σ _ (some dx) q ((e0.trans e1).trans e2) ⟨s.fr.mono (e1.trans e2).ex, s2⟩ (.inr ⟨dx, _, by simp, rfl, upd_same, rfl, .cons (r.mono e2.ex) .nil⟩)⟩
/-- the dict that the exception's attributes stand in -/
def XDat (K : PySem.W.Frag) (G : Hp) (atn : Str) (d : D) (dd : Addr) : Prop := ∃ v, G dd = some (.xd [(atn, v)]) ∧ Dn K G d v
/-- try: body / except c as n: suite; what the body may raise is of the class C0, with the attribute atn -/
def vTryA (i : Nat) (C0 : Addr) (atn : Str) (tb : DXF → VS) (ts : Addr → D → VS) : VS := fun E ρ m => tb (fun ρ' C ks ds m' => C = C0 ∧ ∃ d, ks = [atn] ∧ ds = [d] ∧ ∀ a, m' a = none →
  ts a d { nx := fun ρ2 m2 => E.nx (fwipe.fdel ρ2 i) m2, rt := E.rt, bk := fun ρ2 m2 => E.bk (fwipe.fdel ρ2 i) m2, ct := fun ρ2 m2 => E.ct (fwipe.fdel ρ2 i) m2 } (fset ρ' i (.adr a)) m') E ρ m
theorem us_tryA {X : Cx} {B : Bs} {i : Nat} {x n atn : Str} {c : Value} {C0 : Addr} {body suite : List Stmt} {b₀ : Stmt} {np pos pos' : Pos} {tb : DXF → VS} {ts : Addr → D → VS}
    (hs : X.stack = X.env :: X.outer) (hf : X.env.frame = some X.env.locals) (hN : X.N.Nodup) (hi : X.N[i]? = some n) (hln : X.env.kindOf n = some .local) (hc : Names X x c) (hm : PySem.W.exmOne X.K (.ref C0) c = some true)
    (hb : ∀ (B : Bs) (PXF : DXF) (W : WX) (pn : List (Addr × Obj)) (xe : Value → Shared → Prop), L2N.Takes (X.tr pn xe) W → WshF X.K B PXF W → USs (X.tr pn xe) B body (tb PXF))
    (hsu : ∀ (B : Bs) (a : Addr) (oe : Obj) (pn : List (Addr × Obj)) (dd : Addr) (d : D), Zc (.ref C0) (some dd) oe → (∃ vs, oe.data = .fields vs) → XDat X.K B.G atn d dd → L2H.HotC (X.suite a ((a, oe) :: pn)) → USs (X.suite a ((a, oe) :: pn)) B (b₀ :: suite) (ts a d)) :
    US X B (.Try body [.ExceptHandler (some (.Name x np)) (some n) (b₀ :: suite) pos'] [] [] pos) (vTryA i C0 atn tb ts) :=
  ⟨PS.weak (L2N.ps_try_as (Wout := fun _ _ _ _ => False) (tb := fun W D σ H => ∃ (B : Bs) (PXF : DXF), WshF X.K B PXF W ∧ lowS X.K B (tb PXF) D σ H)
      (ts := fun a cls dx D' σ H => cls = .ref C0 ∧ ∃ (dd : Addr) (d : D) (B : Bs), dx = some dd ∧ XDat X.K B.G atn d dd ∧ lowS X.K B (ts a d) D' σ H) hs hf hN hi hln hc takes_no
      (fun W pn xe tk _ => ⟨fun pins s σ H D I h => by
        obtain ⟨B, PXF, wh, h⟩ := h
        exact (hb B PXF W pn xe tk wh).ps.run pins s σ H D I h⟩)
      (fun a oe cls dx pn hz hv => ⟨fun pins s σ H D I h => by
        obtain ⟨rfl, dd, d, B, rfl, hx, h⟩ := h
        exact (hsu B a oe pn dd d hz.zc hv hx ⟨(a, oe), ⟨rfl, hv.elim fun vs e => ⟨vs, e, hz.2.2 vs e⟩⟩, List.mem_cons_self⟩).ps.run pins s σ H D I h⟩)) fun D σ H h => by
    obtain ⟨G, ρ, m, E, e0, s, t, k1, k2, k3, k4⟩ := h
    refine ⟨⟨G, m, H⟩, _, ?_, G, ρ, m, E, Stp.refl, s, t, k1, k2, k3, k4⟩
    rintro ρ' C ks ds m' G' σ' H' ox ⟨rfl, d, rfl, rfl, hts⟩ e1 s1 xr
    have e1 : Stp G m H G' m' H' := e1
    obtain ⟨dd, v, rfl, hx⟩ : ∃ (dd : Addr) (v : V), ox = some dd ∧ G' dd = some (.xd [(atn, v)]) ∧ Dn X.K G' d v := by
      rcases xr with ⟨z, _, _⟩ | ⟨dd, fs, _, z, h1, h2, h3⟩
      · cases z
      · match fs, h2, h3 with
        | [(f, v)], h2, h3 =>
          simp only [List.map_cons, List.map_nil, List.cons.injEq, and_true] at h2
          subst h2
          cases h3 with
          | cons r _ => exact ⟨dd, v, z, h1, r⟩
    refine ⟨true, hm, fun _ a ha => ⟨rfl, dd, d, ⟨G', m', H'⟩, rfl, ⟨v, hx⟩, G', fset ρ' i (.adr a), m', _, Stp.refl, ⟨s1.fr.set (.adr a) i, s1.ms⟩, hts a (s1.ms.free ha).2, ?_, ?_, ?_, ?_⟩, fun z => nomatch z⟩
    · intro ρ2 m2 G2 σ2 H2 q e2 s2
      exact k1 _ m2 G2 _ H2 q (e1.trans e2) ⟨FrR.del i none s2.fr, s2.ms⟩
    · intro d m2 G2 v H2 q e2 s2 r2
      exact k2 d m2 G2 v H2 q (e1.trans e2) s2 r2
    · intro ρ2 m2 G2 σ2 H2 q e2 s2
      exact k3 _ m2 G2 _ H2 q (e1.trans e2) ⟨FrR.del i none s2.fr, s2.ms⟩
    · intro ρ2 m2 G2 σ2 H2 q e2 s2
      exact k4 _ m2 G2 _ H2 q (e1.trans e2) ⟨FrR.del i none s2.fr, s2.ms⟩⟩
/-- e.at -/
def vXf (a : Addr) (d : D) (te : VE) : VE := fun ρ m Q => te ρ m fun x m1 => x = .adr a ∧ Q d m1
theorem ue_xf {X : Cx} {B : Bs} {a C dd : Addr} {oe : Obj} {pn : List (Addr × Obj)} {e : Expr} {te : VE} {pos : Pos} {atn : Str} {d : D} (T : XfC X.K C) (hno : PySem.W.findIn X.K (.ref C) atn = some none) (hz : Zc (.ref C) (some dd) oe) (hf : ∃ vs, oe.data = .fields vs) (hx : XDat X.K B.G atn d dd)
    (he : UE (X.suite a ((a, oe) :: pn)) B e te) (hb : attributeBase e atn X.env (eval e X.env) = eval e X.env := by rfl) : UE (X.suite a ((a, oe) :: pn)) B (.Attribute e atn pos) (vXf a d te) :=
  ⟨(pe_xf T hno hz hf he.pe hb).weak fun σ H Q h => by
    obtain ⟨G, ρ, m, P, e0, s, t, k⟩ := h
    obtain ⟨v, hd, r⟩ := hx
    refine ⟨G, ρ, m, _, e0, s, t, fun x m1 G1 v1 H1 q1 e1 s1 r1 => ?_⟩
    obtain ⟨rfl, q1⟩ := q1
    cases r1
    have ex := (e0.trans e1).ex
    exact ⟨rfl, rfl, dd, _, v, rfl, s1.ex _ _ (ex _ _ hd), by simp [List.lookup], k d m1 G1 v H1 q1 e1 s1 (r.mono ex)⟩⟩
/-- isinstance(e, C1), isinstance(e, (C1, ..)), e with or without an attribute -/
theorem inst_of {X : Cx} {pins : List (Addr × Obj)} {σ : L2.St} {H : Hp} {s : Shared} {a D : Addr} {ox : Option Addr} {oe : Obj} {pn : List (Addr × Obj)} (I : L2.Inv (X.suite a ((a, oe) :: pn)) pins σ H s) (hz : Zc (.ref D) ox oe) (hf : ∃ vs, oe.data = .fields vs)
    (hx : ox = none ∨ ∃ dd fs, ox = some dd ∧ H dd = some (.xd fs)) : ∃ od, PySem.W.InstAt s.heap a oe D od := by
  obtain ⟨hget, _⟩ := I.pin (a, oe) (List.mem_append.mpr (.inl List.mem_cons_self))
  obtain ⟨vs, hv⟩ := hf
  rcases hx with rfl | ⟨dd, fs, rfl, hd⟩
  · exact ⟨none, hget, hz.1, by unfold PySem.W.notCls; rw [hv] <;> rfl, by rw [hz.2]; exact trivial⟩
  · have hx : ObjOk X.prog X.w H s.heap dd (.xd fs) := I.hok dd _ hd
    obtain ⟨mA, hns, _⟩ := hx
    obtain ⟨o, es, ep, ho, _⟩ := hns
    exact ⟨some o, hget, hz.1, by unfold PySem.W.notCls; rw [hv] <;> rfl, by rw [hz.2]; exact ho⟩
theorem kit_of_exc {K : PySem.W.Frag} {a D : Addr} {oe : Obj} {od : Option Obj} (T : ExcC K D) : PySem.W.KitX K (.ref a) (.ref D) (fun h => PySem.W.InstAt h a oe D od) :=
  PySem.W.kitx_exc (by obtain ⟨cd, hc, _⟩ := PySem.W.any_some T.hd; rw [hc]; rfl) T.hg T.hk T.hs T.ha T.hn T.ht T.hm
def XDat' (G : Hp) (ox : Option Addr) : Prop := ox = none ∨ ∃ dd fs, ox = some dd ∧ G dd = some (.xd fs)
theorem XDat.p {K : PySem.W.Frag} {G : Hp} {atn : Str} {d : D} {dd : Addr} (h : XDat K G atn d dd) : XDat' G (some dd) := by
  obtain ⟨v, h, _⟩ := h
  exact .inr ⟨dd, _, rfl, h⟩
theorem XDat'.no {G : Hp} : XDat' G none := .inl rfl
def vIsA (a C1 : Addr) (b : Bool) (te tc : VE) : VE := fun ρ m Q => te ρ m fun x m1 => tc ρ m1 fun y m2 => x = .adr a ∧ y = .adr C1 ∧ Q (.bl b) m2
theorem call_isA {X : Cx} {a D : Addr} {ox : Option Addr} {oe : Obj} {pn : List (Addr × Obj)} (T : ExcC X.K D) (hz : Zc (.ref D) ox oe) (hf : ∃ vs, oe.data = .fields vs) : CallR (X.suite a ((a, oe) :: pn)) (.builtin "isinstance")
    (fun xs H Q => XDat' H ox ∧ ((∃ (C1 : Addr) (b : Bool), xs = [.ref a, .ref C1] ∧ PySem.W.kitOne X.K (.ref D) (.ref C1) = some b ∧ Q (.bl b) H) ∨
      ∃ (tp : Addr) (Cs : List Addr) (b : Bool), xs = [.ref a, .ref tp] ∧ SqT X.K H tp (Cs.map V.ref) ∧ PySem.W.kitAny X.K (.ref D) (Cs.map Value.ref) = some b ∧ Q (.bl b) H)) := by
  intro pins s σ H xs us Q I r h
  obtain ⟨hx, h⟩ := h
  obtain ⟨od, J⟩ := inst_of I hz hf hx
  rcases h with ⟨C1, b, rfl, e, q⟩ | ⟨tp, Cs, b, rfl, hT, e, q⟩
  · cases r with
    | cons rx rr =>
      cases rr with
      | cons rt rr =>
        cases rr
        cases rx
        cases rt
        exact PySem.W.kia_one (kit_of_exc T) I.kIn J e (fun z => nomatch z) fun tk => ⟨.bl b, H, I.tok tk, rfl, q⟩
  · cases r with
    | cons rx rr =>
      cases rr with
      | cons rt rr =>
        cases rr
        cases rx
        cases rt
        obtain ⟨its, rv, ⟨o, h1, h2, n, h3⟩, hle⟩ := I.tuple hT
        clear hle
        have e3 : its = Cs.map Value.ref := by
          clear e h1 h2 h3 hT
          induction Cs generalizing its with
          | nil => cases rv; rfl
          | cons c cs ih =>
            cases rv with
            | cons x y =>
              cases x
              rw [ih _ y]
              rfl
        subst e3
        obtain ⟨oc, od2, dt, sl⟩ := o
        simp only at h2 h3
        subst h2 h3
        exact PySem.W.kia_tup (kit_of_exc T) I.kIn J h1 e (fun z => nomatch z) fun tk => ⟨.bl b, H, I.tok tk, rfl, q⟩
theorem ue_isA {X : Cx} {B : Bs} {a D C1 : Addr} {ox : Option Addr} {oe : Obj} {pn : List (Addr × Obj)} {e c : Expr} {te tc : VE} {p pos : Pos} {b : Bool} (T : ExcC X.K D) (hz : Zc (.ref D) ox oe) (hf : ∃ vs, oe.data = .fields vs) (hx : XDat' B.G ox) (kt : PySem.W.kitOne X.K (.ref D) (.ref C1) = some b)
    (hg : Gl X "isinstance") (hm : X.mg "isinstance" = none) (hb : bootBuiltins "isinstance" = some (.builtin "isinstance")) (he : UE (X.suite a ((a, oe) :: pn)) B e te) (hc : UE (X.suite a ((a, oe) :: pn)) B c tc)
    (h1 : starEach [e, c] X.env = (false, eval e X.env) :: starEach [c] X.env := by rfl) (hpl : (backTo pos (starEach [c] X.env)).any (·.1) = false := by rfl) (h2 : starEach [c] X.env = (false, eval c X.env) :: starEach [] X.env := by rfl) :
    UE (X.suite a ((a, oe) :: pn)) B (.Call (.Name "isinstance" p) [e, c] [] pos) (vIsA a C1 b te tc) :=
  ⟨(pe_callB (X := X.suite a ((a, oe) :: pn)) (x := "isinstance") (id := "isinstance") (call_isA T hz hf) hg hm hb (pa_cons he.pe (pa_cons hc.pe pa_nil h2) h1) (by decide) (by decide) h1 hpl).weak fun σ H Q h => by
    obtain ⟨G, ρ, m, P, e0, s, t, k⟩ := h
    refine ⟨G, ρ, m, _, e0, s, t, fun x m1 G1 v1 H1 q1 e1 s1 r1 => ?_⟩
    refine ⟨G1, ρ, m1, _, e0.trans e1, ⟨s.fr.mono e1.ex, s1⟩, q1, fun y m2 G2 v2 H2 q2 e2 s2 r2 => ?_⟩
    obtain ⟨rfl, rfl, q⟩ := q2
    cases r1
    cases r2
    refine ⟨?_, .inl ⟨C1, b, rfl, kt, k _ m2 G2 _ H2 q (e1.trans e2) s2 (.bl b)⟩⟩
    rcases hx with z | ⟨dd, fs, z, hd⟩
    · exact .inl z
    · exact .inr ⟨dd, fs, z, s2.ex _ _ (((e0.trans e1).trans e2).ex _ _ hd)⟩⟩
def vIsAT (a : Addr) (Cs : List Addr) (b : Bool) (te tc : VE) : VE := fun ρ m Q => te ρ m fun x m1 => tc ρ m1 fun y m2 => x = .adr a ∧ y = .tup (Cs.map DL.D.adr) ∧ Q (.bl b) m2
theorem ue_isAT {X : Cx} {B : Bs} {a D : Addr} {Cs : List Addr} {ox : Option Addr} {oe : Obj} {pn : List (Addr × Obj)} {e c : Expr} {te tc : VE} {p pos : Pos} {b : Bool} (T : ExcC X.K D) (hz : Zc (.ref D) ox oe) (hf : ∃ vs, oe.data = .fields vs) (hx : XDat' B.G ox) (kt : PySem.W.kitAny X.K (.ref D) (Cs.map Value.ref) = some b)
    (hg : Gl X "isinstance") (hm : X.mg "isinstance" = none) (hb : bootBuiltins "isinstance" = some (.builtin "isinstance")) (he : UE (X.suite a ((a, oe) :: pn)) B e te) (hc : UE (X.suite a ((a, oe) :: pn)) B c tc)
    (h1 : starEach [e, c] X.env = (false, eval e X.env) :: starEach [c] X.env := by rfl) (hpl : (backTo pos (starEach [c] X.env)).any (·.1) = false := by rfl) (h2 : starEach [c] X.env = (false, eval c X.env) :: starEach [] X.env := by rfl) :
    UE (X.suite a ((a, oe) :: pn)) B (.Call (.Name "isinstance" p) [e, c] [] pos) (vIsAT a Cs b te tc) :=
  ⟨(pe_callB (X := X.suite a ((a, oe) :: pn)) (x := "isinstance") (id := "isinstance") (call_isA T hz hf) hg hm hb (pa_cons he.pe (pa_cons hc.pe pa_nil h2) h1) (by decide) (by decide) h1 hpl).weak fun σ H Q h => by
    obtain ⟨G, ρ, m, P, e0, s, t, k⟩ := h
    refine ⟨G, ρ, m, _, e0, s, t, fun x m1 G1 v1 H1 q1 e1 s1 r1 => ?_⟩
    refine ⟨G1, ρ, m1, _, e0.trans e1, ⟨s.fr.mono e1.ex, s1⟩, q1, fun y m2 G2 v2 H2 q2 e2 s2 r2 => ?_⟩
    obtain ⟨rfl, rfl, q⟩ := q2
    cases r1
    cases r2 with
    | tup hs hall =>
      refine ⟨?_, .inr ⟨_, Cs, b, rfl, ?_, kt, k _ m2 G2 _ H2 q (e1.trans e2) s2 (.bl b)⟩⟩
      · rcases hx with z | ⟨dd, fs, z, hd⟩
        · exact .inl z
        · exact .inr ⟨dd, fs, z, s2.ex _ _ (((e0.trans e1).trans e2).ex _ _ hd)⟩
      · have : ∀ {Cs : List Addr} {xs : List V}, DnAll X.K G2 (Cs.map DL.D.adr) xs → xs = Cs.map V.ref := fun {Cs} => by
          induction Cs with
          | nil => intro xs h; cases h; rfl
          | cons c cs ih =>
            intro xs h
            cases h with
            | cons x y =>
              cases x
              rw [ih y]
              rfl
        rw [← this hall]
        exact Evl.ex_t s2.ex hs⟩
end DL

namespace DLX
open PySem L2 PySem.W
structure SupT (P : Program) (K : PySem.W.Frag) (C f : Addr) (fd : FuncData) (st : Stmt) (qual pn atn : Str) : Prop where
  ex : ∃ (nm : Str) (cc cda : Addr) (kV doc pm ct : Value) (an : Option Addr), fd = ksFn nm qual (defArgs st) (defBody st) (defScope st) .none kV doc pm an (.ref cda) ct cc ∧ SupF P K C f cc cda fd (defScope st) qual pn atn
  ic : findIn K (.ref C) "__init__" = some (some (.ref f))
  ti : typeIn K (.ref f) = some (.type "function")
section
variable {P : Program} {w : World} {K : PySem.W.Frag} {mg : Str → Option Value} {base : Heap} {CX : CXT} {C f : Addr} {fd : FuncData} {st : Stmt} {qual pn atn msg : Str} {k j : Nat} {p0 p1 p2 p3 p4 p5 p6 p7 p8 p9 : Pos}
theorem SupT.oex (h : SupT P K C f fd st qual pn atn) : OexC K C := by
  obtain ⟨nm, cc, cda, kV, doc, pm, ct, an, rfl, F⟩ := h.ex
  exact F.oex
theorem SupT.nat (h : SupT P K C f fd st qual pn atn) : findIn K (.ref C) atn = some none := by
  obtain ⟨nm, cc, cda, kV, doc, pm, ct, an, rfl, F⟩ := h.ex
  exact F.nat
theorem sup_ok (h : SupT P K C f fd st qual pn atn) (hB : defBody st = supB msg atn pn j p0 p1 p2 p3 p4 p5 p6 p7 p8 p9) (S : SupS (defScope st) pn) (hm : mg "super" = none) {ar : Arg} (hp : ((defArgs st).posonlyargs ++ (defArgs st).args).head? = some ar) (har : ar.arg = "self")
    (hE : ∀ (L f cda cc : Addr), SupE (ksEnv qual (defScope st) L f (.ref cda) cc) msg atn pn j p0 p1 p2 p3 p4 p5 p6 p7 p8 p9) : FnOk P w K mg base CX (k + 1) f fd ["self", pn] (spSup C atn) := by
  obtain ⟨nm, cc, cda, kV, doc, pm, ct, an, rfl, F⟩ := h.ex
  rw [hB] at F ⊢
  exact fn_super S hm hp har (fun L => hE L f cda cc) F
theorem sup_okH (h : SupT P K C f fd st qual pn atn) (hB : defBody st = supB msg atn pn j p0 p1 p2 p3 p4 p5 p6 p7 p8 p9) (S : SupS (defScope st) pn) (hm : mg "super" = none) {ar : Arg} (hp : ((defArgs st).posonlyargs ++ (defArgs st).args).head? = some ar) (har : ar.arg = "self")
    (hE : ∀ (L f cda cc : Addr), SupE (ksEnv qual (defScope st) L f (.ref cda) cc) msg atn pn j p0 p1 p2 p3 p4 p5 p6 p7 p8 p9) : L2H.FnH P w K mg base CX (k + 1) f fd ["self", pn] (spSup C atn) := by
  obtain ⟨nm, cc, cda, kV, doc, pm, ct, an, rfl, F⟩ := h.ex
  rw [hB] at F ⊢
  exact fn_superH S hm hp har (fun L => hE L f cda cc) F
theorem SupT.binds (h : SupT P K C f fd st qual pn atn) (hb : ∀ (nm : Str) (cc cda : Addr) (kV doc pm ct : Value) (an : Option Addr) (us : List Value), us.length = 2 → bindArgs (ksFn nm qual (defArgs st) (defBody st) (defScope st) .none kV doc pm an (.ref cda) ct cc) ⟨us, []⟩ = pure ((["self", pn] : List Str).zip us)) : Binds K fd ["self", pn] [] := by
  obtain ⟨nm, cc, cda, kV, doc, pm, ct, an, rfl, F⟩ := h.ex
  exact .all fun us hl => hb nm cc cda kV doc pm ct an us hl
theorem sup_mk {nm : Str} {cc cda : Addr} {kV doc pm ct oc cl ccl : Value} {an od cld cdd : Option Addr} {osl csl ccs : Array (Option Value)} {vs : Array Value} {file : Str} {tf : Tok}
    {n0 n1 : Str} {n2 : Addr} {n3 bm : List Value} {n5 : List Str} {n6 : List Value} {n7 : Bool} {n8 : Option Bool} {n9 : Option Addr} {m0 m1 m2 m3 m5 : Option Value}
    (lk : K.lookup f = some ⟨oc, od, .func (ksFn nm qual (defArgs st) (defBody st) (defScope st) .none kV doc pm an (.ref cda) ct cc), osl⟩) (code : codeIn K (.ref cda) qual = true) (lc : K.lookup cc = some ⟨cl, cld, .cell (some (.ref C)), csl⟩)
    (lo : K.lookup cda = some ⟨ccl, cdd, .fields vs, ccs⟩) (hvs : vs[2]? = some (.str file tf)) (hfile : ((P.main.file : Str) == file) = true) (top : (P.main.scope.names.lookup ("super" : Str)).isSome = false) (opq : nsIn K cStatics "thirdparty.any" = some none)
    (sup : ks_superIn K C C "__init__" = some (some (.builtin "ValueError.__init__"))) (ve : subIn K (.ref C) (.type "ValueError") = some true) (hd : hasDictIn K C = true) (self : mroIn K C (.ref C) = some true) (nat : findIn K (.ref C) atn = some none)
    (lC : K.lookup C = some (excClassObj n0 n1 C n2 n3 bm true n5 n6 n7 n8 n9 m0 m1 m2 m3 m5 "ValueError.__new__")) (hbm : PySem.HandSPX.refsVE bm = true) (sa : findIn K (.ref C) "__setattr__" = some (some (.builtin "object.__setattr__")))
    (exC : subIn K (.ref C) (.type "BaseException") = some true) (tyC : typeIn K (.ref C) = some (.type "type")) (kC : keepIn K (.ref C) = true) (ic : findIn K (.ref C) "__init__" = some (some (.ref f))) (ti : typeIn K (.ref f) = some (.type "function")) :
    SupT P K C f (ksFn nm qual (defArgs st) (defBody st) (defScope st) .none kV doc pm an (.ref cda) ct cc) st qual pn atn :=
  ⟨⟨nm, cc, cda, kV, doc, pm, ct, an, rfl, ⟨⟨_, _, _, lk⟩, code, ⟨_, _, _, lc⟩, ⟨_, _, vs, _, file, tf, lo, hvs, hfile⟩, top, opq, sup, ve, by obtain ⟨cd, hc, _⟩ := any_some hd; rw [hc]; rfl, self, nat,
    ⟨⟨_, _, _, _, _, _, _, _, _, _, _, _, _, _, _, lC, hbm⟩, sa, exC, tyC, kC⟩⟩⟩, ic, ti⟩
end
end DLX

/-! ### methods called, instances made within a try -/
namespace DLE
open PySem L2 PySem.Spec PyProof.Rows
section
variable {X : Cx} {k : Nat} {f C : Addr} {fd : FuncData} {ps : List Str} {sp : Sp} {W : WX} {x m : Str} {p pos apos : Pos} {e o : Expr} {es : List Expr} {te : TE} {t : TA}
def tMethT (C : Addr) (m : Str) (sp : Sp) (E : L2.St → XK) (te : TE) (t : TA) : TE := fun σ H Q => te σ H fun x H1 => ∃ (a dx : Addr) (fs : List (Str × V)), x = .ref a ∧ H1 a = some (.ins C dx fs) ∧ fs.lookup m = none ∧ t σ H1 fun vs H2 => sp (.ref a :: vs) H2 Q (E σ)
theorem pe_methT {pl : Sem Bool} (he : PE X o te) (c : Cls X.K C) (hm : Meth X.K C m f) (F : FnOk X.prog X.w X.K X.mg X.base (L2N.CX X.prog X.w) k f fd ps sp) (hr : Room k X.A) (hb : Binds X.K fd ps []) (tk : L2N.Takes X W) (ha : PA X (e :: es) t)
    (hst : starEach (e :: es) X.env = (false, eval e X.env) :: starEach es X.env := by rfl) (hpl : (backTo pos (starEach es X.env)).any (·.1) = false := by rfl)
    (ht : eval (.Call (.Attribute o m apos) (e :: es) [] pos) X.env = (do
      let ov ← eval o X.env
      standAt apos.atName
      let (f, first) ← holding [ov] (getMethod ov m pl)
      callWith pos f first (backTo pos (starEach (e :: es) X.env)) (backToKw pos (keywordEach [] X.env))) := by rfl) :
    PE X (.Call (.Attribute o m apos) (e :: es) [] pos) (tMethT C m sp (WE W) te t) := ⟨fun pins s σ H Q I h =>
  PySem.W.methodCall_KW (pl := pl) (thn (he.run pins s σ H _ I h) fun u s1 y => by
    obtain ⟨x, H1, I1, rx, a, dx, fs, rfl, ea, l, q⟩ := y
    cases (show u = Value.ref a from rx)
    exact getmeth_ok I1 ea c hm l (PySem.W.callWith_K (first := [.ref a]) (h₀ := X.base) I.ok.mod.kin hm.kp (thn (ha.run pos pins s1 σ H1 _ I1 q) fun us s2 z => by
      obtain ⟨vs, H2, I2, r, q2⟩ := z
      exact ⟨I2.kIn, run_fnS (us := .ref a :: us) (vs := .ref a :: vs) F hr hb (L2N.passAt tk σ) I2 (.cons rfl r) q2⟩) hst hpl)) ht⟩
def tMakeT (C : Addr) (sp : Sp) (E : L2.St → XK) (t : TA) : TE := fun σ H Q => t σ H fun vs H1 => ∀ x dx, H1 x = none → H1 dx = none → dx ≠ x → sp (.ref x :: vs) (upd (upd H1 dx (.own x)) x (.ins C dx [])) (fun v H2 => v = .non ∧ Q (.ref x) H2) (E σ)
theorem pe_makeT (M : Mk X.K C f) (F : FnOk X.prog X.w X.K X.mg X.base (L2N.CX X.prog X.w) k f fd ps sp) (hr : Room (k + 1) X.A) (hg : Gl X x) (hm : X.mg x = some (.ref C)) (hb : Binds X.K fd ps []) (tk : L2N.Takes X W)
    (ha : PA X (e :: es) t) (hdb : (x == ("__debug__" : Str)) = false := by decide) (he : starEach (e :: es) X.env = (false, eval e X.env) :: starEach es X.env := by rfl) (hpl : (backTo pos (starEach es X.env)).any (·.1) = false := by rfl) :
    PE X (.Call (.Name x p) (e :: es) [] pos) (tMakeT C sp (WE W) t) := ⟨fun pins s σ H Q I h =>
  wpAny_Call_Name_kw (ld_glob I hg hm (PySem.W.callWith_K (h₀ := X.base) I.ok.mod.kin M.kp (thn (ha.run pos pins s σ H _ I h) fun us s1 y => by
    obtain ⟨vs, H1, I1, r, q⟩ := y
    refine ⟨I1.kIn, ?_⟩
    have q1 := q (s1.heap.objs.size + 1) s1.heap.objs.size (I1.hok.fresh (Nat.le_succ _)) (I1.hok.fresh (Nat.le_refl _)) (Nat.ne_of_lt (Nat.lt_succ_self _))
    have J := Inv.made (C := C) I1
    have r2 : Vals (V.ref (s1.heap.objs.size + 1) :: vs) (Value.ref (s1.heap.objs.size + 1) :: us) := .cons rfl r
    have hl : (Value.ref (s1.heap.objs.size + 1) :: us ++ []).length = ps.length := by
      have z := r2.length
      rw [F.len _ _ _ _ q1] at z
      rw [List.append_nil]
      exact z.symm
    have bb := hb _ (Value.ref (s1.heap.objs.size + 1) :: us) J.kIn hl
    rw [List.append_nil] at bb
    refine wpAny_call (make_map (f := f) I1.kIn M.makes M.init (beq_iff_eq.mp M.fn) (codeAny_mono (F.run _ X.stack _ _ ⟨Value.ref (s1.heap.objs.size + 1) :: us, []⟩ (Value.ref (s1.heap.objs.size + 1) :: us) _ _ _ (hr.make C us []) (J.env0.make C us []) bb r2 q1) fun r s' hq' => ?_))
    cases r with
    | error w => exact L2N.passAt tk σ pins _ _ w s' J hq'
    | ok fl =>
      cases fl with
      | ret u =>
        obtain ⟨v, H', I3, rv, ev, q3⟩ := J.after hq'
        subst ev
        exact ⟨rv, ⟨V.ref (s1.heap.objs.size + 1), H', I3, rfl, q3⟩⟩
      | _ => exact False.elim hq') he hpl) hdb)⟩
end
end DLE
namespace DL
open PySem L2 DLE
open Evl (Ex)
section
variable {X : Cx} {B : Bs} {W : WX} {PXF : DXF} {k n : Nat} {f C : Addr} {fd : FuncData} {ps : List Str} {sp : VSp} {x mt : Str} {p pos apos : Pos} {e o : Expr} {es : List Expr} {va : VA} {to : VE}
/-- o.m(..) within a try -/
def vMethX (C : Addr) (mt : Str) (n : Nat) (sp : VSp) (PXF : DXF) (to : VE) (va : VA) : VE := fun ρ m Q => to ρ m fun d m1 => (∃ ks ds, insK m1 d = some (C, ks, ds) ∧ mt ∉ ks) ∧ va ρ m1 fun ds m2 => ds.length + 1 = n ∧ sp (d :: ds) m2 Q (PXF ρ)
theorem ue_methX {pl : Sem Bool} (ho : UE X B o to) (c : Cls X.K C) (hm : Meth X.K C mt f) (F : FnOk X.prog X.w X.K X.mg X.base (L2N.CX X.prog X.w) k f fd ps (lowSp X.K n sp)) (hr : Room k X.A) (hb : Binds X.K fd ps []) (tk : L2N.Takes X W) (wh : WshF X.K B PXF W) (ha : UA X B (e :: es) va)
    (hst : starEach (e :: es) X.env = (false, eval e X.env) :: starEach es X.env := by rfl) (hpl : (backTo pos (starEach es X.env)).any (·.1) = false := by rfl)
    (ht : eval (.Call (.Attribute o mt apos) (e :: es) [] pos) X.env = (do
      let ov ← eval o X.env
      standAt apos.atName
      let (f, first) ← holding [ov] (getMethod ov mt pl)
      callWith pos f first (backTo pos (starEach (e :: es) X.env)) (backToKw pos (keywordEach [] X.env))) := by rfl) : UE X B (.Call (.Attribute o mt apos) (e :: es) [] pos) (vMethX C mt n sp PXF to va) :=
  ⟨(pe_methT (pl := pl) ho.pe c hm F hr hb tk ha.pa hst hpl ht).weak fun σ H Q h => by
    obtain ⟨G, ρ, m, P, e0, s, t, k⟩ := h
    refine ⟨G, ρ, m, _, e0, s, t, fun d m1 G1 v1 H1 q1 e1 s1 r1 => ?_⟩
    obtain ⟨⟨ks, ds, h1, h2⟩, q1⟩ := q1
    obtain ⟨a, dx, fs, rfl, h4, h5, h6⟩ := s1.insK r1 h1
    refine ⟨a, dx, fs, rfl, h4, look_no (by rw [h5]; exact h2), G1, ρ, m1, _, e0.trans e1, ⟨s.fr.mono e1.ex, s1⟩, q1, fun es m2 G2 vs H2 q2 e2 s2 r2 => ?_⟩
    refine ⟨by rw [List.length_cons, ← r2.length]; exact q2.1, G2, d :: es, m2, _, PXF ρ, s2, .cons (r1.mono e2.ex) r2, q2.2, fun d m3 G3 v H3 q3 e3 => k d m3 G3 v H3 q3 ((e1.trans e2).trans e3), fun C ks es m3 G3 H3 ox p3 e3 s3 x3 => ?_⟩
    exact wh ρ C ks es m3 G3 σ H3 ox p3 (((e0.trans e1).trans e2).trans e3) ⟨s.fr.mono ((e1.trans e2).trans e3).ex, s3⟩ x3⟩
/-- C(..) within a try -/
def vMakeX (C : Addr) (n : Nat) (sp : VSp) (PXF : DXF) (va : VA) : VE := fun ρ m Q => va ρ m fun ds m1 => ∀ p, m1 p = none → ds.length + 1 = n ∧ sp (.adr p :: ds) (mup m1 p (.ins C [] [])) (fun d m2 => d = .non ∧ Q (.adr p) m2) (PXF ρ)
theorem ue_makeX (M : Mk X.K C f) (F : FnOk X.prog X.w X.K X.mg X.base (L2N.CX X.prog X.w) k f fd ps (lowSp X.K n sp)) (hr : Room (k + 1) X.A) (hg : Gl X x) (hm : X.mg x = some (.ref C)) (hb : Binds X.K fd ps []) (tk : L2N.Takes X W) (wh : WshF X.K B PXF W)
    (ha : UA X B (e :: es) va) (hdb : (x == ("__debug__" : Str)) = false := by decide) (he : starEach (e :: es) X.env = (false, eval e X.env) :: starEach es X.env := by rfl) (hpl : (backTo pos (starEach es X.env)).any (·.1) = false := by rfl) :
    UE X B (.Call (.Name x p) (e :: es) [] pos) (vMakeX C n sp PXF va) := ⟨(pe_makeT M F hr hg hm hb tk ha.pa hdb he hpl).weak fun σ H Q h => by
  obtain ⟨G, ρ, m, P, e0, s, t, k⟩ := h
  refine ⟨G, ρ, m, _, e0, s, t, fun ds m1 G1 vs H1 q1 e1 s1 r1 => ?_⟩
  intro x dx hx hdx hne
  obtain ⟨g1, g2⟩ := s1.free hx
  obtain ⟨q1, q2⟩ := q1 x g2
  obtain ⟨e2, s2⟩ := s1.newG hdx (.own x)
  obtain ⟨e25, s3⟩ := s2.newM (p := x) (by rw [upd_ne hne.symm]; exact hx) (o := .ins C [] []) (ho := .ins C dx []) (.ins rfl .nil)
  have e2 := e2.trans e25
  refine ⟨by rw [List.length_cons, ← r1.length]; exact q1, _, .adr x :: ds, _, _, PXF ρ, s3, .cons (.adr x) (r1.mono e2.ex), q2, fun d m3 G3 v H3 q3 e3 s3 r3 => ?_, fun C ks es m3 G3 H3 ox p3 e3 s3 x3 => ?_⟩
  · obtain ⟨rfl, q3⟩ := q3
    cases r3
    exact ⟨rfl, k _ m3 G3 _ H3 q3 ((e1.trans e2).trans e3) s3 (.adr x)⟩
  · exact wh ρ C ks es m3 G3 σ H3 ox p3 (((e0.trans e1).trans e2).trans e3) ⟨s.fr.mono ((e1.trans e2).trans e3).ex, s3⟩ x3⟩
end
end DL
namespace DL
open PySem L2
open Evl (Ex)
/-! ### str of an int, of a text -/
def bStr : VB := fun ds _ Q => match ds with
  | [.int i] => i.natAbs.log2 < 1920 ∧ Q (.str (toString i))
  | [.str a] => Q (.str a)
  | _ => False
theorem ub_str {X : Cx} : UB X (.type "str") bStr := callw (CallR.or call_str_int SkE.call_str_str) fun vs H Q h => by
  obtain ⟨G, m, ds, P, s, r, t, k⟩ := h
  unfold bStr at t
  split at t
  · obtain ⟨v, e, r⟩ := r.one
    cases r
    exact .inl ⟨_, e, t.1, k _ G _ H t.2 Stp.refl s (.str _)⟩
  · obtain ⟨v, e, r⟩ := r.one
    cases r
    exact .inr ⟨_, e, k _ G _ H t Stp.refl s (.str _)⟩
  · exact t.elim
end DL

/-! ### one's own functions called while an exception is handled -/
namespace DL
open PySem L2
open Evl (Ex)
section
variable {P : Program} {w : World} {K : PySem.W.Frag} {mg : Str → Option Value} {base : Heap}
abbrev cxHN (P : Program) (w : World) (K : PySem.W.Frag) (mg : Str → Option Value) (base : Heap) (N : List Str) (qual : Str) (st : Stmt) (f : Addr) (cdv : Value) (A : Around) (outer : List Env) (s : Shared) (H : Hp) (E : XK) (p : Addr × Obj) : Cx :=
  (L2H.cxH CX0 P w K mg base N qual (defScope st) f cdv A outer s H E p).nox
theorem ufunH {x qual : Str} {st : Stmt} {f : Addr} {fd : FuncData} {N ps : List Str} {k : Nat} {sp : VSp} (F : Fun K x qual st f fd) (S : FnScope N ps (defScope st))
    (hbody : ∀ (cdv : Value) (A : Around) (outer : List Env) (s : Shared) (H : Hp) (E : XK) (B : Bs) (p : Addr × Obj), L2H.RoomH k (cxHN P w K mg base N qual st f cdv A outer s H E p).A →
      ∃ t, USs (cxHN P w K mg base N qual st f cdv A outer s H E p) B (defBody st) t ∧ ∀ ds m Q PX, ds.length = ps.length → sp ds m Q PX → t { nx := fun _ m' => Q .non m', rt := Q } (fstart N ds) m) :
    L2H.FnH P w K mg base CX0 (k + 1) f fd ps (lowSp K ps.length sp) := by
  obtain ⟨oc, od, kV, doc, pm, an, cdv, ct, osl, rfl, lk, hcd⟩ := F.ex
  refine L2H.fn_ofH lk hcd S (fun vs H Q E h => h.1) (fun A outer s H vs Q E p hot hr h => ?_)
  obtain ⟨hl, G, ds, m, P', PX, s1, r1, h1, k1, W⟩ := h
  obtain ⟨t, ht, hq⟩ := hbody cdv A outer s H E ⟨G, m, H⟩ p hr
  refine ⟨_, ht.ps.nox, G, fstart N ds, m, { nx := fun _ m' => P' .non m', rt := P' }, Stp.refl, ⟨frR_start N r1, s1⟩, hq ds m P' PX (r1.length.trans hl) h1, fun ρ' m' G' σ' H' q e s => ?_, fun d m' G' v H' q e s r => ?_, fun ρ' m' G' σ' H' q => q.elim, fun ρ' m' G' σ' H' q => q.elim⟩
  · exact k1 _ _ _ _ _ q e s.ms .non
  · exact k1 _ _ _ _ _ q e s r
end
theorem roomH_suite {k : Nat} {A : Around} {h : Option Value} (r : Room k A) : L2H.RoomH k (A.mark h) := ⟨r.dp, r.un⟩
theorem ue_callH {X : Cx} {B : Bs} {k n : Nat} {f : Addr} {fd : FuncData} {ps : List Str} {sp : VSp} {x : Str} {p pos : Pos} {e : Expr} {es : List Expr} {va : VA}
    (F : L2H.FnH X.prog X.w X.K X.mg X.base CX0 k f fd ps (lowSp X.K n sp)) (hr : L2H.RoomH k X.A) (hc : L2H.HotC X) (hg : Gl X x) (hm : X.mg x = some (.ref f)) (hk : PySem.W.keepIn X.K (.ref f) = true) (hb : Binds X.K fd ps [])
    (ha : UA X B (e :: es) va) (hdb : (x == ("__debug__" : Str)) = false := by decide) (he : starEach (e :: es) X.env = (false, eval e X.env) :: starEach es X.env := by rfl) (hpl : (backTo pos (starEach es X.env)).any (·.1) = false := by rfl) :
    UE X B (.Call (.Name x p) (e :: es) [] pos) (vCall n sp noX va) :=
  ⟨(L2H.pe_callH (E := fun _ _ _ _ => False) F hr hc hg hm hk hb (fun _ _ _ _ _ _ _ z => z.elim) ha.pa hdb he hpl).weak fun σ H Q h => by
    obtain ⟨G, ρ, m, P, e0, s, t, k⟩ := h
    refine ⟨G, ρ, m, _, e0, s, t, fun ds m1 G1 vs H1 q1 e1 s1 r1 => ?_⟩
    exact ⟨r1.length.symm.trans q1.1, G1, ds, m1, _, noX, s1, r1, q1.2, fun d m2 G2 v H2 q2 e2 => k d m2 G2 v H2 q2 (e1.trans e2), Wsh.no⟩⟩
end DL

/-! ### texts: their signs, their kinds, their parts -/
namespace DL
open PySem L2
open Evl (Ex)
/-- a.m(), a text -/
def oS0 (C : Str → Prop) (g : Str → D) : VM := fun d ds m Q => match d, ds with
  | .str a, [] => C a ∧ Q (g a) m
  | _, _ => False
theorem um_s0 {X : Cx} {id : String} {C : Str → Prop} {g : Str → D} {g' : Str → V} (hg : ∀ a G, Dn X.K G (g a) (g' a)) (h : MtR X id (fun x xs H Q => ∃ a, x = .str a ∧ xs = [] ∧ C a ∧ Q (g' a) H)) : UM X id (oS0 C g) := fun T => mtw h fun x vs H Q h => by
  obtain ⟨G, m, dx, ds, P, s, rx, r, t, k⟩ := h
  unfold oS0 at t
  split at t
  · cases r
    cases rx
    exact ⟨_, rfl, rfl, t.1, k _ m G _ H t.2 Stp.refl s (hg _ G)⟩
  · exact t.elim
theorem um_isdigit {X : Cx} : UM X "str.isdigit" (oS0 (fun _ => True) fun a => .bl (Txt.isdigit a)) := um_s0 (fun _ _ => .bl _) mt_isdigit
theorem um_isalpha {X : Cx} : UM X "str.isalpha" (oS0 (fun _ => True) fun a => .bl (Txt.isalpha a)) := um_s0 (fun _ _ => .bl _) mt_isalpha
theorem um_isascii {X : Cx} : UM X "str.isascii" (oS0 (fun _ => True) fun a => .bl (Txt.isascii a)) := um_s0 (fun _ _ => .bl _) mt_isascii
theorem um_islower {X : Cx} : UM X "str.islower" (oS0 (fun _ => True) fun a => .bl (Txt.islower a)) := um_s0 (fun _ _ => .bl _) mt_islower
theorem DnAll.ofStrs {K : PySem.W.Frag} {G : Hp} : ∀ ys : List Str, DnAll K G (ys.map D.str) (ys.map V.str)
  | [] => .nil
  | _ :: ys => .cons (.str _) (DnAll.ofStrs ys)
/-- a.split(b), a new list that stays as it is -/
def oSplit : VM := fun d ds m Q => match d, ds with
  | .str a, [.str b] => 0 < b.length ∧ a.length + 2 ≤ sizeLine ∧ Q (.lst ((Txt.split a b).map D.str)) m
  | _, _ => False
theorem len_ne0 {b : Str} (h : 0 < b.length) : (b.length == 0) = false := beq_eq_false_iff_ne.mpr (Nat.ne_of_gt h)
theorem um_split {X : Cx} : UM X "str.split" oSplit := fun T => mtw mt_split fun x vs H Q h => by
  obtain ⟨G, m, dx, ds, P, s, rx, r, t, k⟩ := h
  unfold oSplit at t
  split at t
  · obtain ⟨h1, h2, h3⟩ := t
    obtain ⟨v, rfl, r1⟩ := r.one
    cases rx
    cases r1
    refine ⟨_, _, rfl, rfl, len_ne0 h1, h2, fun p hp => ?_⟩
    obtain ⟨e, s'⟩ := s.newG hp (.lst ((Txt.split _ _).map V.str))
    exact k _ m _ _ _ h3 e s' (.lst upd_same (DnAll.ofStrs _))
  · exact t.elim
/-- a.split(b), a new list that will change -/
def oSplitM : VM := fun d ds m Q => match d, ds with
  | .str a, [.str b] => 0 < b.length ∧ a.length + 2 ≤ sizeLine ∧ ∀ p, m p = none → Q (.adr p) (mup m p (.lst ((Txt.split a b).map D.str)))
  | _, _ => False
theorem um_splitM {X : Cx} : UM X "str.split" oSplitM := fun T => mtw mt_split fun x vs H Q h => by
  obtain ⟨G, m, dx, ds, P, s, rx, r, t, k⟩ := h
  unfold oSplitM at t
  split at t
  · obtain ⟨h1, h2, h3⟩ := t
    obtain ⟨v, rfl, r1⟩ := r.one
    cases rx
    cases r1
    refine ⟨_, _, rfl, rfl, len_ne0 h1, h2, fun p hp => ?_⟩
    obtain ⟨e, s'⟩ := s.newM hp (o := .lst ((Txt.split _ _).map D.str)) (ho := .lst ((Txt.split _ _).map V.str)) (.lst (DnAll.ofStrs _))
    exact k _ _ _ _ _ (h3 p (s.free hp).2) e s' (.adr p)
  · exact t.elim
/-- int of a text -/
def bIntS : VB := fun ds m Q => match ds with
  | [.str a] => ∃ n, PySem.intText? a = some n ∧ a.length ≤ 640 ∧ Q (.int n)
  | _ => False
theorem ub_intS {X : Cx} : UB X (.type "int") bIntS := callw call_int_str fun vs H Q h => by
  obtain ⟨G, m, ds, P, s, r, t, k⟩ := h
  unfold bIntS at t
  split at t
  · obtain ⟨v, e, r⟩ := r.one
    cases r
    obtain ⟨n, h1, h2, h3⟩ := t
    exact ⟨_, n, e, h1, h2, k _ G _ H h3 Stp.refl s (.int _)⟩
  · exact t.elim
/-- a * n, a text -/
def repS (a : Str) (n : Int) : Str := ⟨(List.replicate n.toNat a.cps).foldl (· ++ ·) #[]⟩
theorem foldl_size {l : List (Array Nat)} : ∀ {acc : Array Nat}, (l.foldl (· ++ ·) acc).size = acc.size + (l.map Array.size).sum := by
  induction l with
  | nil => simp
  | cons x l ih => intro acc; rw [List.foldl_cons, ih]; simp; omega
theorem op_mulS {X : Cx} : OpR X (binaryOp .Mult) (fun x y H Q => ∃ (a : Str) (n : Int), x = .str a ∧ y = .int n ∧ (2 ≤ n ∧ n ≤ 1000 ∧ 1 ≤ a.length ∧ a.length ≤ 1000) ∧ Q (.str (repS a n)) H) := by
  intro pins s σ H x y v u Q I rx ry h
  obtain ⟨a, n, rfl, rfl, ⟨h1, h2, h3, h4⟩, q⟩ := h
  obtain ⟨t, rfl⟩ := rx
  obtain ⟨t', rfl⟩ := ry
  have hn : a.length * n.toNat ≤ 1000 * 1000 := Nat.mul_le_mul h4 (by omega)
  refine PySem.P.mul_str ?_ ?_ ?_ ?_
  · rw [decide_eq_false (by omega), decide_eq_false (by omega)]
    rfl
  · intro _ _ h5
    have : (a.length : Int) ≤ (2 ^ 63 - 1) / n := by
      refine Int.le_ediv_of_mul_le (by omega) ?_
      have e : (a.length : Int) * n = ((a.length * n.toNat : Nat) : Int) := by
        rw [Int.natCast_mul, Int.toNat_of_nonneg (by omega)]
      rw [e]
      omega
    omega
  · intro _ _
    exact decide_eq_false (by show ¬ _ > sizeLine; unfold sizeLine; omega)
  · rw [if_neg (by omega), if_neg (by rw [Bool.or_eq_true]; rintro (z | z) <;> (have := beq_iff_eq.mp z; omega))]
    refine ⟨?_, .str (repS a n), H, I.tok _, ⟨_, rfl⟩, q⟩
    have e : (repS a n).length = n.toNat * a.length := by
      unfold repS
      show (List.foldl (· ++ ·) #[] (List.replicate n.toNat a.cps)).size = _
      rw [foldl_size, List.map_replicate, List.sum_replicate_nat]
      simp [Str.length]
    have hm := Nat.mul_comm n.toNat a.length
    first
      | (show (repS a n).length ≤ sizeLine; unfold sizeLine; omega)
      | (show tooLong (repS a n).length = false; exact decide_eq_false (by show ¬ _ > sizeLine; unfold sizeLine; omega))
      | trace_state
def oMulS : VO := fun x y _ Q => match x, y with
  | .str a, .int n => (2 ≤ n ∧ n ≤ 1000 ∧ 1 ≤ a.length ∧ a.length ≤ 1000) ∧ Q (.str (repS a n))
  | _, _ => False
theorem uo_mulS {X : Cx} : UO X (binaryOp .Mult) oMulS := opw op_mulS fun x y H Q h => by
  obtain ⟨G, m, dx, dy, P, s, hx, hy, t, k⟩ := h
  unfold oMulS at t
  split at t
  · cases hx
    cases hy
    exact ⟨_, _, rfl, rfl, t.1, k _ G _ H t.2 Stp.refl s (.str _)⟩
  · exact t.elim
theorem ue_gstr {X : Cx} {B : Bs} {x y : Str} {pos : Pos} (h : ∃ t, X.mg x = some (.str y t)) (hg : Gl X x) (hdb : (x == ("__debug__" : Str)) = false := by decide) : UE X B (.Name x pos) (vC (.str y)) := by
  obtain ⟨t, h⟩ := h
  exact ue_glob (v := .str y) (d := .str y) hg h ⟨t, rfl⟩ (fun _ => .str _) hdb
/-- what a call raises is passed on -/
theorem passX {P : Program} {w : World} {K : PySem.W.Frag} {mg : Str → Option Value} {base : Heap} {N : List Str} {qual : Str} {st : Stmt} {f : Addr} {cdv : Value} {A : Around} {outer : List Env} {s : Shared} {H : Hp} {E : XK} :
    Passes (L2N.CX P w) (cxX P w K mg base N qual st f cdv A outer s H E) E :=
  have tk : L2N.Takes (cxX P w K mg base N qual st f cdv A outer s H E) (fun cls d _ H => E cls d H) := L2N.takes_of rfl rfl rfl rfl
  L2N.passes_call tk fun _ _ _ _ h => h
/-- a call that raises nothing here -/
theorem passLN {X : Cx} : Passes (L2N.CX X.prog X.w) X E0 := L2N.passes_call takes_no fun _ _ _ _ h => h
end DL

/-! ### try .. except C, without a name; the suite may raise -/
namespace DL
open PySem L2
open Evl (Ex)
theorem WshF.mono {K : PySem.W.Frag} {B : Bs} {G H : Hp} {m : MH} {PXF : DXF} {W : WX} (h : WshF K B PXF W) (e : B.to G m H) : WshF K ⟨G, m, H⟩ PXF W := fun ρ C ks ds m' G' σ H' ox p e' => h ρ C ks ds m' G' σ H' ox p (e.trans e')
theorem takesL_no {X : Cx} : L2.Takes X (fun _ _ _ _ => False) := fun _ _ ⟨_, _, _, _, _, _, _, _, _, _, _, _, _, _, _, _, w⟩ => w.elim
theorem WshF.no {K : PySem.W.Frag} {B : Bs} : WshF K B (fun _ => noX) (fun _ _ _ _ => False) := fun _ _ _ _ _ _ _ _ _ p => p.elim
/-- try: body / except c: suite; what the body may raise is of the class C0 -/
def vTryO (C0 : Addr) (tb : DXF → VS) (ts : VS) : VS := fun E ρ m => tb (fun ρ' C _ _ m' => C = C0 ∧ ts E ρ' m') E ρ m
theorem us_tryO {X : Cx} {B : Bs} {x : Str} {c : Value} {C0 : Addr} {Wout : WX} {PXo : DXF} {body suite : List Stmt} {b₀ : Stmt} {np pos pos' : Pos} {tb : DXF → VS} {ts : VS}
    (hs : X.stack = X.env :: X.outer) (hf : X.env.frame = some X.env.locals) (hc : Names X x c) (hpa : ∀ hd : Option Value, PassesOwnAt (model X.prog X.w) (X.A.mark hd) X.A X.env X.xe) (tk : L2.Takes X Wout) (wo : WshF X.K B PXo Wout) (hm : PySem.W.exmOne X.K (.ref C0) c = some true)
    (hb : ∀ (B : Bs) (PXF : DXF) (W : WX) (pn : List (Addr × Obj)) (xe : Value → Shared → Prop), L2N.Takes (X.tr pn xe) W → WshF X.K B PXF W → USs (X.tr pn xe) B body (tb PXF))
    (hsu : ∀ (B : Bs) (a : Addr) (oe : Obj) (pn : List (Addr × Obj)), L2.Takes (L2H.suiteX X a ((a, oe) :: pn)) Wout → WshF X.K B PXo Wout → L2H.HotC (L2H.suiteX X a ((a, oe) :: pn)) → USs (L2H.suiteX X a ((a, oe) :: pn)) B (b₀ :: suite) ts) :
    US X B (.Try body [.ExceptHandler (some (.Name x np)) none (b₀ :: suite) pos'] [] [] pos) (vTryO C0 tb ts) :=
  ⟨PS.weak (L2H.ps_try_onlyX (Wout := Wout) (tb := fun W D σ H => ∃ (B : Bs) (PXF : DXF), WshF X.K B PXF W ∧ lowS X.K B (tb PXF) D σ H)
      (ts := fun a cls d D σ H => cls = .ref C0 ∧ ∃ B : Bs, WshF X.K B PXo Wout ∧ lowS X.K B ts D σ H) hs hf hc hpa tk
      (fun W pn xe tk _ _ => ⟨fun pins s σ H D I h => by
        obtain ⟨B, PXF, wh, h⟩ := h
        exact (hb B PXF W pn xe tk wh).ps.run pins s σ H D I h⟩)
      (fun a oe cls d pn hz hv tk2 hot => ⟨fun pins s σ H D I h => by
        obtain ⟨rfl, B, wo, h⟩ := h
        exact (hsu B a oe pn tk2 wo hot).ps.run pins s σ H D I h⟩)) fun D σ H h => by
    obtain ⟨G, ρ, m, E, e0, s, t, k1, k2, k3, k4⟩ := h
    refine ⟨⟨G, m, H⟩, _, ?_, G, ρ, m, E, Stp.refl, s, t, k1, k2, k3, k4⟩
    rintro ρ' C ks ds m' G' σ' H' ox ⟨rfl, hts⟩ e1 s1 xr
    have e1 : Stp G m H G' m' H' := e1
    refine ⟨true, hm, fun _ a ha => ⟨rfl, ⟨G', m', H'⟩, wo.mono (e0.trans e1), G', ρ', m', E, Stp.refl, s1, hts, ?_, ?_, ?_, ?_⟩, fun z => nomatch z⟩
    · intro ρ2 m2 G2 σ2 H2 q e2 s2
      exact k1 _ m2 G2 _ H2 q (e1.trans e2) s2
    · intro d m2 G2 v H2 q e2 s2 r2
      exact k2 d m2 G2 v H2 q (e1.trans e2) s2 r2
    · intro ρ2 m2 G2 σ2 H2 q e2 s2
      exact k3 _ m2 G2 _ H2 q (e1.trans e2) s2
    · intro ρ2 m2 G2 σ2 H2 q e2 s2
      exact k4 _ m2 G2 _ H2 q (e1.trans e2) s2⟩
end DL

/-! ### calls while any exception is handled; raising within a suite; errors with any context -/
namespace DLW
open PySem PySem.Spec PyProof.Rows L2 L2H
section
variable {P : Program} {w : World} {K : PySem.W.Frag} {mg : Str → Option Value} {base : Heap} {CX : CXT} {k : Nat} {f : Addr} {fd : FuncData} {ps : List Str} {sp : Sp}
structure FnW (P : Program) (w : World) (K : PySem.W.Frag) (mg : Str → Option Value) (base : Heap) (CX : CXT) (k : Nat) (f : Addr) (fd : FuncData) (ps : List Str) (sp : Sp) : Prop where
  len : ∀ vs H Q E, sp vs H Q E → vs.length = ps.length
  run : ∀ (A : Around) (outer : List Env) (s : Shared) (H : Hp) (args : Args) (us : List Value) (vs : List V) (Q : VK) (E : XK) (p : Addr × Obj), RoomH k A → PinOk outer H s p → Env0 P w K mg base A outer s H → BindsTo s fd args (ps.zip us) → Vals vs us → sp vs H Q E → codeAny (model P w) A (.call (.ref f) args) (CR CX outer P w H s Q E) s
theorem FnW.hot (F : FnW P w K mg base CX k f fd ps sp) : FnH P w K mg base CX k f fd ps sp := ⟨F.len, fun A outer s H args us vs Q E p hr _ hp e0 b r h => F.run A outer s H args us vs Q E p hr hp e0 b r h⟩
theorem fn_ofW {name qual : Str} {params : Arguments} {body : List Stmt} {scope : Scope} {dV kV doc pm cdv ct oc : Value} {an od : Option Addr} {osl : Array (Option Value)} {N : List Str}
    (lk : K.lookup f = some ⟨oc, od, .func (PySem.W.fnOf name qual params body scope dV kV doc pm an cdv ct), osl⟩) (hcd : PySem.W.codeIn K cdv qual = true) (S : FnScope N ps scope)
    (len : ∀ vs H Q E, sp vs H Q E → vs.length = ps.length)
    (hb : ∀ (A : Around) (outer : List Env) (s : Shared) (H : Hp) (vs : List V) (Q : VK) (E : XK) (p : Addr × Obj), RoomH k (A.deeper (envOfC qual scope s.heap.objs.size f cdv)) → sp vs H Q E →
      ∃ t, PSs (cxH CX P w K mg base N qual scope f cdv A outer s H E p) body t ∧ t { nx := fun _ H' => Q .non H', rt := Q } (L2.start N vs) H) :
    FnW P w K mg base CX (k + 1) f (PySem.W.fnOf name qual params body scope dV kV doc pm an cdv ct) ps sp := ⟨len, fun A outer s H args us vs Q E p hr hpin e0 bt r hsp => by
  have keeps : ∀ b o, base.get? b = some o → s.heap.get? b = some o := fun b o e => (e0.bs b o e).1
  have inK : K.In s.heap := e0.mod.kin.keeps keeps
  have nolim : s.heap.NoLimit := e0.mod.nolimit.keeps keeps
  refine codeAny_call_function hr.depth (inK _ _ lk) rfl S.co S.gen rfl (PySem.W.codeRec_of inK hcd) (bt _ _ _ _ ?_)
  refine wpAny_newFunctionEnv_cells S.kind (fun z hz => ?_) fun env he s1 x => ?_
  · rcases S.par z.1 (List.of_mem_zip hz).1 with q | q
    · exact .inl q
    · exact .inr ⟨q, PySem.W.cellsFrom_some _ _ _ (.inl q)⟩
  subst he
  refine ⟨nolim.keeps x.toInCall.keep, codeAny_func ?_⟩
  obtain ⟨t, ht, hq⟩ := hb A outer s H vs Q E p (hr.deeper _) hsp
  refine wpAny_mono (ht.run [] s1 (L2.start N vs) H _ (inv_startH S hpin e0 (len _ _ _ _ hsp) r x) hq) (fun fl s' done => ?_) fun _ _ z => z
  cases fl with
  | ret u =>
    obtain ⟨v, σ', H', J, rv, q⟩ := done
    exact ⟨v, H', J.os, J.bare, J.base, J.hok, rv, q⟩
  | next =>
    obtain ⟨σ', H', J, q⟩ := done
    exact ⟨.non, H', J.os, J.bare, J.base, J.hok, rfl, q⟩
  | _ =>
    obtain ⟨_, _, _, z⟩ := done
    exact z.elim⟩
end
/-- the context bears some pin -/
def PinC (X : Cx) : Prop := ∃ p : Addr × Obj, p ∈ X.pn
theorem pin_hot {X : Cx} (h : HotC X) : PinC X := by
  obtain ⟨p, _, hp⟩ := h
  exact ⟨p, hp⟩
section
variable {X : Cx} {CX : CXT} {k : Nat} {f : Addr} {fd : FuncData} {ps : List Str} {sp : Sp} {E : L2.St → XK} {x : Str} {q pos : Pos} {e : Expr} {es : List Expr} {t : TA}
theorem run_fnW {pins : List (Addr × Obj)} {σ : L2.St} {H : Hp} {s : Shared} {Q : VK} {us : List Value} {vs : List V} (F : FnW X.prog X.w X.K X.mg X.base CX k f fd ps sp) (hr : RoomH k X.A) (hc : PinC X) (hb : Binds X.K fd ps []) (hx : PassesAt CX X σ (E σ))
    (I : L2.Inv X pins σ H s) (r : Vals vs us) (h : sp vs H Q (E σ)) : wpAny (model X.prog X.w) X.A (call (.ref f) us) (EP X pins σ Q) X.xe s := by
  obtain ⟨p, hp⟩ := hc
  have b := hb s us I.kIn (by rw [List.append_nil, ← r.length]; exact F.len _ _ _ _ h)
  rw [List.append_nil] at b
  obtain ⟨p1, p2, p3, p4, p5⟩ := I.pin p (List.mem_append_left _ hp)
  have pin : PinOk X.stack H s p := ⟨p1, p2, fun m => by
    rcases List.mem_cons.mp (I.stkSub p.1 m) with z | z
    · exact p3 z
    · exact p4 z, p5⟩
  refine wpAny_call (codeAny_mono (F.run X.A X.stack s H ⟨us, []⟩ us vs Q (E σ) p hr pin I.env0 b r h) fun res s' done => ?_)
  cases res with
  | error e => exact hx pins H s e s' I done
  | ok fl =>
    cases fl with
    | ret u => exact I.after done
    | _ => exact done.elim
theorem pe_callW (F : FnW X.prog X.w X.K X.mg X.base CX k f fd ps sp) (hr : RoomH k X.A) (hc : PinC X) (hg : Gl X x) (hm : X.mg x = some (.ref f)) (hk : PySem.W.keepIn X.K (.ref f) = true) (hb : Binds X.K fd ps []) (hx : ∀ σ, PassesAt CX X σ (E σ))
    (ha : PA X (e :: es) t) (hdb : (x == ("__debug__" : Str)) = false := by decide) (he : starEach (e :: es) X.env = (false, eval e X.env) :: starEach es X.env := by rfl) (hpl : (backTo pos (starEach es X.env)).any (·.1) = false := by rfl) :
    PE X (.Call (.Name x q) (e :: es) [] pos) (tCallS sp E t) := ⟨fun pins s σ H Q I h =>
  wpAny_Call_Name_kw (ld_glob I hg hm (PySem.W.callWith_K (h₀ := X.base) I.ok.mod.kin hk (thn (ha.run pos pins s σ H _ I h) fun us s1 z => by
    obtain ⟨vs, H1, J, r, y⟩ := z
    exact ⟨J.kIn, run_fnW F hr hc hb (hx σ) J r y⟩) he hpl) hdb)⟩
end
theorem sky_imp {B : Heap} {l : List Env} {a : Addr} {Z Z' : Obj → Prop} {L : Addr} {h : Heap} (z : ∀ o, Z o → Z' o) (x : Sky B l a Z L h) : Sky B l a Z' L h := by
  rcases x with ⟨h1, h2, h3, oe, vs, h4, h5, h6⟩ | x | ⟨h1, h2, h3, h4⟩
  · exact .inl ⟨h1, h2, h3, oe, vs, h4, z _ h5, h6⟩
  · exact .inr (.inl (flyingZ_imp z x))
  · exact .inr (.inr ⟨h1, h2, h3, tracedZ_imp z h4⟩)
/-- what takes errors with any context takes those without -/
theorem takesN {X : Cx} {W : WX} (tk : L2.Takes X W) : L2N.Takes X W := fun u s' ⟨a, B, sI, pins, σ, H, cls, d, e, I, nb, up, sky, r⟩ => tk u s' ⟨a, B, sI, pins, σ, H, cls, d, e, I, nb, up, sky_imp (fun _ z => z.zc) sky, r⟩
end DLW
namespace DL
open PySem L2 DLX DLW
open Evl (Ex)
section
variable {P : Program} {w : World} {K : PySem.W.Frag} {mg : Str → Option Value} {base : Heap}
theorem ufunW {x qual : Str} {st : Stmt} {f : Addr} {fd : FuncData} {N ps : List Str} {k : Nat} {sp : VSp} (F : Fun K x qual st f fd) (S : FnScope N ps (defScope st))
    (hbody : ∀ (cdv : Value) (A : Around) (outer : List Env) (s : Shared) (H : Hp) (E : XK) (B : Bs) (p : Addr × Obj), L2H.RoomH k (cxHN P w K mg base N qual st f cdv A outer s H E p).A →
      ∃ t, USs (cxHN P w K mg base N qual st f cdv A outer s H E p) B (defBody st) t ∧ ∀ ds m Q PX, ds.length = ps.length → sp ds m Q PX → t { nx := fun _ m' => Q .non m', rt := Q } (fstart N ds) m) :
    FnW P w K mg base CX0 (k + 1) f fd ps (lowSp K ps.length sp) := by
  obtain ⟨oc, od, kV, doc, pm, an, cdv, ct, osl, rfl, lk, hcd⟩ := F.ex
  refine fn_ofW lk hcd S (fun vs H Q E h => h.1) (fun A outer s H vs Q E p hr h => ?_)
  obtain ⟨hl, G, ds, m, P', PX, s1, r1, h1, k1, W⟩ := h
  obtain ⟨t, ht, hq⟩ := hbody cdv A outer s H E ⟨G, m, H⟩ p hr
  refine ⟨_, ht.ps.nox, G, fstart N ds, m, { nx := fun _ m' => P' .non m', rt := P' }, Stp.refl, ⟨frR_start N r1, s1⟩, hq ds m P' PX (r1.length.trans hl) h1, fun ρ' m' G' σ' H' q e s => ?_, fun d m' G' v H' q e s r => ?_, fun ρ' m' G' σ' H' q => q.elim, fun ρ' m' G' σ' H' q => q.elim⟩
  · exact k1 _ _ _ _ _ q e s.ms .non
  · exact k1 _ _ _ _ _ q e s r
/-- the context of a def whose errors may have any context -/
abbrev cxL (P : Program) (w : World) (K : PySem.W.Frag) (mg : Str → Option Value) (base : Heap) (N : List Str) (qual : Str) (st : Stmt) (f : Addr) (cdv : Value) (A : Around) (outer : List Env) (s : Shared) (H : Hp) (E : XK) : Cx :=
  cxOf (L2.CX P w) P w K mg base N qual (defScope st) f cdv A outer s H E
theorem ufunL {x qual : Str} {st : Stmt} {f : Addr} {fd : FuncData} {N ps : List Str} {k : Nat} {sp : VSp} (F : Fun K x qual st f fd) (S : FnScope N ps (defScope st))
    (hbody : ∀ (cdv : Value) (A : Around) (outer : List Env) (s : Shared) (H : Hp) (E : XK) (B : Bs) (PX : DX), Room k (cxL P w K mg base N qual st f cdv A outer s H E).A → Wsh K B PX E →
      ∃ t, USs (cxL P w K mg base N qual st f cdv A outer s H E) B (defBody st) t ∧ ∀ ds m Q, ds.length = ps.length → sp ds m Q PX → t { nx := fun _ m' => Q .non m', rt := Q } (fstart N ds) m) :
    FnOk P w K mg base (L2.CX P w) (k + 1) f fd ps (lowSp K ps.length sp) := by
  obtain ⟨oc, od, kV, doc, pm, an, cdv, ct, osl, rfl, lk, hcd⟩ := F.ex
  refine fn_of lk hcd S (fun vs H Q E h => h.1) (fun A outer s H vs Q E hr h => ?_)
  obtain ⟨hl, G, ds, m, P', PX, s1, r1, h1, k1, W⟩ := h
  obtain ⟨t, ht, hq⟩ := hbody cdv A outer s H E ⟨G, m, H⟩ PX hr W
  refine ⟨_, ht.ps, G, fstart N ds, m, { nx := fun _ m' => P' .non m', rt := P' }, Stp.refl, ⟨frR_start N r1, s1⟩, hq ds m P' (r1.length.trans hl) h1, fun ρ' m' G' σ' H' q e s => ?_, fun d m' G' v H' q e s r => ?_, fun ρ' m' G' σ' H' q => q.elim, fun ρ' m' G' σ' H' q => q.elim⟩
  · exact k1 _ _ _ _ _ q e s.ms .non
  · exact k1 _ _ _ _ _ q e s r
theorem takesL {N : List Str} {qual : Str} {st : Stmt} {f : Addr} {cdv : Value} {A : Around} {outer : List Env} {s : Shared} {H : Hp} {E : XK} : L2.Takes (cxL P w K mg base N qual st f cdv A outer s H E) (fun cls d _ H => E cls d H) := L2.takes_of rfl rfl rfl rfl
/-- what a call raises is passed on, by a def whose errors may have any context -/
theorem passL {N : List Str} {qual : Str} {st : Stmt} {f : Addr} {cdv : Value} {A : Around} {outer : List Env} {s : Shared} {H : Hp} {E : XK} : Passes (L2.CX P w) (cxL P w K mg base N qual st f cdv A outer s H E) E :=
  L2.passes_call takesL fun _ _ _ _ h => h
theorem passNL {N : List Str} {qual : Str} {st : Stmt} {f : Addr} {cdv : Value} {A : Around} {outer : List Env} {s : Shared} {H : Hp} {E : XK} : Passes (L2N.CX P w) (cxL P w K mg base N qual st f cdv A outer s H E) E :=
  have tk : L2N.Takes (cxL P w K mg base N qual st f cdv A outer s H E) (fun cls d _ H => E cls d H) := takesN takesL
  L2N.passes_call tk fun _ _ _ _ h => h
end
/-- a call that raises nothing here -/
theorem passL0 {X : Cx} : Passes (L2.CX X.prog X.w) X E0 := L2.passes_call takesL_no fun _ _ _ _ h => h
theorem ue_callW {X : Cx} {B : Bs} {k n : Nat} {f : Addr} {fd : FuncData} {ps : List Str} {sp : VSp} {x : Str} {p pos : Pos} {e : Expr} {es : List Expr} {va : VA}
    (F : FnW X.prog X.w X.K X.mg X.base CX0 k f fd ps (lowSp X.K n sp)) (hr : L2H.RoomH k X.A) (hc : PinC X) (hg : Gl X x) (hm : X.mg x = some (.ref f)) (hk : PySem.W.keepIn X.K (.ref f) = true) (hb : Binds X.K fd ps [])
    (ha : UA X B (e :: es) va) (hdb : (x == ("__debug__" : Str)) = false := by decide) (he : starEach (e :: es) X.env = (false, eval e X.env) :: starEach es X.env := by rfl) (hpl : (backTo pos (starEach es X.env)).any (·.1) = false := by rfl) :
    UE X B (.Call (.Name x p) (e :: es) [] pos) (vCall n sp noX va) :=
  ⟨(pe_callW (E := fun _ _ _ _ => False) F hr hc hg hm hk hb (fun _ _ _ _ _ _ _ z => z.elim) ha.pa hdb he hpl).weak fun σ H Q h => by
    obtain ⟨G, ρ, m, P, e0, s, t, k⟩ := h
    refine ⟨G, ρ, m, _, e0, s, t, fun ds m1 G1 vs H1 q1 e1 s1 r1 => ?_⟩
    exact ⟨r1.length.symm.trans q1.1, G1, ds, m1, _, noX, s1, r1, q1.2, fun d m2 G2 v H2 q2 e2 => k d m2 G2 v H2 q2 (e1.trans e2), Wsh.no⟩⟩
/-- raise C(e) within a suite -/
theorem us_raiseS {X : Cx} {B : Bs} {W : WX} {PXo : DX} {x pn atn : Str} {C fI : Addr} {k : Nat} {fd : FuncData} {e : Expr} {te : VE} {p pos pos' : Pos} (hc : L2H.HotC X) (tk : L2.Takes X W) (wh : WshF X.K B (fun _ => PXo) W)
    (T : OexC X.K C) (iC : PySem.W.findIn X.K (.ref C) "__init__" = some (some (.ref fI))) (tI : PySem.W.typeIn X.K (.ref fI) = some (.type "function")) (F1 : L2H.FnH X.prog X.w X.K X.mg X.base CX0 k fI fd ["self", pn] (spSup C atn)) (hr : L2H.RoomH (k + 1) X.A)
    (hb : Binds X.K fd ["self", pn] []) (hx : Passes CX0 X (fun _ _ _ => False)) (hg : Gl X x) (hm : X.mg x = some (.ref C)) (he : UE X B e te) (hdb : (x == ("__debug__" : Str)) = false := by decide)
    (hs : starEach [e] X.env = (false, eval e X.env) :: starEach [] X.env := by rfl) (hpl : (backTo pos' (starEach [] X.env)).any (·.1) = false := by rfl) :
    US X B (.Raise (some (.Call (.Name x p) [e] [] pos')) none pos) (vRaiseA C atn (fun _ => PXo) te) :=
  ⟨(L2H.ps_raiseH hc tk (L2H.pmk5_oexH T iC tI F1 hr hc hb hx hg hm (ua_cons he ua_nil hs).pa hdb hs hpl).pmk).weak fun D σ H h => by
    obtain ⟨G, ρ, m, E, e0, s, t, _⟩ := h
    refine ⟨G, ρ, m, fun ds m1 => match ds with | [d] => PXo C [atn] [d] m1 | _ => False, e0, s, t, fun ds m1 G1 vs H1 q1 e1 s1 r1 => ?_⟩
    dsimp only at q1
    split at q1
    case h_2 => exact q1.elim
    · rename_i d
      have q := q1
      obtain ⟨v, rfl, r⟩ := r1.one
      refine ⟨by show 1 ≤ 1000; decide, fun a ha => ⟨a, v, rfl, upd_same, fun dx hd hne => ?_⟩⟩
      have hd1 : H1 dx = none := by rw [upd_ne hne] at hd; exact hd
      refine ⟨rfl, dx, [(atn, v)], upd_same, (upd_ne hne).trans upd_same, hd1, ?_⟩
      have eH : upd (del (upd (upd (upd H1 a (exo a C none)) dx (exd dx [(atn, v)])) a (exo a C (some dx))) a) dx (.xd [(atn, v)]) = upd H1 dx (.xd [(atn, v)]) := by
        funext b
        by_cases hb : b = dx
        · subst hb; rw [upd_same, upd_same]
        · rw [upd_ne hb, upd_ne hb]
          by_cases hba : b = a
          · subst hba; rw [del_same, ha]
          · rw [del_ne hba, upd_ne hba, upd_ne hb, upd_ne hba]
      rw [eH]
      obtain ⟨e2, s2⟩ := s1.newG hd1 (.xd [(atn, v)])
      exact wh ρ C [atn] [d] m1 _ σ _ (some dx) q ((e0.trans e1).trans e2) ⟨s.fr.mono (e1.trans e2).ex, s2⟩ (.inr ⟨dx, _, by simp, rfl, upd_same, rfl, .cons (r.mono e2.ex) .nil⟩)⟩
/-- a call within a try, of a def whose errors may have any context -/
theorem ue_callXL {X : Cx} {B : Bs} {W : WX} {PXF : DXF} {k n : Nat} {f : Addr} {fd : FuncData} {ps : List Str} {sp : VSp} {x : Str} {p pos : Pos} {e : Expr} {es : List Expr} {va : VA}
    (F : FnOk X.prog X.w X.K X.mg X.base (L2.CX X.prog X.w) k f fd ps (lowSp X.K n sp)) (hr : Room k X.A) (hg : Gl X x) (hm : X.mg x = some (.ref f)) (hk : PySem.W.keepIn X.K (.ref f) = true) (hb : Binds X.K fd ps []) (tk : L2.Takes X W) (wh : WshF X.K B PXF W)
    (ha : UA X B (e :: es) va) (hdb : (x == ("__debug__" : Str)) = false := by decide) (he : starEach (e :: es) X.env = (false, eval e X.env) :: starEach es X.env := by rfl) (hpl : (backTo pos (starEach es X.env)).any (·.1) = false := by rfl) :
    UE X B (.Call (.Name x p) (e :: es) [] pos) (vCallX n sp PXF va) :=
  ⟨(pe_callS (E := WE W) F hr hg hm hk hb (fun σ => L2.passAt tk σ) ha.pa hdb he hpl).weak fun σ H Q h => by
    obtain ⟨G, ρ, m, P, e0, s, t, k⟩ := h
    refine ⟨G, ρ, m, _, e0, s, t, fun ds m1 G1 vs H1 q1 e1 s1 r1 => ?_⟩
    refine ⟨r1.length.symm.trans q1.1, G1, ds, m1, _, PXF ρ, s1, r1, q1.2, fun d m2 G2 v H2 q2 e2 => k d m2 G2 v H2 q2 (e1.trans e2), fun C ks es m2 G2 H2 ox p2 e2 s2 x2 => ?_⟩
    exact wh ρ C ks es m2 G2 σ H2 ox p2 ((e0.trans e1).trans e2) ⟨s.fr.mono (e1.trans e2).ex, s2⟩ x2⟩
/-- try: body / except c as n: suite; the body's errors may have any context -/
theorem us_tryAL {X : Cx} {B : Bs} {i : Nat} {x n atn : Str} {c : Value} {C0 : Addr} {body suite : List Stmt} {b₀ : Stmt} {np pos pos' : Pos} {tb : DXF → VS} {ts : Addr → D → VS}
    (hs : X.stack = X.env :: X.outer) (hf : X.env.frame = some X.env.locals) (hN : X.N.Nodup) (hi : X.N[i]? = some n) (hln : X.env.kindOf n = some .local) (hc : Names X x c) (hm : PySem.W.exmOne X.K (.ref C0) c = some true)
    (hb : ∀ (B : Bs) (PXF : DXF) (W : WX) (pn : List (Addr × Obj)) (xe : Value → Shared → Prop), L2.Takes (X.tr pn xe) W → WshF X.K B PXF W → USs (X.tr pn xe) B body (tb PXF))
    (hsu : ∀ (B : Bs) (a : Addr) (oe : Obj) (pn : List (Addr × Obj)) (dd : Addr) (d : D), Zc (.ref C0) (some dd) oe → (∃ vs, oe.data = .fields vs) → XDat X.K B.G atn d dd → PinC (X.suite a ((a, oe) :: pn)) → USs (X.suite a ((a, oe) :: pn)) B (b₀ :: suite) (ts a d)) :
    US X B (.Try body [.ExceptHandler (some (.Name x np)) (some n) (b₀ :: suite) pos'] [] [] pos) (vTryA i C0 atn tb ts) :=
  ⟨PS.weak (L2.ps_try_as (Wout := fun _ _ _ _ => False) (tb := fun W D σ H => ∃ (B : Bs) (PXF : DXF), WshF X.K B PXF W ∧ lowS X.K B (tb PXF) D σ H)
      (ts := fun a cls dx D' σ H => cls = .ref C0 ∧ ∃ (dd : Addr) (d : D) (B : Bs), dx = some dd ∧ XDat X.K B.G atn d dd ∧ lowS X.K B (ts a d) D' σ H) hs hf hN hi hln hc takesL_no
      (fun W pn xe tk _ => ⟨fun pins s σ H D I h => by
        obtain ⟨B, PXF, wh, h⟩ := h
        exact (hb B PXF W pn xe tk wh).ps.run pins s σ H D I h⟩)
      (fun a oe cls dx pn hz hv => ⟨fun pins s σ H D I h => by
        obtain ⟨rfl, dd, d, B, rfl, hx, h⟩ := h
        exact (hsu B a oe pn dd d hz hv hx ⟨(a, oe), List.mem_cons_self⟩).ps.run pins s σ H D I h⟩)) fun D σ H h => by
    obtain ⟨G, ρ, m, E, e0, s, t, k1, k2, k3, k4⟩ := h
    refine ⟨⟨G, m, H⟩, _, ?_, G, ρ, m, E, Stp.refl, s, t, k1, k2, k3, k4⟩
    rintro ρ' C ks ds m' G' σ' H' ox ⟨rfl, d, rfl, rfl, hts⟩ e1 s1 xr
    have e1 : Stp G m H G' m' H' := e1
    obtain ⟨dd, v, rfl, hx⟩ : ∃ (dd : Addr) (v : V), ox = some dd ∧ G' dd = some (.xd [(atn, v)]) ∧ Dn X.K G' d v := by
      rcases xr with ⟨z, _, _⟩ | ⟨dd, fs, _, z, h1, h2, h3⟩
      · cases z
      · match fs, h2, h3 with
        | [(f, v)], h2, h3 =>
          simp only [List.map_cons, List.map_nil, List.cons.injEq, and_true] at h2
          subst h2
          cases h3 with
          | cons r _ => exact ⟨dd, v, z, h1, r⟩
    refine ⟨true, hm, fun _ a ha => ⟨rfl, dd, d, ⟨G', m', H'⟩, rfl, ⟨v, hx⟩, G', fset ρ' i (.adr a), m', _, Stp.refl, ⟨s1.fr.set (.adr a) i, s1.ms⟩, hts a (s1.ms.free ha).2, ?_, ?_, ?_, ?_⟩, fun z => nomatch z⟩
    · intro ρ2 m2 G2 σ2 H2 q e2 s2
      exact k1 _ m2 G2 _ H2 q (e1.trans e2) ⟨FrR.del i none s2.fr, s2.ms⟩
    · intro d m2 G2 v H2 q e2 s2 r2
      exact k2 d m2 G2 v H2 q (e1.trans e2) s2 r2
    · intro ρ2 m2 G2 σ2 H2 q e2 s2
      exact k3 _ m2 G2 _ H2 q (e1.trans e2) ⟨FrR.del i none s2.fr, s2.ms⟩
    · intro ρ2 m2 G2 σ2 H2 q e2 s2
      exact k4 _ m2 G2 _ H2 q (e1.trans e2) ⟨FrR.del i none s2.fr, s2.ms⟩⟩
end DL

/-! ### zip of a text and a tuple; dicts of the module; f-strings -/
namespace DLZ
open PySem PySem.Spec PyProof.Rows L2
def ItzS (K : PySem.W.Frag) (x : Str) (b : Addr) (n : Nat) : It :=
  ⟨fun i H => i < x.cps.size ∧ ∃ (ys : List V) (y : V), SqT K H b ys ∧ ys.length = n ∧ ys[i]? = some y,
    fun i H v H' => ∃ (T : Addr) (c : Nat) (y : V), v = .ref T ∧ H T = none ∧ H' = upd H T (.tup [.str ⟨#[c]⟩, y]) ∧ x.cps[i]? = some c ∧ ∀ ys, SqT K H b ys → ys[i]? = some y,
    fun i H => (∃ ys : List V, SqT K H b ys ∧ ys.length = n) ∧ (x.cps.size ≤ i ∨ n ≤ i)⟩
abbrev tnS (x : Str) (t : Tok) (b z TI TO i1 i2 : Addr) (n : Nat) : Nat → Heap → Prop := fun i h =>
  i ≤ x.cps.size ∧ i ≤ n ∧ IsZip h z TI TO .none ∧ IsTupOf2 h TI (.ref i1) (.ref i2) ∧ (∃ a1 a2, IsTupOf2 h TO a1 a2) ∧ h.IsStrIter i1 (strIterType x) x t i ∧ h.IsTupleIter i2 b i
theorem turn_zipS {P : Program} {w : World} {K : PySem.W.Frag} {elts : List Expr} {kk : Nat} {tpos : Pos} {x : Str} {t : Tok} {b z TI TO i1 i2 : Addr} {n : Nat} (D : ZipSep2 z TI TO i1 i2 [i1] [i2, b]) (hb : b ≠ i2) :
    Turn P w K (.Tuple elts kk tpos) (ItzS K x b n) [z, TI, TO, i1, i2] z (tnS x t b z TI TO i1 i2 n) where
  mem := by simp
  obj := fun i h st c hc => by
    obtain ⟨_, _, hz, hTI, ⟨a1, a2, hTO⟩, ⟨o1, e1, _, d1⟩, ⟨o2, e2, _, d2⟩⟩ := st
    simp only [List.mem_cons, List.not_mem_nil, or_false] at hc
    rcases hc with rfl | rfl | rfl | rfl | rfl
    · exact ⟨_, hz, fun v q => nomatch q⟩
    · exact ⟨_, hTI, fun v q => nomatch q⟩
    · exact ⟨_, hTO, fun v q => nomatch q⟩
    · exact ⟨o1, e1, fun v q => by rw [d1] at q; cases q⟩
    · exact ⟨o2, e2, fun v q => by rw [d2] at q; cases q⟩
  keep := fun i h h' st k => by
    obtain ⟨l1, l2, hz, hTI, ⟨a1, a2, hTO⟩, ⟨o1, e1, r1⟩, ⟨o2, e2, r2⟩⟩ := st
    exact ⟨l1, l2, k z (by simp) _ hz, k TI (by simp) _ hTI, ⟨a1, a2, k TO (by simp) _ hTO⟩, ⟨o1, k i1 (by simp) _ e1, r1⟩, ⟨o2, k i2 (by simp) _ e2, r2⟩⟩
  item := by
    intro X hP hw hK hc i pins s σ H E I hf st hg
    subst hP hw hK
    obtain ⟨l1, l2, hz, hTI, ⟨a1, a2, hTO⟩, h1, h2⟩ := st
    obtain ⟨g1, ys, y, hq, hl, hy⟩ := hg
    obtain ⟨its, rv, p, _⟩ := I.tuple hq
    obtain ⟨u, hu, ru⟩ := rv.get hy
    have lt := (List.getElem?_eq_some_iff.mp hy).1
    have hz1 : z < s.heap.objs.size := Heap.lt_size hz
    have hh : X.A.in1.handled = none := I.ok.hd hc
    have sz : its.toArray.size = n := by rw [List.size_toArray, ← rv.length, hl]
    refine wpAny_pyNext_zipD2_item D (Draws.text hh i1 x t) (Draws.tuple hh i2 b hb its.toArray) hz hTI hTO h1 ⟨h2, p⟩ g1 (by rw [sz]; omega) fun x1 x2 h' tk p1 p2 z' TO' h1' h2' hT hsz hk => ?_
    obtain ⟨c, tc, hc1, rfl⟩ := p1
    have hx2 : x2 = u := by
      have := p2
      rw [List.getElem?_toArray] at this
      exact Option.some.inj (this.symm.trans hu)
    subst hx2
    refine ⟨_, rfl, wpAny_letOwnedTupleGo_zip (s := { s with heap := h', toks := tk }) z' fun h'' z'' sb => ?_⟩
    have up : ∀ q o, q ∉ [z, TI, TO, i1, i2] → s.heap.get? q = some o → h''.get? q = some o := fun q o hn e => by
      simp only [List.mem_cons, List.not_mem_nil, or_false, not_or] at hn
      exact (sb.2 q hn.1).trans (hk q o hn.1 hn.2.2.1 hn.2.2.2.1 hn.2.2.2.2 e)
    have hT2 : h''.get? s.heap.objs.size = some { cls := .type "tuple", data := .seq #[.str ⟨#[c]⟩ tc, x2] } := (sb.2 _ (Nat.ne_of_gt hz1)).trans hT
    have new : ObjOk X.prog X.w (upd H s.heap.objs.size (.tup [.str ⟨#[c]⟩, y])) h'' s.heap.objs.size (.tup [.str ⟨#[c]⟩, y]) :=
      ⟨by show 2 ≤ sizeLine; decide, [.str ⟨#[c]⟩ tc, x2], .cons ⟨tc, rfl⟩ (.cons ru .nil), ⟨_, hT2, rfl, _, rfl⟩⟩
    have I1 : L2.Inv X pins σ (upd H s.heap.objs.size (.tup [.str ⟨#[c]⟩, y])) { s with heap := h'', toks := tk } := I.turnedNew (t' := tk) (ch := [z, TI, TO, i1, i2]) up hf (Nat.le_refl _) new
    refine ⟨.ref s.heap.objs.size, _, I1, rfl, ⟨_, c, y, rfl, I.hok.fresh (Nat.le_refl _), rfl, hc1, fun l hl => by rw [I.tuple_inj hl hq]; exact hy⟩, ⟨g1, by omega, z'', ?_, ⟨.str ⟨#[c]⟩ tc, x2, ?_⟩, ?_, ?_⟩, fun q hq => ?_⟩
    · exact (sb.2 _ D.TIz).trans (hk _ _ D.TIz D.TITO D.TIi1 D.TIi2 hTI)
    · exact (sb.2 _ D.TOz).trans TO'
    · obtain ⟨o1, e1, r1⟩ := h1'
      exact ⟨o1, (sb.2 _ (Ne.symm D.zi1)).trans e1, r1⟩
    · obtain ⟨⟨o2, e2, r2⟩, _⟩ := h2'
      exact ⟨o2, (sb.2 _ (Ne.symm D.zi2)).trans e2, r2⟩
    · have : q < s.heap.objs.size := by
        simp only [List.mem_cons, List.not_mem_nil, or_false] at hq
        rcases hq with rfl | rfl | rfl | rfl | rfl
        · exact hz1
        · exact Heap.lt_size hTI
        · exact Heap.lt_size hTO
        · obtain ⟨_, e, _⟩ := h1; exact Heap.lt_size e
        · obtain ⟨_, e, _⟩ := h2; exact Heap.lt_size e
      rw [upd_ne (Nat.ne_of_lt this)]
      exact (hf q hq).1
  done := by
    intro X hP hw hK hc i pins s σ H E I hf st hg
    subst hP hw hK
    obtain ⟨l1, l2, hz, hTI, ⟨a1, a2, hTO⟩, h1, h2⟩ := st
    obtain ⟨⟨ys, hq, hl⟩, hend⟩ := hg
    obtain ⟨its, rv, p, _⟩ := I.tuple hq
    have hh : X.A.in1.handled = none := I.ok.hd hc
    have sz : its.toArray.size = n := by rw [List.size_toArray, ← rv.length, hl]
    refine wpAny_pyNext_zipD2_end D (Draws.text hh i1 x t) (Draws.tuple hh i2 b hb its.toArray) hz hTI hTO h1 ⟨h2, p⟩ l1 (by rw [sz]; exact l2) (by rw [sz]; omega) fun h' tk hk => ⟨rfl, ?_⟩
    refine I.turnedL (t' := tk) (ch := [z, TI, TO, i1, i2]) (fun q o hn e => ?_) hf
    simp only [List.mem_cons, List.not_mem_nil, or_false, not_or] at hn
    exact hk q o hn.1 hn.2.2.1 hn.2.2.2.1 hn.2.2.2.2 e
  self := fun A i s Q E st h => wpAny_pyIter_zip st.2.2.1 h
def iZipS (K : PySem.W.Frag) (ta : TA) : TI := fun σ H R => ta σ H fun vs H1 => ∃ (x : Str) (b : Addr) (ys : List V), vs = [.str x, .ref b] ∧ SqT K H1 b ys ∧ R (ItzS K x b ys.length) H1
theorem pi_zipS {X : Cx} {e e2 : Expr} {ta : TA} {p pos tpos : Pos} {elts : List Expr} {kk : Nat} (hg : Gl X "zip") (hm : X.mg "zip" = none) (ha : PA X [e, e2] ta)
    (hs : starEach [e, e2] X.env = (false, eval e X.env) :: starEach [e2] X.env := by rfl) (hpl : (backTo pos (starEach [e2] X.env)).any (·.1) = false := by rfl) :
    PI X (.Tuple elts kk tpos) (.Call (.Name "zip" p) [e, e2] [] pos) (iZipS X.K ta) := ⟨fun pins s σ H R I h =>
  Call_ (ld_blt I hg hm PyProof.Rows.boot_zip (PyProof.Rows.callWith_type1 (thn (ha.run pos pins s σ H _ I h) fun us s1 y => by
    obtain ⟨vs, H1, I1, r1, x, b, ys, rfl, hq, q⟩ := y
    obtain ⟨u1, t, rfl, rfl⟩ : ∃ u1 t, u1 = Value.str x t ∧ us = [u1, .ref b] := by
      cases r1 with
      | cons r rr =>
        cases rr with
        | cons r' rr =>
          cases rr
          cases r'
          obtain ⟨t, rfl⟩ := r
          exact ⟨_, t, rfl, rfl⟩
    obtain ⟨its, rv, p2, _⟩ := I1.tuple hq
    have lb : b < s1.heap.objs.size := by
      obtain ⟨o, e, _⟩ := p2
      exact Heap.lt_size e
    refine zip_begins2 (begins_text x t) (begins_tuple b its.toArray) trivial p2 fun h' hz hTI hTO h1 h2 hsz hk => wpAny_pyIter_zip hz ?_
    have I2 : L2.Inv X pins σ H1 { s1 with heap := h' } := I1.kept (t' := s1.toks) hk
    refine ⟨s1.heap.objs.size + 4, [s1.heap.objs.size + 4, s1.heap.objs.size + 2, s1.heap.objs.size + 3, s1.heap.objs.size, s1.heap.objs.size + 1], tnS x t b (s1.heap.objs.size + 4) (s1.heap.objs.size + 2) (s1.heap.objs.size + 3) s1.heap.objs.size (s1.heap.objs.size + 1) ys.length, _, H1, rfl, I2,
      turn_zipS (zip_sep2 (N := s1.heap.objs.size) (fp1 := []) (fp2 := [b]) (by simp) (by simpa using lb)) (Nat.ne_of_lt (Nat.lt_succ_of_lt lb)), ⟨Nat.zero_le _, Nat.zero_le _, hz, hTI, ⟨_, _, hTO⟩, ⟨_, h1, rfl, rfl⟩, ⟨_, h2, rfl, rfl⟩⟩, fun c hc => ?_, q⟩
    have hle : s1.heap.objs.size ≤ c := by
      simp only [List.mem_cons, List.not_mem_nil, or_false] at hc
      rcases hc with rfl | rfl | rfl | rfl | rfl
      · exact Nat.le_add_right _ _
      · exact Nat.le_add_right _ _
      · exact Nat.le_add_right _ _
      · exact Nat.le_refl _
      · exact Nat.le_add_right _ _
    exact I1.fpOk hle (I1.hok.fresh hle)) hs hpl))⟩
/-! a dict of the module with text keys, its entries told -/
def litD : Value → Option DL.D
  | .str y _ => some (.str y)
  | .int i _ => some (.int i)
  | _ => none
def entD (e : DictEntry) : Option (Str × DL.D) := match e.key with
  | .str x _ => (litD e.val).map fun d => (x, d)
  | _ => none
def dicV (K : PySem.W.Frag) (a : Addr) : Option (List (Option (Str × DL.D))) := match K.lookup a with
  | some ⟨_, _, .dict es _, _⟩ => some (es.toList.map entD)
  | _ => none
structure KD (K : PySem.W.Frag) (w : World) (d : Addr) (kvs : List (Str × DL.D)) : Prop where
  kd : ∃ es n, KDict K w d es n
  val : ∀ z, ∃ r, PySem.W.nsIn K d z = some r ∧ (match kvs.lookup z with | none => r = none | some dv => ∃ u, r = some u ∧ litD u = some dv)
theorem lit_rel {u : Value} {d : DL.D} (h : litD u = some d) : ∃ v, RelV v u ∧ ∀ K G, DL.Dn K G d v := by
  cases u <;> first | (cases h; done) | skip
  all_goals (simp only [litD, Option.some.injEq] at h; subst h)
  · rename_i i t
    exact ⟨.int i, ⟨t, rfl⟩, fun _ _ => .int _⟩
  · rename_i y t
    exact ⟨.str y, ⟨t, rfl⟩, fun _ _ => .str _⟩
theorem find_ent : ∀ {l : List DictEntry} {kvs : List (Str × DL.D)} (z : Str), l.map entD = kvs.map some →
    (match kvs.lookup z with | none => l.find? (·.key.isStr z) = none | some dv => ∃ e, l.find? (·.key.isStr z) = some e ∧ litD e.val = some dv) ∧ l.any (·.refKey) = false
  | [], [], _, _ => ⟨rfl, rfl⟩
  | [], _ :: _, _, h => nomatch h
  | _ :: _, [], _, h => nomatch h
  | e :: l, (x, d) :: kvs, z, h => by
    rw [List.map_cons, List.map_cons, List.cons.injEq] at h
    obtain ⟨h1, h2⟩ := h
    obtain ⟨ih1, ih2⟩ := find_ent (l := l) z h2
    obtain ⟨t, hk, hv⟩ : ∃ t, e.key = .str x t ∧ litD e.val = some d := by
      unfold entD at h1
      split at h1
      · rename_i y t hk
        cases hl : litD e.val with
        | none => rw [hl] at h1; cases h1
        | some d' =>
          rw [hl] at h1
          cases h1
          exact ⟨t, hk, rfl⟩
      · cases h1
    have hi : e.key.isStr z = (x == z) := by rw [hk]; rfl
    have hr : e.refKey = false := by unfold DictEntry.refKey; rw [hk]
    refine ⟨?_, by rw [List.any_cons, hr, ih2]; rfl⟩
    rw [List.lookup_cons, List.find?_cons, hi]
    by_cases hz : x = z
    · subst hz
      simp only [BEq.rfl]
      exact ⟨e, rfl, hv⟩
    · rw [beq_eq_false_iff_ne.mpr hz, beq_eq_false_iff_ne.mpr (Ne.symm hz)]
      exact ih1
theorem kd_of {K : PySem.W.Frag} {w : World} {d : Addr} {ks : List Str} {kvs : List (Str × DL.D)} (h1 : He.dicW K d = some (He.keysIn w.params ks)) (h2 : dicV K d = some (kvs.map some)) : KD K w d kvs := by
  obtain ⟨es, n, kd⟩ := He.dicW_ok h1
  refine ⟨⟨es, n, kd⟩, fun z => ?_⟩
  unfold dicV at h2
  rw [kd.at_] at h2
  obtain ⟨f1, f2⟩ := find_ent z (Option.some.inj h2)
  unfold PySem.W.nsIn
  rw [kd.at_]
  dsimp only
  cases hl : kvs.lookup z with
  | none =>
    rw [hl] at f1
    rw [show es.toList.find? (·.key.isStr z) = none from f1, f2]
    exact ⟨none, rfl, rfl⟩
  | some dv =>
    rw [hl] at f1
    obtain ⟨e, he, hv⟩ := f1
    rw [he]
    exact ⟨_, rfl, e.val, rfl, hv⟩
section
variable {X : Cx} {x : Str} {d : Addr} {kvs : List (Str × DL.D)} {e f : Expr} {p apos pos : Pos} {te tf : TE}
/-- d.get(k, x) -/
def tKget (kvs : List (Str × DL.D)) (te tf : TE) : TE := fun σ H Q => te σ H fun k H1 => tf σ H1 fun y H2 => ∃ z : Str, k = .str z ∧ (match kvs.lookup z with | none => Q y H2 | some dv => ∀ v, (∀ K G, DL.Dn K G dv v) → Q v H2)
theorem pe_kget (D : KD X.K X.w d kvs) (hg : Gl X x) (hm : X.mg x = some (.ref d)) (he : PE X e te) (hf : PE X f tf) (m : M2 X (.Name x p) "get" apos e f pos) (hdb : (x == ("__debug__" : Str)) = false := by decide) :
    PE X (.Call (.Attribute (.Name x p) "get" apos) [e, f] [] pos) (tKget kvs te tf) := ⟨fun pins s σ H Q I h => by
  obtain ⟨es, n, kd⟩ := D.kd
  refine wpAny_Call_method m.base m.few m.line PySem.F.plainAttrs_dict PySem.F.slot_dict_get PySem.F.type_dict_get (ld_glob I hg hm ?_ hdb)
  refine ⟨kd_type kd I, fun b q => ?_, ?_⟩
  · cases q
    exact ⟨_, I.kIn _ _ kd.at_, rfl⟩
  rw [m.trees]
  refine Calls.callWith_builtin rfl (Calls.evalArgs_plain (Calls.spliced_cons (thn (he.run pins s σ H _ I h) fun iv s2 y => ?_)))
  obtain ⟨kx, H2, I2, rk, q2⟩ := y
  refine Calls.spliced_cons (thn (hf.run pins s2 σ H2 _ I2 q2) fun fv s3 y => Calls.spliced_nil ?_)
  obtain ⟨yv, H3, I3, ry, z, rfl, q3⟩ := y
  obtain ⟨t, rfl⟩ := rk
  obtain ⟨r, hr, hv⟩ := D.val z
  refine call_meetsIn PySem.F.slot_dict_get (kd_type kd I3) PySem.F.entry_dict_get (PySem.F.args_dict_get_3 _ _ _) (meets_dict_get_default (strKind X.prog X.w) d (strKind_is X.prog X.w z t) kd.low fv)
    ⟨_, PySem.W.mapOf_K (prog := X.prog) (w := X.w) I3.kIn kd.at_ kd.lit, ?_⟩
  show EP X pins σ Q ((findBy Value.isStrOf es z).getD fv) _
  rw [PySem.W.find_K kd.at_ hr]
  cases hl : kvs.lookup z with
  | none =>
    rw [hl] at hv q3
    subst hv
    exact ⟨yv, H3, I3.tok _, ry, q3⟩
  | some dv =>
    rw [hl] at hv q3
    obtain ⟨u, rfl, hu⟩ := hv
    obtain ⟨v, rv, hd⟩ := lit_rel hu
    exact ⟨v, H3, I3.tok _, rv, q3 v hd⟩⟩
end
end DLZ
namespace DL
open PySem L2 DLZ
open Evl (Ex)
section
variable {X : Cx} {B : Bs} {a b e f : Expr} {x : Str} {d : Addr} {kvs : List (Str × D)} {te tf : VE} {va : VA} {p apos pos : Pos}
/-- zip of a text and a tuple -/
def iZS (va : VA) : VI := fun ρ m Q => va ρ m fun ds m1 => match ds with
  | [.str z, .tup es] => Q (zipD (signs z) es) (fun _ => True) m1
  | _ => False
theorem ui_zipS {elts : List Expr} {kk : Nat} {tpos p : Pos} (hg : Gl X "zip") (hm : X.mg "zip" = none) (ha : UA X B [a, b] va)
    (hs : starEach [a, b] X.env = (false, eval a X.env) :: starEach [b] X.env := by rfl) (hpl : (backTo pos (starEach [b] X.env)).any (·.1) = false := by rfl) : UI X B (.Tuple elts kk tpos) (.Call (.Name "zip" p) [a, b] [] pos) (iZS va) :=
  ⟨(pi_zipS hg hm ha.pa hs hpl).weak fun σ H R h => by
    obtain ⟨G, ρ, m, P, e0, s, t, k⟩ := h
    refine ⟨G, ρ, m, _, e0, s, t, fun ds m1 G1 vs H1 q1 e1 s1 r1 => ?_⟩
    split at q1
    · rename_i z es
      obtain ⟨v, v', rfl, r, r'⟩ := r1.two
      cases r
      cases r' with
      | tup h3 h4 =>
        rename_i bx ys
        have hlen : (signs z).length = z.cps.size := by simp [signs]
        refine ⟨z, bx, ys, rfl, Evl.ex_t s1.ex h3, k _ _ m1 G1 H1 _ q1 e1 s1 ?_ trivial⟩
        refine ⟨fun i G m H e s _ hi => ?_, fun i G m H e s _ hi => ?_, fun i G m H x H' e s _ hi y => ?_⟩
        · rw [zipD_len, hlen] at hi
          refine ⟨⟨ys, Evl.ex_t s.ex (Evl.ex_t e h3), rfl⟩, ?_⟩
          rw [← h4.length]
          omega
        · rw [zipD_len, hlen] at hi
          obtain ⟨v, h5, h6⟩ := h4.get (List.getElem?_eq_getElem (show i < es.length by omega))
          exact ⟨by omega, ys, v, Evl.ex_t s.ex (Evl.ex_t e h3), rfl, h5⟩
        · obtain ⟨T, c, y', rfl, hT, rfl, hc, hy⟩ := y
          obtain ⟨d', h5', h6'⟩ := h4.getV (hy ys (Evl.ex_t s.ex (Evl.ex_t e h3)))
          obtain ⟨e2, s2⟩ := s.newG hT (.tup [.str ⟨#[c]⟩, y'])
          refine ⟨_, .tup [.str ⟨#[c]⟩, d'], e2, s2, zipD_at (by simp [signs, hc]) h5', .tup (.of upd_same) (.cons (.str _) (.cons (h6'.mono (e.trans e2.ex)) .nil))⟩
    · exact q1.elim⟩
/-- a dict of the module -/
abbrev KDm (X : Cx) (x : Str) (kvs : List (Str × D)) : Prop := ∃ d, X.mg x = some (.ref d) ∧ KD X.K X.w d kvs
def vKget (kvs : List (Str × D)) (te tf : VE) : VE := fun ρ m Q => te ρ m fun k m1 => tf ρ m1 fun y m2 => match k with | .str z => Q ((kvs.lookup z).getD y) m2 | _ => False
theorem ue_kget (D : KDm X x kvs) (hg : Gl X x) (he : UE X B e te) (hf : UE X B f tf) (m : M2 X (.Name x p) "get" apos e f pos) (hdb : (x == ("__debug__" : Str)) = false := by decide) :
    UE X B (.Call (.Attribute (.Name x p) "get" apos) [e, f] [] pos) (vKget kvs te tf) := by
  obtain ⟨d, hm, D⟩ := D
  refine ⟨(pe_kget D hg hm he.pe hf.pe m hdb).weak fun σ H Q h => ?_⟩
  obtain ⟨G, ρ, m, P, e0, s, t, k⟩ := h
  refine ⟨G, ρ, m, _, e0, s, t, fun x1 m1 G1 v1 H1 q1 e1 s1 r1 => ?_⟩
  refine ⟨G1, ρ, m1, _, e0.trans e1, ⟨s.fr.mono e1.ex, s1⟩, q1, fun x2 m2 G2 v2 H2 q2 e2 s2 r2 => ?_⟩
  cases r1 <;> first | exact q2.elim | skip
  rename_i z
  refine ⟨z, rfl, ?_⟩
  have q2 : P ((kvs.lookup z).getD x2) m2 := q2
  cases hl : kvs.lookup z with
  | none =>
    rw [hl] at q2
    exact k _ m2 G2 _ H2 q2 (e1.trans e2) s2 r2
  | some dv =>
    rw [hl] at q2
    intro v hv
    exact k _ m2 G2 _ H2 q2 (e1.trans e2) s2 (hv _ _)
/-- D[k] -/
def vKix (kvs : List (Str × D)) (te : VE) : VE := fun ρ m Q => te ρ m fun k m1 => match k with | .str z => ∃ dv, kvs.lookup z = some dv ∧ Q dv m1 | _ => False
theorem ue_kix (D : KDm X x kvs) (hg : Gl X x) (he : UE X B e te) (hs : PlainIx e := by exact fun _ _ => rfl) (hdb : (x == ("__debug__" : Str)) = false := by decide) :
    UE X B (.Subscript (.Name x p) e pos) (vKix kvs te) := by
  obtain ⟨d, hm, D⟩ := D
  refine ⟨(pe_ix ix_kdict (pe_glob hg hm (v := .ref d) rfl hdb) he.pe hs).weak fun σ H Q h => ?_⟩
  obtain ⟨G, ρ, m, P, e0, s, t, k⟩ := h
  refine ⟨G, ρ, m, _, e0, s, t, fun x1 m1 G1 v1 H1 q1 e1 s1 r1 => ?_⟩
  cases r1 <;> first | exact q1.elim | skip
  rename_i z
  obtain ⟨dv, hl, q1⟩ := q1
  obtain ⟨es, n, kd⟩ := D.kd
  obtain ⟨r, hr, hv⟩ := D.val z
  rw [hl] at hv
  obtain ⟨u, rfl, hu⟩ := hv
  obtain ⟨v, rv, hd⟩ := lit_rel hu
  exact ⟨d, z, v, rfl, rfl, ⟨es, n, u, kd.at_, kd.lit, hr, rv⟩, k _ m1 G1 _ H1 q1 e1 s1 (hd _ _)⟩
/-- k not in D -/
def vKno (kvs : List (Str × D)) (te : VE) : VE := fun ρ m Q => te ρ m fun k m1 => match k with | .str z => Q (.bl (!(kvs.lookup z).isSome)) m1 | _ => False
theorem ue_kno (D : KDm X x kvs) (hg : Gl X x) (he : UE X B e te) (hm2 : behindInMarks .NotIn (.Name x p) = false := by rfl) (hdb : (x == ("__debug__" : Str)) = false := by decide) :
    UE X B (.Compare e [.NotIn] [.Name x p] pos) (vKno kvs te) := by
  obtain ⟨d, hm, D⟩ := D
  obtain ⟨es, n, kd⟩ := D.kd
  refine ⟨(pe_cmpR (op_notIn_kd kd) he.pe (pe_glob hg hm (v := .ref d) rfl hdb) hm2).weak fun σ H Q h => ?_⟩
  obtain ⟨G, ρ, m, P, e0, s, t, k⟩ := h
  refine ⟨G, ρ, m, _, e0, s, t, fun x1 m1 G1 v1 H1 q1 e1 s1 r1 => ?_⟩
  cases r1 <;> first | exact q1.elim | skip
  rename_i z
  obtain ⟨r, hr, hv⟩ := D.val z
  have hq : r.isSome = (kvs.lookup z).isSome := by
    cases hl : kvs.lookup z with
    | none => rw [hl] at hv; rw [hv]; rfl
    | some dv => rw [hl] at hv; obtain ⟨u, rfl, _⟩ := hv; rfl
  exact ⟨z, r, rfl, rfl, hr, by rw [hq]; exact k _ m1 G1 _ H1 q1 e1 s1 (.bl _)⟩
/-! f-strings -/
def vFmt (te : VE) : VE := fun ρ m Q => te ρ m fun d m1 => match d with
  | .str y => y.length ≤ sizeLine ∧ Q (.str y) m1
  | .int i => i.natAbs.log2 < 1920 ∧ Q (.str (toString i)) m1
  | _ => False
theorem ue_fmt (he : UE X B e te) : UE X B (.FormattedValue e (-1) none pos) (vFmt te) := ⟨(pe_fmt he.pe).weak fun σ H Q h => by
  obtain ⟨G, ρ, m, P, e0, s, t, k⟩ := h
  refine ⟨G, ρ, m, _, e0, s, t, fun d m1 G1 v1 H1 q1 e1 s1 r1 => ?_⟩
  cases r1 <;> first | exact q1.elim | skip
  · exact .inr ⟨_, rfl, q1.1, k _ m1 G1 _ H1 q1.2 e1 s1 (.str _)⟩
  · exact .inl ⟨_, rfl, q1.1, k _ m1 G1 _ H1 q1.2 e1 s1 (.str _)⟩⟩
inductive UJ (X : Cx) (B : Bs) : List Expr → List VE → Prop
  | nil : UJ X B [] []
  | cons {e : Expr} {t : VE} {es : List Expr} {ts : List VE} (h : UE X B e t) (r : UJ X B es ts) : UJ X B (e :: es) (t :: ts)
theorem UJ.pj {es : List Expr} {ts : List VE} (h : UJ X B es ts) : PJ X es (ts.map (lowE X.K B)) := by
  induction h with
  | nil => exact .nil
  | cons h _ ih => exact .cons h.pe ih
def vJs : List VE → Str → VE
  | [], acc => fun _ m Q => Q (.str acc) m
  | t :: ts, acc => fun ρ m Q => t ρ m fun d m1 => match d with
    | .str y => (acc ++ y).length ≤ sizeLine ∧ vJs ts (acc ++ y) ρ m1 Q
    | _ => False
theorem low_js : ∀ (ts : List VE) (acc : Str) {σ : L2.St} {H : Hp} {Q : VK}, lowE X.K B (vJs ts acc) σ H Q → tJs (ts.map (lowE X.K B)) acc σ H fun out H1 => Q (.str out) H1
  | [], acc, σ, H, Q, h => by
    obtain ⟨G, ρ, m, P, e0, s, t, k⟩ := h
    exact k _ m G _ H t Stp.refl s.ms (.str _)
  | t1 :: ts, acc, σ, H, Q, h => by
    obtain ⟨G, ρ, m, P, e0, s, t, k⟩ := h
    refine ⟨G, ρ, m, _, e0, s, t, fun d m1 G1 v1 H1 q1 e1 s1 r1 => ?_⟩
    cases r1 <;> first | exact q1.elim | skip
    rename_i y
    refine ⟨y, rfl, q1.1, low_js ts (acc ++ y) ⟨G1, ρ, m1, P, e0.trans e1, ⟨s.fr.mono e1.ex, s1⟩, q1.2, fun d m2 G2 v H2 q2 e2 => k d m2 G2 v H2 q2 (e1.trans e2)⟩⟩
def vJoin : List VE → VE
  | [] => fun _ m Q => Q (.str Str.empty) m
  | t :: ts => fun ρ m Q => t ρ m fun d m1 => match d with
    | .str y => y.length ≤ sizeLine ∧ vJs ts y ρ m1 Q
    | _ => False
theorem empty_app (y : Str) : Str.empty ++ y = y := PySem.Str.ext' (by rw [PySem.Str.cps_append]; simp [Str.empty])
theorem ue_joined {v1 v2 : Expr} {rest : List Expr} {ts : List VE} (h : UJ X B (v1 :: v2 :: rest) ts) : UE X B (.JoinedStr (v1 :: v2 :: rest) pos) (vJoin ts) := ⟨(pe_joined h.pj).weak fun σ H Q z => by
  refine low_js ts Str.empty ?_
  obtain ⟨G, ρ, m, P, e0, s, t, k⟩ := z
  refine ⟨G, ρ, m, P, e0, s, ?_, k⟩
  cases h with
  | cons h1 h2 =>
    rename_i t1 ts
    have e : vJs (t1 :: ts) Str.empty = vJoin (t1 :: ts) := by
      funext ρ m Q
      show (t1 ρ m fun d m1 => match d with | .str y => (Str.empty ++ y).length ≤ sizeLine ∧ vJs ts (Str.empty ++ y) ρ m1 Q | _ => False) = t1 ρ m fun d m1 => match d with | .str y => y.length ≤ sizeLine ∧ vJs ts y ρ m1 Q | _ => False
      congr 1
      funext d m1
      cases d <;> first | rfl | skip
      dsimp only
      rw [empty_app]
    rw [e]
    exact t⟩
end
end DL

namespace DL
open PySem L2
open Evl (Ex)
/-- "a" * n with 0 ≤ n -/
theorem op_mulS0 {X : Cx} : OpR X (binaryOp .Mult) (fun x y H Q => ∃ (a : Str) (n : Int), x = .str a ∧ y = .int n ∧ (0 ≤ n ∧ n ≤ 1000 ∧ 1 ≤ a.length ∧ a.length ≤ 1000) ∧ Q (.str (repS a n)) H) := by
  intro pins s σ H x y v u Q I rx ry h
  obtain ⟨a, n, rfl, rfl, ⟨h1, h2, h3, h4⟩, q⟩ := h
  by_cases hn2 : 2 ≤ n
  · exact op_mulS pins s σ H _ _ v u Q I rx ry ⟨a, n, rfl, rfl, ⟨hn2, h2, h3, h4⟩, q⟩
  obtain ⟨t, rfl⟩ := rx
  obtain ⟨t', rfl⟩ := ry
  refine PySem.P.mul_str ?_ ?_ ?_ ?_
  · rw [decide_eq_false (by omega), decide_eq_false (by omega)]
    rfl
  · intro _ h5
    exfalso
    have : n = 1 := by omega
    subst this
    exact absurd h5 (by simp)
  · intro _ h5
    exfalso
    have : n = 1 := by omega
    subst this
    exact absurd h5 (by simp)
  · rcases (show n = 0 ∨ n = 1 by omega) with rfl | rfl
    · rw [if_pos (by decide)]
      refine ⟨by decide, .str (repS a 0), H, I.tok _, ⟨_, rfl⟩, q⟩
    · rw [if_neg (by decide), if_pos (by simp)]
      have e : repS a 1 = a := by
        unfold repS
        cases a
        simp
      rw [e] at q
      exact ⟨.str a, H, I, ⟨_, rfl⟩, q⟩
def oMulT : VO := fun x y _ Q => match x, y with
  | .str a, .int n => (0 ≤ n ∧ n ≤ 1000 ∧ 1 ≤ a.length ∧ a.length ≤ 1000) ∧ Q (.str (repS a n))
  | _, _ => False
theorem uo_mulT {X : Cx} : UO X (binaryOp .Mult) oMulT := opw op_mulS0 fun x y H Q h => by
  obtain ⟨G, m, dx, dy, P, s, hx, hy, t, k⟩ := h
  unfold oMulT at t
  split at t
  · cases hx
    cases hy
    exact ⟨_, _, rfl, rfl, t.1, k _ G _ H t.2 Stp.refl s (.str _)⟩
  · exact t.elim
end DL

/-! tuple(x), by a constructor -/
namespace DL
open PySem L2
open Evl (Ex)
def tupOf (m : MH) : D → Option (List D)
  | .tup es => some es
  | d => asL m d
theorem tupOf_ne {m : MH} {d : D} (h : ∀ es, d ≠ .tup es) : tupOf m d = asL m d := by
  cases d <;> first
    | rfl
    | exact absurd rfl (h _)
theorem bT_ne {m : MH} {d : D} {Q : D → Prop} (h : ∀ es, d ≠ .tup es) : bTuple [d] m Q = ∃ es, asL m d = some es ∧ Q (.tup es) := by
  cases d <;> first
    | rfl
    | exact absurd rfl (h _)
theorem tup_dec (d : D) : (∃ es, d = .tup es) ∨ ∀ es, d ≠ .tup es := by
  cases d <;> first
    | exact .inl ⟨_, rfl⟩
    | exact .inr fun _ h => nomatch h
theorem tupOf_l {m : MH} {d : D} {es : List D} (h : asL m d = some es) : tupOf m d = some es := by
  rw [tupOf_ne]
  · exact h
  · rintro es' rfl
    cases h
theorem tupOf_up {m : MH} {d : D} {es : List D} {p : Addr} {o : MO} (h : tupOf m d = some es) (hp : m p = none) : tupOf (mup m p o) d = some es := by
  rcases tup_dec d with ⟨es', rfl⟩ | hn
  · exact h
  · rw [tupOf_ne hn] at h ⊢
    exact asL_up h hp
inductive TupG (d : D) (m : MH) (Q : D → Prop) : Prop
  | mk {es : List D} (h : tupOf m d = some es) (q : Q (.tup es))
def bTupleG : VB := fun ds m Q => match ds with
  | [d] => TupG d m Q
  | _ => False
theorem ub_tupleG {X : Cx} : UB X (.type "tuple") bTupleG := callw ub_tuple fun vs H Q h => by
  obtain ⟨G, m, ds, P, s, r, t, k⟩ := h
  refine ⟨G, m, ds, P, s, r, ?_, k⟩
  unfold bTupleG at t
  split at t
  · rename_i d
    obtain ⟨h, q⟩ := t
    rcases tup_dec d with ⟨es', rfl⟩ | hn
    · cases h
      exact q
    · rw [bT_ne hn]
      rw [tupOf_ne hn] at h
      exact ⟨_, h, q⟩
  · exact t.elim
/-- a list that may stand in a cell or be frozen already -/
def vFrz2 (t : VE) : VE := fun ρ m Q => t ρ m fun d m1 => match d with
  | .adr a => ∃ ds, m1 a = some (.lst ds) ∧ Q (.lst ds) (mdel m1 a)
  | .lst ds => Q (.lst ds) m1
  | _ => False
theorem ue_frz2 {X : Cx} {B : Bs} {e : Expr} {te : VE} (h : UE X B e te) : UE X B e (vFrz2 te) := h.weak fun σ H Q h => by
  obtain ⟨G, ρ, m, P, e0, s, t, k⟩ := h
  refine ⟨G, ρ, m, _, e0, s, t, fun d m1 G1 v1 H1 q1 e1 s1 r1 => ?_⟩
  cases r1 <;> first | exact q1.elim | skip
  · rename_i a
    obtain ⟨ds, h1, h2⟩ := q1
    obtain ⟨ho, r, e2, s2⟩ := s1.freeze h1
    cases r with
    | lst r => exact k _ _ _ _ H1 h2 (e1.trans e2) s2 (.lst upd_same (r.mono e2.ex))
  · rename_i h1 h2
    exact k _ _ _ _ H1 q1 e1 s1 (.lst h1 h2)
end DL

/-! ### try .. except C, without a name; the body's errors may have any context, the suite raises nothing -/
namespace DL
open PySem L2
open Evl (Ex)
theorem us_tryOL {X : Cx} {B : Bs} {x : Str} {c : Value} {C0 : Addr} {body suite : List Stmt} {b₀ : Stmt} {np pos pos' : Pos} {tb : DXF → VS} {ts : VS}
    (hs : X.stack = X.env :: X.outer) (hf : X.env.frame = some X.env.locals) (hc : Names X x c) (hm : PySem.W.exmOne X.K (.ref C0) c = some true)
    (hb : ∀ (B : Bs) (PXF : DXF) (W : WX) (pn : List (Addr × Obj)) (xe : Value → Shared → Prop), L2.Takes (X.tr pn xe) W → WshF X.K B PXF W → USs (X.tr pn xe) B body (tb PXF))
    (hsu : ∀ (B : Bs) (a : Addr) (oe : Obj) (pn : List (Addr × Obj)), USs (X.suite a ((a, oe) :: pn)) B (b₀ :: suite) ts) :
    US X B (.Try body [.ExceptHandler (some (.Name x np)) none (b₀ :: suite) pos'] [] [] pos) (vTryO C0 tb ts) :=
  ⟨PS.weak (L2.ps_try_only (Wout := fun _ _ _ _ => False) (tb := fun W D σ H => ∃ (B : Bs) (PXF : DXF), WshF X.K B PXF W ∧ lowS X.K B (tb PXF) D σ H)
      (ts := fun a cls d D σ H => cls = .ref C0 ∧ ∃ B : Bs, lowS X.K B ts D σ H) hs hf hc takesL_no
      (fun W pn xe tk _ => ⟨fun pins s σ H D I h => by
        obtain ⟨B, PXF, wh, h⟩ := h
        exact (hb B PXF W pn xe tk wh).ps.run pins s σ H D I h⟩)
      (fun a oe cls d pn hz hv => ⟨fun pins s σ H D I h => by
        obtain ⟨rfl, B, h⟩ := h
        exact (hsu B a oe pn).ps.run pins s σ H D I h⟩)) fun D σ H h => by
    obtain ⟨G, ρ, m, E, e0, s, t, k1, k2, k3, k4⟩ := h
    refine ⟨⟨G, m, H⟩, _, ?_, G, ρ, m, E, Stp.refl, s, t, k1, k2, k3, k4⟩
    rintro ρ' C ks ds m' G' σ' H' ox ⟨rfl, hts⟩ e1 s1 xr
    have e1 : Stp G m H G' m' H' := e1
    refine ⟨true, hm, fun _ a ha => ⟨rfl, ⟨G', m', H'⟩, G', ρ', m', E, Stp.refl, s1, hts, ?_, ?_, ?_, ?_⟩, fun z => nomatch z⟩
    · intro ρ2 m2 G2 σ2 H2 q e2 s2
      exact k1 _ m2 G2 _ H2 q (e1.trans e2) s2
    · intro d m2 G2 v H2 q e2 s2 r2
      exact k2 d m2 G2 v H2 q (e1.trans e2) s2 r2
    · intro ρ2 m2 G2 σ2 H2 q e2 s2
      exact k3 _ m2 G2 _ H2 q (e1.trans e2) s2
    · intro ρ2 m2 G2 σ2 H2 q e2 s2
      exact k4 _ m2 G2 _ H2 q (e1.trans e2) s2⟩
/-- k not in D, as a test -/
theorem ut_kno {X : Cx} {B : Bs} {x : Str} {kvs : List (Str × D)} {e : Expr} {te : VE} {p pos : Pos} (D : KDm X x kvs) (hg : Gl X x) (he : UE X B e te) (hm2 : behindInMarks .NotIn (.Name x p) = false := by rfl) (hdb : (x == ("__debug__" : Str)) = false := by decide) :
    UT X B (.Compare e [.NotIn] [.Name x p] pos) (vTest (vKno kvs te)) := by
  obtain ⟨d, hm, D⟩ := D
  obtain ⟨es, n, kd⟩ := D.kd
  refine ⟨(pt_cmpR (op_notIn_kd kd) he.pe (pe_glob hg hm (v := .ref d) rfl hdb) hm2).weak fun σ H Q h => ?_⟩
  obtain ⟨G, ρ, m, P, e0, s, t, k⟩ := h
  refine ⟨G, ρ, m, _, e0, s, t, fun x1 m1 G1 v1 H1 q1 e1 s1 r1 => ?_⟩
  cases r1 <;> first | exact q1.elim | skip
  rename_i z
  obtain ⟨r, hr, hv⟩ := D.val z
  have hq : r.isSome = (kvs.lookup z).isSome := by
    cases hl : kvs.lookup z with
    | none => rw [hl] at hv; rw [hv]; rfl
    | some dv => rw [hl] at hv; obtain ⟨u, rfl, _⟩ := hv; rfl
  exact ⟨z, r, rfl, rfl, hr, _, rfl, by rw [hq]; exact k _ m1 G1 H1 q1 e1 s1⟩
end DL

/-! short words for readings -/
namespace DL
open PySem L2
theorem fin_bl {Q : D → MH → Prop} {b b' : Bool} {m : MH} (q : Q (.bl b) m) (e : b = b') : Q (.bl b') m := by
  subst e; exact q
theorem fin_d {Q : D → MH → Prop} {b b' : D} {m : MH} (q : Q b m) (e : b = b') : Q b' m := by
  subst e; exact q
theorem isN_non : isN .non = true := rfl
theorem isN_int (i : Int) : isN (.int i) = false := rfl
theorem isN_str (i : Str) : isN (.str i) = false := rfl
theorem isN_ins (C : Addr) (ks : List Str) (i : List D) : isN (.ins C ks i) = false := rfl
theorem isN_tup (i : List D) : isN (.tup i) = false := rfl
theorem isN_lst (i : List D) : isN (.lst i) = false := rfl
theorem irng_get {n i : Nat} {x : D} {lo : Int} (h : (irng lo n)[i]? = some x) : x = .int (lo + (i : Nat)) ∧ i < n := by
  have hi : i < n := by
    have := (List.getElem?_eq_some_iff.mp h).1
    rwa [irng_len] at this
  rw [irng_at hi] at h
  exact ⟨(Option.some.inj h).symm, hi⟩
theorem deq_refl (d : D) (h : d.dat = true) : deq d d = true := PySem.SeqAt.eqv_refl _ (D.lay d h)
theorem view_lst {m : MH} {ds : List D} : view m (.lst ds) = .lst ds := rfl
theorem view_fz {m : MH} {ds : List D} : view m (.fz ds) = .lst ds := rfl
theorem view_tup {m : MH} {ds : List D} : view m (.tup ds) = .tup ds := rfl
theorem ne_at {m : MH} {a p : Addr} {o : MO} (h : m a = some o) (k : m p = none) : a ≠ p := fun e => by rw [e, k] at h; cases h
theorem mup_under {m : MH} {a b : Addr} {o x u : MO} (h : b ≠ a) : mup (mup (mup m a o) b x) a u = mup (mup m a u) b x := by
  funext c
  unfold mup
  by_cases e : c = a
  · subst e
    simp [h.symm]
  · by_cases e2 : c = b <;> simp [e, e2, h]
theorem mup_comm {m : MH} {a b : Addr} {x y : MO} (h : b ≠ a) : mup (mup m a x) b y = mup (mup m b y) a x := by
  funext c
  unfold mup
  by_cases e : c = a
  · subst e
    simp [h.symm]
  · simp [e]
theorem atI0 {α : Type} {x : α} {xs : List α} : atI (x :: xs) 0 = some x := by
  have h : atI (x :: xs) ((0 : Nat) : Int) = some x := atI_nat (j := 0) rfl
  exact h
theorem consEq {x y : D} {xs ys : List D} (h : x = y) (hs : xs = ys) : x :: xs = y :: ys := by rw [h, hs]
theorem sz {n : Nat} (h : n ≤ 16777216) : n ≤ sizeLine := h
end DL

/-! data: statements -/
namespace Toy
open PySem L2 DL
def obD : Option Str → D
  | none => .non
  | some b => .str b
def oiD : Option Int → D
  | none => .non
  | some b => .int b
inductive Stm where
  | pro (h t : Int) (b : Option Str)
  | vote (h t : Int) (b : Option Str) (l : Option Int)
  | com (h t : Int) (b : Option Str)
  deriving DecidableEq
def Stm.d : Stm → D
  | .pro h t b => .tup [.str "proposal", .int h, .int t, obD b]
  | .vote h t b l => .tup [.str "prevote", .int h, .int t, obD b, oiD l]
  | .com h t b => .tup [.str "precommit", .int h, .int t, obD b]
def Stm.h : Stm → Int
  | .pro h _ _ | .vote h _ _ _ | .com h _ _ => h
def Stm.t : Stm → Int
  | .pro _ t _ | .vote _ t _ _ | .com _ t _ => t
def Stm.b : Stm → Option Str
  | .pro _ _ b | .vote _ _ b _ | .com _ _ b => b
def Stm.isVote : Stm → Bool
  | .pro _ _ _ => false
  | _ => true
def leansOn (l : Option Int) (t : Int) : Bool := match l with
  | none => false
  | some l => decide (t ≤ l)
/-- point 9 -/
def clash : Stm → Stm → Bool
  | .vote h t b _, .vote h' t' b' _ => decide (h = h') && (decide (t = t') && !decide (b = b'))
  | .com h t b, .com h' t' b' => decide (h = h') && (decide (t = t') && !decide (b = b'))
  | .com h t b, .vote h' t' b' l => decide (h = h') && (!decide (b = none) && !decide (b' = none) && !decide (b = b') && (decide (t < t') && !leansOn l t))
  | .vote h' t' b' l, .com h t b => decide (h' = h) && (!decide (b = none) && !decide (b' = none) && !decide (b = b') && (decide (t < t') && !leansOn l t))
  | _, _ => false
theorem dcomm {α : Type} [DecidableEq α] (a b : α) : decide (a = b) = decide (b = a) := by
  by_cases h : a = b
  · subst h; rfl
  · rw [decide_eq_false h, decide_eq_false (Ne.symm h)]
theorem clash_comm (s t : Stm) : clash s t = clash t s := by
  rcases s with ⟨h, t1, b⟩ | ⟨h, t1, b, l⟩ | ⟨h, t1, b⟩ <;> rcases t with ⟨h', t2, b'⟩ | ⟨h', t2, b', l'⟩ | ⟨h', t2, b'⟩ <;> simp only [clash]
  all_goals (rw [dcomm h h'])
  all_goals (rw [dcomm t1 t2, dcomm b b'])
theorem kpv : ((Str.ofString "proposal") = Str.ofString "prevote") = False := eq_false (by decide +kernel)
theorem kpc : ((Str.ofString "proposal") = Str.ofString "precommit") = False := eq_false (by decide +kernel)
theorem kvp : ((Str.ofString "prevote") = Str.ofString "proposal") = False := eq_false (by decide +kernel)
theorem kvc : ((Str.ofString "prevote") = Str.ofString "precommit") = False := eq_false (by decide +kernel)
theorem kcp : ((Str.ofString "precommit") = Str.ofString "proposal") = False := eq_false (by decide +kernel)
theorem kcv : ((Str.ofString "precommit") = Str.ofString "prevote") = False := eq_false (by decide +kernel)
/-- a block's name is of code points -/
def okB (b : Option Str) : Prop := ∀ x, b = some x → PyData.strOk x = true
theorem obD_dat {b : Option Str} (h : okB b) : (obD b).dat = true := by
  cases b with
  | none => rfl
  | some x => exact h x rfl
theorem oiD_dat (l : Option Int) : (oiD l).dat = true := by cases l <;> rfl
theorem obD_dep (b : Option Str) : (obD b).dep = 0 := by cases b <;> simp [obD, D.dep]
theorem oiD_dep (l : Option Int) : (oiD l).dep = 0 := by cases l <;> simp [oiD, D.dep]
theorem kP_ok : PyData.strOk "proposal" = true := by decide +kernel
theorem kV_ok : PyData.strOk "prevote" = true := by decide +kernel
theorem kC_ok : PyData.strOk "precommit" = true := by decide +kernel
theorem Stm.fit {s : Stm} (h : okB s.b) : s.d.fit = true := by
  cases s <;> simp [Stm.d, D.fit, D.dat, D.dats, D.dep, D.deps, obD_dep, oiD_dep, oiD_dat, kP_ok, kV_ok, kC_ok] <;> exact obD_dat h
/-- a cell of the script -/
def cell (ns : List Int) (k : Nat) : Int := ns.getD k 0
theorem atI_of {α : Type} {xs : List α} {i : Int} {j : Nat} {v : α} (e : i = (j : Int)) (h : xs[j]? = some v) : atI xs i = some v := by
  subst e; exact atI_nat h
theorem atI_mod {xs : List D} {x n : Int} {d : D} (h0 : 0 < n) (hn : n = (xs.length : Int)) : atI xs (x % n) = some (xs.getD (x % n).toNat d) := by
  have h1 := Int.emod_nonneg x (show n ≠ 0 by omega)
  have h2 := Int.emod_lt_of_pos x h0
  have hl : (x % n).toNat < xs.length := by omega
  refine atI_of (j := (x % n).toNat) (by omega) ?_
  rw [List.getD_eq_getElem?_getD, List.getElem?_eq_getElem hl]
  rfl
end Toy
theorem Toy.dsc_ob (a b : Option PySem.Str) : DL.dsc (Toy.obD a) (Toy.obD b) = some (decide (a = b)) := by
  cases a <;> cases b <;> simp [DL.dsc, Toy.obD]
theorem Toy.dsc_oi (a b : Option Int) : DL.dsc (Toy.oiD a) (Toy.oiD b) = some (decide (a = b)) := by
  cases a <;> cases b <;> simp [DL.dsc, Toy.oiD]
theorem Toy.isN_ob (a : Option PySem.Str) : DL.isN (Toy.obD a) = decide (a = none) := by cases a <;> simp [DL.isN, Toy.obD]
theorem Toy.isN_oi (a : Option Int) : DL.isN (Toy.oiD a) = decide (a = none) := by cases a <;> simp [DL.isN, Toy.oiD]

/-! data: committees, rows of digits -/
namespace Toy
open PySem L2 DL
def validW (ws : List Int) : Prop := ws ≠ [] ∧ ws.length ≤ 16 ∧ ∀ w ∈ ws, 1 ≤ w ∧ w ≤ 1000000000000
def comF (ws : List Int) : List D := [.tup (ws.map .int), .int ws.length, .int ws.sum]
theorem enum_get {ws : List Int} {i : Nat} {x : D} (h : (enumD (ws.map D.int))[i]? = some x) : ∃ w, w ∈ ws ∧ x = .tup [.int i, .int w] ∧ i < ws.length := by
  unfold enumD at h
  rw [List.getElem?_map, List.length_map] at h
  cases e : (List.range ws.length)[i]? with
  | none => rw [e] at h; cases h
  | some j =>
    rw [e] at h
    cases h
    have hj := List.getElem?_eq_some_iff.mp e
    obtain ⟨hj, rfl⟩ := hj
    rw [List.getElem_range]
    rw [List.length_range] at hj
    exact ⟨ws[i], List.getElem_mem hj, by simp [List.getD_eq_getElem?_getD, hj], hj⟩
/-- the weight of the listed -/
def wsum (f : Nat → Int) (p : Nat → Bool) : List Nat → Int
  | [] => 0
  | k :: ks => (if p k then f k else 0) + wsum f p ks
def wp (ws : List Int) (p : Nat → Bool) : Int := wsum (fun k => ws.getD k 0) p (List.range ws.length)
def wt (ws ms : List Int) : Int := wp ws fun k => decide ((k : Int) ∈ ms)
theorem sel_sum (f : Nat → Int) (p : Nat → Bool) : ∀ ks : List Nat, ((ks.filter p).map f).sum = wsum f p ks
  | [] => rfl
  | k :: ks => by
    unfold wsum
    cases e : p k with
    | true => rw [List.filter_cons_of_pos e, List.map_cons, List.sum_cons, sel_sum f p ks]; rfl
    | false => rw [List.filter_cons_of_neg (by rw [e]; exact Bool.false_ne_true), sel_sum f p ks]; simp
def comD (C : Addr) (ws : List Int) : D := .ins C ["weights", "size", "total"] (comF ws)
def rowI (c : Int) : Nat → Int → Int → Int → List Int
  | 0, _, _, _ => []
  | n + 1, k, s, z => if 1000000000000000000 ≤ c then s % z :: rowI c n (k + 1) (s / z) z
    else ((s * 48271 + 12345) % 2147483647 * 69621 + k * 7919) % 2147483647 % z :: rowI c n (k + 1) ((s * 48271 + 12345) % 2147483647) z
theorem rowI_len (c : Int) : ∀ (n : Nat) (k s z : Int), (rowI c n k s z).length = n
  | 0, _, _, _ => rfl
  | n + 1, k, s, z => by
    unfold rowI
    split
    · rw [List.length_cons, rowI_len c n]
    · rw [List.length_cons, rowI_len c n]
theorem rowI_rng (c : Int) : ∀ (n : Nat) (k s z : Int), 0 < z → ∀ x ∈ rowI c n k s z, 0 ≤ x ∧ x < z
  | 0, _, _, _, _, _, h => nomatch h
  | n + 1, k, s, z, hz, x, h => by
    unfold rowI at h
    split at h
    all_goals
      rcases List.mem_cons.mp h with rfl | h
      · exact ⟨Int.emod_nonneg _ (by omega), Int.emod_lt_of_pos _ hz⟩
      · exact rowI_rng c n _ _ z hz x h
def row (c : Int) (n : Nat) (z : Int) : List Int := rowI c n 0 c z
theorem row_len {c : Int} {n : Nat} {z : Int} : (row c n z).length = n := rowI_len _ _ _ _ _
theorem row_rng {c : Int} {n : Nat} {z : Int} (h : 0 < z) {x : Int} (hx : x ∈ row c n z) : 0 ≤ x ∧ x < z := rowI_rng _ _ _ _ _ h _ hx
def weights (c z : Int) : List Int :=
  if c / 100 % 3 = 0 then List.replicate (1 + c % z).toNat 1 else (row (c / 300) (1 + c % z).toNat 4).map (1 + ·)
theorem weights_ok {c z : Int} (h : 0 < z) (h2 : z ≤ 16) : validW (weights c z) := by
  have h3 := Int.emod_nonneg c (show z ≠ 0 by omega)
  have h4 := Int.emod_lt_of_pos c h
  have hl : (weights c z).length = (1 + c % z).toNat := by
    unfold weights
    split
    · simp
    · rw [List.length_map, row_len]
  refine ⟨fun e => ?_, by omega, fun w hw => ?_⟩
  · rw [e] at hl
    simp at hl
    omega
  · unfold weights at hw
    split at hw
    · rw [List.mem_replicate] at hw
      omega
    · obtain ⟨x, hx, rfl⟩ := List.mem_map.mp hw
      have := row_rng (by decide) hx
      omega
end Toy
namespace Toy
open PySem L2 DL
theorem wsum_congr {f : Nat → Int} {p q : Nat → Bool} : ∀ {ks : List Nat}, (∀ k ∈ ks, p k = q k) → wsum f p ks = wsum f q ks
  | [], _ => rfl
  | k :: ks, h => by
    unfold wsum
    rw [h k (List.mem_cons_self ..), wsum_congr fun j hj => h j (List.mem_cons_of_mem _ hj)]
theorem wsum_not {f : Nat → Int} {p : Nat → Bool} : ∀ {ks : List Nat}, wsum f p ks + wsum f (fun k => !p k) ks = wsum f (fun _ => true) ks
  | [] => rfl
  | k :: ks => by
    have := wsum_not (f := f) (p := p) (ks := ks)
    unfold wsum
    cases p k
    all_goals simp
    all_goals omega
theorem wsum_and {f : Nat → Int} {p q : Nat → Bool} : ∀ {ks : List Nat}, (∀ k ∈ ks, 0 ≤ f k) → wsum f p ks + wsum f q ks ≤ wsum f (fun k => p k && q k) ks + wsum f (fun _ => true) ks
  | [], _ => Int.le_refl _
  | k :: ks, h => by
    have := wsum_and (f := f) (p := p) (q := q) (ks := ks) fun j hj => h j (List.mem_cons_of_mem _ hj)
    have h0 := h k (List.mem_cons_self ..)
    unfold wsum
    cases p k <;> cases q k
    all_goals simp
    all_goals omega
theorem wsum_nn {f : Nat → Int} {p : Nat → Bool} : ∀ {ks : List Nat}, (∀ k ∈ ks, 0 ≤ f k) → 0 ≤ wsum f p ks
  | [], _ => Int.le_refl _
  | k :: ks, h => by
    have := wsum_nn (f := f) (p := p) (ks := ks) fun j hj => h j (List.mem_cons_of_mem _ hj)
    have h0 := h k (List.mem_cons_self ..)
    unfold wsum
    cases p k
    all_goals simp
    all_goals omega
theorem wsum_true (f : Nat → Int) : ∀ ks : List Nat, wsum f (fun _ => true) ks = (ks.map f).sum
  | [] => rfl
  | k :: ks => by
    unfold wsum
    rw [wsum_true f ks]
    simp
theorem range_getD (ws : List Int) : (List.range ws.length).map (fun k => ws.getD k 0) = ws := by
  refine List.ext_getElem (by simp) fun i h1 h2 => ?_
  rw [List.getElem_map, List.getElem_range, List.getD_eq_getElem?_getD, List.getElem?_eq_getElem h2]
  rfl
theorem wp_true (ws : List Int) : wp ws (fun _ => true) = ws.sum := by
  unfold wp
  rw [wsum_true, range_getD]
theorem ws_nn {ws : List Int} (hv : validW ws) {k : Nat} (hk : k ∈ List.range ws.length) : 0 ≤ ws.getD k 0 := by
  have hk := List.mem_range.mp hk
  rw [List.getD_eq_getElem?_getD, List.getElem?_eq_getElem hk]
  have := hv.2.2 ws[k] (List.getElem_mem hk)
  show 0 ≤ ws[k]
  omega
/-- the members that are not listed -/
def restOf (ws ms : List Int) : List Int := ((List.range ws.length).filter fun k : Nat => !decide ((k : Int) ∈ ms)).map fun k : Nat => (k : Int)
theorem wt_rest (ws ms : List Int) : wt ws ms + wt ws (restOf ws ms) = ws.sum := by
  have e : wt ws (restOf ws ms) = wp ws fun k => !decide ((k : Int) ∈ ms) := by
    refine wsum_congr fun k hk => ?_
    have hk := List.mem_range.mp hk
    show decide _ = !decide _
    rw [Bool.eq_iff_iff, decide_eq_true_iff, Bool.not_eq_true', decide_eq_false_iff_not]
    constructor
    · intro h
      obtain ⟨j, hj, e⟩ := List.mem_map.mp h
      have hj := (List.mem_filter.mp hj).2
      rw [← e]
      simpa using hj
    · intro h
      exact List.mem_map.mpr ⟨k, List.mem_filter.mpr ⟨List.mem_range.mpr hk, by simpa using h⟩, rfl⟩
  rw [e, ← wp_true]
  exact wsum_not
theorem wt_both {ws l1 l2 : List Int} (hv : validW ws) : wt ws l1 + wt ws l2 ≤ wt ws (l1.filter fun x => decide (x ∈ l2)) + ws.sum := by
  have e : wt ws (l1.filter fun x => decide (x ∈ l2)) = wp ws fun k => decide ((k : Int) ∈ l1) && decide ((k : Int) ∈ l2) := by
    refine wsum_congr fun k hk => ?_
    rw [Bool.eq_iff_iff]
    simp
  rw [e, ← wp_true]
  exact wsum_and fun k hk => ws_nn hv hk
end Toy

/-! data: letters -/
namespace Toy
open PySem L2 DL
def menuB (i : Nat) : Option Str := [some "a", some "b", some "a", some "b", none].getD i none
theorem menuB_d {i : Nat} : [D.str "a", D.str "b", D.str "a", D.str "b", D.non].getD i .non = obD (menuB i) := by
  match i with
  | 0 | 1 | 2 | 3 | 4 => rfl
  | n + 5 => rfl
theorem menuB_ok (i : Nat) : okB (menuB i) := by
  match i with
  | 0 | 2 => intro x h; cases h; decide +kernel
  | 1 | 3 => intro x h; cases h; decide +kernel
  | 4 => intro x h; cases h
  | n + 5 => intro x h; cases h

structure Let where
  who : Int
  st : Stm
  deriving DecidableEq
def Let.d (l : Let) : D := .tup [.int l.who, l.st.d]
/-- a drawn statement -/
def stm (g h : Int) : Stm :=
  if g / 20 % 2 = 0 then .com h (g / 5 % 4) (menuB (g % 5).toNat)
  else .vote h (g / 5 % 4) (menuB (g % 5).toNat) (if menuB (g % 5).toNat ≠ none ∧ 0 < g / 5 % 4 ∧ g / 40 % 2 = 1 then some (g / 80 % (g / 5 % 4)) else none)
theorem stm_ok (g h : Int) : okB (stm g h).b := by
  unfold stm
  split
  · exact menuB_ok _
  · exact menuB_ok _
def chD (C : Addr) (who : Int) (x y : Let) : D := .ins C ["who", "first", "second"] [.int who, x.d, y.d]
/-- the first letter that clashes with an earlier one, and the earliest of these -/
def findC (pre : List Let) : List Let → Option (Let × Let)
  | [] => none
  | s :: post => match pre.find? fun f => clash f.st s.st with
    | some f => some (f, s)
    | none => findC (pre ++ [s]) post
def chargeP (ls : List Let) (who : Int) : Option (Let × Let) := findC [] (ls.filter fun l => decide (l.who = who))
def ochD (C : Addr) (who : Int) : Option (Let × Let) → D
  | none => .non
  | some (x, y) => chD C who x y
def opairD : Option (Let × Let) → D
  | none => .non
  | some (x, y) => .tup [x.d, y.d]
/-- the charges against all members, by member -/
def chargesP (ls : List Let) (n : Nat) : List (Int × Let × Let) := (List.range n).filterMap fun k : Nat => (chargeP ls k).map fun p => ((k : Int), p)
def chD3 (C : Addr) (c : Int × Let × Let) : D := chD C c.1 c.2.1 c.2.2
theorem chargesP_succ (ls : List Let) (n : Nat) : chargesP ls (n + 1) = chargesP ls n ++ (match chargeP ls n with | none => [] | some p => [((n : Int), p)]) := by
  unfold chargesP
  rw [List.range_succ, List.filterMap_append]
  cases e : chargeP ls n <;> simp [e]
theorem chargesP_len (ls : List Let) (n : Nat) : (chargesP ls n).length ≤ n := by
  unfold chargesP
  exact Nat.le_trans (List.length_filterMap_le ..) (by simp)
theorem chargesP_mem {ls : List Let} {n : Nat} {c : Int × Let × Let} (h : c ∈ chargesP ls n) : chargeP ls c.1 = some c.2 := by
  obtain ⟨k, _, e⟩ := List.mem_filterMap.mp h
  cases e2 : chargeP ls k with
  | none => rw [e2] at e; cases e
  | some p => rw [e2] at e; cases e; exact e2
theorem enum_at {α : Type} {f : α → D} {xs : List α} {i : Nat} {x : D} (h : (enumD (xs.map f))[i]? = some x) : ∃ w, xs[i]? = some w ∧ x = .tup [.int i, f w] := by
  unfold enumD at h
  rw [List.getElem?_map, List.length_map] at h
  cases e : (List.range xs.length)[i]? with
  | none => rw [e] at h; cases h
  | some j =>
    rw [e] at h
    cases h
    obtain ⟨hj, rfl⟩ := List.getElem?_eq_some_iff.mp e
    rw [List.getElem_range]
    rw [List.length_range] at hj
    exact ⟨xs[i], List.getElem?_eq_getElem hj, by simp [List.getD_eq_getElem?_getD, hj]⟩
theorem enum_len (ds : List D) : (enumD ds).length = ds.length := by simp [enumD]
theorem cut_take {α : Type} {f : α → D} (xs : List α) (n : Nat) (h : n ≤ xs.length) : cutD (xs.map f) none (some (n : Int)) = (xs.take n).map f := by
  have e : HT.sIx (xs.map f).length (xs.map f).length (some (n : Int)) = n := by
    rw [List.length_map, HT.sIx_nat]
    omega
  have e2 : HT.sIx (xs.map f).length 0 none = 0 := rfl
  unfold cutD
  rw [e, e2, List.drop_zero, Nat.sub_zero, List.map_take]
theorem Let.fit {x : Let} (h : okB x.st.b) : x.d.fit = true := by
  have h1 := Stm.fit h
  have hd := fit_dat h1
  cases x with
  | mk w s =>
    have : s.d.dep ≤ 1 := by cases s <;> simp [Stm.d, D.dep, D.deps, obD_dep, oiD_dep]
    have h2 : D.dep (Let.d ⟨w, s⟩) ≤ 64 := by simp only [Let.d, D.dep, D.deps]; omega
    have h3 : D.dat (Let.d ⟨w, s⟩) = true := by simp only [Let.d, D.dat, D.dats, Bool.true_and, Bool.and_true]; exact hd
    unfold D.fit
    rw [Bool.and_eq_true]
    exact ⟨h3, decide_eq_true h2⟩
theorem lets_fit {ls : List Let} (h : ∀ l ∈ ls, okB l.st.b) : (D.lst (ls.map Let.d)).fit = true := fit_of 2 (by decide) _ fun d hd => by
  obtain ⟨l, hl, rfl⟩ := List.mem_map.mp hd
  refine ⟨fit_dat (Let.fit (h l hl)), ?_⟩
  cases l with
  | mk w s => cases s <;> simp [Let.d, Stm.d, D.dep, D.deps, obD_dep, oiD_dep]
theorem findC_ok : ∀ {post pre : List Let} {x y : Let}, findC pre post = some (x, y) → x ∈ pre ++ post ∧ y ∈ pre ++ post ∧ clash x.st y.st = true
  | [], _, _, _, h => nomatch h
  | s :: post, pre, x, y, h => by
    unfold findC at h
    cases e : pre.find? fun f => clash f.st s.st with
    | some f =>
      rw [e] at h
      cases h
      exact ⟨List.mem_append_left _ (List.mem_of_find?_eq_some e), List.mem_append_right _ (List.mem_cons_self ..), by simpa using List.find?_some e⟩
    | none =>
      rw [e] at h
      have := findC_ok h
      rw [List.append_assoc] at this
      exact this
theorem chargeP_ok {ls : List Let} {who : Int} {x y : Let} (h : chargeP ls who = some (x, y)) : x ∈ ls ∧ y ∈ ls ∧ x.who = who ∧ y.who = who ∧ clash x.st y.st = true := by
  obtain ⟨h1, h2, h3⟩ := findC_ok h
  rw [List.nil_append] at h1 h2
  have h1 := List.mem_filter.mp h1
  have h2 := List.mem_filter.mp h2
  exact ⟨h1.1, h2.1, by simpa using h1.2, by simpa using h2.2, h3⟩
theorem clash_self (s : Stm) : clash s s = false := by
  cases s <;> simp [clash]
end Toy

/-! data: certificates by definition -/
namespace Toy
open PySem L2 DL
theorem obD_nob (b : Option Str) : (obD b).nob = true := by cases b <;> rfl
theorem oiD_nob (b : Option Int) : (oiD b).nob = true := by cases b <;> rfl
theorem obD_inj {a b : Option Str} (h : obD a = obD b) : a = b := by cases a <;> cases b <;> cases h <;> rfl
theorem oiD_inj {a b : Option Int} (h : oiD a = oiD b) : a = b := by cases a <;> cases b <;> cases h <;> rfl
theorem Stm.nob (s : Stm) : s.d.nob = true := by cases s <;> simp [Stm.d, D.nob, D.nobs, obD_nob, oiD_nob]
theorem Stm.d_inj {s t : Stm} (h : s.d = t.d) : s = t := by
  cases s <;> cases t <;> simp only [Stm.d, D.tup.injEq, List.cons.injEq, D.str.injEq, D.int.injEq, and_true] at h
  · obtain ⟨_, rfl, rfl, h⟩ := h
    rw [obD_inj h]
  · exact absurd h.2.2.2.2 (by simp)
  · exact absurd h.1 (by decide +kernel)
  · exact absurd h.2.2.2.2 (by simp)
  · obtain ⟨_, rfl, rfl, h, h2⟩ := h
    rw [obD_inj h, oiD_inj h2]
  · exact absurd h.2.2.2.2 (by simp)
  · exact absurd h.1 (by decide +kernel)
  · exact absurd h.2.2.2.2 (by simp)
  · obtain ⟨_, rfl, rfl, h⟩ := h
    rw [obD_inj h]
theorem deq_stm (s t : Stm) : deq s.d t.d = decide (s = t) := by
  rw [Bool.eq_iff_iff, deq_iff _ _ (Stm.nob s) (Stm.nob t), decide_eq_true_iff]
  exact ⟨Stm.d_inj, fun h => by rw [h]⟩
def lettersP (c : Int) (n : Nat) (z : Int) : List Let := (List.range n).map fun k => ⟨(row c (2 * n) 960).getD (2 * k) 0 % z, stm ((row c (2 * n) 960).getD (2 * k + 1) 0) 0⟩
def plantK (dg : List Int) (z : Nat) (k : Nat) : List Let :=
  let dig := fun i : Nat => dg.getD i 0
  let early := dig 0 % 3
  let late := early + dig 1 % 2
  (if dig (8 + k) % 8 ≠ 0 then [⟨k, .vote 0 early (some "a") none⟩, ⟨k, .com 0 early (some "a")⟩] else []) ++
  (if dig (8 + z + k) % 8 ≠ 0 then (if early < late ∧ dig 2 % 3 = 1 then [⟨k, .vote 0 early (some "b") none⟩, ⟨k, .vote 0 late (some "b") (some early)⟩] else [⟨k, .vote 0 late (some "b") none⟩]) ++ [⟨k, .com 0 late (some "b")⟩] else [])
def plantedP (c : Int) (z : Nat) : List Let := (List.range z).flatMap (plantK (row c (2 * z + 8) 60) z)
/-- a vote that counts -/
def voteOk (h : Int) (b : Option Str) (t : Int) (L : List (Option Int)) : Stm → Bool
  | .vote h' t' b' l => decide (h' = h) && decide (t' = t) && decide (b' = b) && decide (l ∈ L) && (match l with | none => true | some x => decide (x < t))
  | _ => false
def votersP (ls : List Let) (h : Int) (b : Option Str) (t : Int) (L : List (Option Int)) : List Int := (ls.filter fun l => voteOk h b t L l.st).map Let.who
def quorumP (ws ms : List Int) : Bool := decide (2 * ws.sum < 3 * wt ws ms)
def leansP (ws : List Int) (ls : List Let) (h : Int) (b : Option Str) : Nat → List (Option Int)
  | 0 => [none]
  | t + 1 => if quorumP ws (votersP ls h b t (leansP ws ls h b t)) then leansP ws ls h b t ++ [some (t : Int)] else leansP ws ls h b t
/-- point 10 -/
def certP (ws : List Int) (ls : List Let) (h : Int) (t : Nat) (b : Option Str) : Bool := quorumP ws (votersP ls h b t (leansP ws ls h b t))
def signersP (ls : List Let) (h t : Int) (b : Option Str) : List Int := (ls.filter fun l => decide (l.st = .com h t b)).map Let.who
/-- point 11 -/
def commP (ws : List Int) (ls : List Let) (h : Int) (t : Nat) (b : Option Str) : Bool := quorumP ws (signersP ls h t b) && certP ws ls h t b
theorem leansP_len (ws : List Int) (ls : List Let) (h : Int) (b : Option Str) : ∀ t, (leansP ws ls h b t).length ≤ t + 1
  | 0 => by simp [leansP]
  | t + 1 => by
    have := leansP_len ws ls h b t
    unfold leansP
    split
    · rw [List.length_append]; simp; omega
    · omega
theorem din_oi {l : Option Int} : ∀ {L : List (Option Int)}, din (oiD l) (L.map oiD) = decide (l ∈ L)
  | [] => rfl
  | m :: L => by
    have ih := din_oi (l := l) (L := L)
    unfold din at ih ⊢
    rw [List.map_cons, List.any_cons, ih]
    have : deq (oiD m) (oiD l) = decide (m = l) := by
      rw [Bool.eq_iff_iff, deq_iff _ _ (by cases m <;> rfl) (by cases l <;> rfl), decide_eq_true_iff]
      cases m <;> cases l <;> simp [oiD]
    rw [this]
    by_cases h : m = l
    · subst h; simp
    · have h2 : ¬ l = m := fun e => h e.symm
      simp [h, h2]
theorem fit_ois (L : List (Option Int)) : (D.lst (L.map oiD)).fit = true := fit_of 0 (by decide) _ fun d hd => by
  obtain ⟨l, _, rfl⟩ := List.mem_map.mp hd
  exact ⟨oiD_dat l, by rw [oiD_dep]; exact Nat.le_refl _⟩
theorem fit_oi (l : Option Int) : (oiD l).fit = true := by cases l <;> simp [oiD, D.fit, D.dat, D.dep]
end Toy

/-! the plain law: two commits of different blocks convict more than a third -/
namespace Toy
open PySem L2 DL
theorem wt_mono {ws l1 l2 : List Int} (hv : validW ws) (h : ∀ k : Nat, k < ws.length → (k : Int) ∈ l1 → (k : Int) ∈ l2) : wt ws l1 ≤ wt ws l2 := by
  have : ∀ ks : List Nat, (∀ k ∈ ks, k ∈ List.range ws.length) → wsum (fun k => ws.getD k 0) (fun k => decide ((k : Int) ∈ l1)) ks ≤ wsum (fun k => ws.getD k 0) (fun k => decide ((k : Int) ∈ l2)) ks := fun ks => by
    induction ks with
    | nil => intro _; exact Int.le_refl _
    | cons k ks ih =>
      intro hk
      have i := ih fun j hj => hk j (List.mem_cons_of_mem _ hj)
      have h0 := ws_nn hv (hk k (List.mem_cons_self ..))
      have hlt := List.mem_range.mp (hk k (List.mem_cons_self ..))
      unfold wsum
      by_cases e1 : (k : Int) ∈ l1
      · have e2 := h k hlt e1
        simp only [e1, e2, decide_true, if_true]
        omega
      · by_cases e2 : (k : Int) ∈ l2
        · simp only [e1, e2, decide_true, decide_false, if_true]
          simp only [Bool.false_eq_true, if_false]
          omega
        · simp only [e1, e2, decide_false, Bool.false_eq_true, if_false]
          omega
  exact this _ fun _ h => h
theorem findC_none : ∀ {post pre : List Let}, findC pre post = none → (∀ x ∈ pre, ∀ y ∈ pre, clash x.st y.st = false) → ∀ x ∈ pre ++ post, ∀ y ∈ pre ++ post, clash x.st y.st = false
  | [], pre, _, h => by rw [List.append_nil]; exact h
  | s :: post, pre, e, h => by
    unfold findC at e
    cases f : pre.find? fun f => clash f.st s.st with
    | some z => rw [f] at e; cases e
    | none =>
      rw [f] at e
      have hn := List.find?_eq_none.mp f
      have hs : ∀ x ∈ pre, clash x.st s.st = false := fun x hx => by simpa using hn x hx
      have := findC_none e (fun x hx y hy => by
        rcases List.mem_append.mp hx with hx | hx <;> rcases List.mem_append.mp hy with hy | hy
        · exact h x hx y hy
        · rw [List.mem_singleton.mp hy]; exact hs x hx
        · rw [List.mem_singleton.mp hx, clash_comm]; exact hs y hy
        · rw [List.mem_singleton.mp hx, List.mem_singleton.mp hy]; exact clash_self _)
      rw [List.append_assoc] at this
      exact this
theorem chargeP_some {ls : List Let} {x y : Let} (hx : x ∈ ls) (hy : y ∈ ls) (hw : x.who = y.who) (hc : clash x.st y.st = true) : chargeP ls x.who ≠ none := fun e => by
  have := findC_none e (by simp) x (by simp [hx]) y (by simp [hy, hw])
  rw [hc] at this
  cases this
/-- who is charged -/
def accused (ls : List Let) (n : Nat) : List Int := (chargesP ls n).map fun c => c.1
theorem mem_accused {ls : List Let} {n k : Nat} (hk : k < n) (h : chargeP ls k ≠ none) : (k : Int) ∈ accused ls n := by
  cases e : chargeP ls k with
  | none => exact absurd e h
  | some p => exact List.mem_map.mpr ⟨((k : Int), p), List.mem_filterMap.mpr ⟨k, List.mem_range.mpr hk, by rw [e]; rfl⟩, rfl⟩
/-- two quorums whose common members have letters that clash -/
theorem third_of {ws : List Int} {ls : List Let} (hv : validW ws) {l1 l2 : List Int} (h1 : quorumP ws l1 = true) (h2 : quorumP ws l2 = true)
    (h : ∀ k ∈ l1, k ∈ l2 → ∃ x ∈ ls, ∃ y ∈ ls, x.who = k ∧ y.who = k ∧ clash x.st y.st = true) : ws.sum < 3 * wt ws (accused ls ws.length) := by
  have b := wt_both (l1 := l1) (l2 := l2) hv
  have m := wt_mono (l1 := l1.filter fun x => decide (x ∈ l2)) (l2 := accused ls ws.length) hv fun k hk hm => by
    obtain ⟨m1, m2⟩ := List.mem_filter.mp hm
    obtain ⟨x, hx, y, hy, e1, e2, c⟩ := h _ m1 (by simpa using m2)
    refine mem_accused hk ?_
    rw [← e1]
    exact chargeP_some hx hy (e1.trans e2.symm) c
  have q1 : 2 * ws.sum < 3 * wt ws l1 := of_decide_eq_true h1
  have q2 : 2 * ws.sum < 3 * wt ws l2 := of_decide_eq_true h2
  omega
theorem leansP_mem {ws : List Int} {ls : List Let} {h : Int} {b : Option Str} {l : Option Int} : ∀ {t : Nat}, l ∈ leansP ws ls h b t → l = none ∨ ∃ s : Nat, s < t ∧ l = some (s : Int) ∧ certP ws ls h s b = true
  | 0, m => .inl (List.mem_singleton.mp m)
  | t + 1, m => by
    unfold leansP at m
    split at m
    next q =>
      rcases List.mem_append.mp m with m | m
      · rcases leansP_mem m with e | ⟨s, h1, h2, h3⟩
        · exact .inl e
        · exact .inr ⟨s, by omega, h2, h3⟩
      · exact .inr ⟨t, by omega, List.mem_singleton.mp m, q⟩
    next q =>
      rcases leansP_mem m with e | ⟨s, h1, h2, h3⟩
      · exact .inl e
      · exact .inr ⟨s, by omega, h2, h3⟩
theorem voters_mem {ls : List Let} {h t k : Int} {b : Option Str} {L : List (Option Int)} (m : k ∈ votersP ls h b t L) : ∃ x ∈ ls, x.who = k ∧ ∃ l, x.st = .vote h t b l ∧ l ∈ L := by
  obtain ⟨x, hx, e⟩ := List.mem_map.mp m
  obtain ⟨h1, h2⟩ := List.mem_filter.mp hx
  refine ⟨x, h1, e, ?_⟩
  rcases x with ⟨w, _ | ⟨h', t', b', l⟩ | _⟩
  · cases h2
  · simp only [voteOk, Bool.and_eq_true, decide_eq_true_iff] at h2
    obtain ⟨⟨⟨⟨rfl, rfl⟩, rfl⟩, hl⟩, _⟩ := h2
    exact ⟨l, rfl, hl⟩
  · cases h2
theorem signers_mem {ls : List Let} {h t k : Int} {b : Option Str} (m : k ∈ signersP ls h t b) : ∃ x ∈ ls, x.who = k ∧ x.st = .com h t b := by
  obtain ⟨x, hx, e⟩ := List.mem_map.mp m
  obtain ⟨h1, h2⟩ := List.mem_filter.mp hx
  exact ⟨x, h1, e, of_decide_eq_true h2⟩
theorem same_turn {ws : List Int} {ls : List Let} (hv : validW ws) {h : Int} {t : Nat} {a b : Str} (hab : a ≠ b) (h1 : certP ws ls h t (some a) = true) (h2 : certP ws ls h t (some b) = true) :
    ws.sum < 3 * wt ws (accused ls ws.length) := third_of hv h1 h2 fun k m1 m2 => by
  obtain ⟨x, hx, e1, l1, s1, _⟩ := voters_mem m1
  obtain ⟨y, hy, e2, l2, s2, _⟩ := voters_mem m2
  exact ⟨x, hx, y, hy, e1, e2, by rw [s1, s2]; simp [clash, hab]⟩
theorem two_commits {ws : List Int} {ls : List Let} (hv : validW ws) {h : Int} {t1 : Nat} {a b : Str} (hab : a ≠ b) (h1 : commP ws ls h t1 (some a) = true) :
    ∀ {t2 : Nat}, t1 ≤ t2 → certP ws ls h t2 (some b) = true → ws.sum < 3 * wt ws (accused ls ws.length) := by
  have h1 := Bool.and_eq_true_iff.mp h1
  intro t2
  induction t2 using Nat.strongRecOn with
  | ind t2 ih =>
    intro hle h2
    by_cases e : t1 = t2
    · subst e
      exact same_turn hv hab h1.2 h2
    · by_cases ex : ∃ s : Nat, s < t2 ∧ t1 ≤ s ∧ certP ws ls h s (some b) = true
      · obtain ⟨s, e1, e2, e3⟩ := ex
        exact ih s e1 e2 e3
      · refine third_of hv h1.1 h2 fun k m1 m2 => ?_
        obtain ⟨x, hx, e1, s1⟩ := signers_mem m1
        obtain ⟨y, hy, e2, l, s2, hl⟩ := voters_mem m2
        refine ⟨x, hx, y, hy, e1, e2, ?_⟩
        rw [s1, s2]
        have hlean : leansOn l t1 = false := by
          rcases leansP_mem hl with rfl | ⟨s, q1, rfl, q3⟩
          · rfl
          · have : ¬ t1 ≤ s := fun z => ex ⟨s, q1, z, q3⟩
            simp [leansOn]
            omega
        have hlt : (t1 : Int) < t2 := by omega
        simp [clash, hab, hlean, hlt]
theorem Let.d_inj {x y : Let} (h : x.d = y.d) : x = y := by
  cases x; cases y
  simp only [Let.d, D.tup.injEq, List.cons.injEq, D.int.injEq, and_true] at h
  obtain ⟨rfl, h⟩ := h
  rw [Stm.d_inj h]
theorem Let.nob (x : Let) : x.d.nob = true := by simp [Let.d, D.nob, D.nobs, Stm.nob]
theorem deq_let (x y : Let) : deq x.d y.d = decide (x = y) := by
  rw [Bool.eq_iff_iff, deq_iff _ _ (Let.nob x) (Let.nob y), decide_eq_true_iff]
  exact ⟨Let.d_inj, fun h => by rw [h]⟩
theorem din_let {x : Let} : ∀ {ls : List Let}, din x.d (ls.map Let.d) = decide (x ∈ ls)
  | [] => rfl
  | m :: ls => by
    have ih := din_let (x := x) (ls := ls)
    unfold din at ih ⊢
    rw [List.map_cons, List.any_cons, ih, deq_let]
    by_cases h : m = x
    · subst h; simp
    · have h2 : ¬ x = m := fun e => h e.symm
      simp [h, h2]
theorem chargesP_lt {ls : List Let} {n : Nat} {c : Int × Let × Let} (h : c ∈ chargesP ls n) : 0 ≤ c.1 ∧ c.1 < n := by
  obtain ⟨k, hk, e⟩ := List.mem_filterMap.mp h
  have := List.mem_range.mp hk
  cases e2 : chargeP ls k with
  | none => rw [e2] at e; cases e
  | some p => rw [e2] at e; cases e; exact ⟨Int.natCast_nonneg k, Int.ofNat_lt.mpr this⟩
theorem chargesP_pair {ls : List Let} : ∀ n : Nat, (chargesP ls n).Pairwise fun c d => c.1 < d.1
  | 0 => by simp [chargesP]
  | n + 1 => by
    rw [chargesP_succ]
    refine List.pairwise_append.mpr ⟨chargesP_pair n, ?_, fun c hc d hd => ?_⟩
    · cases chargeP ls n <;> simp
    · have := (chargesP_lt hc).2
      cases e : chargeP ls n with
      | none => rw [e] at hd; cases hd
      | some p => rw [e] at hd; rw [List.mem_singleton.mp hd]; exact this
theorem chargesP_new {ls : List Let} {n : Nat} {pre post : List (Int × Let × Let)} {c : Int × Let × Let} (h : chargesP ls n = pre ++ c :: post) : c.1 ∉ pre.map fun d => d.1 := fun m => by
  obtain ⟨d, hd, e⟩ := List.mem_map.mp m
  have p := chargesP_pair (ls := ls) n
  rw [h] at p
  have := (List.pairwise_append.mp p).2.2 d hd c (List.mem_cons_self ..)
  omega
theorem fit_str {b : Str} (h : okB (some b)) : (D.str b).fit = true := by
  have := h b rfl
  simp [D.fit, D.dat, D.dep, this]
theorem fit_strs {bs : List Str} (h : ∀ b ∈ bs, okB (some b)) : (D.lst (bs.map D.str)).fit = true := fit_of 0 (by decide) _ fun d hd => by
  obtain ⟨b, hb, rfl⟩ := List.mem_map.mp hd
  exact ⟨h b hb b rfl, by simp [D.dep]⟩
theorem din_str {k : Str} : ∀ {ms : List Str}, din (.str k) (ms.map D.str) = decide (k ∈ ms)
  | [] => rfl
  | m :: ms => by
    have ih := din_str (k := k) (ms := ms)
    unfold din at ih ⊢
    rw [List.map_cons, List.any_cons, ih]
    have : deq (.str m) (.str k) = decide (m = k) := by
      rw [Bool.eq_iff_iff, deq_iff _ _ rfl rfl]
      simp
    rw [this]
    by_cases h : m = k
    · subst h; simp
    · have h2 : ¬ k = m := fun e => h e.symm
      simp [h, h2]
theorem two_of {ws : List Int} {ls : List Let} (hv : validW ws) {bs : List Str} (hnd : bs.Nodup) (hl : bs.length = 2) (h : ∀ b ∈ bs, ∃ t : Nat, commP ws ls 0 t (some b) = true) : ws.sum < 3 * wt ws (accused ls ws.length) := by
  match bs, hl with
  | [x, y], _ =>
    obtain ⟨t1, h1⟩ := h x (by simp)
    obtain ⟨t2, h2⟩ := h y (by simp)
    have hne : x ≠ y := by
      intro e
      subst e
      simp at hnd
    rcases Nat.le_total t1 t2 with z | z
    · exact two_commits hv hne h1 z (Bool.and_eq_true_iff.mp h2).2
    · exact two_commits hv hne.symm h2 z (Bool.and_eq_true_iff.mp h1).2
end Toy

/-! data: letters drawn and planted -/
namespace Toy
open PySem L2 DL
theorem plantedP_len (c : Int) (z : Nat) : (plantedP c z).length ≤ 5 * z := by
  have : ∀ (dg : List Int) (l : List Nat), (l.flatMap (plantK dg z)).length ≤ 5 * l.length := fun dg l => by
    induction l with
    | nil => simp
    | cons a l ih =>
      rw [List.flatMap_cons, List.length_append, List.length_cons]
      have : (plantK dg z a).length ≤ 5 := by
        simp only [plantK]
        split <;> split <;> (try split) <;> simp
      omega
  have := this (row c (2 * z + 8) 60) (List.range z)
  rw [List.length_range] at this
  exact this
theorem lettersP_len (c : Int) (n : Nat) (z : Int) : (lettersP c n z).length = n := by simp [lettersP]
theorem lettersP_ok (c : Int) (n : Nat) (z : Int) : ∀ l ∈ lettersP c n z, okB l.st.b := fun l hl => by
  obtain ⟨k, _, rfl⟩ := List.mem_map.mp hl
  exact stm_ok _ _
theorem okA : okB (some "a") := fun x h => by cases h; decide +kernel
theorem okBb : okB (some "b") := fun x h => by cases h; decide +kernel
theorem plantedP_ok (c : Int) (z : Nat) : ∀ l ∈ plantedP c z, okB l.st.b := fun l hl => by
  obtain ⟨k, _, hk⟩ := List.mem_flatMap.mp hl
  simp only [plantK] at hk
  rcases List.mem_append.mp hk with hk | hk
  · split at hk
    · simp only [List.mem_cons, List.not_mem_nil, or_false] at hk
      rcases hk with rfl | rfl <;> exact okA
    · cases hk
  · split at hk
    · rcases List.mem_append.mp hk with hk | hk
      · split at hk
        · simp only [List.mem_cons, List.not_mem_nil, or_false] at hk
          rcases hk with rfl | rfl <;> exact okBb
        · simp only [List.mem_cons, List.not_mem_nil, or_false] at hk
          rcases hk with rfl
          exact okBb
      · simp only [List.mem_cons, List.not_mem_nil, or_false] at hk
        rcases hk with rfl
        exact okBb
    · cases hk
end Toy
namespace Toy
open PySem L2 DL
theorem ab_ok {b : Str} (h : b ∈ (["a", "b"] : List Str)) : okB (some b) := by
  simp only [List.mem_cons, List.not_mem_nil, or_false] at h
  rcases h with rfl | rfl
  · exact okA
  · exact okBb
end Toy

/-! data: books -/
namespace Toy
open PySem L2 DL
structure BookS where
  kept : List Let
  certs : List (Int × Str)
  commits : List (Int × Str)
theorem pD_inj {c d : Int × Str} (h : pD c = pD d) : c = d := by
  obtain ⟨a, b⟩ := c
  obtain ⟨a', b'⟩ := d
  simp only [pD, D.tup.injEq, List.cons.injEq, D.int.injEq, D.str.injEq, and_true] at h
  rw [h.1, h.2]
theorem deq_pD (c d : Int × Str) : deq (pD c) (pD d) = decide (c = d) := by
  rw [Bool.eq_iff_iff, deq_iff _ _ (by simp [pD, D.nob, D.nobs]) (by simp [pD, D.nob, D.nobs]), decide_eq_true_iff]
  exact ⟨pD_inj, fun h => by rw [h]⟩
/-- membership, of any data by an injection -/
theorem din_iff {α : Type} [DecidableEq α] {f : α → D} (h : ∀ x y : α, deq (f x) (f y) = decide (x = y)) {x : α} : ∀ {xs : List α}, din (f x) (xs.map f) = true ↔ x ∈ xs
  | [] => by simp [din]
  | m :: ms => by
    have ih := din_iff h (x := x) (xs := ms)
    unfold din at ih ⊢
    rw [List.map_cons, List.any_cons, Bool.or_eq_true, ih, h, decide_eq_true_iff, List.mem_cons]
    exact ⟨fun z => z.elim (fun e => .inl e.symm) .inr, fun z => z.elim (fun e => .inl e.symm) .inr⟩
theorem din_pD {c : Int × Str} {cs : List (Int × Str)} : din (pD c) (cs.map pD) = decide (c ∈ cs) := by
  rw [Bool.eq_iff_iff, decide_eq_true_iff]
  exact din_iff deq_pD
theorem din_pD' {t : Int} {b : Str} {cs : List (Int × Str)} : din (.tup [.int t, .str b]) (cs.map pD) = decide ((t, b) ∈ cs) := din_pD (c := (t, b))
theorem pD_fit {c : Int × Str} (h : okB (some c.2)) : (pD c).fit = true := by
  have := h c.2 rfl
  simp [pD, D.fit, D.dat, D.dats, D.dep, D.deps, this]
theorem pD_fit' {t : Int} {b : Str} (h : okB (some b)) : (D.tup [.int t, .str b]).fit = true := pD_fit (c := (t, b)) h
theorem pDs_fit {cs : List (Int × Str)} (h : ∀ c ∈ cs, okB (some c.2)) : (D.lst (cs.map pD)).fit = true := fit_of 1 (by decide) _ fun d hd => by
  obtain ⟨c, hc, rfl⟩ := List.mem_map.mp hd
  refine ⟨fit_dat (pD_fit (h c hc)), ?_⟩
  simp [pD, D.dep, D.deps]
/-- a prevote that counts, by the certificates found -/
def countsP (certs : List (Int × Str)) (l : Option Int) (t : Int) (b : Str) : Bool := match l with
  | none => true
  | some x => decide (x < t) && decide ((x, b) ∈ certs)
def voterB (certs : List (Int × Str)) (t : Int) (b : Str) : Stm → Bool
  | .vote _ t' b' l => decide (t' = t) && (decide (b' = some b) && countsP certs l t b)
  | _ => false
def signerB (t : Int) (b : Str) : Stm → Bool
  | .com _ t' b' => decide (t' = t) && decide (b' = some b)
  | _ => false
def votersB (kept : List Let) (certs : List (Int × Str)) (t : Int) (b : Str) : List Int := (kept.filter fun l => voterB certs t b l.st).map Let.who
def signersB (kept : List Let) (t : Int) (b : Str) : List Int := (kept.filter fun l => signerB t b l.st).map Let.who
/-- one turn looked at -/
def lookC (ws : List Int) (x : BookS) (t : Int) (b : Str) : List (Int × Str) := if (t, b) ∉ x.certs ∧ quorumP ws (votersB x.kept x.certs t b) = true then x.certs ++ [(t, b)] else x.certs
def lookP (ws : List Int) (x : BookS) (t : Int) (b : Str) : BookS :=
  { kept := x.kept, certs := lookC ws x t b, commits := if (t, b) ∈ lookC ws x t b ∧ quorumP ws (signersB x.kept t b) = true ∧ (t, b) ∉ x.commits then x.commits ++ [(t, b)] else x.commits }
def turnsB (kept : List Let) (b : Str) : List Int := ascI ((kept.filter fun l => decide (l.st.b = some b)).map fun l => l.st.t)
def spreadP (ws : List Int) (x : BookS) (t : Int) (b : Str) : BookS := (turnsB x.kept b).foldl (fun y u => if t ≤ u then lookP ws y u b else y) x
def keepsP (ws : List Int) (h : Int) (x : BookS) (l : Let) : Bool := decide (0 ≤ l.who) && (decide (l.who < ws.length) && (l.st.isVote && (decide (l.st.h = h) && decide (l ∉ x.kept))))
def addP (ws : List Int) (h : Int) (x : BookS) (l : Let) : BookS :=
  if keepsP ws h x l = true then (match l.st.b with
    | none => { x with kept := x.kept ++ [l] }
    | some b => spreadP ws { x with kept := x.kept ++ [l] } l.st.t b) else x
def latestP (certs : List (Int × Str)) (b : Str) (t : Int) : Option Int := certs.foldl (fun f c => if c.2 = b ∧ c.1 < t ∧ (∀ x, f = some x → x < c.1) then some c.1 else f) none
theorem lookP_kept (ws : List Int) (x : BookS) (t : Int) (b : Str) : (lookP ws x t b).kept = x.kept := rfl
theorem spreadP_kept (ws : List Int) (x : BookS) (t : Int) (b : Str) : (spreadP ws x t b).kept = x.kept := by
  unfold spreadP
  generalize turnsB x.kept b = us
  have : ∀ (us : List Int) (y : BookS), (us.foldl (fun y u => if t ≤ u then lookP ws y u b else y) y).kept = y.kept := fun us => by
    induction us with
    | nil => intro y; rfl
    | cons u us ih =>
      intro y
      rw [List.foldl_cons, ih]
      split <;> rfl
  exact this us x
/-- what stands in a book -/
structure BookOk (x : BookS) (n : Nat) : Prop where
  len : x.kept.length ≤ n
  ok : ∀ l ∈ x.kept, okB l.st.b
  vote : ∀ l ∈ x.kept, l.st.isVote = true
  cok : ∀ c ∈ x.certs, okB (some c.2)
  mok : ∀ c ∈ x.commits, okB (some c.2)
  clen : x.certs.length ≤ n * n
  mlen : x.commits.length ≤ n * n
end Toy
namespace Toy
open PySem L2 DL
theorem votersB_snoc (pre : List Let) (l : Let) (certs : List (Int × Str)) (t : Int) (b : Str) : votersB (pre ++ [l]) certs t b = votersB pre certs t b ++ (if voterB certs t b l.st = true then [l.who] else []) := by
  simp only [votersB, List.filter_append, List.map_append]
  by_cases e : voterB certs t b l.st = true <;> simp [e]
theorem signersB_snoc (pre : List Let) (l : Let) (t : Int) (b : Str) : signersB (pre ++ [l]) t b = signersB pre t b ++ (if signerB t b l.st = true then [l.who] else []) := by
  simp only [signersB, List.filter_append, List.map_append]
  by_cases e : signerB t b l.st = true <;> simp [e]
theorem votersB_len (pre : List Let) (certs : List (Int × Str)) (t : Int) (b : Str) : (votersB pre certs t b).length ≤ pre.length := by
  rw [votersB, List.length_map]
  exact List.length_filter_le ..
theorem signersB_len (pre : List Let) (t : Int) (b : Str) : (signersB pre t b).length ≤ pre.length := by
  rw [signersB, List.length_map]
  exact List.length_filter_le ..
end Toy
namespace Toy
open PySem L2 DL
theorem din_let' {w : Int} {s : Stm} {ls : List Let} : din (.tup [.int w, s.d]) (ls.map Let.d) = decide ((⟨w, s⟩ : Let) ∈ ls) := din_let (x := ⟨w, s⟩)
theorem deq_let' {w v : Int} {s t : Stm} : deq (.tup [.int w, s.d]) (.tup [.int v, t.d]) = decide ((⟨w, s⟩ : Let) = ⟨v, t⟩) := deq_let ⟨w, s⟩ ⟨v, t⟩
theorem fit_let' {w : Int} {s : Stm} (h : okB s.b) : (D.tup [.int w, s.d]).fit = true := Let.fit (x := ⟨w, s⟩) h
end Toy
namespace Toy
open PySem L2 DL
theorem keepsP_iff {ws : List Int} {h : Int} {x : BookS} {w : Int} {s : Stm} : keepsP ws h x ⟨w, s⟩ = true ↔ 0 ≤ w ∧ w < ws.length ∧ s.isVote = true ∧ s.h = h ∧ (⟨w, s⟩ : Let) ∉ x.kept := by
  simp only [keepsP, Bool.and_eq_true, decide_eq_true_eq]
end Toy
namespace Toy
open PySem L2 DL
/-- letters of different senders, until they are a quorum -/
def pickQ (ws : List Int) (ls : List Let) : List Let := ls.foldl (fun acc l => if l.who ∉ acc.map Let.who ∧ quorumP ws (acc.map Let.who) = false then acc ++ [l] else acc) []
theorem pickQ_len (ws : List Int) (ls : List Let) : (pickQ ws ls).length ≤ ls.length := by
  have : ∀ (ls acc : List Let), (ls.foldl (fun acc l => if l.who ∉ acc.map Let.who ∧ quorumP ws (acc.map Let.who) = false then acc ++ [l] else acc) acc).length ≤ acc.length + ls.length := fun ls => by
    induction ls with
    | nil => intro acc; exact Nat.le_refl _
    | cons l ls ih =>
      intro acc
      rw [List.foldl_cons, List.length_cons]
      refine Nat.le_trans (ih _) ?_
      split
      · rw [List.length_append, List.length_singleton]; omega
      · omega
  have h := this ls []
  rw [List.length_nil, Nat.zero_add] at h
  exact h
theorem pickQ_sub (ws : List Int) (ls : List Let) : ∀ l ∈ pickQ ws ls, l ∈ ls := by
  have : ∀ (ls acc : List Let), ∀ l ∈ ls.foldl (fun acc l => if l.who ∉ acc.map Let.who ∧ quorumP ws (acc.map Let.who) = false then acc ++ [l] else acc) acc, l ∈ acc ∨ l ∈ ls := fun ls => by
    induction ls with
    | nil => intro acc l h; exact .inl h
    | cons l ls ih =>
      intro acc x h
      rw [List.foldl_cons] at h
      rcases ih _ x h with z | z
      · split at z
        · rcases List.mem_append.mp z with z | z
          · exact .inl z
          · exact .inr (by rw [List.mem_singleton.mp z]; exact List.mem_cons_self)
        · exact .inl z
      · exact .inr (List.mem_cons_of_mem _ z)
  intro l h
  exact (this ls [] l h).elim (fun z => nomatch z) id
def Stm.isCom : Stm → Bool
  | .com _ _ _ => true
  | _ => false
def Stm.isPv : Stm → Bool
  | .vote _ _ _ _ => true
  | _ => false
def Stm.l : Stm → Option Int
  | .vote _ _ _ l => l
  | _ => none
/-- the prevotes of a turn that count -/
def leanB (votes : List Let) (certs : List (Int × Str)) (b : Str) (t : Int) : List Let := (votes.filter fun l => l.st.isPv && decide (l.st.t = t)).filter fun l => countsP certs l.st.l l.st.t b
/-- one turn of the way back: the paper so far, the turns wanted -/
def paperStep (ws : List Int) (votes : List Let) (certs : List (Int × Str)) (b : Str) (s : List Let × List Int) (t : Int) : List Let × List Int :=
  if t ∈ s.2 then (s.1 ++ pickQ ws (leanB votes certs b t), s.2 ++ (pickQ ws (leanB votes certs b t)).filterMap fun l => l.st.l) else s
def votesB (kept : List Let) (b : Str) : List Let := kept.filter fun l => decide (l.st.b = some b)
def commitTurns (x : BookS) (b : Str) : List Int := sortI ((x.commits.filter fun c => decide (c.2 = b)).map fun c => c.1)
def backTurns (t : Int) : List Int := (List.range (t + 1).toNat).map fun i : Nat => t - (i : Int)
/-- point 20 -/
def paperP (ws : List Int) (x : BookS) (b : Str) (t : Int) : List Let :=
  ((backTurns t).foldl (paperStep ws (votesB x.kept b) x.certs b) (pickQ ws ((votesB x.kept b).filter fun l => l.st.isCom && decide (l.st.t = t)), [t])).1
end Toy
namespace Toy
open PySem L2 DL
theorem leans_map (ch : List Let) : (ch.filter fun l => decide (l.st.l ≠ none)).map (fun l => oiD l.st.l) = (ch.filterMap fun l => l.st.l).map D.int := by
  induction ch with
  | nil => rfl
  | cons l ls ih =>
    cases e : l.st.l with
    | none => rw [List.filter_cons_of_neg (by simp [e]), List.filterMap_cons_none (f := fun l : Let => l.st.l) e, ih]
    | some x => rw [List.filter_cons_of_pos (by simp [e]), List.filterMap_cons_some (f := fun l : Let => l.st.l) e, List.map_cons, List.map_cons, ih, e]; rfl
end Toy

/-! data: what a book has found -/
namespace Toy
open PySem L2 DL
theorem quorum_mono {ws l1 l2 : List Int} (hv : validW ws) (h : ∀ k ∈ l1, k ∈ l2) (q : quorumP ws l1 = true) : quorumP ws l2 = true := by
  have := wt_mono (l1 := l1) (l2 := l2) hv fun k _ m => h k m
  have q2 := of_decide_eq_true q
  exact decide_eq_true (by omega)
theorem quorum_nil {ws : List Int} (hv : validW ws) : quorumP ws [] = false := by
  refine decide_eq_false ?_
  have h1 := wt_rest ws []
  have h2 : wt ws [] = 0 := by
    unfold wt wp
    have : ∀ l : List Nat, wsum (fun k => ws.getD k 0) (fun k : Nat => decide ((k : Int) ∈ ([] : List Int))) l = 0 := fun l => by
      induction l with
      | nil => rfl
      | cons a l ih => simp only [wsum]; rw [ih]; simp
    exact this _
  have h3 : 0 ≤ ws.sum := by
    rw [← wp_true]
    exact wsum_nn fun k hk => ws_nn hv hk
  omega
theorem mem_leans {ws : List Int} {ls : List Let} {h : Int} {b : Option Str} {l : Option Int} : ∀ {t : Nat}, l ∈ leansP ws ls h b t ↔ l = none ∨ ∃ s : Nat, s < t ∧ l = some (s : Int) ∧ certP ws ls h s b = true
  | 0 => by simp [leansP]
  | t + 1 => by
    have ih := mem_leans (ws := ws) (ls := ls) (h := h) (b := b) (l := l) (t := t)
    have hc : certP ws ls h t b = quorumP ws (votersP ls h b t (leansP ws ls h b t)) := rfl
    unfold leansP
    rw [← hc]
    constructor
    · intro m
      split at m
      · rcases List.mem_append.mp m with m | m
        · rcases ih.mp m with rfl | ⟨s, h1, h2, h3⟩
          · exact .inl rfl
          · exact .inr ⟨s, by omega, h2, h3⟩
        · exact .inr ⟨t, by omega, List.mem_singleton.mp m, by assumption⟩
      · rcases ih.mp m with rfl | ⟨s, h1, h2, h3⟩
        · exact .inl rfl
        · exact .inr ⟨s, by omega, h2, h3⟩
    · rintro (rfl | ⟨s, h1, h2, h3⟩)
      · have := ih.mpr (.inl rfl)
        split
        · exact List.mem_append_left _ this
        · exact this
      · by_cases e : s = t
        · rw [if_pos (by rw [← e]; exact h3)]
          exact List.mem_append_right _ (by rw [h2, e]; exact List.mem_singleton.mpr rfl)
        · have := ih.mpr (.inr ⟨s, by omega, h2, h3⟩)
          split
          · exact List.mem_append_left _ this
          · exact this
theorem voteOk_iff {h t : Int} {b : Option Str} {L : List (Option Int)} {s : Stm} : voteOk h b t L s = true ↔ ∃ l, s = .vote h t b l ∧ l ∈ L ∧ ∀ x, l = some x → x < t := by
  cases s with
  | vote h' t' b' l =>
    cases l with
    | none => simp [voteOk]; constructor <;> (rintro ⟨h1, h2⟩; simp_all)
    | some x => simp [voteOk]; constructor <;> (rintro ⟨h1, h2⟩; simp_all)
  | _ => simp [voteOk]
theorem mem_voters {ls : List Let} {h t k : Int} {b : Option Str} {L : List (Option Int)} : k ∈ votersP ls h b t L ↔ ∃ x ∈ ls, x.who = k ∧ voteOk h b t L x.st = true := by
  simp only [votersP, List.mem_map, List.mem_filter]
  exact ⟨fun ⟨x, ⟨h1, h2⟩, h3⟩ => ⟨x, h1, h3, h2⟩, fun ⟨x, h1, h3, h2⟩ => ⟨x, ⟨h1, h2⟩, h3⟩⟩
theorem cert_mono {ws : List Int} {ls ls' : List Let} (hv : validW ws) (hs : ∀ x ∈ ls, x ∈ ls') {h : Int} {b : Option Str} : ∀ (n t : Nat), t ≤ n → certP ws ls h t b = true → certP ws ls' h t b = true
  | n, t, hn, hc => by
    refine quorum_mono hv (fun k m => ?_) hc
    obtain ⟨x, h1, h2, h3⟩ := mem_voters.mp m
    obtain ⟨l, h4, h5, h6⟩ := voteOk_iff.mp h3
    refine mem_voters.mpr ⟨x, hs x h1, h2, voteOk_iff.mpr ⟨l, h4, ?_, h6⟩⟩
    rcases mem_leans.mp h5 with rfl | ⟨s, h7, rfl, h9⟩
    · exact mem_leans.mpr (.inl rfl)
    · cases n with
      | zero => omega
      | succ n => exact mem_leans.mpr (.inr ⟨s, h7, rfl, cert_mono hv hs n s (by omega) h9⟩)
theorem cert_up {ws : List Int} {ls ls' : List Let} (hv : validW ws) (hs : ∀ x ∈ ls, x ∈ ls') {h : Int} {b : Option Str} {t : Nat} (hc : certP ws ls h t b = true) : certP ws ls' h t b = true := cert_mono hv hs t t (Nat.le_refl t) hc
theorem leans_same {ws : List Int} {ls ls' : List Let} {h : Int} {b : Option Str} : ∀ {t : Nat}, (∀ u : Nat, u < t → ∀ L, votersP ls' h b u L = votersP ls h b u L) → leansP ws ls' h b t = leansP ws ls h b t
  | 0, _ => rfl
  | t + 1, hs => by
    unfold leansP
    rw [leans_same fun u hu => hs u (by omega), hs t (by omega)]
theorem cert_same {ws : List Int} {ls ls' : List Let} {h : Int} {b : Option Str} {t : Nat} (hs : ∀ u : Nat, u ≤ t → ∀ L, votersP ls' h b u L = votersP ls h b u L) : certP ws ls' h t b = certP ws ls h t b := by
  unfold certP
  rw [leans_same fun u hu => hs u (by omega), hs t (Nat.le_refl _)]
theorem voters_snoc_same {ls : List Let} {l : Let} {h t : Int} {b : Option Str} {L : List (Option Int)} (e : l.st.t = t → l.st.b = b → False) : votersP (ls ++ [l]) h b t L = votersP ls h b t L := by
  have : voteOk h b t L l.st = false := Bool.eq_false_iff.mpr fun z => by
    obtain ⟨x, h1, _⟩ := voteOk_iff.mp z
    exact e (by rw [h1]; rfl) (by rw [h1]; rfl)
  simp [votersP, List.filter_append, this]
theorem signers_snoc_same {ls : List Let} {l : Let} {h t : Int} {b : Option Str} (e : l.st.t = t → l.st.b = b → False) : signersP (ls ++ [l]) h t b = signersP ls h t b := by
  have : ¬ l.st = .com h t b := fun z => e (by rw [z]; rfl) (by rw [z]; rfl)
  simp [signersP, List.filter_append, this]
theorem comm_up {ws : List Int} {ls ls' : List Let} (hv : validW ws) (hs : ∀ x ∈ ls, x ∈ ls') {h : Int} {b : Option Str} {t : Nat} (hc : commP ws ls h t b = true) : commP ws ls' h t b = true := by
  obtain ⟨h1, h2⟩ := (Bool.and_eq_true _ _).mp hc
  refine (Bool.and_eq_true _ _).mpr ⟨quorum_mono hv (fun k m => ?_) h1, cert_up hv hs h2⟩
  simp only [signersP, List.mem_map, List.mem_filter] at m ⊢
  obtain ⟨x, ⟨z1, z2⟩, z3⟩ := m
  exact ⟨x, ⟨hs x z1, z2⟩, z3⟩
/-- what a book has found is what the letters certify and commit -/
structure BInv (ws : List Int) (h : Int) (x : BookS) : Prop where
  hs : ∀ l ∈ x.kept, l.st.h = h
  vs : ∀ l ∈ x.kept, l.st.isVote = true
  t0 : ∀ l ∈ x.kept, 0 ≤ l.st.t
  cert : ∀ (u : Int) (b : Str), (u, b) ∈ x.certs ↔ 0 ≤ u ∧ certP ws x.kept h u.toNat (some b) = true
  com : ∀ (u : Int) (b : Str), (u, b) ∈ x.commits ↔ 0 ≤ u ∧ commP ws x.kept h u.toNat (some b) = true
  nc : x.certs.Nodup
  no : x.commits.Nodup
theorem cert_turn {ws : List Int} {ls : List Let} {h : Int} {t : Nat} {b : Option Str} (hv : validW ws) (hc : certP ws ls h t b = true) : ∃ l ∈ ls, l.st.t = t ∧ l.st.b = b := by
  have hne : votersP ls h b t (leansP ws ls h b t) ≠ [] := fun e => by
    unfold certP at hc
    rw [e, quorum_nil hv] at hc
    cases hc
  obtain ⟨k, hk⟩ := List.exists_mem_of_ne_nil _ hne
  obtain ⟨x, h1, _, h3⟩ := mem_voters.mp hk
  obtain ⟨l, h4, _, _⟩ := voteOk_iff.mp h3
  exact ⟨x, h1, by rw [h4]; rfl, by rw [h4]; rfl⟩
theorem mem_turnsB {kept : List Let} {b : Str} {u : Int} : u ∈ turnsB kept b ↔ ∃ l ∈ kept, l.st.t = u ∧ l.st.b = some b := by
  simp only [turnsB, ascI_mem, List.mem_map, List.mem_filter, decide_eq_true_iff]
  exact ⟨fun ⟨x, ⟨h1, h2⟩, h3⟩ => ⟨x, h1, h3, h2⟩, fun ⟨x, h1, h3, h2⟩ => ⟨x, ⟨h1, h2⟩, h3⟩⟩
theorem votersB_eq {ws : List Int} {kept : List Let} {certs : List (Int × Str)} {h : Int} {t : Nat} {b : Str} (hk : ∀ l ∈ kept, l.st.h = h) (hc : ∀ u : Int, u < t → ((u, b) ∈ certs ↔ 0 ≤ u ∧ certP ws kept h u.toNat (some b) = true)) :
    votersB kept certs t b = votersP kept h (some b) t (leansP ws kept h (some b) t) := by
  unfold votersB votersP
  congr 1
  refine List.filter_congr fun x hx => ?_
  have hx := hk x hx
  rw [Bool.eq_iff_iff, voteOk_iff]
  rcases x with ⟨w, ⟨h', t', b'⟩ | ⟨h', t', b', l⟩ | ⟨h', t', b'⟩⟩
  · simp [voterB]
  · have hx : h' = h := hx
    subst hx
    simp only [voterB, Bool.and_eq_true, decide_eq_true_iff, Stm.vote.injEq, true_and]
    constructor
    · rintro ⟨rfl, rfl, hl⟩
      refine ⟨l, ⟨rfl, rfl, rfl⟩, ?_, ?_⟩
      · cases l with
        | none => exact mem_leans.mpr (.inl rfl)
        | some x =>
          obtain ⟨k1, k2⟩ := (Bool.and_eq_true _ _).mp hl
          have k1 := of_decide_eq_true k1
          obtain ⟨k3, k4⟩ := (hc x k1).mp (of_decide_eq_true k2)
          exact mem_leans.mpr (.inr ⟨x.toNat, by omega, by rw [Int.toNat_of_nonneg k3], k4⟩)
      · rintro x rfl
        exact of_decide_eq_true ((Bool.and_eq_true _ _).mp hl).1
    · rintro ⟨l', ⟨rfl, rfl, rfl⟩, hl, hlt⟩
      refine ⟨rfl, rfl, ?_⟩
      rcases mem_leans.mp hl with rfl | ⟨s, k1, rfl, k3⟩
      · rfl
      · have := hlt s rfl
        exact (Bool.and_eq_true _ _).mpr ⟨decide_eq_true this, decide_eq_true ((hc s this).mpr ⟨by omega, by simpa using k3⟩)⟩
  · simp [voterB]
theorem signersB_eq {kept : List Let} {h t : Int} {b : Str} (hk : ∀ l ∈ kept, l.st.h = h) : signersB kept t b = signersP kept h t (some b) := by
  unfold signersB signersP
  congr 1
  refine List.filter_congr fun x hx => ?_
  have hx := hk x hx
  rcases x with ⟨w, ⟨h', t', b'⟩ | ⟨h', t', b', l⟩ | ⟨h', t', b'⟩⟩
  · simp [signerB]
  · simp [signerB]
  · have hx : h' = h := hx
    subst hx
    rw [Bool.eq_iff_iff]
    simp [signerB]
/-- a book on its way: some turns are still to be looked at -/
structure Mid (ws : List Int) (h : Int) (kept : List Let) (t : Int) (b : Str) (post : List Int) (y : BookS) : Prop where
  kp : y.kept = kept
  c1 : ∀ (u : Int) (b' : Str), (u, b') ∈ y.certs → 0 ≤ u ∧ certP ws kept h u.toNat (some b') = true
  c2 : ∀ (u : Int) (b' : Str), 0 ≤ u → certP ws kept h u.toNat (some b') = true → (u, b') ∈ y.certs ∨ b' = b ∧ t ≤ u ∧ u ∈ post
  m1 : ∀ (u : Int) (b' : Str), (u, b') ∈ y.commits → 0 ≤ u ∧ commP ws kept h u.toNat (some b') = true
  m2 : ∀ (u : Int) (b' : Str), 0 ≤ u → commP ws kept h u.toNat (some b') = true → (u, b') ∈ y.commits ∨ b' = b ∧ t ≤ u ∧ u ∈ post
  nc : y.certs.Nodup
  no : y.commits.Nodup
theorem nodup_snoc {α : Type} {xs : List α} {x : α} (h : xs.Nodup) (hx : x ∉ xs) : (xs ++ [x]).Nodup :=
  List.nodup_append.mpr ⟨h, by simp, fun a ha b hb => by rw [List.mem_singleton.mp hb]; exact fun e => hx (e ▸ ha)⟩
theorem Mid.step {ws : List Int} {h : Int} {kept : List Let} {t u : Int} {b : Str} {post : List Int} {y : BookS} (hk : ∀ l ∈ kept, l.st.h = h) (hu0 : 0 ≤ u) (asc : ∀ v ∈ post, u < v)
    (i : Mid ws h kept t b (u :: post) y) : Mid ws h kept t b post (if t ≤ u then lookP ws y u b else y) := by
  by_cases htu : t ≤ u
  · rw [if_pos htu]
    obtain ⟨kp, c1, c2, m1, m2, nc, no⟩ := i
    have e0 : (u.toNat : Int) = u := Int.toNat_of_nonneg hu0
    have ev : votersB kept y.certs u b = votersP kept h (some b) u.toNat (leansP ws kept h (some b) u.toNat) := by
      have := votersB_eq (ws := ws) (certs := y.certs) (t := u.toNat) (b := b) hk fun v hv => ⟨c1 v b, fun ⟨z1, z2⟩ => (c2 v b z1 z2).elim id fun ⟨_, _, z⟩ => by
        rcases List.mem_cons.mp z with z | z
        · omega
        · have := asc v z; omega⟩
      rw [e0] at this
      rw [this, e0]
    have es := signersB_eq (t := u) (b := b) hk
    have ec : quorumP ws (votersB kept y.certs u b) = certP ws kept h u.toNat (some b) := by rw [ev]; rfl
    have em : commP ws kept h u.toNat (some b) = (quorumP ws (signersB kept u b) && certP ws kept h u.toNat (some b)) := by rw [es, commP, e0]
    have hC : ∀ (v : Int) (b' : Str), (v, b') ∈ lookC ws y u b ↔ (v, b') ∈ y.certs ∨ (v = u ∧ b' = b ∧ certP ws kept h u.toNat (some b) = true) := fun v b' => by
      unfold lookC
      rw [kp, ec]
      by_cases hin : (u, b) ∈ y.certs
      · rw [if_neg fun z => z.1 hin]
        exact ⟨.inl, fun z => z.elim id fun ⟨z1, z2, _⟩ => by rw [z1, z2]; exact hin⟩
      · by_cases hce : certP ws kept h u.toNat (some b) = true
        · rw [if_pos ⟨hin, hce⟩, List.mem_append, List.mem_singleton, Prod.mk.injEq]
          exact ⟨fun z => z.imp id fun z => ⟨z.1, z.2, hce⟩, fun z => z.imp id fun z => ⟨z.1, z.2.1⟩⟩
        · rw [if_neg fun z => hce z.2]
          exact ⟨.inl, fun z => z.elim id fun ⟨_, _, z⟩ => absurd z hce⟩
    have hCu : (u, b) ∈ lookC ws y u b ↔ certP ws kept h u.toNat (some b) = true := by
      rw [hC]
      exact ⟨fun z => z.elim (fun z => (c1 u b z).2) fun z => z.2.2, fun z => .inr ⟨rfl, rfl, z⟩⟩
    have hM : ∀ (v : Int) (b' : Str), (v, b') ∈ (lookP ws y u b).commits ↔ (v, b') ∈ y.commits ∨ (v = u ∧ b' = b ∧ commP ws kept h u.toNat (some b) = true) := fun v b' => by
      show (v, b') ∈ (if _ then _ else _) ↔ _
      rw [kp]
      by_cases hin : (u, b) ∈ y.commits
      · rw [if_neg fun z => z.2.2 hin]
        exact ⟨.inl, fun z => z.elim id fun ⟨z1, z2, _⟩ => by rw [z1, z2]; exact hin⟩
      · by_cases hce : commP ws kept h u.toNat (some b) = true
        · have hce2 := hce
          rw [em] at hce2
          obtain ⟨z1, z2⟩ := (Bool.and_eq_true _ _).mp hce2
          rw [if_pos ⟨hCu.mpr z2, z1, hin⟩, List.mem_append, List.mem_singleton, Prod.mk.injEq]
          exact ⟨fun z => z.imp id fun z => ⟨z.1, z.2, hce⟩, fun z => z.imp id fun z => ⟨z.1, z.2.1⟩⟩
        · rw [if_neg fun z => hce (by rw [em]; exact (Bool.and_eq_true _ _).mpr ⟨z.2.1, hCu.mp z.1⟩)]
          exact ⟨.inl, fun z => z.elim id fun ⟨_, _, z⟩ => absurd z hce⟩
    refine ⟨kp, fun v b' z => ?_, fun v b' z1 z2 => ?_, fun v b' z => ?_, fun v b' z1 z2 => ?_, ?_, ?_⟩
    · rcases (hC v b').mp z with z | ⟨rfl, rfl, z⟩
      · exact c1 v b' z
      · exact ⟨hu0, z⟩
    · rcases c2 v b' z1 z2 with z | ⟨rfl, z3, z4⟩
      · exact .inl ((hC v b').mpr (.inl z))
      · rcases List.mem_cons.mp z4 with rfl | z4
        · exact .inl ((hC v b').mpr (.inr ⟨rfl, rfl, z2⟩))
        · exact .inr ⟨rfl, z3, z4⟩
    · rcases (hM v b').mp z with z | ⟨rfl, rfl, z⟩
      · exact m1 v b' z
      · exact ⟨hu0, z⟩
    · rcases m2 v b' z1 z2 with z | ⟨rfl, z3, z4⟩
      · exact .inl ((hM v b').mpr (.inl z))
      · rcases List.mem_cons.mp z4 with rfl | z4
        · exact .inl ((hM v b').mpr (.inr ⟨rfl, rfl, z2⟩))
        · exact .inr ⟨rfl, z3, z4⟩
    · show (lookC ws y u b).Nodup
      unfold lookC
      split
      · rename_i z; exact nodup_snoc nc z.1
      · exact nc
    · show (if _ then _ else _ : List (Int × Str)).Nodup
      split
      · rename_i z; exact nodup_snoc no z.2.2
      · exact no
  · rw [if_neg htu]
    exact ⟨i.kp, i.c1, fun v b' z1 z2 => (i.c2 v b' z1 z2).imp id fun ⟨z3, z4, z5⟩ => ⟨z3, z4, (List.mem_cons.mp z5).elim (fun z => by omega) id⟩, i.m1,
      fun v b' z1 z2 => (i.m2 v b' z1 z2).imp id fun ⟨z3, z4, z5⟩ => ⟨z3, z4, (List.mem_cons.mp z5).elim (fun z => by omega) id⟩, i.nc, i.no⟩
theorem Mid.go {ws : List Int} {h : Int} {kept : List Let} {t : Int} {b : Str} (hk : ∀ l ∈ kept, l.st.h = h) : ∀ (post : List Int) (y : BookS), (∀ u ∈ post, 0 ≤ u) → post.Pairwise (· < ·) → Mid ws h kept t b post y →
    Mid ws h kept t b [] (post.foldl (fun y u => if t ≤ u then lookP ws y u b else y) y)
  | [], _, _, _, i => i
  | u :: post, y, h0, hp, i => by
    rw [List.foldl_cons]
    rw [List.pairwise_cons] at hp
    exact Mid.go hk post _ (fun v hv => h0 v (List.mem_cons_of_mem _ hv)) hp.2 (i.step hk (h0 u (by simp)) hp.1)
theorem BInv.nil (ws : List Int) (hv : validW ws) (h : Int) : BInv ws h ⟨[], [], []⟩ := by
  have hc : ∀ (t : Nat) (b : Option Str), certP ws [] h t b = false := fun t b => Bool.eq_false_iff.mpr fun z => by
    obtain ⟨l, hl, _⟩ := cert_turn hv z
    cases hl
  refine ⟨by simp, by simp, by simp, fun u b => ?_, fun u b => ?_, by simp, by simp⟩
  · simp [hc]
  · simp [hc, commP]
theorem BInv.add {ws : List Int} {h : Int} {x : BookS} {l : Let} (hv : validW ws) (i : BInv ws h x) (ht : 0 ≤ l.st.t) : BInv ws h (addP ws h x l) := by
  unfold addP
  by_cases hk : keepsP ws h x l = true
  · rw [if_pos hk]
    obtain ⟨_, _, kv, kh, _⟩ := keepsP_iff.mp hk
    have hs : ∀ y ∈ x.kept ++ [l], y.st.h = h := fun y hy => (List.mem_append.mp hy).elim (i.hs y) fun z => by rw [List.mem_singleton.mp z]; exact kh
    have vs : ∀ y ∈ x.kept ++ [l], y.st.isVote = true := fun y hy => (List.mem_append.mp hy).elim (i.vs y) fun z => by rw [List.mem_singleton.mp z]; exact kv
    have t0 : ∀ y ∈ x.kept ++ [l], 0 ≤ y.st.t := fun y hy => (List.mem_append.mp hy).elim (i.t0 y) fun z => by rw [List.mem_singleton.mp z]; exact ht
    have sub : ∀ y ∈ x.kept, y ∈ x.kept ++ [l] := fun y hy => List.mem_append_left _ hy
    have same : ∀ (u : Nat) (b : Str), (∀ v : Nat, v ≤ u → l.st.t = (v : Int) → l.st.b = some b → False) → certP ws (x.kept ++ [l]) h u (some b) = certP ws x.kept h u (some b) := fun u b z =>
      cert_same fun v hv L => voters_snoc_same (z v hv)
    have same2 : ∀ (u : Nat) (b : Str), (∀ v : Nat, v ≤ u → l.st.t = (v : Int) → l.st.b = some b → False) → commP ws (x.kept ++ [l]) h u (some b) = commP ws x.kept h u (some b) := fun u b z => by
      unfold commP
      rw [same u b z, signers_snoc_same (z u (Nat.le_refl _))]
    cases hb : l.st.b with
    | none =>
      have nb : ∀ (b : Str), l.st.b = some b → False := fun b z => by rw [hb] at z; cases z
      refine ⟨hs, vs, t0, fun u b => ?_, fun u b => ?_, i.nc, i.no⟩
      · show _ ↔ 0 ≤ u ∧ certP ws (x.kept ++ [l]) h u.toNat (some b) = true
        rw [same u.toNat b fun _ _ _ z => nb b z]
        exact i.cert u b
      · show _ ↔ 0 ≤ u ∧ commP ws (x.kept ++ [l]) h u.toNat (some b) = true
        rw [same2 u.toNat b fun _ _ _ z => nb b z]
        exact i.com u b
    | some b =>
      have new : ∀ (u : Int) (b' : Str), 0 ≤ u → (b' = b → ¬ l.st.t ≤ u) → ∀ v : Nat, v ≤ u.toNat → l.st.t = (v : Int) → l.st.b = some b' → False := fun u b' hu z v hv e1 e2 => by
        rw [hb] at e2
        cases e2
        exact z rfl (by omega)
      have base : Mid ws h (x.kept ++ [l]) l.st.t b (turnsB (x.kept ++ [l]) b) { x with kept := x.kept ++ [l] } := by
        have old : ∀ (u : Int) (b' : Str), 0 ≤ u → certP ws (x.kept ++ [l]) h u.toNat (some b') = true → (b' = b → ¬ l.st.t ≤ u) ∨ b' = b ∧ l.st.t ≤ u ∧ u ∈ turnsB (x.kept ++ [l]) b := fun u b' hu hc => by
          by_cases e : b' = b ∧ l.st.t ≤ u
          · obtain ⟨rfl, e2⟩ := e
            obtain ⟨y, hy, e3, e4⟩ := cert_turn hv hc
            exact .inr ⟨rfl, e2, mem_turnsB.mpr ⟨y, hy, by omega, e4⟩⟩
          · exact .inl fun z1 z2 => e ⟨z1, z2⟩
        refine ⟨rfl, fun u b' z => ?_, fun u b' hu hc => ?_, fun u b' z => ?_, fun u b' hu hc => ?_, i.nc, i.no⟩
        · obtain ⟨z1, z2⟩ := (i.cert u b').mp z
          exact ⟨z1, cert_up hv sub z2⟩
        · refine (old u b' hu hc).imp (fun z => ?_) id
          rw [same u.toNat b' (new u b' hu z)] at hc
          exact (i.cert u b').mpr ⟨hu, hc⟩
        · obtain ⟨z1, z2⟩ := (i.com u b').mp z
          exact ⟨z1, comm_up hv sub z2⟩
        · refine (old u b' hu ((Bool.and_eq_true _ _).mp hc).2).imp (fun z => ?_) id
          rw [same2 u.toNat b' (new u b' hu z)] at hc
          exact (i.com u b').mpr ⟨hu, hc⟩
      have fin := Mid.go hs (turnsB (x.kept ++ [l]) b) _ (fun u hu => by
        obtain ⟨y, hy, e, _⟩ := mem_turnsB.mp hu
        rw [← e]; exact t0 y hy) (ascI_lt _) base
      show BInv ws h (spreadP ws { x with kept := x.kept ++ [l] } l.st.t b)
      have kp : (spreadP ws { x with kept := x.kept ++ [l] } l.st.t b).kept = x.kept ++ [l] := spreadP_kept ..
      refine ⟨by rw [kp]; exact hs, by rw [kp]; exact vs, by rw [kp]; exact t0, fun u b' => ?_, fun u b' => ?_, fin.nc, fin.no⟩
      · rw [kp]
        exact ⟨fin.c1 u b', fun ⟨z1, z2⟩ => (fin.c2 u b' z1 z2).elim id fun z => nomatch z.2.2⟩
      · rw [kp]
        exact ⟨fin.m1 u b', fun ⟨z1, z2⟩ => (fin.m2 u b' z1 z2).elim id fun z => nomatch z.2.2⟩
  · rw [if_neg hk]
    exact i
end Toy

/-! data: papers by definition -/
namespace Toy
open PySem L2 DL
/-- a prevote that counts, by definition -/
def countsD (ws : List Int) (kept : List Let) (b : Str) (u : Int) (l : Let) : Bool := l.st.isPv && (decide (l.st.t = u) && (decide (l.st.b = some b) && (match l.st.l with | none => true | some x => certP ws kept 0 x.toNat (some b))))
def dueStep (ws : List Int) (kept : List Let) (b : Str) (s : List Let × List Int) (u : Int) : List Let × List Int :=
  if u ∈ s.2 then (s.1 ++ pickQ ws (kept.filter (countsD ws kept b u)), s.2 ++ (pickQ ws (kept.filter (countsD ws kept b u))).filterMap fun l => l.st.l) else s
def dueP (ws : List Int) (kept : List Let) (b : Str) (t : Int) : List Let :=
  ((backTurns t).foldl (dueStep ws kept b) (pickQ ws (kept.filter fun l => decide (l.st = .com 0 t (some b))), [t])).1
theorem due_paper {ws : List Int} {x : BookS} (i : BInv ws 0 x) (hl : ∀ l ∈ x.kept, ∀ y, l.st.l = some y → 0 ≤ y ∧ y < l.st.t) (b : Str) (t : Int) : paperP ws x b t = dueP ws x.kept b t := by
  unfold paperP dueP
  have e1 : ((votesB x.kept b).filter fun l => l.st.isCom && decide (l.st.t = t)) = x.kept.filter fun l => decide (l.st = .com 0 t (some b)) := by
    unfold votesB
    rw [List.filter_filter]
    refine List.filter_congr fun y hy => ?_
    have hh := i.hs y hy
    rcases y with ⟨w, ⟨h', t', b'⟩ | ⟨h', t', b', l⟩ | ⟨h', t', b'⟩⟩
    · simp [Stm.isCom]
    · simp [Stm.isCom]
    · have hh : h' = 0 := hh
      subst hh
      simp [Stm.isCom, Stm.t, Stm.b, Bool.and_comm]
      rfl
  have e2 : paperStep ws (votesB x.kept b) x.certs b = dueStep ws x.kept b := by
    funext s u
    unfold paperStep dueStep
    have : leanB (votesB x.kept b) x.certs b u = x.kept.filter (countsD ws x.kept b u) := by
      unfold leanB votesB
      rw [List.filter_filter, List.filter_filter]
      refine List.filter_congr fun y hy => ?_
      have hly := hl y hy
      rcases y with ⟨w, ⟨h', t', b'⟩ | ⟨h', t', b', l⟩ | ⟨h', t', b'⟩⟩
      · simp [Stm.isPv, countsD]
      · cases l with
        | none => simp [Stm.isPv, countsD, countsP, Stm.t, Stm.b, Stm.l]
        | some z =>
          obtain ⟨h1, h2⟩ := hly z rfl
          have h2 : z < t' := h2
          have hc := i.cert z b
          have hc2 : decide ((z, b) ∈ x.certs) = certP ws x.kept 0 z.toNat (some b) := by
            rw [Bool.eq_iff_iff, decide_eq_true_iff, hc]
            exact ⟨fun w => w.2, fun w => ⟨h1, w⟩⟩
          simp only [Stm.isPv, countsD, countsP, Stm.t, Stm.b, Stm.l, hc2, decide_eq_true h2, Bool.true_and]
          by_cases k1 : t' = u <;> by_cases k2 : b' = some b <;> simp [k1, k2]
          exact fun _ => k1 ▸ h2
      · simp [Stm.isPv, countsD]
    rw [this]
  rw [e1, e2]
/-- the letters that the laws draw -/
structure WfL (z : Int) (l : Let) : Prop where
  w0 : 0 ≤ l.who
  wz : l.who < z
  h : l.st.h = 0
  v : l.st.isVote = true
  t0 : 0 ≤ l.st.t
  t4 : l.st.t < 4
  b : okB l.st.b
  ln : ∀ y, l.st.l = some y → 0 ≤ y ∧ y < l.st.t
theorem lettersP_wf {c : Int} {n : Nat} {z : Int} (hz : 0 < z) : ∀ l ∈ lettersP c n z, WfL z l := fun l hl => by
  obtain ⟨k, _, rfl⟩ := List.mem_map.mp hl
  generalize (row c (2 * n) 960).getD (2 * k + 1) 0 = g
  generalize (row c (2 * n) 960).getD (2 * k) 0 = d
  refine ⟨Int.emod_nonneg _ (by omega), Int.emod_lt_of_pos _ hz, ?_, ?_, ?_, ?_, stm_ok _ _, ?_⟩
  all_goals (unfold stm; dsimp only; split)
  all_goals first | rfl | (simp only [Stm.t]; omega) | skip
  · intro y e; cases e
  · intro y e
    simp only [Stm.l, Stm.t] at e ⊢
    split at e
    · cases e
      rename_i hc
      exact ⟨Int.emod_nonneg _ (by omega), Int.emod_lt_of_pos _ (by omega)⟩
    · cases e
theorem plantedP_wf {c : Int} {z : Nat} : ∀ l ∈ plantedP c z, WfL z l := fun l hl => by
  have hb := plantedP_ok c z l hl
  obtain ⟨k, hk1, hk⟩ := List.mem_flatMap.mp hl
  have hk1 := List.mem_range.mp hk1
  simp only [plantK] at hk
  generalize (row c (2 * z + 8) 60) = dg at hk
  have e0 : 0 ≤ dg.getD 0 0 % 3 := Int.emod_nonneg _ (by decide)
  have e1 : dg.getD 0 0 % 3 < 3 := Int.emod_lt_of_pos _ (by decide)
  have e2 : 0 ≤ dg.getD 1 0 % 2 := Int.emod_nonneg _ (by decide)
  have e3 : dg.getD 1 0 % 2 < 2 := Int.emod_lt_of_pos _ (by decide)
  generalize dg.getD 0 0 % 3 = ea at e0 e1 hk
  generalize dg.getD 1 0 % 2 = la at e2 e3 hk
  rcases List.mem_append.mp hk with hk | hk
  · split at hk
    · simp only [List.mem_cons, List.not_mem_nil, or_false] at hk
      rcases hk with rfl | rfl <;> refine ⟨?_, ?_, rfl, rfl, ?_, ?_, hb, fun y e => ?_⟩ <;> first | (cases e; done) | (simp only [Stm.t]; omega) | (dsimp only; omega)
    · cases hk
  · split at hk
    · rcases List.mem_append.mp hk with hk | hk
      · split at hk
        · rename_i hl2
          simp only [List.mem_cons, List.not_mem_nil, or_false] at hk
          rcases hk with rfl | rfl <;> refine ⟨?_, ?_, rfl, rfl, ?_, ?_, hb, fun y e => ?_⟩ <;> first | (cases e; done) | (cases e; simp only [Stm.t]; omega) | (simp only [Stm.t]; omega) | (dsimp only; omega)
        · simp only [List.mem_cons, List.not_mem_nil, or_false] at hk
          rcases hk with rfl
          refine ⟨?_, ?_, rfl, rfl, ?_, ?_, hb, fun y e => ?_⟩ <;> first | (cases e; done) | (simp only [Stm.t]; omega) | (dsimp only; omega)
      · simp only [List.mem_cons, List.not_mem_nil, or_false] at hk
        rcases hk with rfl
        refine ⟨?_, ?_, rfl, rfl, ?_, ?_, hb, fun y e => ?_⟩ <;> first | (cases e; done) | (simp only [Stm.t]; omega) | (dsimp only; omega)
    · cases hk
theorem nodup_turn {α : Type} {xs : List α} {f : α → Int} (n : Nat) (hn : (xs.map f).Nodup) (h : ∀ x ∈ xs, 0 ≤ f x ∧ f x < n) : xs.length ≤ n := by
  have := hn.length_le_of_subset (l₂ := (List.range n).map fun i : Nat => (i : Int)) fun y hy => by
    obtain ⟨x, hx, rfl⟩ := List.mem_map.mp hy
    obtain ⟨h1, h2⟩ := h x hx
    exact List.mem_map.mpr ⟨(f x).toNat, List.mem_range.mpr (by omega), Int.toNat_of_nonneg h1⟩
  simpa using this
theorem turnsB_len {kept : List Let} (n : Nat) (h : ∀ l ∈ kept, 0 ≤ l.st.t ∧ l.st.t < n) (b : Str) : (turnsB kept b).length ≤ n := by
  refine nodup_turn (f := id) n ?_ fun u hu => ?_
  · rw [List.map_id]
    exact (ascI_lt _).imp fun e1 e2 => by omega
  · obtain ⟨l, hl, e, _⟩ := mem_turnsB.mp hu
    have := h l hl
    rw [e] at this
    exact this
theorem pairs_len {kept : List Let} {cs : List (Int × Str)} (hn : cs.Nodup) (h : ∀ c ∈ cs, ∃ l ∈ kept, l.st.t = c.1 ∧ l.st.b = some c.2) : cs.length ≤ kept.length := by
  have hn2 : (cs.map fun c => (c.1, some c.2)).Nodup := List.Pairwise.map _ (fun a b e z => e (by
    obtain ⟨a1, a2⟩ := a
    obtain ⟨b1, b2⟩ := b
    simp only [Prod.mk.injEq, Option.some.injEq] at z ⊢
    exact z)) hn
  have := hn2.length_le_of_subset (l₂ := kept.map fun l => (l.st.t, l.st.b)) fun y hy => by
    obtain ⟨c, hc, rfl⟩ := List.mem_map.mp hy
    obtain ⟨l, hl, e1, e2⟩ := h c hc
    exact List.mem_map.mpr ⟨l, hl, by rw [e1, e2]⟩
  simpa using this
theorem BInv.cert_mem {ws : List Int} {h : Int} {x : BookS} (hv : validW ws) (i : BInv ws h x) : ∀ c ∈ x.certs, ∃ l ∈ x.kept, l.st.t = c.1 ∧ l.st.b = some c.2 := fun c hc => by
  obtain ⟨h1, h2⟩ := (i.cert c.1 c.2).mp hc
  obtain ⟨l, hl, e1, e2⟩ := cert_turn hv h2
  exact ⟨l, hl, by omega, e2⟩
theorem BInv.com_mem {ws : List Int} {h : Int} {x : BookS} (hv : validW ws) (i : BInv ws h x) : ∀ c ∈ x.commits, ∃ l ∈ x.kept, l.st.t = c.1 ∧ l.st.b = some c.2 := fun c hc => by
  obtain ⟨h1, h2⟩ := (i.com c.1 c.2).mp hc
  obtain ⟨l, hl, e1, e2⟩ := cert_turn hv ((Bool.and_eq_true _ _).mp h2).2
  exact ⟨l, hl, by omega, e2⟩
theorem addP_kept (ws : List Int) (h : Int) (x : BookS) (l : Let) : (addP ws h x l).kept = if keepsP ws h x l = true then x.kept ++ [l] else x.kept := by
  unfold addP
  split
  · cases l.st.b with
    | none => rfl
    | some b => exact spreadP_kept ..
  · rfl
theorem keepsP_wf {ws : List Int} {x : BookS} {l : Let} (w : WfL ws.length l) : keepsP ws 0 x l = decide (l ∉ x.kept) := by
  rw [Bool.eq_iff_iff, decide_eq_true_iff]
  exact ⟨fun z => (keepsP_iff.mp z).2.2.2.2, fun z => keepsP_iff.mpr ⟨w.w0, w.wz, w.v, w.h, z⟩⟩
def comTurns (ws : List Int) (kept : List Let) (b : Str) : List Nat := (List.range 4).filter fun t => commP ws kept 0 t (some b)
theorem commitTurns_eq {ws : List Int} {x : BookS} (hv : validW ws) (i : BInv ws 0 x) (h4 : ∀ l ∈ x.kept, l.st.t < 4) (b : Str) : commitTurns x b = (comTurns ws x.kept b).map fun t : Nat => (t : Int) := by
  have m1 : ∀ k : Int, k ∈ commitTurns x b ↔ (k, b) ∈ x.commits := fun k => by
    unfold commitTurns
    rw [(sortI_perm _).mem_iff, List.mem_map]
    constructor
    · rintro ⟨⟨c1, c2⟩, hc, rfl⟩
      obtain ⟨z1, z2⟩ := List.mem_filter.mp hc
      have z2 : c2 = b := of_decide_eq_true z2
      subst z2
      exact z1
    · intro hc
      exact ⟨(k, b), List.mem_filter.mpr ⟨hc, decide_eq_true rfl⟩, rfl⟩
  refine asc_unique ?_ ?_ fun k => ?_
  · unfold commitTurns
    have hsr := sortI_sorted ((x.commits.filter fun c => decide (c.2 = b)).map fun c => c.1)
    have hnd : (sortI ((x.commits.filter fun c => decide (c.2 = b)).map fun c => c.1)).Nodup := (sortI_perm _).nodup_iff.mpr ?_
    · exact (hsr.and hnd).imp fun e => by omega
    refine List.Pairwise.map _ (S := fun a b : Int => a ≠ b) (R := fun a c : Int × Str => a ≠ c ∧ a.2 = b ∧ c.2 = b) (fun a c e z => e.1 (by
      obtain ⟨a1, a2⟩ := a
      obtain ⟨b1, b2⟩ := c
      obtain ⟨_, rfl, h2⟩ := e
      have h2 : b2 = a2 := h2
      have z : a1 = b1 := z
      rw [h2, z])) ?_
    have := i.no.filter fun c => decide (c.2 = b)
    refine List.Pairwise.imp_of_mem (fun ha hb e => ⟨e, ?_, ?_⟩) this
    · exact of_decide_eq_true (List.mem_filter.mp ha).2
    · exact of_decide_eq_true (List.mem_filter.mp hb).2
  · refine List.Pairwise.map _ (R := (· < ·)) (fun a b e => by omega) ?_
    exact List.Pairwise.filter _ List.pairwise_lt_range
  · rw [m1, i.com, List.mem_map]
    constructor
    · rintro ⟨z1, z2⟩
      obtain ⟨l, hl, e1, e2⟩ := cert_turn hv ((Bool.and_eq_true _ _).mp z2).2
      have := h4 l hl
      exact ⟨k.toNat, List.mem_filter.mpr ⟨List.mem_range.mpr (by omega), z2⟩, Int.toNat_of_nonneg z1⟩
    · rintro ⟨n, hn, rfl⟩
      exact ⟨by omega, by simpa using (List.mem_filter.mp hn).2⟩
end Toy
namespace Toy
open PySem L2 DL
theorem dueP_sub (ws : List Int) (kept : List Let) (b : Str) (t : Int) : ∀ l ∈ dueP ws kept b t, l ∈ kept := by
  have : ∀ (us : List Int) (s : List Let × List Int), (∀ l ∈ s.1, l ∈ kept) → ∀ l ∈ (us.foldl (dueStep ws kept b) s).1, l ∈ kept := fun us => by
    induction us with
    | nil => intro s hs; exact hs
    | cons u us ih =>
      intro s hs
      rw [List.foldl_cons]
      refine ih _ fun l hl => ?_
      unfold dueStep at hl
      split at hl
      · rcases List.mem_append.mp hl with z | z
        · exact hs l z
        · exact (List.mem_filter.mp (pickQ_sub _ _ l z)).1
      · exact hs l hl
  exact this _ _ fun l hl => (List.mem_filter.mp (pickQ_sub _ _ l hl)).1
theorem deq_lets {ls : List Let} (h : ∀ l ∈ ls, okB l.st.b) : deq (.lst (ls.map Let.d)) (.lst (ls.map Let.d)) = true := deq_refl _ (fit_dat (lets_fit h))
end Toy
namespace Toy
open PySem L2 DL
def pairsP (ws : List Int) (kept : List Let) (com : Bool) : List (Int × Str) :=
  (List.range 4).flatMap fun t : Nat => (["a", "b"] : List Str).filterMap fun b => if (if com = true then commP ws kept 0 t (some b) else certP ws kept 0 t (some b)) = true then some ((t : Int), b) else none
end Toy
namespace Toy
open PySem L2 DL
/-- the latest: none of none, else the greatest of the earlier ones -/
def LatOk (es : List Int) : Option Int → Prop
  | none => es = []
  | some k => k ∈ es ∧ ∀ j ∈ es, j ≤ k
theorem latest_go {b : Str} {t : Int} : ∀ (post pre : List (Int × Str)), LatOk ((pre.filter fun c : Int × Str => decide (c.2 = b) && decide (c.1 < t)).map fun c => c.1) (latestP pre b t) → LatOk (((pre ++ post).filter fun c : Int × Str => decide (c.2 = b) && decide (c.1 < t)).map fun c => c.1) (latestP (pre ++ post) b t)
  | [], pre, h => by rw [List.append_nil]; exact h
  | c :: post, pre, h => by
    rw [show pre ++ c :: post = (pre ++ [c]) ++ post by simp]
    refine latest_go post _ ?_
    have hs : latestP (pre ++ [c]) b t = if c.2 = b ∧ c.1 < t ∧ (∀ x, latestP pre b t = some x → x < c.1) then some c.1 else latestP pre b t := by unfold latestP; rw [List.foldl_append]; rfl
    rw [hs, List.filter_append, List.map_append]
    generalize latestP pre b t = L at h ⊢
    generalize ((pre.filter fun c : Int × Str => decide (c.2 = b) && decide (c.1 < t)).map fun c => c.1) = es at h ⊢
    by_cases h1 : c.2 = b ∧ c.1 < t
    · rw [List.filter_cons_of_pos (by simp [h1]), List.filter_nil, List.map_cons, List.map_nil]
      cases L with
      | none =>
        rw [if_pos ⟨h1.1, h1.2, fun _ z => nomatch z⟩, show es = [] from h]
        exact ⟨by simp, by simp⟩
      | some k =>
        obtain ⟨h2, h3⟩ := h
        by_cases h4 : k < c.1
        · rw [if_pos ⟨h1.1, h1.2, fun x z => by cases z; exact h4⟩]
          refine ⟨by simp, fun j hj => ?_⟩
          rcases List.mem_append.mp hj with z | z
          · have := h3 j z; omega
          · rw [List.mem_singleton.mp z]; omega
        · rw [if_neg fun z => h4 (z.2.2 k rfl)]
          refine ⟨List.mem_append_left _ h2, fun j hj => ?_⟩
          rcases List.mem_append.mp hj with z | z
          · exact h3 j z
          · rw [List.mem_singleton.mp z]; omega
    · rw [List.filter_cons_of_neg (by simpa using h1), List.filter_nil, List.map_nil, List.append_nil, if_neg fun z => h1 ⟨z.1, z.2.1⟩]
      exact h
theorem latestP_of {b : Str} {t : Int} {xs cs : List (Int × Str)} (h : xs.Perm cs) : LatOk ((cs.filter fun c : Int × Str => decide (c.2 = b) && decide (c.1 < t)).map fun c => c.1) (latestP xs b t) := by
  have h1 := latest_go (b := b) (t := t) xs [] (show LatOk _ none from rfl)
  rw [List.nil_append] at h1
  have pm := (h.filter fun c : Int × Str => decide (c.2 = b) && decide (c.1 < t)).map fun c => c.1
  generalize latestP xs b t = L at h1 ⊢
  cases L with
  | none =>
    have h1 : _ = [] := h1
    rw [h1] at pm
    exact (List.nil_perm.mp pm)
  | some k => exact ⟨pm.mem_iff.mp h1.1, fun j hj => h1.2 j (pm.mem_iff.mpr hj)⟩
theorem maxI_eq {e k : Int} {es : List Int} (h1 : k ∈ e :: es) (h2 : ∀ j ∈ e :: es, j ≤ k) : maxI e es = k := by
  obtain ⟨g1, g2⟩ := maxI_ge es e
  have g3 : maxI e es ≤ k := by
    rcases maxI_mem es e with z | z
    · rw [z]; exact h2 e (by simp)
    · exact h2 _ (List.mem_cons_of_mem _ z)
  have g4 : k ≤ maxI e es := by
    rcases List.mem_cons.mp h1 with rfl | z
    · exact g1
    · exact g2 k z
  omega
end Toy
namespace Toy
open PySem L2 DL
/-- letters that may be of any height -/
structure WfA (l : Let) : Prop where
  w0 : 0 ≤ l.who
  t0 : 0 ≤ l.st.t
  t4 : l.st.t < 4
  b : okB l.st.b
  ab : ∀ c, l.st.b = some c → DLS.abS c
theorem stm_ab (g h : Int) : ∀ c, (stm g h).b = some c → DLS.abS c := fun c e => by
  have : ∀ i : Nat, ∀ c, menuB i = some c → DLS.abS c := fun i c e => by
    match i, e with
    | 0, e => cases e; exact .inl rfl
    | 1, e => cases e; exact .inr rfl
    | 2, e => cases e; exact .inl rfl
    | 3, e => cases e; exact .inr rfl
    | 4, e => cases e
    | n + 5, e => simp [menuB] at e
  unfold stm at e
  split at e
  · exact this _ c e
  · exact this _ c e
theorem lettersP_wfa {c : Int} {n : Nat} {z : Int} (hz : 0 < z) : ∀ l ∈ lettersP c n z, WfA l := fun l hl => by
  have w := lettersP_wf hz l hl
  obtain ⟨k, _, rfl⟩ := List.mem_map.mp hl
  exact ⟨w.w0, w.t0, w.t4, w.b, stm_ab _ _⟩
theorem plantedP_wfa {c : Int} {z : Nat} : ∀ l ∈ plantedP c z, WfA l := fun l hl => by
  have w := plantedP_wf l hl
  refine ⟨w.w0, w.t0, w.t4, w.b, ?_⟩
  obtain ⟨k, _, hk⟩ := List.mem_flatMap.mp hl
  simp only [plantK] at hk
  rcases List.mem_append.mp hk with hk | hk
  · split at hk
    · simp only [List.mem_cons, List.not_mem_nil, or_false] at hk
      rcases hk with rfl | rfl <;> (intro c e; cases e; exact .inl rfl)
    · cases hk
  · split at hk
    · rcases List.mem_append.mp hk with hk | hk
      · split at hk
        · simp only [List.mem_cons, List.not_mem_nil, or_false] at hk
          rcases hk with rfl | rfl <;> (intro c e; cases e; exact .inr rfl)
        · simp only [List.mem_cons, List.not_mem_nil, or_false] at hk
          rcases hk with rfl
          intro c e; cases e; exact .inr rfl
      · simp only [List.mem_cons, List.not_mem_nil, or_false] at hk
        rcases hk with rfl
        intro c e; cases e; exact .inr rfl
    · cases hk
theorem cut_any {α : Type} {f : α → D} (xs : List α) (n : Nat) : cutD (xs.map f) none (some (n : Int)) = (xs.take n).map f := by
  by_cases h : n ≤ xs.length
  · exact cut_take xs n h
  · have h : xs.length ≤ n := by omega
    rw [List.take_of_length_le h]
    unfold cutD
    have e1 : HT.sIx (xs.map f).length 0 none = 0 := rfl
    have e2 : HT.sIx (xs.map f).length (xs.map f).length (some (n : Int)) = (xs.map f).length := by
      rw [List.length_map, HT.sIx_nat]
      omega
    rw [e1, e2, List.drop_zero, Nat.sub_zero, List.take_of_length_le (Nat.le_refl _)]
end Toy
namespace Toy
open PySem L2 DL
theorem lookP_grow (ws : List Int) (x : BookS) (t : Int) (b : Str) : (∃ rs, (lookP ws x t b).certs = x.certs ++ rs) ∧ ∃ rs, (lookP ws x t b).commits = x.commits ++ rs := by
  constructor
  · show ∃ rs, lookC ws x t b = x.certs ++ rs
    unfold lookC
    split
    · exact ⟨_, rfl⟩
    · exact ⟨[], (List.append_nil _).symm⟩
  · unfold lookP
    dsimp only
    split
    · exact ⟨_, rfl⟩
    · exact ⟨[], (List.append_nil _).symm⟩
theorem spreadP_grow (ws : List Int) (x : BookS) (t : Int) (b : Str) : (∃ rs, (spreadP ws x t b).certs = x.certs ++ rs) ∧ ∃ rs, (spreadP ws x t b).commits = x.commits ++ rs := by
  unfold spreadP
  generalize turnsB x.kept b = us
  have : ∀ (us : List Int) (y : BookS), (∃ rs, y.certs = x.certs ++ rs) ∧ (∃ rs, y.commits = x.commits ++ rs) → (∃ rs, (us.foldl (fun y u => if t ≤ u then lookP ws y u b else y) y).certs = x.certs ++ rs) ∧ ∃ rs, (us.foldl (fun y u => if t ≤ u then lookP ws y u b else y) y).commits = x.commits ++ rs := fun us => by
    induction us with
    | nil => intro y h; exact h
    | cons u us ih =>
      intro y h
      rw [List.foldl_cons]
      refine ih _ ?_
      split
      · obtain ⟨⟨r1, e1⟩, r2, e2⟩ := h
        obtain ⟨⟨r3, e3⟩, r4, e4⟩ := lookP_grow ws y u b
        exact ⟨⟨r1 ++ r3, by rw [e3, e1, List.append_assoc]⟩, r2 ++ r4, by rw [e4, e2, List.append_assoc]⟩
      · exact h
  exact this us x ⟨⟨[], (List.append_nil _).symm⟩, [], (List.append_nil _).symm⟩
theorem addP_grow (ws : List Int) (h : Int) (x : BookS) (l : Let) : (∃ rs, (addP ws h x l).certs = x.certs ++ rs) ∧ ∃ rs, (addP ws h x l).commits = x.commits ++ rs := by
  unfold addP
  split
  · cases l.st.b with
    | none => exact ⟨⟨[], (List.append_nil _).symm⟩, [], (List.append_nil _).symm⟩
    | some b => exact spreadP_grow ws { x with kept := x.kept ++ [l] } l.st.t b
  · exact ⟨⟨[], (List.append_nil _).symm⟩, [], (List.append_nil _).symm⟩
theorem mem_pairsP {ws : List Int} {ls : List Let} {com : Bool} {u : Int} {b : Str} : (u, b) ∈ pairsP ws ls com ↔ 0 ≤ u ∧ u < 4 ∧ DLS.abS b ∧ (if com = true then commP ws ls 0 u.toNat (some b) else certP ws ls 0 u.toNat (some b)) = true := by
  simp only [pairsP, List.mem_flatMap, List.mem_range, List.mem_filterMap]
  constructor
  · rintro ⟨t, ht, c, hc, e⟩
    by_cases hq : (if com = true then commP ws ls 0 t (some c) else certP ws ls 0 t (some c)) = true
    · rw [if_pos hq] at e
      simp only [Option.some.injEq, Prod.mk.injEq] at e
      obtain ⟨rfl, rfl⟩ := e
      refine ⟨by omega, by omega, ?_, by simpa using hq⟩
      simp only [List.mem_cons, List.not_mem_nil, or_false] at hc
      exact hc
    · rw [if_neg hq] at e
      cases e
  · rintro ⟨h0, h4, hb, hq⟩
    refine ⟨u.toNat, by omega, b, ?_, ?_⟩
    · simp only [List.mem_cons, List.not_mem_nil, or_false]
      exact hb
    · rw [if_pos hq, Int.toNat_of_nonneg h0]
theorem ite_some {α : Type} {c : Prop} [Decidable c] {x y : α} (h : (if c then some x else none) = some y) : x = y := by
  by_cases hc : c
  · rw [if_pos hc] at h
    exact Option.some.inj h
  · rw [if_neg hc] at h
    cases h
theorem nodup_pairsP (ws : List Int) (ls : List Let) (com : Bool) : (pairsP ws ls com).Nodup := by
  unfold pairsP
  refine List.pairwise_flatMap.mpr ⟨fun t _ => ?_, ?_⟩
  · refine List.Pairwise.filterMap _ (R := (· ≠ ·)) (fun b c e x hx y hy => ?_) (by decide +kernel)
    rw [← ite_some hx, ← ite_some hy]
    exact fun z => e (by simpa using z)
  · refine List.Pairwise.imp (fun {s t} e x hx y hy => ?_) List.nodup_range
    obtain ⟨b, _, hb⟩ := List.mem_filterMap.mp hx
    obtain ⟨c, _, hc⟩ := List.mem_filterMap.mp hy
    rw [← ite_some hb, ← ite_some hc]
    exact fun z => e (by simp only [Prod.mk.injEq] at z; omega)
theorem BInv.certs_perm {ws : List Int} {x : BookS} (hv : validW ws) (i : BInv ws 0 x) (hw : ∀ l ∈ x.kept, WfA l) : x.certs.Perm (pairsP ws x.kept false) := by
  refine (List.perm_ext_iff_of_nodup i.nc (nodup_pairsP ..)).mpr fun ⟨u, b⟩ => ?_
  rw [mem_pairsP, if_neg (by decide), i.cert]
  constructor
  · rintro ⟨h0, h1⟩
    obtain ⟨l, hl, e1, e2⟩ := cert_turn hv h1
    have w := hw l hl
    exact ⟨h0, by have := w.t4; omega, w.ab b e2, h1⟩
  · exact fun z => ⟨z.1, z.2.2.2⟩
theorem BInv.commits_perm {ws : List Int} {x : BookS} (hv : validW ws) (i : BInv ws 0 x) (hw : ∀ l ∈ x.kept, WfA l) : x.commits.Perm (pairsP ws x.kept true) := by
  refine (List.perm_ext_iff_of_nodup i.no (nodup_pairsP ..)).mpr fun ⟨u, b⟩ => ?_
  rw [mem_pairsP, if_pos rfl, i.com]
  constructor
  · rintro ⟨h0, h1⟩
    obtain ⟨l, hl, e1, e2⟩ := cert_turn hv ((Bool.and_eq_true _ _).mp h1).2
    have w := hw l hl
    exact ⟨h0, by have := w.t4; omega, w.ab b e2, h1⟩
  · exact fun z => ⟨z.1, z.2.2.2⟩
theorem pairsP_len (ws : List Int) (ls : List Let) (com : Bool) : (pairsP ws ls com).length ≤ 8 := by
  have : (pairsP ws ls com).length ≤ ((List.range 4).flatMap fun t : Nat => [((t : Int), Str.ofString "a"), ((t : Int), Str.ofString "b")]).length := (nodup_pairsP ws ls com).length_le_of_subset fun ⟨u, b⟩ hu => by
    obtain ⟨h0, h4, hb, _⟩ := mem_pairsP.mp hu
    refine List.mem_flatMap.mpr ⟨u.toNat, List.mem_range.mpr (by omega), ?_⟩
    rw [Int.toNat_of_nonneg h0]
    rcases hb with rfl | rfl <;> simp
  exact this
end Toy

/-! data: what letters show -/
namespace Toy
open PySem L2 DL
theorem asL_gc {m m' : MH} {d : D} {ds : List D} (h : asL m d = some ds) (g : Gc m' m) : asL m' d = some ds := by
  rcases asL_cases h with rfl | rfl | ⟨p, rfl, hp⟩
  · rfl
  · rfl
  · exact asL_adr (g _ _ hp)
def bookP (ws : List Int) (h : Int) (ls : List Let) : BookS := ls.foldl (addP ws h) ⟨[], [], []⟩
def shownP (ws : List Int) (h : Int) (b : Str) (ls : List Let) : Option Int := (commitTurns (bookP ws h ls) b).head?
theorem bookP_snoc (ws : List Int) (h : Int) (ls : List Let) (l : Let) : bookP ws h (ls ++ [l]) = addP ws h (bookP ws h ls) l := by
  unfold bookP
  rw [List.foldl_append]
  rfl
theorem snoc_ind {α : Type} {P : List α → Prop} (h0 : P []) (h1 : ∀ xs x, P xs → P (xs ++ [x])) : ∀ xs, P xs := fun xs => by
  have : ∀ ys : List α, P ys.reverse := fun ys => by
    induction ys with
    | nil => exact h0
    | cons y ys ih => rw [List.reverse_cons]; exact h1 _ _ ih
  have := this xs.reverse
  rwa [List.reverse_reverse] at this
theorem bookP_inv {ws : List Int} {h : Int} (hv : validW ws) : ∀ ls : List Let, (∀ l ∈ ls, 0 ≤ l.st.t) → BInv ws h (bookP ws h ls) := by
  refine snoc_ind (fun _ => BInv.nil ws hv h) fun xs x ih ht => ?_
  rw [bookP_snoc]
  exact (ih fun l hl => ht l (List.mem_append_left _ hl)).add hv (ht x (by simp))
theorem bookP_mem {ws : List Int} {h : Int} {y : Let} : ∀ ls : List Let, y ∈ (bookP ws h ls).kept ↔ y ∈ ls ∧ 0 ≤ y.who ∧ y.who < ws.length ∧ y.st.isVote = true ∧ y.st.h = h := by
  refine snoc_ind (by simp [bookP]) fun xs x ih => ?_
  rw [bookP_snoc, addP_kept]
  have e : keepsP ws h (bookP ws h xs) x = true ↔ _ := keepsP_iff (w := x.who) (s := x.st)
  by_cases hk : keepsP ws h (bookP ws h xs) x = true
  · rw [if_pos hk, List.mem_append, List.mem_append, List.mem_singleton, ih]
    have := e.mp hk
    constructor
    · rintro (z | rfl)
      · exact ⟨.inl z.1, z.2⟩
      · exact ⟨.inr rfl, this.1, this.2.1, this.2.2.1, this.2.2.2.1⟩
    · rintro ⟨z | z, w⟩
      · exact .inl ⟨z, w⟩
      · exact .inr z
  · rw [if_neg hk, ih, List.mem_append, List.mem_singleton]
    constructor
    · exact fun z => ⟨.inl z.1, z.2⟩
    · rintro ⟨z | rfl, w⟩
      · exact ⟨z, w⟩
      · by_cases hy : y ∈ (bookP ws h xs).kept
        · exact ih.mp hy
        · exact absurd (e.mpr ⟨w.1, w.2.1, w.2.2.1, w.2.2.2, hy⟩) hk
theorem bookP_len {ws : List Int} {h : Int} : ∀ ls : List Let, (bookP ws h ls).kept.length ≤ ls.length := by
  refine snoc_ind (by simp [bookP]) fun xs x ih => ?_
  rw [bookP_snoc, addP_kept, List.length_append, List.length_singleton]
  split
  · rw [List.length_append, List.length_singleton]; omega
  · omega
theorem quorum_of {ws l1 l2 : List Int} (hv : validW ws) (h : ∀ k : Nat, k < ws.length → (k : Int) ∈ l1 → (k : Int) ∈ l2) (q : quorumP ws l1 = true) : quorumP ws l2 = true := by
  have := wt_mono hv h
  have q := of_decide_eq_true q
  exact decide_eq_true (by omega)
section
variable {ws : List Int} {ls ls' : List Let} {h : Int} {b : Option Str}
theorem cert_of0 (hv : validW ws) (hs : ∀ x ∈ ls, 0 ≤ x.who → x.who < ws.length → x.st.h = h → x.st.isVote = true → x ∈ ls') : ∀ (n t : Nat), t ≤ n → certP ws ls h t b = true → certP ws ls' h t b = true
  | n, t, hn, hc => by
    refine quorum_of hv (fun k hk m => ?_) hc
    obtain ⟨x, h1, h2, h3⟩ := mem_voters.mp m
    obtain ⟨l, h4, h5, h6⟩ := voteOk_iff.mp h3
    refine mem_voters.mpr ⟨x, hs x h1 (by omega) (by omega) (by rw [h4]; rfl) (by rw [h4]; rfl), h2, voteOk_iff.mpr ⟨l, h4, ?_, h6⟩⟩
    rcases mem_leans.mp h5 with rfl | ⟨s, h7, rfl, h9⟩
    · exact mem_leans.mpr (.inl rfl)
    · cases n with
      | zero => omega
      | succ n => exact mem_leans.mpr (.inr ⟨s, h7, rfl, cert_of0 hv hs n s (by omega) h9⟩)
theorem comm_of {t : Nat} (hv : validW ws) (hs : ∀ x ∈ ls, 0 ≤ x.who → x.who < ws.length → x.st.h = h → x.st.isVote = true → x ∈ ls') (hc : commP ws ls h t b = true) : commP ws ls' h t b = true := by
  obtain ⟨h1, h2⟩ := (Bool.and_eq_true _ _).mp hc
  refine (Bool.and_eq_true _ _).mpr ⟨quorum_of hv (fun k hk m => ?_) h1, cert_of0 hv hs t t (Nat.le_refl t) h2⟩
  simp only [signersP, List.mem_map, List.mem_filter] at m ⊢
  obtain ⟨x, ⟨z1, z2⟩, z3⟩ := m
  have z4 := of_decide_eq_true z2
  exact ⟨x, ⟨hs x z1 (by omega) (by omega) (by rw [z4]; rfl) (by rw [z4]; rfl), z2⟩, z3⟩
theorem comm_book {t : Nat} (hv : validW ws) : commP ws (bookP ws h ls).kept h t b = commP ws ls h t b := by
  rw [Bool.eq_iff_iff]
  exact ⟨comm_of hv fun x hx _ _ _ _ => ((bookP_mem ls).mp hx).1, comm_of hv fun x hx h1 h2 h3 h4 => (bookP_mem ls).mpr ⟨hx, h1, h2, h4, h3⟩⟩
end
theorem mem_commitTurns {x : BookS} {b : Str} {k : Int} : k ∈ commitTurns x b ↔ (k, b) ∈ x.commits := by
  unfold commitTurns
  rw [(sortI_perm _).mem_iff, List.mem_map]
  constructor
  · rintro ⟨⟨c1, c2⟩, hc, rfl⟩
    obtain ⟨z1, z2⟩ := List.mem_filter.mp hc
    have z2 : c2 = b := of_decide_eq_true z2
    subst z2
    exact z1
  · intro hc
    exact ⟨(k, b), List.mem_filter.mpr ⟨hc, decide_eq_true rfl⟩, rfl⟩
/-- the earliest turn in which the letters commit the block -/
theorem shown_none {ws : List Int} {h : Int} {b : Str} {ls : List Let} (hv : validW ws) (ht : ∀ l ∈ ls, 0 ≤ l.st.t) : shownP ws h b ls = none ↔ ∀ t : Nat, commP ws ls h t (some b) = false := by
  have i := bookP_inv (h := h) hv ls ht
  unfold shownP
  rw [List.head?_eq_none_iff]
  constructor
  · intro e t
    refine Bool.eq_false_iff.mpr fun z => ?_
    rw [← comm_book hv] at z
    have : ((t : Int), b) ∈ (bookP ws h ls).commits := (i.com _ _).mpr ⟨by omega, by simpa using z⟩
    have := mem_commitTurns.mpr this
    rw [e] at this
    cases this
  · intro e
    refine List.eq_nil_iff_forall_not_mem.mpr fun k hk => ?_
    obtain ⟨h1, h2⟩ := (i.com _ _).mp (mem_commitTurns.mp hk)
    rw [comm_book hv, e] at h2
    cases h2
theorem shown_some {ws : List Int} {h : Int} {b : Str} {ls : List Let} {t : Int} (hv : validW ws) (ht : ∀ l ∈ ls, 0 ≤ l.st.t) (e : shownP ws h b ls = some t) :
    0 ≤ t ∧ commP ws ls h t.toNat (some b) = true ∧ ∀ u : Nat, commP ws ls h u (some b) = true → t ≤ u := by
  have i := bookP_inv (h := h) hv ls ht
  unfold shownP at e
  have hm : t ∈ commitTurns (bookP ws h ls) b := List.mem_of_mem_head? e
  obtain ⟨h1, h2⟩ := (i.com _ _).mp (mem_commitTurns.mp hm)
  rw [comm_book hv] at h2
  refine ⟨h1, h2, fun u hu => ?_⟩
  rw [← comm_book hv] at hu
  have : ((u : Int), b) ∈ (bookP ws h ls).commits := (i.com _ _).mpr ⟨by omega, by simpa using hu⟩
  have hu := mem_commitTurns.mpr this
  have hs : (commitTurns (bookP ws h ls) b).Pairwise (· ≤ ·) := sortI_sorted _
  cases q : commitTurns (bookP ws h ls) b with
  | nil => rw [q] at e; cases e
  | cons y ys =>
    rw [q] at e hu hs
    cases e
    rcases List.mem_cons.mp hu with z | z
    · omega
    · exact (List.pairwise_cons.mp hs).1 _ z
/-- what the walk asks of a book of letters -/
structure BookF (ws : List Int) (h : Int) (x : BookS) (n : Nat) : Prop where
  iv : BInv ws h x
  kl : x.kept.length ≤ n
  ok : ∀ l ∈ x.kept, okB l.st.b ∧ l.st.isVote = true
  tr : ∀ l ∈ x.kept, 0 ≤ l.st.t ∧ l.st.t < 60
  co : ∀ c ∈ x.certs, okB (some c.2)
  mo : ∀ c ∈ x.commits, okB (some c.2)
  cl : x.certs.length ≤ n
  ml : x.commits.length ≤ n
theorem bookF {ws : List Int} {h : Int} {ls : List Let} (hv : validW ws) (hok : ∀ l ∈ ls, okB l.st.b ∧ 0 ≤ l.st.t ∧ l.st.t < 60) : BookF ws h (bookP ws h ls) ls.length := by
  have iv := bookP_inv (h := h) hv ls fun l hl => (hok l hl).2.1
  have kl := bookP_len (ws := ws) (h := h) ls
  have hk : ∀ l ∈ (bookP ws h ls).kept, l ∈ ls := fun l hl => ((bookP_mem ls).mp hl).1
  refine ⟨iv, kl, fun l hl => ⟨(hok l (hk l hl)).1, iv.vs l hl⟩, fun l hl => (hok l (hk l hl)).2, fun c hc => ?_, fun c hc => ?_, Nat.le_trans (pairs_len iv.nc (iv.cert_mem hv)) kl, Nat.le_trans (pairs_len iv.no (iv.com_mem hv)) kl⟩
  · obtain ⟨l, hl, _, e⟩ := iv.cert_mem hv c hc
    rw [← e]; exact (hok l (hk l hl)).1
  · obtain ⟨l, hl, _, e⟩ := iv.com_mem hv c hc
    rw [← e]; exact (hok l (hk l hl)).1
theorem BookF.t64 {ws : List Int} {h : Int} {x : BookS} {n : Nat} {l : Let} (f : BookF ws h x n) (ht : 0 ≤ l.st.t ∧ l.st.t < 60) : ∀ b, (turnsB (x.kept ++ [l]) b).length < 64 := fun b =>
  Nat.lt_of_le_of_lt (turnsB_len 60 (fun y hy => (List.mem_append.mp hy).elim (f.tr y) fun z => by rw [List.mem_singleton.mp z]; exact ht) b) (by decide)
theorem cut_drop {α : Type} {f : α → D} (xs : List α) (n : Nat) : cutD (xs.map f) (some (n : Int)) none = (xs.drop n).map f := by
  have e1 : HT.sIx (xs.map f).length (xs.map f).length none = (xs.map f).length := rfl
  have e2 : HT.sIx (xs.map f).length 0 (some (n : Int)) = min n xs.length := by
    rw [HT.sIx_nat, List.length_map]
  unfold cutD
  rw [e1, e2, ← List.map_drop, ← List.map_take]
  by_cases h : n ≤ xs.length
  · rw [Nat.min_eq_left h, List.take_of_length_le (by simp)]
  · rw [Nat.min_eq_right (by omega), List.drop_length, List.drop_of_length_le (by omega)]
    simp
/-- two papers accuse -/
def accP (ws : List Int) (h : Int) (b1 : Str) (l1 : List Let) (b2 : Str) (l2 : List Let) : Bool := (shownP ws h b1 l1).isSome && ((shownP ws h b2 l2).isSome && !decide (b1 = b2))
end Toy

/-! data: what the paper made from a book shows -/
namespace Toy
open PySem L2 DL
theorem pickQ_snoc (ws : List Int) (xs : List Let) (x : Let) : pickQ ws (xs ++ [x]) = if x.who ∉ (pickQ ws xs).map Let.who ∧ quorumP ws ((pickQ ws xs).map Let.who) = false then pickQ ws xs ++ [x] else pickQ ws xs := by
  unfold pickQ
  rw [List.foldl_append]
  rfl
theorem pickQ_nodup (ws : List Int) : ∀ ls, ((pickQ ws ls).map Let.who).Nodup := by
  refine snoc_ind (by simp [pickQ]) fun xs x ih => ?_
  rw [pickQ_snoc]
  split
  · rename_i h
    rw [List.map_append]
    exact nodup_snoc ih h.1
  · exact ih
theorem pickQ_all (ws : List Int) : ∀ ls, ∀ l ∈ ls, quorumP ws ((pickQ ws ls).map Let.who) = true ∨ l.who ∈ (pickQ ws ls).map Let.who := by
  refine snoc_ind (by simp) fun xs x ih l hl => ?_
  rw [pickQ_snoc]
  by_cases h : x.who ∉ (pickQ ws xs).map Let.who ∧ quorumP ws ((pickQ ws xs).map Let.who) = false
  · rw [if_pos h]
    rcases List.mem_append.mp hl with z | z
    · rcases ih l z with w | w
      · rw [h.2] at w; cases w
      · exact .inr (by rw [List.map_append]; exact List.mem_append_left _ w)
    · rw [List.mem_singleton.mp z]
      exact .inr (by simp)
  · rw [if_neg h]
    rcases List.mem_append.mp hl with z | z
    · exact ih l z
    · rw [List.mem_singleton.mp z]
      by_cases hm : x.who ∈ (pickQ ws xs).map Let.who
      · exact .inr hm
      · exact .inl (by
          cases e : quorumP ws ((pickQ ws xs).map Let.who) with
          | true => rfl
          | false => exact absurd ⟨hm, e⟩ h)
theorem pickQ_last (ws : List Int) : ∀ ls, pickQ ws ls = [] ∨ ∃ init l, pickQ ws ls = init ++ [l] ∧ quorumP ws (init.map Let.who) = false := by
  refine snoc_ind (.inl (by simp [pickQ])) fun xs x ih => ?_
  rw [pickQ_snoc]
  split
  · rename_i h
    exact .inr ⟨_, _, rfl, h.2⟩
  · exact ih
theorem pickQ_quorum {ws : List Int} {ls : List Let} (hv : validW ws) (h : quorumP ws (ls.map Let.who) = true) : quorumP ws ((pickQ ws ls).map Let.who) = true := by
  cases e : quorumP ws ((pickQ ws ls).map Let.who) with
  | true => rfl
  | false =>
    have : quorumP ws ((pickQ ws ls).map Let.who) = true := quorum_mono hv (fun k hk => by
      obtain ⟨l, hl, rfl⟩ := List.mem_map.mp hk
      rcases pickQ_all ws ls l hl with z | z
      · rw [e] at z; cases z
      · exact z) h
    rw [e] at this
    exact this
section
variable {ws : List Int} {kept : List Let} {b : Str} {z : Int}
theorem countsD_iff {u : Int} {l : Let} : countsD ws kept b u l = true ↔ l.st.isPv = true ∧ l.st.t = u ∧ l.st.b = some b ∧ ∀ x, l.st.l = some x → certP ws kept 0 x.toNat (some b) = true := by
  unfold countsD
  simp only [Bool.and_eq_true, decide_eq_true_iff]
  cases e : l.st.l with
  | none => simp
  | some x => simp
theorem counts_quorum {u : Nat} (hv : validW ws) (hc : certP ws kept 0 u (some b) = true) : quorumP ws ((kept.filter (countsD ws kept b u)).map Let.who) = true := by
  refine quorum_mono hv (fun k hk => ?_) hc
  obtain ⟨x, h1, h2, h3⟩ := mem_voters.mp hk
  obtain ⟨l, h4, h5, h6⟩ := voteOk_iff.mp h3
  refine List.mem_map.mpr ⟨x, List.mem_filter.mpr ⟨h1, countsD_iff.mpr ?_⟩, h2⟩
  rw [h4]
  refine ⟨rfl, rfl, rfl, fun y hy => ?_⟩
  have hy : l = some y := hy
  rcases mem_leans.mp h5 with rfl | ⟨s, _, rfl, h8⟩
  · cases hy
  · cases hy
    simpa using h8
/-- the turns wanted, closed under leaning -/
def ClosedP (ws : List Int) (kept : List Let) (b : Str) (P : List Let) (wn : List Int) : Prop :=
  ∀ w ∈ wn, 0 ≤ w ∧ certP ws kept 0 w.toNat (some b) = true ∧ ∀ l ∈ pickQ ws (kept.filter (countsD ws kept b w)), l ∈ P ∧ ∀ y, l.st.l = some y → y ∈ wn
theorem cert_closed (hv : validW ws) (hw : ∀ l ∈ kept, WfL z l) {P : List Let} {wn : List Int} (hc : ClosedP ws kept b P wn) : ∀ (n : Nat) (w : Int), w ∈ wn → w.toNat ≤ n → certP ws P 0 w.toNat (some b) = true := by
  intro n
  induction n using Nat.strongRecOn with
  | ind n ih =>
    intro w hwn hn
    obtain ⟨h0, h1, h2⟩ := hc w hwn
    have e0 : (w.toNat : Int) = w := Int.toNat_of_nonneg h0
    have hq := pickQ_quorum hv (counts_quorum hv h1)
    rw [e0] at hq
    refine quorum_mono hv (fun k hk => ?_) hq
    obtain ⟨l, hl, rfl⟩ := List.mem_map.mp hk
    obtain ⟨h3, h4⟩ := h2 l hl
    obtain ⟨h5, h6⟩ := List.mem_filter.mp (pickQ_sub _ _ l hl)
    obtain ⟨k1, k2, k3, k4⟩ := countsD_iff.mp h6
    have wf := hw l h5
    refine mem_voters.mpr ⟨l, h3, rfl, voteOk_iff.mpr ?_⟩
    have hln := wf.ln
    have hh := wf.h
    rcases l with ⟨v, ⟨h', t', b'⟩ | ⟨h', t', b', ln⟩ | ⟨h', t', b'⟩⟩
    · cases k1
    · have hh : h' = 0 := hh
      have k2 : t' = w := k2
      have k3 : b' = some b := k3
      subst hh k2 k3
      refine ⟨ln, by rw [e0]; rfl, ?_, fun x hx => ?_⟩
      · cases ln with
        | none => exact mem_leans.mpr (.inl rfl)
        | some y =>
          obtain ⟨y0, y1⟩ := hln y rfl
          have y1 : y < t' := y1
          exact mem_leans.mpr (.inr ⟨y.toNat, by omega, by rw [Int.toNat_of_nonneg y0], ih y.toNat (by omega) y (h4 y rfl) (Nat.le_refl _)⟩)
      · have := (hln x hx).2
        have : x < t' := this
        omega
    · cases k1
theorem due_go (hw : ∀ l ∈ kept, WfL z l) {t : Int} : ∀ (us pre : List Int) (s : List Let × List Int), (pre ++ us).Pairwise (fun a c => c < a) → (∀ w, 0 ≤ w → w ≤ t → w ∈ pre ∨ w ∈ us) →
    (∀ w ∈ s.2, 0 ≤ w ∧ w ≤ t ∧ certP ws kept 0 w.toNat (some b) = true) → (∀ w ∈ s.2, w ∈ pre → ∀ l ∈ pickQ ws (kept.filter (countsD ws kept b w)), l ∈ s.1 ∧ ∀ y, l.st.l = some y → y ∈ s.2) →
    ClosedP ws kept b (us.foldl (dueStep ws kept b) s).1 (us.foldl (dueStep ws kept b) s).2 ∧ ∀ w ∈ s.2, w ∈ (us.foldl (dueStep ws kept b) s).2
  | [], pre, s, _, hall, hA, hB => ⟨fun w hw' => by
      obtain ⟨h1, h2, h3⟩ := hA w hw'
      exact ⟨h1, h3, hB w hw' ((hall w h1 h2).elim id fun e => nomatch e)⟩, fun w h => h⟩
  | u :: us, pre, s, hp, hall, hA, hB => by
    rw [List.foldl_cons]
    have hp2 : ((pre ++ [u]) ++ us).Pairwise (fun a c => c < a) := by rw [List.append_assoc]; exact hp
    have hall2 : ∀ w, 0 ≤ w → w ≤ t → w ∈ pre ++ [u] ∨ w ∈ us := fun w h1 h2 => (hall w h1 h2).elim (fun e => .inl (List.mem_append_left _ e)) fun e => (List.mem_cons.mp e).elim (fun e => .inl (by rw [e]; simp)) .inr
    have hpu : ∀ w ∈ pre, u < w := fun w hw' => (List.pairwise_append.mp hp).2.2 w hw' u (List.mem_cons_self ..)
    by_cases hu : u ∈ s.2
    · have e : dueStep ws kept b s u = (s.1 ++ pickQ ws (kept.filter (countsD ws kept b u)), s.2 ++ (pickQ ws (kept.filter (countsD ws kept b u))).filterMap fun l => l.st.l) := if_pos hu
      have hlt : ∀ l ∈ pickQ ws (kept.filter (countsD ws kept b u)), ∀ y, l.st.l = some y → 0 ≤ y ∧ y < u ∧ certP ws kept 0 y.toNat (some b) = true := fun l hl y hy => by
        obtain ⟨h5, h6⟩ := List.mem_filter.mp (pickQ_sub _ _ l hl)
        obtain ⟨_, k2, _, k4⟩ := countsD_iff.mp h6
        obtain ⟨y0, y1⟩ := (hw l h5).ln y hy
        exact ⟨y0, by omega, k4 y hy⟩
      have hle := (hA u hu).2.1
      obtain ⟨r1, r2⟩ := due_go hw us (pre ++ [u]) (dueStep ws kept b s u) hp2 hall2 (fun w hw' => by
        rw [e] at hw'
        rcases List.mem_append.mp hw' with z | z
        · exact hA w z
        · obtain ⟨l, hl, hy⟩ := List.mem_filterMap.mp z
          obtain ⟨y0, y1, y2⟩ := hlt l hl w hy
          exact ⟨y0, by omega, y2⟩) (fun w hw' hpre l hl => by
        rw [e] at hw' ⊢
        rcases List.mem_append.mp hw' with z | z
        · rcases List.mem_append.mp hpre with q | q
          · obtain ⟨i1, i2⟩ := hB w z q l hl
            exact ⟨List.mem_append_left _ i1, fun y hy => List.mem_append_left _ (i2 y hy)⟩
          · have q := List.mem_singleton.mp q
            subst q
            exact ⟨List.mem_append_right _ hl, fun y hy => List.mem_append_right _ (List.mem_filterMap.mpr ⟨l, hl, hy⟩)⟩
        · obtain ⟨l', hl', hy⟩ := List.mem_filterMap.mp z
          have y1 := (hlt l' hl' w hy).2.1
          rcases List.mem_append.mp hpre with q | q
          · have := hpu w q; omega
          · have q := List.mem_singleton.mp q; omega)
      exact ⟨r1, fun w hw' => r2 w (by rw [e]; exact List.mem_append_left _ hw')⟩
    · have e : dueStep ws kept b s u = s := if_neg hu
      rw [e]
      exact due_go hw us (pre ++ [u]) s hp2 hall2 hA fun w hw' hpre => (List.mem_append.mp hpre).elim (hB w hw') fun q => by
        have q := List.mem_singleton.mp q
        subst q
        exact absurd hw' hu
theorem nodup_of_map {α β : Type} {f : α → β} {xs : List α} (h : (xs.map f).Nodup) : xs.Nodup := (List.pairwise_map.mp h).imp fun e z => e (by rw [z])
theorem due_go2 : ∀ (us : List Int) (s : List Let × List Int), us.Pairwise (fun a c => c < a) → ∃ vs, (us.foldl (dueStep ws kept b) s).1 = s.1 ++ vs ∧ vs.Nodup ∧ ∀ l ∈ vs, l.st.isPv = true ∧ l.st.t ∈ us
  | [], s, _ => ⟨[], by simp, by simp, by simp⟩
  | u :: us, s, hp => by
    rw [List.foldl_cons]
    obtain ⟨h1, h2⟩ := List.pairwise_cons.mp hp
    obtain ⟨vs, e, hn, hm⟩ := due_go2 us (dueStep ws kept b s u) h2
    by_cases hu : u ∈ s.2
    · have e1 : (dueStep ws kept b s u).1 = s.1 ++ pickQ ws (kept.filter (countsD ws kept b u)) := by unfold dueStep; rw [if_pos hu]
      have hc : ∀ l ∈ pickQ ws (kept.filter (countsD ws kept b u)), l.st.isPv = true ∧ l.st.t = u := fun l hl => by
        obtain ⟨k1, k2, _⟩ := countsD_iff.mp (List.mem_filter.mp (pickQ_sub _ _ l hl)).2
        exact ⟨k1, k2⟩
      refine ⟨pickQ ws (kept.filter (countsD ws kept b u)) ++ vs, by rw [e, e1, List.append_assoc], List.nodup_append.mpr ⟨nodup_of_map (pickQ_nodup ws _), hn, fun x hx y hy e => ?_⟩, fun l hl => ?_⟩
      · have := h1 _ (hm y hy).2
        rw [← e, (hc x hx).2] at this
        omega
      · rcases List.mem_append.mp hl with z | z
        · exact ⟨(hc l z).1, by rw [(hc l z).2]; simp⟩
        · exact ⟨(hm l z).1, List.mem_cons_of_mem _ (hm l z).2⟩
    · have e1 : dueStep ws kept b s u = s := if_neg hu
      rw [e1] at e ⊢
      exact ⟨vs, e, hn, fun l hl => ⟨(hm l hl).1, List.mem_cons_of_mem _ (hm l hl).2⟩⟩
theorem backTurns_pair (t : Int) : (backTurns t).Pairwise (fun a c => c < a) := by
  unfold backTurns
  refine List.pairwise_map.mpr (List.pairwise_lt_range.imp fun h => by omega)
theorem mem_backTurns {t w : Int} (h0 : 0 ≤ w) (h1 : w ≤ t) : w ∈ backTurns t := List.mem_map.mpr ⟨(t - w).toNat, List.mem_range.mpr (by omega), by omega⟩
/-- point 20: the paper -/
structure PaperOk (ws : List Int) (kept : List Let) (b : Str) (t : Nat) (P init : List Let) (l : Let) (vs : List Let) : Prop where
  eq : P = init ++ l :: vs
  com : ∀ x ∈ init ++ [l], x.st = .com 0 t (some b)
  pv : ∀ x ∈ vs, x.st.isPv = true
  sub : ∀ x ∈ P, x ∈ kept
  nd : P.Nodup
  yes : commP ws P 0 t (some b) = true
  no : commP ws (init ++ vs) 0 t (some b) = false
theorem signers_app (l1 l2 : List Let) (h t : Int) (b : Option Str) : signersP (l1 ++ l2) h t b = signersP l1 h t b ++ signersP l2 h t b := by simp [signersP]
theorem signers_com {ls : List Let} {h t : Int} {b : Option Str} (hc : ∀ x ∈ ls, x.st = .com h t b) : signersP ls h t b = ls.map Let.who := by
  unfold signersP
  rw [List.filter_eq_self.mpr fun x hx => decide_eq_true (hc x hx)]
theorem signers_pv {ls : List Let} {h t : Int} {b : Option Str} (hc : ∀ x ∈ ls, x.st.isPv = true) : signersP ls h t b = [] := by
  unfold signersP
  rw [List.filter_eq_nil_iff.mpr fun x hx e => by
    have e := of_decide_eq_true e
    have := hc x hx
    rw [e] at this
    cases this]
  rfl
theorem paper_ok (hv : validW ws) (hw : ∀ l ∈ kept, WfL z l) {t : Nat} (hc : commP ws kept 0 t (some b) = true) : ∃ init l vs, PaperOk ws kept b t (dueP ws kept b t) init l vs := by
  obtain ⟨h1, h2⟩ := (Bool.and_eq_true _ _).mp hc
  have hq := pickQ_quorum (ls := kept.filter fun l => decide (l.st = .com 0 t (some b))) hv h1
  have hcom : ∀ x ∈ pickQ ws (kept.filter fun l => decide (l.st = .com 0 t (some b))), x.st = .com 0 t (some b) := fun x hx => of_decide_eq_true (List.mem_filter.mp (pickQ_sub _ _ x hx)).2
  have hnd := pickQ_nodup ws (kept.filter fun l => decide (l.st = .com 0 t (some b)))
  have hsub := dueP_sub ws kept b t
  have hlast := pickQ_last ws (kept.filter fun l => decide (l.st = .com 0 t (some b)))
  have go1 := due_go (ws := ws) (b := b) hw (t := t) (backTurns t) [] (pickQ ws (kept.filter fun l => decide (l.st = .com 0 t (some b))), [(t : Int)]) (by rw [List.nil_append]; exact backTurns_pair t) (fun w h0 h1 => .inr (mem_backTurns h0 h1))
    (fun w hw' => by rw [List.mem_singleton.mp hw']; exact ⟨by omega, by omega, by simpa using h2⟩) (fun w _ e => nomatch e)
  have go2 := due_go2 (ws := ws) (kept := kept) (b := b) (backTurns t) (pickQ ws (kept.filter fun l => decide (l.st = .com 0 t (some b))), [(t : Int)]) (backTurns_pair t)
  have eP : dueP ws kept b t = ((backTurns t).foldl (dueStep ws kept b) (pickQ ws (kept.filter fun l => decide (l.st = .com 0 t (some b))), [(t : Int)])).1 := rfl
  rw [eP] at hsub ⊢
  have hcert := cert_closed hv hw go1.1 t t (go1.2 t (by simp)) (by simp)
  generalize ((backTurns t).foldl (dueStep ws kept b) (pickQ ws (kept.filter fun l => decide (l.st = .com 0 t (some b))), [(t : Int)])).1 = P at hsub go2 hcert ⊢
  generalize pickQ ws (kept.filter fun l => decide (l.st = .com 0 t (some b))) = cs at hq hcom hnd hlast go2 ⊢
  obtain ⟨vs, e, hvn, hvm⟩ := go2
  have e : P = cs ++ vs := e
  rcases hlast with rfl | ⟨init, l, rfl, hno⟩
  · rw [List.map_nil, quorum_nil hv] at hq
    cases hq
  have e2 : P = init ++ l :: vs := by rw [e, List.append_assoc]; rfl
  have hpv : ∀ x ∈ vs, x.st.isPv = true := fun x hx => (hvm x hx).1
  refine ⟨init, l, vs, e2, hcom, hpv, hsub, ?_, ?_, ?_⟩
  · rw [e]
    refine List.nodup_append.mpr ⟨nodup_of_map hnd, hvn, fun x hx y hy ez => ?_⟩
    have h3 := hcom x hx
    have h4 := hpv y hy
    rw [← ez, h3] at h4
    cases h4
  · refine (Bool.and_eq_true _ _).mpr ⟨?_, by simpa using hcert⟩
    rw [e, signers_app, signers_com hcom, signers_pv hpv, List.append_nil]
    exact hq
  · unfold commP
    rw [signers_app, signers_com fun x hx => hcom x (List.mem_append_left _ hx), signers_pv hpv, List.append_nil, hno]
    rfl
end
theorem shown_turns {ws : List Int} {ls : List Let} {b : Str} {z : Int} (hv : validW ws) (hw : ∀ l ∈ ls, WfL z l) : shownP ws 0 b ls = (comTurns ws ls b).head?.map fun t : Nat => (t : Int) := by
  have h0 : ∀ l ∈ ls, 0 ≤ l.st.t := fun l hl => (hw l hl).t0
  cases e : shownP ws 0 b ls with
  | none =>
    have := (shown_none hv h0).mp e
    have e2 : comTurns ws ls b = [] := List.filter_eq_nil_iff.mpr fun t _ => by rw [this t]; decide
    rw [e2]
    rfl
  | some t =>
    obtain ⟨h1, h2, h3⟩ := shown_some hv h0 e
    obtain ⟨l, hl, e1, _⟩ := cert_turn hv ((Bool.and_eq_true _ _).mp h2).2
    have h4 := (hw l hl).t4
    have hm : t.toNat ∈ comTurns ws ls b := List.mem_filter.mpr ⟨List.mem_range.mpr (by omega), h2⟩
    have hp : (comTurns ws ls b).Pairwise (· < ·) := List.Pairwise.filter _ List.pairwise_lt_range
    have hc : ∀ u ∈ comTurns ws ls b, t ≤ u := fun u hu => h3 u (List.mem_filter.mp hu).2
    generalize comTurns ws ls b = us at hm hp hc
    cases us with
    | nil => cases hm
    | cons y ys =>
      have := hc y (by simp)
      rcases List.mem_cons.mp hm with q | q
      · simp only [List.head?_cons, Option.map_some]
        congr 1
        omega
      · have := (List.pairwise_cons.mp hp).1 _ q
        omega
end Toy

/-! letters as lines of text -/
namespace Toy
open PySem L2 DL
/-- what is written for a part: - for none -/
def partS : D → Str
  | .int i => toString i
  | .str s => s
  | _ => "-"
def partOk : D → Prop
  | .int i => i.natAbs.log2 < 1920
  | .str _ => True
  | .non => True
  | _ => False
theorem log_small {i : Int} (h0 : -2000000000 ≤ i) (h1 : i ≤ 2000000000) : i.natAbs.log2 < 1920 := by
  have h2 : i.natAbs < 2 ^ 1920 := Nat.lt_of_lt_of_le (show i.natAbs < 2 ^ 31 by omega) (Nat.pow_le_pow_right (by decide) (by decide))
  by_cases e : i.natAbs = 0
  · rw [e]; decide
  · exact (Nat.log2_lt e).mpr h2
/-- the numbers of a letter are small -/
structure SmallL (who : Int) (s : Stm) (len : Nat) : Prop where
  w0 : 0 ≤ who
  w1 : who < 1000000000
  h0 : 0 ≤ s.h
  h1 : s.h < 1000000000
  t0 : 0 ≤ s.t
  t1 : s.t < 1000000000
  l : ∀ y, s.l = some y → 0 ≤ y ∧ y < 1000000000
  b : ∀ x, s.b = some x → x.length ≤ len
def Stm.parts : Stm → List D
  | .pro h t b => [.str "proposal", .int h, .int t, obD b]
  | .vote h t b l => [.str "prevote", .int h, .int t, obD b, oiD l]
  | .com h t b => [.str "precommit", .int h, .int t, obD b]
theorem Stm.d_parts (s : Stm) : s.d = .tup s.parts := by cases s <;> rfl
/-- the words of a letter -/
def wordsP (who : Int) (s : Stm) : List Str := toString who :: s.parts.map partS
def lineP (who : Int) (s : Stm) : Str := Txt.join " " (wordsP who s)
theorem strOk_of {x : Str} (h : ∀ c ∈ x.cps.toList, c < 0x110000) : PyData.strOk x = true := by
  unfold PyData.strOk
  rw [← Array.all_toList]
  exact List.all_eq_true.mpr fun c hc => decide_eq_true (h c hc)
theorem of_strOk {x : Str} (h : PyData.strOk x = true) : ∀ c ∈ x.cps.toList, c < 0x110000 := fun c hc => by
  unfold PyData.strOk at h
  rw [← Array.all_toList] at h
  exact of_decide_eq_true (List.all_eq_true.mp h c hc)
theorem strOk_num (i : Int) : PyData.strOk (toString i) = true := strOk_of fun c hc => by
  by_cases h : c < 0x110000
  · exact h
  · exact absurd hc (PyProof.Rows.int_text_free' c ⟨by omega, .inr (by omega)⟩ i)
theorem strOk_app {x y : Str} (hx : PyData.strOk x = true) (hy : PyData.strOk y = true) : PyData.strOk (x ++ y) = true := strOk_of fun c hc => by
  rw [PySem.Str.cps_append, Array.toList_append, List.mem_append] at hc
  exact hc.elim (of_strOk hx c) (of_strOk hy c)
theorem strOk_joined {sep : Str} (hs : PyData.strOk sep = true) : ∀ l : List Str, (∀ a ∈ l, PyData.strOk a = true) → PyData.strOk (PySem.Str.join sep l) = true
  | [], _ => strOk_of fun c hc => by simp [PySem.Str.join, PySem.Str.empty] at hc
  | [x], h => h x (by simp)
  | x :: y :: r, h => by
    show PyData.strOk (x ++ sep ++ PySem.Str.join sep (y :: r)) = true
    exact strOk_app (strOk_app (h x (by simp)) hs) (strOk_joined hs (y :: r) fun a ha => h a (List.mem_cons_of_mem _ ha))
theorem strOk_join {sep : Str} (hs : PyData.strOk sep = true) {l : List Str} (h : ∀ a ∈ l, PyData.strOk a = true) : PyData.strOk (Txt.join sep l) = true := by
  show PyData.strOk (PySem.Builtin.Str.glued sep l) = true
  rw [StrLaws.glued_eq_join]
  exact strOk_joined hs l h
theorem lineP_ok {who : Int} {s : Stm} (h : okB s.b) : PyData.strOk (lineP who s) = true := by
  have hd : PyData.strOk "-" = true := by decide +kernel
  have ho : PyData.strOk (partS (obD s.b)) = true := by
    cases e : s.b with
    | none => exact hd
    | some x => exact h x e
  have hi : ∀ l, PyData.strOk (partS (oiD l)) = true := fun l => by
    cases l with
    | none => exact hd
    | some y => exact strOk_num y
  refine strOk_join (by decide +kernel) fun w hw => ?_
  cases s with
  | pro h' t' b' =>
    simp only [wordsP, Stm.parts, List.map_cons, List.map_nil, List.mem_cons, List.not_mem_nil, or_false] at hw
    rcases hw with rfl | rfl | rfl | rfl | rfl
    · exact strOk_num _
    · exact kP_ok
    · exact strOk_num _
    · exact strOk_num _
    · exact ho
  | vote h' t' b' l' =>
    simp only [wordsP, Stm.parts, List.map_cons, List.map_nil, List.mem_cons, List.not_mem_nil, or_false] at hw
    rcases hw with rfl | rfl | rfl | rfl | rfl | rfl
    · exact strOk_num _
    · exact kV_ok
    · exact strOk_num _
    · exact strOk_num _
    · exact ho
    · exact hi _
  | com h' t' b' =>
    simp only [wordsP, Stm.parts, List.map_cons, List.map_nil, List.mem_cons, List.not_mem_nil, or_false] at hw
    rcases hw with rfl | rfl | rfl | rfl | rfl
    · exact strOk_num _
    · exact kC_ok
    · exact strOk_num _
    · exact strOk_num _
    · exact ho
theorem wordsP_len {who : Int} {s : Stm} {n : Nat} (h : SmallL who s n) : (∀ w ∈ wordsP who s, w.length ≤ n + 9) ∧ (wordsP who s).length ≤ 6 ∧ ∀ d ∈ s.parts, partOk d := by
  have di : ∀ i : Int, 0 ≤ i → i < 1000000000 → (toString i : Str).length ≤ n + 9 := fun i h0 h1 => Nat.le_trans (PyProof.Rows.toString_length_le (k := 9) h0 (by decide) (by simpa using h1)) (by omega)
  have ok : ∀ i : Int, 0 ≤ i → i < 1000000000 → partOk (.int i) := fun i h0 h1 => log_small (by omega) (by omega)
  have ob : ∀ b : Option Str, (∀ x, b = some x → x.length ≤ n) → (partS (obD b)).length ≤ n + 9 ∧ partOk (obD b) := fun b hb => by
    cases b with
    | none => exact ⟨by show (1 : Nat) ≤ _; omega, trivial⟩
    | some x => exact ⟨by have := hb x rfl; show x.length ≤ _; omega, trivial⟩
  have oi : ∀ l : Option Int, (∀ y, l = some y → 0 ≤ y ∧ y < 1000000000) → (partS (oiD l)).length ≤ n + 9 ∧ partOk (oiD l) := fun l hl => by
    cases l with
    | none => exact ⟨by show (1 : Nat) ≤ _; omega, trivial⟩
    | some y => exact ⟨di y (hl y rfl).1 (hl y rfl).2, ok y (hl y rfl).1 (hl y rfl).2⟩
  have k8 : ∀ x : Str, x.length ≤ 9 → x.length ≤ n + 9 := fun x hx => by omega
  obtain ⟨w0, w1, h0, h1, t0, t1, hl, hb⟩ := h
  have a1 := di _ w0 w1
  have a2 := di _ h0 h1
  have a3 := di _ t0 t1
  have b2 := ok _ h0 h1
  have b3 := ok _ t0 t1
  have a4 := ob _ hb
  have kP : (partS (.str "proposal")).length ≤ n + 9 := k8 _ (by decide +kernel)
  have kV : (partS (.str "prevote")).length ≤ n + 9 := k8 _ (by decide +kernel)
  have kC : (partS (.str "precommit")).length ≤ n + 9 := k8 _ (by decide +kernel)
  cases s with
  | pro h' t' b' =>
    refine ⟨fun w hw => ?_, by simp [wordsP, Stm.parts], fun d hd => ?_⟩
    · simp only [wordsP, Stm.parts, List.map_cons, List.map_nil, List.mem_cons, List.not_mem_nil, or_false] at hw
      rcases hw with rfl | rfl | rfl | rfl | rfl
      · exact a1
      · exact kP
      · exact a2
      · exact a3
      · exact a4.1
    · simp only [Stm.parts, List.mem_cons, List.not_mem_nil, or_false] at hd
      rcases hd with rfl | rfl | rfl | rfl
      · trivial
      · exact b2
      · exact b3
      · exact a4.2
  | vote h' t' b' l' =>
    have a5 := oi _ hl
    refine ⟨fun w hw => ?_, by simp [wordsP, Stm.parts], fun d hd => ?_⟩
    · simp only [wordsP, Stm.parts, List.map_cons, List.map_nil, List.mem_cons, List.not_mem_nil, or_false] at hw
      rcases hw with rfl | rfl | rfl | rfl | rfl | rfl
      · exact a1
      · exact kV
      · exact a2
      · exact a3
      · exact a4.1
      · exact a5.1
    · simp only [Stm.parts, List.mem_cons, List.not_mem_nil, or_false] at hd
      rcases hd with rfl | rfl | rfl | rfl | rfl
      · trivial
      · exact b2
      · exact b3
      · exact a4.2
      · exact a5.2
  | com h' t' b' =>
    refine ⟨fun w hw => ?_, by simp [wordsP, Stm.parts], fun d hd => ?_⟩
    · simp only [wordsP, Stm.parts, List.map_cons, List.map_nil, List.mem_cons, List.not_mem_nil, or_false] at hw
      rcases hw with rfl | rfl | rfl | rfl | rfl
      · exact a1
      · exact kC
      · exact a2
      · exact a3
      · exact a4.1
    · simp only [Stm.parts, List.mem_cons, List.not_mem_nil, or_false] at hd
      rcases hd with rfl | rfl | rfl | rfl
      · trivial
      · exact b2
      · exact b3
      · exact a4.2
theorem sum_len {ws : List Str} {n : Nat} (h : ∀ w ∈ ws, w.length ≤ n) : (ws.map Str.length).sum ≤ ws.length * n := by
  induction ws with
  | nil => simp
  | cons w ws ih =>
    have h1 := h w (by simp)
    have h2 := ih fun x hx => h x (List.mem_cons_of_mem _ hx)
    simp only [List.map_cons, List.sum_cons, List.length_cons, Nat.succ_mul]
    omega
end Toy

/-! words of a line: numbers, names -/
namespace Toy
open PySem L2 DL
def isDig (c : Nat) : Bool := decide (48 ≤ c ∧ c ≤ 57)
def isLow (c : Nat) : Bool := decide (97 ≤ c ∧ c ≤ 122)
/-- a word that writes a number -/
def isNum (w : Str) : Bool := match w.cps.toList with
  | [] => false
  | c :: cs => decide (cs.length ≤ 8) && (c :: cs).all isDig && (decide (c ≠ 48) || decide (cs = []))
/-- a word that is a name -/
def isName (w : Str) : Bool := match w.cps.toList with
  | [] => false
  | c :: cs => decide (cs.length ≤ 59) && isLow c && (c :: cs).all fun c => isLow c || isDig c
def numV (w : Str) : Int := ((NumText.digitsVal w.cps.toList : Nat) : Int)
def numP (w : Str) : Option Int := if isNum w = true then some (numV w) else none
theorem str_len (w : Str) : w.length = w.cps.toList.length := by
  rw [Array.length_toList]
  rfl
theorem str_ext {a b : Str} (h : a.cps.toList = b.cps.toList) : a = b := PySem.Str.ext' (Array.toList_inj.mp h)
theorem str_nil {w : Str} (h : w.cps.toList = []) : w = Str.ofString "" := str_ext (by rw [h]; rfl)
theorem isNum_int {w : Str} (h : isNum w = true) : PySem.intText? w = some (numV w) ∧ w.length ≤ 9 := by
  unfold isNum at h
  have hl := str_len w
  split at h
  · cases h
  · rename_i c cs e
    simp only [Bool.and_eq_true, decide_eq_true_eq] at h
    rw [e, List.length_cons] at hl
    have hd : NumText.AllDigits w.cps.toList := fun x hx => by
      rw [e] at hx
      have := List.all_eq_true.mp h.1.2 x hx
      exact of_decide_eq_true this
    exact ⟨PySem.intText_digits hd (by rw [e]; simp) (by omega), by omega⟩
theorem ascii_iff (w : Str) : Txt.isascii w = w.cps.toList.all fun c => decide (c < 128) := by
  unfold Txt.isascii
  rw [← Array.all_toList]
theorem digit_iff {w : Str} (h : Txt.isascii w = true) : Txt.isdigit w = (decide (0 < w.cps.toList.length) && w.cps.toList.all isDig) := by
  rw [ascii_iff] at h
  unfold Txt.isdigit
  rw [← Array.all_toList, str_len]
  congr 1
  have ha := List.all_eq_true.mp h
  have k : ∀ c, c < 128 → PySem.Unicode.isDigit c = isDig c := by decide +kernel
  rw [Bool.eq_iff_iff, List.all_eq_true, List.all_eq_true]
  constructor
  · intro hx c hc
    rw [← k c (of_decide_eq_true (ha c hc))]
    exact hx c hc
  · intro hx c hc
    rw [k c (of_decide_eq_true (ha c hc))]
    exact hx c hc
theorem dig_lt {c : Nat} (h : isDig c = true) : c < 128 := by
  have := of_decide_eq_true h
  omega
theorem num_ascii {w : Str} (h : isNum w = true) : Txt.isascii w = true := by
  unfold isNum at h
  rw [ascii_iff]
  split at h
  · cases h
  · rename_i c cs e
    rw [e]
    simp only [Bool.and_eq_true] at h
    exact List.all_eq_true.mpr fun x hx => decide_eq_true (dig_lt (List.all_eq_true.mp h.1.2 x hx))
theorem lower_one {c : Nat} (h : c < 128) : Txt.islower ⟨#[c]⟩ = isLow c := by
  have k : ∀ n : _root_.Fin 128, Txt.islower ⟨#[n.val]⟩ = isLow n.val := by decide +kernel
  exact k ⟨c, h⟩
theorem str_one {c : Nat} {w : Str} {cs : List Nat} (hc : w.cps.toList = c :: cs) {d : Nat} {z : Str} (hz : z.cps.toList = [d]) : w = z ↔ c = d ∧ cs = [] := by
  constructor
  · intro h
    rw [h, hz] at hc
    cases hc
    exact ⟨rfl, rfl⟩
  · rintro ⟨rfl, rfl⟩
    exact str_ext (hc.trans hz.symm)
theorem one_eq {c d : Nat} {z : Str} (hz : z.cps.toList = [d]) : (⟨#[c]⟩ : Str) = z ↔ c = d := by
  rw [str_one (w := ⟨#[c]⟩) (c := c) (cs := []) rfl hz]
  simp
theorem zero_l : (Str.ofString "0").cps.toList = [48] := by decide +kernel
theorem digs_l : (Str.ofString "0123456789").cps.toList = [48, 49, 50, 51, 52, 53, 54, 55, 56, 57] := by decide +kernel
theorem mem_digs {c : Nat} : c ∈ (Str.ofString "0123456789").cps.toList ↔ isDig c = true := by
  rw [digs_l]
  unfold isDig
  simp only [List.mem_cons, List.not_mem_nil, or_false, decide_eq_true_eq]
  omega
theorem mem_digs' {c : Nat} : c ∈ (Str.ofString "0123456789").cps ↔ isDig c = true := by
  rw [← mem_digs, Array.mem_toList_iff]
theorem isNum_cons {w : Str} {c : Nat} {cs : List Nat} (hc : w.cps.toList = c :: cs) : isNum w = (decide (cs.length ≤ 8) && (c :: cs).all isDig && (decide (c ≠ 48) || decide (cs = []))) := by
  unfold isNum
  rw [hc]
theorem num_digit {w : Str} (h : isNum w = true) : Txt.isdigit w = true := by
  rw [digit_iff (num_ascii h)]
  unfold isNum at h
  split at h
  · cases h
  · rename_i c cs e
    rw [e]
    simp only [Bool.and_eq_true] at h ⊢
    exact ⟨decide_eq_true (by simp), h.1.2⟩
theorem num_zero {w : Str} {c : Nat} {cs : List Nat} (hc : w.cps.toList = c :: cs) (h : isNum w = true) (h0 : (⟨#[c]⟩ : Str) = Str.ofString "0") : w = Str.ofString "0" := by
  rw [one_eq zero_l] at h0
  rw [isNum_cons hc] at h
  simp only [Bool.and_eq_true, Bool.or_eq_true, decide_eq_true_eq] at h
  exact (str_one hc zero_l).mpr ⟨h0, h.2.resolve_left fun k => k h0⟩
theorem isNum_of {w : Str} {c : Nat} {cs : List Nat} (hc : w.cps.toList = c :: cs) (h1 : w.length ≤ 9) (h2 : Txt.isascii w = true) (h3 : Txt.isdigit w = true) (h4 : (⟨#[c]⟩ : Str) = Str.ofString "0" → w = Str.ofString "0") : isNum w = true := by
  rw [digit_iff h2, hc] at h3
  rw [str_len, hc, List.length_cons] at h1
  rw [one_eq zero_l, str_one hc zero_l] at h4
  rw [isNum_cons hc]
  simp only [Bool.and_eq_true, Bool.or_eq_true, decide_eq_true_eq] at h3 ⊢
  refine ⟨⟨by omega, h3.2⟩, ?_⟩
  by_cases e : c = 48
  · exact .inr (h4 e).2
  · exact .inl e
theorem isNum_of' {w : Str} {c : Nat} {cs : List Nat} (hc : w.cps.toList = c :: cs) (h1 : w.length ≤ 9) (h3 : ∀ x ∈ w.cps.toList, isDig x = true) (h4 : (⟨#[c]⟩ : Str) = Str.ofString "0" → w = Str.ofString "0") : isNum w = true := by
  have ha : Txt.isascii w = true := by
    rw [ascii_iff]
    exact List.all_eq_true.mpr fun x hx => decide_eq_true (dig_lt (h3 x hx))
  refine isNum_of hc h1 ha ?_ h4
  rw [digit_iff ha, List.all_eq_true.mpr h3, hc]
  rfl
theorem num_all {w : Str} (h : isNum w = true) : ∀ x ∈ w.cps.toList, isDig x = true := by
  unfold isNum at h
  split at h
  · cases h
  · rename_i c cs e
    rw [e]
    simp only [Bool.and_eq_true] at h
    exact List.all_eq_true.mp h.1.2
theorem lets_l : (Str.ofString "abcdefghijklmnopqrstuvwxyz0123456789").cps.toList = [97, 98, 99, 100, 101, 102, 103, 104, 105, 106, 107, 108, 109, 110, 111, 112, 113, 114, 115, 116, 117, 118, 119, 120, 121, 122, 48, 49, 50, 51, 52, 53, 54, 55, 56, 57] := by decide +kernel
theorem lows_l : (Str.ofString "abcdefghijklmnopqrstuvwxyz").cps.toList = [97, 98, 99, 100, 101, 102, 103, 104, 105, 106, 107, 108, 109, 110, 111, 112, 113, 114, 115, 116, 117, 118, 119, 120, 121, 122] := by decide +kernel
theorem mem_lets {c : Nat} : c ∈ (Str.ofString "abcdefghijklmnopqrstuvwxyz0123456789").cps ↔ (isLow c || isDig c) = true := by
  rw [← Array.mem_toList_iff, lets_l, Bool.or_eq_true]
  unfold isDig isLow
  simp only [List.mem_cons, List.not_mem_nil, or_false, decide_eq_true_eq]
  omega
theorem mem_lows {c : Nat} : c ∈ (Str.ofString "abcdefghijklmnopqrstuvwxyz").cps ↔ isLow c = true := by
  rw [← Array.mem_toList_iff, lows_l]
  unfold isLow
  simp only [List.mem_cons, List.not_mem_nil, or_false, decide_eq_true_eq]
  omega
theorem isName_cons {w : Str} {c : Nat} {cs : List Nat} (hc : w.cps.toList = c :: cs) : isName w = (decide (cs.length ≤ 59) && isLow c && w.cps.toList.all fun c => isLow c || isDig c) := by
  unfold isName
  rw [hc]
theorem lets_lt {c : Nat} (h : (isLow c || isDig c) = true) : c < 128 := by
  rw [Bool.or_eq_true] at h
  rcases h with h | h <;> (have := of_decide_eq_true h; omega)
theorem spl_mem {S : List Nat} : ∀ (L : List Nat) (k : Nat) (acc p : List Nat), p ∈ TL.spl S k acc L → p.length ≤ acc.length + L.length ∧ ∀ c ∈ p, c ∈ acc ∨ c ∈ L
  | [], k, acc, p, h => by
    rw [TL.spl_nil] at h
    rw [List.mem_singleton.mp h]
    exact ⟨Nat.le_refl _, fun c hc => .inl hc⟩
  | c :: r, 0, acc, p, h => by
    unfold TL.spl at h
    split at h
    · rcases List.mem_cons.mp h with rfl | h
      · exact ⟨Nat.le_add_right _ _, fun c hc => .inl hc⟩
      · obtain ⟨h1, h2⟩ := spl_mem r _ _ p h
        rw [List.length_nil] at h1
        exact ⟨by rw [List.length_cons]; omega, fun x hx => .inr (List.mem_cons_of_mem _ ((h2 x hx).resolve_left (fun z => nomatch z)))⟩
    · obtain ⟨h1, h2⟩ := spl_mem r _ _ p h
      rw [List.length_append, List.length_singleton] at h1
      refine ⟨by rw [List.length_cons]; omega, fun x hx => ?_⟩
      rcases h2 x hx with h3 | h3
      · rcases List.mem_append.mp h3 with h4 | h4
        · exact .inl h4
        · exact .inr (by rw [List.mem_singleton.mp h4]; simp)
      · exact .inr (List.mem_cons_of_mem _ h3)
  | c :: r, k + 1, acc, p, h => by
    unfold TL.spl at h
    obtain ⟨h1, h2⟩ := spl_mem r _ _ p h
    exact ⟨by rw [List.length_cons]; omega, fun x hx => (h2 x hx).imp_right (List.mem_cons_of_mem _)⟩
theorem spl_ne {S : List Nat} : ∀ (L : List Nat) (k : Nat) (acc : List Nat), TL.spl S k acc L ≠ []
  | [], k, acc => by rw [TL.spl_nil]; simp
  | c :: r, 0, acc => by
    unfold TL.spl
    split
    · simp
    · exact spl_ne r _ _
  | c :: r, k + 1, acc => by
    unfold TL.spl
    exact spl_ne r _ _
/-- the words of a line -/
def wordsL (z : Str) : List Str := Txt.split z " "
theorem blank_l : TL.tl (Str.ofString " ") = [32] := by decide +kernel
theorem blank_k : (Str.ofString " ").cps.all (· < 256) = true := by decide +kernel
theorem words_spl (z : Str) : (wordsL z).map TL.tl = TL.spl [32] 0 [] (TL.tl z) := by
  unfold wordsL
  rw [TL.split_spl z " " (by rw [blank_l]; simp) (TL.kind_ok blank_k), blank_l]
theorem words_mem {z w : Str} (h : w ∈ wordsL z) : w.length ≤ z.length ∧ ∀ c ∈ w.cps.toList, c ∈ z.cps.toList := by
  have hm : TL.tl w ∈ (wordsL z).map TL.tl := List.mem_map.mpr ⟨w, h, rfl⟩
  rw [words_spl] at hm
  obtain ⟨h1, h2⟩ := spl_mem _ _ _ _ hm
  rw [List.length_nil, Nat.zero_add] at h1
  exact ⟨by rw [TL.len_tl, TL.len_tl z]; exact h1, fun c hc => (h2 c hc).resolve_left fun z => nomatch z⟩
theorem words_ne (z : Str) : wordsL z ≠ [] := fun e => by
  have h := words_spl z
  rw [e] at h
  exact spl_ne _ _ _ h.symm
theorem words_len (z : Str) : (wordsL z).length ≤ z.length + 2 := PyProof.Rows.split_le z " "
end Toy

/-! the letter that a line writes -/
namespace Toy
open PySem L2 DL
def atP (ws : List Str) (i : Nat) : Option Int := (ws[i]?).bind numP
theorem atW {ws : List Str} {i : Nat} {w : Str} (h : ws[i]? = some w) : atI (ws.map D.str) (i : Int) = some (.str w) := atI_nat (by rw [List.getElem?_map, h]; rfl)
def blockP (ws : List Str) (i : Nat) (free : Bool) : Option (Option Str) := match ws[i]? with
  | none => none
  | some w => if free = true ∧ w = Str.ofString "-" then some none else if isName w = true then some (some w) else none
def leanP (ws : List Str) (i : Nat) (t : Int) : Option (Option Int) := match ws[i]? with
  | none => none
  | some w => if w = Str.ofString "-" then some none else match numP w with
    | none => none
    | some n => if n < t then some (some n) else none
def kindB (k : Str) : Bool := decide (k = "proposal" ∨ k = "prevote" ∨ k = "precommit")
/-- the letter that the words write, or the index of the first wrong one -/
def readP (ws : List Str) : Except Nat Let := match atP ws 0 with
  | none => .error 0
  | some who => if kindB (ws.getD 1 "") = false then .error 1 else match atP ws 2 with
    | none => .error 2
    | some h => match atP ws 3 with
      | none => .error 3
      | some t => match blockP ws 4 (decide (ws.getD 1 "" ≠ "proposal")) with
        | none => .error 4
        | some b => if ws.getD 1 "" = "prevote" then match leanP ws 5 t with
            | none => .error 5
            | some l => if 6 < ws.length then .error 6 else .ok ⟨who, .vote h t b l⟩
          else if 5 < ws.length then .error 5 else .ok ⟨who, if ws.getD 1 "" = "proposal" then .pro h t b else .com h t b⟩
theorem din_kind (k : Str) : din (.str k) [.str "proposal", .str "prevote", .str "precommit"] = kindB k := by
  rw [Bool.eq_iff_iff, show ([.str "proposal", .str "prevote", .str "precommit"] : List D) = (["proposal", "prevote", "precommit"] : List Str).map D.str from rfl, din_str]
  unfold kindB
  simp
def fitsP (ws : List Str) (i : Nat) : Bool :=
  if i = 0 ∨ i = 2 ∨ i = 3 then isNum (ws.getD i "")
  else if i = 1 then kindB (ws.getD 1 "")
  else if i = 4 then isName (ws.getD 4 "") || (decide (ws.getD 4 "" = "-") && decide (ws.getD 1 "" ≠ "proposal"))
  else if i = 5 ∧ ws.getD 1 "" = "prevote" then decide (ws.getD 5 "" = "-") || (isNum (ws.getD 5 "") && decide (numV (ws.getD 5 "") < numV (ws.getD 3 "")))
  else false
theorem getW {ws : List Str} {i : Nat} (h : i < ws.length) : ws[i]? = some (ws.getD i "") := by rw [List.getD_eq_getElem?_getD, List.getElem?_eq_getElem h]; rfl
/-- the index of the first word that is wrong, by the law's own reader -/
def wrongP (ws : List Str) : Option Nat := match (List.range ws.length).find? fun i => !fitsP ws i with
  | some i => some i
  | none => if ws.length < (if ws.getD 1 "" = "prevote" then 6 else 5) then some ws.length else none
theorem wrongP_at {ws : List Str} {i : Nat} (hi : i < ws.length) (h : ∀ j, j < i → fitsP ws j = true) (hf : fitsP ws i = false) : wrongP ws = some i := by
  unfold wrongP
  have e : (List.range ws.length).find? (fun i => !fitsP ws i) = some i := by
    rw [List.find?_range_eq_some]
    exact ⟨by rw [hf]; rfl, by simpa using hi, fun j hj => by rw [h j hj]; rfl⟩
  rw [e]
theorem wrongP_end {ws : List Str} (h : ∀ j, j < ws.length → fitsP ws j = true) : wrongP ws = if ws.length < (if ws.getD 1 "" = "prevote" then 6 else 5) then some ws.length else none := by
  unfold wrongP
  have e : (List.range ws.length).find? (fun i => !fitsP ws i) = none := by
    rw [List.find?_eq_none]
    intro j hj
    rw [h j (List.mem_range.mp hj)]
    decide
  rw [e]
theorem cut12 (ws : List Str) : cutD (ws.map D.str) (some 1) (some 2) = ((ws.drop 1).take 1).map D.str := by
  have e1 : HT.sIx (ws.map D.str).length 0 (some ((1 : Nat) : Int)) = min 1 ws.length := by rw [HT.sIx_nat, List.length_map]
  have e2 : HT.sIx (ws.map D.str).length (ws.map D.str).length (some ((2 : Nat) : Int)) = min 2 ws.length := by rw [HT.sIx_nat, List.length_map]
  have e1' : HT.sIx (ws.map D.str).length 0 (some 1) = min 1 ws.length := e1
  have e2' : HT.sIx (ws.map D.str).length (ws.map D.str).length (some 2) = min 2 ws.length := e2
  unfold cutD
  rw [e1', e2', ← List.map_drop, ← List.map_take]
  congr 1
  cases ws with
  | nil => rfl
  | cons a ws =>
    cases ws with
    | nil => rfl
    | cons b ws =>
      rw [show min 1 (a :: b :: ws).length = 1 by simp, show min 2 (a :: b :: ws).length = 2 by simp]
theorem nobs_strs : ∀ xs : List Str, D.nobs (xs.map D.str) = true
  | [] => rfl
  | x :: xs => by simp [D.nobs, D.nob, nobs_strs xs]
theorem strs_inj : ∀ {xs ys : List Str}, xs.map D.str = ys.map D.str → xs = ys
  | [], [], _ => rfl
  | x :: xs, y :: ys, h => by
    rw [List.map_cons, List.map_cons, List.cons.injEq] at h
    obtain ⟨h1, h2⟩ := h
    cases h1
    rw [strs_inj h2]
theorem deq_strs (xs ys : List Str) : deq (D.lst (xs.map D.str)) (D.lst (ys.map D.str)) = decide (xs = ys) := by
  rw [Bool.eq_iff_iff, deq_iff _ _ (by simp [D.nob, nobs_strs]) (by simp [D.nob, nobs_strs]), decide_eq_true_iff]
  exact ⟨fun h => strs_inj (D.lst.inj h), fun h => by rw [h]⟩
theorem fit_strL {xs : List Str} (h : ∀ x ∈ xs, PyData.strOk x = true) : (D.lst (xs.map D.str)).fit = true := fit_of 1 (by decide) _ fun d hd => by
  obtain ⟨l, hl, rfl⟩ := List.mem_map.mp hd
  exact ⟨h l hl, by simp [D.dep]⟩
theorem cut12_eq (ws : List Str) : (ws.drop 1).take 1 = (["prevote"] : List Str) ↔ ws.getD 1 "" = "prevote" := by
  cases ws with
  | nil => exact ⟨fun h => (nomatch h), fun h => absurd h (by decide +kernel)⟩
  | cons a ws =>
    cases ws with
    | nil => exact ⟨fun h => (nomatch h), fun h => absurd h (by show ¬("" : Str) = "prevote"; decide +kernel)⟩
    | cons b ws =>
      constructor
      · intro h
        have : b = "prevote" := (List.cons.inj h).1
        exact this
      · intro h
        have : b = "prevote" := h
        rw [this]
        rfl
/-- the words as the law's own reader tells them -/
def partD (i : Nat) (w : Str) : D := if w = "-" then .non else if i = 1 ∨ i = 4 then .str w else .int (numV w)
def valueP (ws : List Str) : D := .tup [.int (numV (ws.getD 0 "")), .tup ((List.range (ws.length - 1)).map fun k => partD (k + 1) (ws.getD (k + 1) ""))]
end Toy

/-! the reader and the law's own reader agree -/
namespace Toy
open PySem L2 DL
def need (ws : List Str) : Nat := if ws.getD 1 "" = "prevote" then 6 else 5
theorem wrong_stop {ws : List Str} {i : Nat} (hi : i ≤ ws.length) (h : ∀ j, j < i → fitsP ws j = true) (hs : i < ws.length → fitsP ws i = false) (hn : i < need ws) : wrongP ws = some i := by
  by_cases e : i < ws.length
  · exact wrongP_at e h (hs e)
  · have e : i = ws.length := by omega
    subst e
    rw [wrongP_end h]
    exact if_pos hn
theorem need_ge (ws : List Str) : 5 ≤ need ws := by
  unfold need
  split <;> omega
theorem numP_some {w : Str} {n : Int} (h : numP w = some n) : isNum w = true ∧ n = numV w := by
  unfold numP at h
  split at h
  · rename_i hn
    cases h
    exact ⟨hn, rfl⟩
  · cases h
theorem numP_none {w : Str} (h : numP w = none) : isNum w = false := by
  unfold numP at h
  split at h
  · cases h
  · rename_i hn
    simpa using hn
theorem atP_some {ws : List Str} {i : Nat} {n : Int} (h : atP ws i = some n) : i < ws.length ∧ isNum (ws.getD i "") = true ∧ n = numV (ws.getD i "") := by
  unfold atP at h
  cases e : ws[i]? with
  | none => rw [e] at h; cases h
  | some w =>
    rw [e] at h
    have hw : ws.getD i "" = w := by rw [List.getD_eq_getElem?_getD, e]; rfl
    obtain ⟨h1, h2⟩ := numP_some h
    rw [hw]
    exact ⟨(List.getElem?_eq_some_iff.mp e).1, h1, h2⟩
theorem atP_none {ws : List Str} {i : Nat} (h : atP ws i = none) (hi : i < ws.length) : isNum (ws.getD i "") = false := by
  unfold atP at h
  rw [getW hi] at h
  exact numP_none h
theorem fits_num {ws : List Str} {i : Nat} (h : i = 0 ∨ i = 2 ∨ i = 3) : fitsP ws i = isNum (ws.getD i "") := by
  unfold fitsP
  rw [if_pos h]
theorem fits_big {ws : List Str} {i : Nat} (h : 5 < i) : fitsP ws i = false := by
  unfold fitsP
  rw [if_neg (by omega), if_neg (by omega), if_neg (by omega), if_neg (by omega)]
theorem fits_four (ws : List Str) : fitsP ws 4 = (isName (ws.getD 4 "") || (decide (ws.getD 4 "" = "-") && decide (ws.getD 1 "" ≠ "proposal"))) := rfl
theorem fits_five {ws : List Str} (h : ws.getD 1 "" = "prevote") : fitsP ws 5 = (decide (ws.getD 5 "" = "-") || (isNum (ws.getD 5 "") && decide (numV (ws.getD 5 "") < numV (ws.getD 3 "")))) := by
  unfold fitsP
  rw [if_neg (by omega), if_neg (by omega), if_neg (by omega), if_pos ⟨rfl, h⟩]
theorem fits_five' {ws : List Str} (h : ws.getD 1 "" ≠ "prevote") : fitsP ws 5 = false := by
  unfold fitsP
  rw [if_neg (by omega), if_neg (by omega), if_neg (by omega), if_neg fun z => h z.2]
theorem name_minus : isName (Str.ofString "-") = false := by decide +kernel
theorem num_minus : isNum (Str.ofString "-") = false := by decide +kernel
theorem block_none {ws : List Str} (h : blockP ws 4 (decide (ws.getD 1 "" ≠ "proposal")) = none) (hi : 4 < ws.length) : fitsP ws 4 = false := by
  unfold blockP at h
  rw [getW hi] at h
  dsimp only at h
  rw [fits_four]
  split at h
  · cases h
  · rename_i h1
    split at h
    · cases h
    · rename_i h2
      rw [Bool.or_eq_false_iff]
      refine ⟨by simpa using h2, ?_⟩
      rw [Bool.and_eq_false_iff]
      by_cases k : ws.getD 4 "" = "-"
      · right
        exact decide_eq_false fun z => h1 ⟨decide_eq_true z, k⟩
      · left
        exact decide_eq_false k
theorem block_some {ws : List Str} {b : Option Str} (h : blockP ws 4 (decide (ws.getD 1 "" ≠ "proposal")) = some b) : 4 < ws.length ∧ fitsP ws 4 = true ∧ partD 4 (ws.getD 4 "") = obD b := by
  unfold blockP at h
  cases e : ws[4]? with
  | none => rw [e] at h; cases h
  | some w =>
    have hw : ws.getD 4 "" = w := by rw [List.getD_eq_getElem?_getD, e]; rfl
    rw [e] at h
    dsimp only at h
    refine ⟨(List.getElem?_eq_some_iff.mp e).1, ?_⟩
    rw [fits_four, hw]
    split at h
    · rename_i h1
      cases h
      obtain ⟨h2, h3⟩ := h1
      rw [h3, name_minus, h2]
      exact ⟨rfl, rfl⟩
    · split at h
      · rename_i h1 h2
        cases h
        rw [h2]
        refine ⟨rfl, ?_⟩
        unfold partD
        rw [if_neg (fun z => by rw [z, name_minus] at h2; cases h2), if_pos (Or.inr rfl)]
        rfl
      · cases h
theorem lean_none {ws : List Str} {t : Int} (h : leanP ws 5 t = none) (hi : 5 < ws.length) (ht : t = numV (ws.getD 3 "")) (hp : ws.getD 1 "" = "prevote") : fitsP ws 5 = false := by
  unfold leanP at h
  rw [getW hi] at h
  dsimp only at h
  rw [fits_five hp, Bool.or_eq_false_iff, Bool.and_eq_false_iff]
  split at h
  · cases h
  · rename_i h1
    refine ⟨decide_eq_false h1, ?_⟩
    split at h
    · rename_i h2
      exact .inl (numP_none h2)
    · rename_i n h2
      obtain ⟨_, h3⟩ := numP_some h2
      split at h
      · cases h
      · rename_i h4
        right
        rw [← h3, ← ht]
        exact decide_eq_false h4
theorem lean_some {ws : List Str} {t : Int} {l : Option Int} (h : leanP ws 5 t = some l) (ht : t = numV (ws.getD 3 "")) (hp : ws.getD 1 "" = "prevote") : 5 < ws.length ∧ fitsP ws 5 = true ∧ partD 5 (ws.getD 5 "") = oiD l := by
  unfold leanP at h
  cases e : ws[5]? with
  | none => rw [e] at h; cases h
  | some w =>
    have hw : ws.getD 5 "" = w := by rw [List.getD_eq_getElem?_getD, e]; rfl
    rw [e] at h
    dsimp only at h
    refine ⟨(List.getElem?_eq_some_iff.mp e).1, ?_⟩
    rw [fits_five hp, hw]
    split at h
    · rename_i h1
      cases h
      rw [decide_eq_true h1, h1]
      exact ⟨rfl, rfl⟩
    · rename_i h1
      split at h
      · cases h
      · rename_i n h2
        obtain ⟨h3, h4⟩ := numP_some h2
        split at h
        · rename_i h5
          cases h
          refine ⟨?_, ?_⟩
          · rw [h3, ← h4, ← ht, decide_eq_true h5, Bool.true_and, Bool.or_true]
          · unfold partD
            rw [if_neg h1, if_neg (by omega), h4]
            rfl
        · cases h
theorem kind_part {k : Str} (h : kindB k = true) : partD 1 k = .str k := by
  have h := of_decide_eq_true h
  unfold partD
  rw [if_neg (fun z => by rw [z] at h; revert h; decide +kernel), if_pos (Or.inl rfl)]
theorem num_part {ws : List Str} {i : Nat} (h : isNum (ws.getD i "") = true) (h2 : ¬(i = 1 ∨ i = 4)) : partD i (ws.getD i "") = .int (numV (ws.getD i "")) := by
  unfold partD
  rw [if_neg (fun z => by rw [z, num_minus] at h; cases h), if_neg h2]
theorem read_wrong {ws : List Str} (hne : ws ≠ []) : match readP ws with
    | .ok l => wrongP ws = none ∧ valueP ws = l.d
    | .error i => wrongP ws = some i := by
  have hl : 0 < ws.length := List.length_pos_iff.mpr hne
  have hn := need_ge ws
  unfold readP
  cases h0 : atP ws 0 with
  | none =>
    refine wrong_stop (Nat.zero_le _) (fun j hj => absurd hj (by omega)) (fun h => ?_) (by omega)
    rw [fits_num (.inl rfl)]
    exact atP_none h0 h
  | some who =>
    obtain ⟨_, n0, v0⟩ := atP_some h0
    have f0 : fitsP ws 0 = true := by rw [fits_num (.inl rfl)]; exact n0
    dsimp only
    cases h1 : kindB (ws.getD 1 "") with
    | false =>
      rw [if_pos rfl]
      refine wrong_stop (by omega) (fun j hj => ?_) (fun h => h1) (by omega)
      rw [show j = 0 by omega]
      exact f0
    | true =>
      rw [if_neg (by decide)]
      have l1 : 1 < ws.length := by
        by_cases k : 1 < ws.length
        · exact k
        · rw [List.getD_eq_getElem?_getD, List.getElem?_eq_none (by omega)] at h1
          have hk : kindB ((none : Option Str).getD "") = false := by decide +kernel
          rw [hk] at h1
          cases h1
      have f1 : ∀ j, j < 2 → fitsP ws j = true := fun j hj => by
        have : j = 0 ∨ j = 1 := by omega
        rcases this with rfl | rfl
        · exact f0
        · exact h1
      cases h2 : atP ws 2 with
      | none =>
        refine wrong_stop (by omega) f1 (fun h => ?_) (by omega)
        rw [fits_num (.inr (.inl rfl))]
        exact atP_none h2 h
      | some h =>
        obtain ⟨l2, n2, v2⟩ := atP_some h2
        have f2 : ∀ j, j < 3 → fitsP ws j = true := fun j hj => by
          by_cases k : j = 2
          · rw [k, fits_num (.inr (.inl rfl))]
            exact n2
          · exact f1 j (by omega)
        dsimp only
        cases h3 : atP ws 3 with
        | none =>
          refine wrong_stop (by omega) f2 (fun h => ?_) (by omega)
          rw [fits_num (.inr (.inr rfl))]
          exact atP_none h3 h
        | some t =>
          obtain ⟨l3, n3, v3⟩ := atP_some h3
          have f3 : ∀ j, j < 4 → fitsP ws j = true := fun j hj => by
            by_cases k : j = 3
            · rw [k, fits_num (.inr (.inr rfl))]
              exact n3
            · exact f2 j (by omega)
          dsimp only
          cases h4 : blockP ws 4 (decide (ws.getD 1 "" ≠ "proposal")) with
          | none => exact wrong_stop (by omega) f3 (fun h => block_none h4 h) (by omega)
          | some b =>
            obtain ⟨l4, n4, v4⟩ := block_some h4
            have f4 : ∀ j, j < 5 → fitsP ws j = true := fun j hj => by
              by_cases k : j = 4
              · rw [k]
                exact n4
              · exact f3 j (by omega)
            dsimp only
            have p1 := kind_part h1
            have p2 := num_part n2 (by omega)
            have p3 := num_part n3 (by omega)
            have hkb : ws.getD 1 "" = "proposal" ∨ ws.getD 1 "" = "prevote" ∨ ws.getD 1 "" = "precommit" := of_decide_eq_true h1
            by_cases hp : ws.getD 1 "" = "prevote"
            · rw [if_pos hp]
              have hnd : need ws = 6 := if_pos hp
              cases h5 : leanP ws 5 t with
              | none => exact wrong_stop (by omega) f4 (fun h => lean_none h5 h v3 hp) (by omega)
              | some l =>
                obtain ⟨l5, n5, v5⟩ := lean_some h5 v3 hp
                have f5 : ∀ j, j < 6 → fitsP ws j = true := fun j hj => by
                  by_cases k : j = 5
                  · rw [k]
                    exact n5
                  · exact f4 j (by omega)
                dsimp only
                by_cases h6 : 6 < ws.length
                · rw [if_pos h6]
                  exact wrongP_at h6 f5 (fits_big (by omega))
                · rw [if_neg h6]
                  have hw : ws.length = 6 := by omega
                  refine ⟨?_, ?_⟩
                  · rw [wrongP_end (by rw [hw]; exact f5)]
                    exact if_neg (by show ¬_ < need ws; omega)
                  · unfold valueP
                    rw [hw]
                    show D.tup [_, .tup [partD 1 _, partD 2 _, partD 3 _, partD 4 _, partD 5 _]] = _
                    rw [p1, p2, p3, v4, v5, hp, v0, v2, v3]
                    rfl
            · rw [if_neg hp]
              have hnd : need ws = 5 := if_neg hp
              by_cases h6 : 5 < ws.length
              · rw [if_pos h6]
                exact wrongP_at h6 f4 (fits_five' hp)
              · rw [if_neg h6]
                have hw : ws.length = 5 := by omega
                refine ⟨?_, ?_⟩
                · rw [wrongP_end (by rw [hw]; exact f4)]
                  exact if_neg (by show ¬_ < need ws; omega)
                · unfold valueP
                  rw [hw]
                  show D.tup [_, .tup [partD 1 _, partD 2 _, partD 3 _, partD 4 _]] = _
                  rw [p1, p2, p3, v4, v0, v2, v3]
                  rcases hkb with k | k | k
                  · rw [k]
                    rfl
                  · exact absurd k hp
                  · rw [k]
                    rfl
theorem block_mem {ws : List Str} {i : Nat} {f : Bool} {b : Option Str} (h : blockP ws i f = some b) : ∀ x, b = some x → x ∈ ws ∧ isName x = true := fun x hx => by
  unfold blockP at h
  split at h
  · cases h
  · rename_i w e
    split at h
    · cases h
      cases hx
    · split at h
      · rename_i h2
        cases h
        cases hx
        exact ⟨List.mem_of_getElem? e, h2⟩
      · cases h
theorem read_b {ws : List Str} {l : Let} (h : readP ws = .ok l) : ∀ x, l.st.b = some x → x ∈ ws ∧ isName x = true := by
  unfold readP at h
  split at h
  · cases h
  split at h
  · cases h
  split at h
  · cases h
  split at h
  · cases h
  split at h
  · cases h
  rename_i b hb
  have hm := block_mem hb
  split at h
  · split at h
    · cases h
    split at h
    · cases h
    cases h
    exact hm
  · split at h
    · cases h
    cases h
    split
    · exact hm
    · exact hm
end Toy

/-! what a letter's line is read as -/
namespace Toy
open PySem L2 DL
theorem numL_head : ∀ n : Nat, 0 < n → ∃ c r, TL.numL n = c :: r ∧ c ≠ 48 := by
  intro n
  induction n using Nat.strongRecOn with
  | ind n ih =>
    intro h
    by_cases k : n < 10
    · exact ⟨_, _, TL.numL_lt k, by omega⟩
    · obtain ⟨c, r, e, hc⟩ := ih (n / 10) (by omega) (by omega)
      exact ⟨c, r ++ [48 + n % 10], by rw [TL.numL_step (by omega), e]; rfl, hc⟩
theorem num_of_int {n : Int} (h0 : 0 ≤ n) (h1 : n < 1000000000) : numP (toString n) = some n := by
  obtain ⟨k, rfl⟩ := Int.eq_ofNat_of_zero_le h0
  have e : (toString ((k : Nat) : Int) : Str).cps.toList = TL.numL k := TL.tl_num k
  have hl : (TL.numL k).length ≤ 9 := TL.numL_len (by decide) (by omega)
  have hd := TL.numL_digits k
  have hall : (TL.numL k).all isDig = true := List.all_eq_true.mpr fun c hc => decide_eq_true (hd c hc)
  have hN : isNum (toString ((k : Nat) : Int)) = true := by
    unfold isNum
    rw [e]
    cases hk : TL.numL k with
    | nil => exact absurd hk (TL.numL_ne k)
    | cons c r =>
      rw [hk] at hl hall
      rw [List.length_cons] at hl
      dsimp only
      rw [hall, decide_eq_true (show r.length ≤ 8 by omega), Bool.true_and, Bool.true_and, Bool.or_eq_true, decide_eq_true_iff, decide_eq_true_iff]
      by_cases z : 0 < k
      · obtain ⟨c', r', e', h'⟩ := numL_head k z
        rw [hk] at e'
        cases e'
        exact .inl h'
      · have : k = 0 := by omega
        subst this
        rw [TL.numL_lt (by decide)] at hk
        cases hk
        exact .inr rfl
  unfold numP
  rw [if_pos hN]
  unfold numV
  rw [e, TL.numL_val]
theorem name_free {w : Str} (h : isName w = true) : 32 ∉ w.cps.toList := fun hm => by
  unfold isName at h
  split at h
  · cases h
  · rename_i c cs e
    rw [e] at hm
    simp only [Bool.and_eq_true] at h
    have := List.all_eq_true.mp h.2 32 hm
    revert this
    decide
def kindG : Stm → Prop
  | .pro _ _ b => b ≠ none
  | .vote _ t _ y => ∀ z, y = some z → z < t
  | .com _ _ _ => True
/-- a letter that can be written -/
structure GoodL (l : Let) : Prop where
  small : SmallL l.who l.st 60
  name : ∀ x, l.st.b = some x → isName x = true
  kind : kindG l.st
theorem blank_free {l : Let} (h : GoodL l) : ∀ w ∈ wordsP l.who l.st, 32 ∉ w.cps.toList := by
  have hi : ∀ i : Int, 32 ∉ (toString i : Str).cps.toList := fun i => PyProof.Rows.int_text_free' 32 ⟨by decide, by decide⟩ i
  have hb : ∀ b : Option Str, (∀ x, b = some x → isName x = true) → 32 ∉ (partS (obD b)).cps.toList := fun b hx => by
    cases b with
    | none => show 32 ∉ (Str.ofString "-").cps.toList; decide +kernel
    | some x => exact name_free (hx x rfl)
  have hl : ∀ y : Option Int, 32 ∉ (partS (oiD y)).cps.toList := fun y => by
    cases y with
    | none => show 32 ∉ (Str.ofString "-").cps.toList; decide +kernel
    | some y => exact hi y
  have k1 : 32 ∉ (Str.ofString "proposal").cps.toList := by decide +kernel
  have k2 : 32 ∉ (Str.ofString "prevote").cps.toList := by decide +kernel
  have k3 : 32 ∉ (Str.ofString "precommit").cps.toList := by decide +kernel
  obtain ⟨who, st⟩ := l
  have hn := h.name
  intro w hw
  cases st with
  | pro h' t' b' =>
    simp only [wordsP, Stm.parts, List.map_cons, List.map_nil, List.mem_cons, List.not_mem_nil, or_false] at hw
    rcases hw with rfl | rfl | rfl | rfl | rfl
    · exact hi _
    · exact k1
    · exact hi _
    · exact hi _
    · exact hb _ hn
  | vote h' t' b' l' =>
    simp only [wordsP, Stm.parts, List.map_cons, List.map_nil, List.mem_cons, List.not_mem_nil, or_false] at hw
    rcases hw with rfl | rfl | rfl | rfl | rfl | rfl
    · exact hi _
    · exact k2
    · exact hi _
    · exact hi _
    · exact hb _ hn
    · exact hl _
  | com h' t' b' =>
    simp only [wordsP, Stm.parts, List.map_cons, List.map_nil, List.mem_cons, List.not_mem_nil, or_false] at hw
    rcases hw with rfl | rfl | rfl | rfl | rfl
    · exact hi _
    · exact k3
    · exact hi _
    · exact hi _
    · exact hb _ hn
theorem words_line {l : Let} (h : GoodL l) : wordsL (lineP l.who l.st) = wordsP l.who l.st :=
  TL.split_join blank_l blank_k (by unfold wordsP; simp) (blank_free h)
theorem block_back {ws : List Str} {i : Nat} {f : Bool} {b : Option Str} (hw : ws[i]? = some (partS (obD b))) (hn : ∀ x, b = some x → isName x = true) (hf : b = none → f = true) : blockP ws i f = some b := by
  unfold blockP
  rw [hw]
  dsimp only
  cases b with
  | none => rw [if_pos ⟨hf rfl, rfl⟩]
  | some x =>
    have hx := hn x rfl
    have h1 : ¬(f = true ∧ partS (obD (some x)) = Str.ofString "-") := fun z => by
      have k : x = Str.ofString "-" := z.2
      rw [k, name_minus] at hx
      exact nomatch hx
    have h2 : isName (partS (obD (some x))) = true := hx
    rw [if_neg h1, if_pos h2]
    rfl
theorem lean_back {ws : List Str} {i : Nat} {t : Int} {y : Option Int} (hw : ws[i]? = some (partS (oiD y))) (hn : ∀ z, y = some z → (0 ≤ z ∧ z < 1000000000) ∧ z < t) : leanP ws i t = some y := by
  unfold leanP
  rw [hw]
  dsimp only
  cases y with
  | none => exact if_pos rfl
  | some z =>
    obtain ⟨⟨h0, h1⟩, h2⟩ := hn z rfl
    have e := num_of_int h0 h1
    have e' : numP (partS (oiD (some z))) = some z := e
    have hm : numP (Str.ofString "-") = none := by decide +kernel
    have h3 : ¬partS (oiD (some z)) = Str.ofString "-" := fun k => by
      rw [k, hm] at e'
      exact nomatch e'
    rw [if_neg h3, e']
    exact if_pos h2
theorem read_back {l : Let} (h : GoodL l) : readP (wordsL (lineP l.who l.st)) = .ok l := by
  rw [words_line h]
  obtain ⟨hs, hn, hk⟩ := h
  obtain ⟨w0, w1, h0, h1, t0, t1, hl, hb⟩ := hs
  obtain ⟨who, st⟩ := l
  have e0 := num_of_int w0 w1
  have e2 := num_of_int h0 h1
  have e3 := num_of_int t0 t1
  cases st with
  | pro h t b =>
    have a0 : atP (wordsP who (.pro h t b)) 0 = some who := e0
    have a2 : atP (wordsP who (.pro h t b)) 2 = some h := e2
    have a3 : atP (wordsP who (.pro h t b)) 3 = some t := e3
    have a1 : (wordsP who (.pro h t b)).getD 1 "" = "proposal" := rfl
    have a4 := block_back (ws := wordsP who (.pro h t b)) (i := 4) (f := decide (Str.ofString "proposal" ≠ Str.ofString "proposal")) (b := b) rfl hn fun z => absurd z hk
    unfold readP
    rw [a0]
    dsimp only
    rw [a1, if_neg (by decide +kernel), a2]
    dsimp only
    rw [a3]
    dsimp only
    rw [a4]
    dsimp only
    rw [if_neg (by decide +kernel), if_neg (by show ¬5 < 5; omega), if_pos rfl]
  | vote h t b y =>
    have a0 : atP (wordsP who (.vote h t b y)) 0 = some who := e0
    have a2 : atP (wordsP who (.vote h t b y)) 2 = some h := e2
    have a3 : atP (wordsP who (.vote h t b y)) 3 = some t := e3
    have a1 : (wordsP who (.vote h t b y)).getD 1 "" = "prevote" := rfl
    have a4 := block_back (ws := wordsP who (.vote h t b y)) (i := 4) (f := decide (Str.ofString "prevote" ≠ Str.ofString "proposal")) (b := b) rfl hn fun z => by decide +kernel
    have a5 := lean_back (ws := wordsP who (.vote h t b y)) (i := 5) (t := t) (y := y) rfl fun z hz => ⟨hl z hz, hk z hz⟩
    unfold readP
    rw [a0]
    dsimp only
    rw [a1, if_neg (by decide +kernel), a2]
    dsimp only
    rw [a3]
    dsimp only
    rw [a4]
    dsimp only
    rw [if_pos rfl, a5]
    dsimp only
    rw [if_neg (by show ¬6 < 6; omega)]
  | com h t b =>
    have a0 : atP (wordsP who (.com h t b)) 0 = some who := e0
    have a2 : atP (wordsP who (.com h t b)) 2 = some h := e2
    have a3 : atP (wordsP who (.com h t b)) 3 = some t := e3
    have a1 : (wordsP who (.com h t b)).getD 1 "" = "precommit" := rfl
    have a4 := block_back (ws := wordsP who (.com h t b)) (i := 4) (f := decide (Str.ofString "precommit" ≠ Str.ofString "proposal")) (b := b) rfl hn fun z => by decide +kernel
    unfold readP
    rw [a0]
    dsimp only
    rw [a1, if_neg (by decide +kernel), a2]
    dsimp only
    rw [a3]
    dsimp only
    rw [a4]
    dsimp only
    rw [if_neg (by decide +kernel), if_neg (by show ¬5 < 5; omega), if_neg (by decide +kernel)]
end Toy

/-! parts of texts -/
namespace Toy
open PySem L2 DL
theorem take_lt {w : Str} {n : Nat} : (cutS w none (some ((n : Nat) : Int))).cps.toList = w.cps.toList.take n := by
  unfold cutS
  rw [HT.sIx_none, HT.sIx_nat, str_len, List.drop_zero, Nat.sub_zero, Nat.min_def]
  split
  · rfl
  · rw [List.take_length, List.take_of_length_le (by omega)]
theorem cut_ok {z : Str} (lo hi : Option Int) (h : PyData.strOk z = true) : PyData.strOk (cutS z lo hi) = true := strOk_of fun c hc => of_strOk h c (by
  unfold cutS at hc
  exact List.mem_of_mem_drop (List.mem_of_mem_take hc))
theorem cut_len (z : Str) (lo hi : Option Int) : (cutS z lo hi).length ≤ z.length := by
  rw [str_len, str_len]
  unfold cutS
  show ((z.cps.toList.drop _).take _).length ≤ _
  rw [List.length_take, List.length_drop]
  omega
theorem qpw : ((Str.ofString "p") = Str.ofString "w") = False := eq_false (by decide +kernel)
theorem qpd : ((Str.ofString "p") = Str.ofString "d") = False := eq_false (by decide +kernel)
theorem qpk : ((Str.ofString "p") = Str.ofString "k") = False := eq_false (by decide +kernel)
theorem qwp : ((Str.ofString "w") = Str.ofString "p") = False := eq_false (by decide +kernel)
theorem qwd : ((Str.ofString "w") = Str.ofString "d") = False := eq_false (by decide +kernel)
theorem qwk : ((Str.ofString "w") = Str.ofString "k") = False := eq_false (by decide +kernel)
theorem qdp : ((Str.ofString "d") = Str.ofString "p") = False := eq_false (by decide +kernel)
theorem qdw : ((Str.ofString "d") = Str.ofString "w") = False := eq_false (by decide +kernel)
theorem qdk : ((Str.ofString "d") = Str.ofString "k") = False := eq_false (by decide +kernel)
theorem qkp : ((Str.ofString "k") = Str.ofString "p") = False := eq_false (by decide +kernel)
theorem qkw : ((Str.ofString "k") = Str.ofString "w") = False := eq_false (by decide +kernel)
theorem qkd : ((Str.ofString "k") = Str.ofString "d") = False := eq_false (by decide +kernel)
theorem letter_len : (Str.ofString "p").length ≤ 9 ∧ (Str.ofString "q").length ≤ 9 ∧ (Str.ofString "r").length ≤ 9 ∧ (Str.ofString "w").length ≤ 9 ∧ (Str.ofString "x").length ≤ 9 ∧ (Str.ofString "d").length ≤ 9 ∧ (Str.ofString "z").length ≤ 9 ∧ (Str.ofString "k").length ≤ 9 ∧ (Str.ofString "b").length ≤ 9 ∧ (Str.ofString "v").length ≤ 9 := by decide +kernel
theorem int_len {i : Int} (h : i.natAbs.log2 < 1920) : (Str.ofString (toString i)).length ≤ 1921 := PyProof.Rows.int_text_len_1921 h
theorem joinL_one : ∀ l : List Nat, TL.joinL [] (l.map fun x => [x]) = l
  | [] => rfl
  | [x] => rfl
  | x :: y :: l => by
    have := joinL_one (y :: l)
    show [x] ++ ([] ++ TL.joinL [] ((y :: l).map fun x => [x])) = _
    rw [this]
    rfl
theorem join_signs (l : List Nat) : Txt.join (Str.ofString "") (l.map fun c => (⟨#[c]⟩ : Str)) = ⟨l.toArray⟩ := str_ext (by
  have he : TL.tl (Str.ofString "") = [] := by decide +kernel
  show TL.tl _ = l
  rw [TL.join_eq, TL.tl_join, he, List.map_map]
  exact joinL_one l)
theorem atI_rng {α : Type} {L : List α} {x n : Int} (h0 : 0 < n) (hn : n = (L.length : Int)) : ∃ c, atI L (x % n) = some c ∧ c ∈ L := by
  have h1 : 0 ≤ x % n := Int.emod_nonneg _ (by omega)
  have h2 : x % n < n := Int.emod_lt_of_pos _ h0
  obtain ⟨k, hk⟩ := Int.eq_ofNat_of_zero_le h1
  have hl : k < L.length := by omega
  exact ⟨L[k], by rw [hk]; exact atI_nat (List.getElem?_eq_getElem hl), List.getElem_mem hl⟩
end Toy

/-! commands and their texts -/
namespace Toy
open PySem L2 DL
inductive Cmd where
  | p (a b n : Int) | w (a n : Int) | d (a : Int) (s : Str) | k (a b n : Int)
deriving DecidableEq
def Cmd.ds : Cmd → List D
  | .p a b n => [.str "p", .int a, .int b, .int n]
  | .w a n => [.str "w", .int a, .int n]
  | .d a s => [.str "d", .int a, .str s]
  | .k a b n => [.str "k", .int a, .int b, .int n]
def Cmd.t (c : Cmd) : D := .tup c.ds
def intL (i : Int) : List Nat := (toString i : Str).cps.toList
def Cmd.txt : Cmd → List Nat
  | .p a b n => 112 :: (intL a ++ 113 :: (intL b ++ 114 :: intL n))
  | .w a n => 119 :: (intL a ++ 120 :: intL n)
  | .d a s => 100 :: (intL a ++ 122 :: (s.cps.toList ++ [122]))
  | .k a b n => 107 :: (intL a ++ 98 :: (intL b ++ 118 :: intL n))
def Cmd.str (c : Cmd) : Str := ⟨c.txt.toArray⟩
/-! the parser -/
def isCode (c : Nat) : Bool := isDig c || ([97, 99, 101, 102, 103, 104, 105, 106, 108, 109, 110, 111, 115, 116, 117, 121].contains c)
def numC (l : List Nat) : Option Int := if l.length ≤ 6 then numP ⟨l.toArray⟩ else none
def numF (c : Nat) : List Nat → Option (Int × List Nat)
  | [] => none
  | x :: r => if x = c then (numC (r.takeWhile isDig)).map fun n => (n, r.dropWhile isDig) else none
def codeF : List Nat → Option (List Nat × List Nat)
  | [] => none
  | x :: r => if x = 122 then (match r.dropWhile isCode with
    | [] => none
    | y :: r' => if y = 122 then some (r.takeWhile isCode, r') else none) else none
def fieldF (c : Nat) (l : List Nat) : Option (D × List Nat) := if c = 122 then (codeF l).map fun q => (.str ⟨q.1.toArray⟩, q.2) else (numF c l).map fun q => (.int q.1, q.2)
def fieldsP : List Nat → List Nat → Option (List D × List Nat)
  | [], l => some ([], l)
  | c :: cs, l => match fieldF c l with
    | none => none
    | some (d, r) => (fieldsP cs r).map fun q => (d :: q.1, q.2)
def shapeL (c : Nat) : List Nat := if c = 112 then [112, 113, 114] else if c = 119 then [119, 120] else if c = 100 then [100, 122] else if c = 107 then [107, 98, 118] else []
def takeG : List Nat → Option (List D × List Nat)
  | [] => none
  | c :: l => if shapeL c = [] then none else (fieldsP (shapeL c) (c :: l)).map fun q => (.str ⟨#[c]⟩ :: q.1, q.2)
def takeC : List Nat → Option (Cmd × List Nat)
  | [] => none
  | c :: l =>
    if c = 112 then (numF 112 (c :: l)).bind fun x => (numF 113 x.2).bind fun y => (numF 114 y.2).map fun z => (.p x.1 y.1 z.1, z.2)
    else if c = 119 then (numF 119 (c :: l)).bind fun x => (numF 120 x.2).map fun y => (.w x.1 y.1, y.2)
    else if c = 100 then (numF 100 (c :: l)).bind fun x => (codeF x.2).map fun y => (.d x.1 ⟨y.1.toArray⟩, y.2)
    else if c = 107 then (numF 107 (c :: l)).bind fun x => (numF 98 x.2).bind fun y => (numF 118 y.2).map fun z => (.k x.1 y.1 z.1, z.2)
    else none
theorem field_num {c : Nat} (h : c ≠ 122) (l : List Nat) : fieldF c l = (numF c l).map fun q => (.int q.1, q.2) := if_neg h
theorem field_code (l : List Nat) : fieldF 122 l = (codeF l).map fun q => (.str ⟨q.1.toArray⟩, q.2) := if_pos rfl
theorem takeG_eq (l : List Nat) : takeG l = (takeC l).map fun q => (q.1.ds, q.2) := by
  cases l with
  | nil => rfl
  | cons c l =>
    have key : ∀ L : List Nat, (if shapeL c = [] then none else (fieldsP (shapeL c) L).map fun q => ((D.str ⟨#[c]⟩ :: q.1, q.2) : List D × List Nat)) =
        (if c = 112 then (numF 112 L).bind fun x => (numF 113 x.2).bind fun y => (numF 114 y.2).map fun z => (Cmd.p x.1 y.1 z.1, z.2)
        else if c = 119 then (numF 119 L).bind fun x => (numF 120 x.2).map fun y => (.w x.1 y.1, y.2)
        else if c = 100 then (numF 100 L).bind fun x => (codeF x.2).map fun y => (.d x.1 ⟨y.1.toArray⟩, y.2)
        else if c = 107 then (numF 107 L).bind fun x => (numF 98 x.2).bind fun y => (numF 118 y.2).map fun z => (.k x.1 y.1 z.1, z.2)
        else none).map fun q => (q.1.ds, q.2) := by
      intro L
      unfold shapeL
      by_cases h1 : c = 112
      · subst h1
        rw [if_pos rfl, if_pos rfl, if_neg (by decide)]
        simp only [fieldsP, field_num (show (112 : Nat) ≠ 122 by decide), field_num (show (113 : Nat) ≠ 122 by decide), field_num (show (114 : Nat) ≠ 122 by decide)]
        cases numF 112 L with
        | none => rfl
        | some x =>
          cases h2 : numF 113 x.2 with
          | none => simp [h2]
          | some y =>
            cases h3 : numF 114 y.2 with
            | none => simp [h2, h3]
            | some z => simp [h2, h3, Cmd.ds]; rfl
      rw [if_neg h1, if_neg h1]
      by_cases h1 : c = 119
      · subst h1
        rw [if_pos rfl, if_pos rfl, if_neg (by decide)]
        simp only [fieldsP, field_num (show (119 : Nat) ≠ 122 by decide), field_num (show (120 : Nat) ≠ 122 by decide)]
        cases numF 119 L with
        | none => rfl
        | some x =>
          cases h2 : numF 120 x.2 with
          | none => simp [h2]
          | some y => simp [h2, Cmd.ds]; rfl
      rw [if_neg h1, if_neg h1]
      by_cases h1 : c = 100
      · subst h1
        rw [if_pos rfl, if_pos rfl, if_neg (by decide)]
        simp only [fieldsP, field_num (show (100 : Nat) ≠ 122 by decide), field_code]
        cases numF 100 L with
        | none => rfl
        | some x =>
          cases h2 : codeF x.2 with
          | none => simp [h2]
          | some y => simp [h2, Cmd.ds]; rfl
      rw [if_neg h1, if_neg h1]
      by_cases h1 : c = 107
      · subst h1
        rw [if_pos rfl, if_pos rfl, if_neg (by decide)]
        simp only [fieldsP, field_num (show (107 : Nat) ≠ 122 by decide), field_num (show (98 : Nat) ≠ 122 by decide), field_num (show (118 : Nat) ≠ 122 by decide)]
        cases numF 107 L with
        | none => rfl
        | some x =>
          cases h2 : numF 98 x.2 with
          | none => simp [h2]
          | some y =>
            cases h3 : numF 118 y.2 with
            | none => simp [h2, h3]
            | some z => simp [h2, h3, Cmd.ds]; rfl
      rw [if_neg h1, if_neg h1, if_pos rfl]
      rfl
    exact key (c :: l)
/-! numbers read and written -/
theorem numL_back {l : List Nat} (h : isNum ⟨l.toArray⟩ = true) : TL.numL (NumText.digitsVal l) = l := by
  unfold isNum at h
  split at h
  · cases h
  · rename_i c cs e
    have e : l = c :: cs := e
    subst e
    simp only [Bool.and_eq_true, Bool.or_eq_true, decide_eq_true_eq] at h
    have hd : ∀ x ∈ c :: cs, 48 ≤ x ∧ x ≤ 57 := fun x hx => of_decide_eq_true (List.all_eq_true.mp h.1.2 x hx)
    have hc := hd c (by simp)
    have := NumText.toDigits_digitsVal cs.length (c :: cs) rfl (fun x hx => hd x hx) (by
      rcases h.2 with h | h
      · exact .inr ⟨c, cs, rfl, by omega⟩
      · exact .inl (by rw [h]; rfl))
    unfold TL.numL
    rw [this, List.map_map]
    refine (List.map_congr_left fun x hx => ?_).trans (List.map_id _)
    have hx := hd x hx
    have hv : x.isValidChar := .inl (by omega)
    show (Char.ofNat x).toNat = x
    unfold Char.ofNat
    rw [dif_pos hv]
    rfl
theorem numL_lo : ∀ (k n : Nat), 10 ^ k ≤ n → k < (TL.numL n).length
  | 0, n, _ => List.length_pos_iff.mpr (TL.numL_ne n)
  | k + 1, n, h => by
    have h10 : 10 ≤ n := Nat.le_trans (by rw [Nat.pow_succ]; have : 1 ≤ 10 ^ k := Nat.pow_pos (by decide); omega) h
    rw [TL.numL_step h10, List.length_append]
    have := numL_lo k (n / 10) ((Nat.le_div_iff_mul_le (by decide)).mpr (by rw [← Nat.pow_succ]; exact h))
    simp
    omega
theorem intL_nat (n : Nat) : intL (n : Int) = TL.numL n := TL.tl_num n
def okNum (n : Int) : Prop := 0 ≤ n ∧ n ≤ 999999
theorem numC_back {n : Int} (h : okNum n) : numC (intL n) = some n := by
  obtain ⟨h0, h1⟩ := h
  have e := num_of_int h0 (by omega)
  obtain ⟨k, rfl⟩ := Int.eq_ofNat_of_zero_le h0
  have hl : (TL.numL k).length ≤ 6 := TL.numL_len (by decide) (by omega)
  unfold numC
  rw [intL_nat, if_pos hl]
  rw [show (⟨(TL.numL k).toArray⟩ : Str) = toString ((k : Nat) : Int) from str_ext (intL_nat k).symm]
  exact e
theorem numC_some {l : List Nat} {n : Int} (h : numC l = some n) : intL n = l ∧ okNum n := by
  unfold numC at h
  split at h
  · rename_i hl
    obtain ⟨h1, h2⟩ := numP_some h
    have e : numV ⟨l.toArray⟩ = ((NumText.digitsVal l : Nat) : Int) := rfl
    rw [e] at h2
    subst h2
    have hb := numL_back h1
    refine ⟨(intL_nat _).trans hb, Int.natCast_nonneg _, ?_⟩
    have hn : (TL.numL (NumText.digitsVal l)).length ≤ 6 := by rw [hb]; exact hl
    by_cases hv : 10 ^ 6 ≤ NumText.digitsVal l
    · have := numL_lo 6 _ hv
      omega
    · omega
  · cases h
theorem takeC_cons (c : Nat) (l : List Nat) : takeC (c :: l) =
    if c = 112 then (numF 112 (c :: l)).bind fun x => (numF 113 x.2).bind fun y => (numF 114 y.2).map fun z => (.p x.1 y.1 z.1, z.2)
    else if c = 119 then (numF 119 (c :: l)).bind fun x => (numF 120 x.2).map fun y => (.w x.1 y.1, y.2)
    else if c = 100 then (numF 100 (c :: l)).bind fun x => (codeF x.2).map fun y => (.d x.1 ⟨y.1.toArray⟩, y.2)
    else if c = 107 then (numF 107 (c :: l)).bind fun x => (numF 98 x.2).bind fun y => (numF 118 y.2).map fun z => (.k x.1 y.1 z.1, z.2)
    else none := rfl
theorem mem_tw {p : Nat → Bool} : ∀ {l : List Nat} {x : Nat}, x ∈ l.takeWhile p → p x = true
  | y :: l, x, h => by
    rw [List.takeWhile_cons] at h
    split at h
    · rename_i hy
      rcases List.mem_cons.mp h with rfl | h
      · exact hy
      · exact mem_tw h
    · cases h
theorem numF_cons (c x : Nat) (r : List Nat) : numF c (x :: r) = if x = c then (numC (r.takeWhile isDig)).map fun n => (n, r.dropWhile isDig) else none := rfl
theorem codeF_cons (x : Nat) (r : List Nat) : codeF (x :: r) = if x = 122 then (match r.dropWhile isCode with
    | [] => none
    | y :: r' => if y = 122 then some (r.takeWhile isCode, r') else none) else none := rfl
theorem takeG_cons (c : Nat) (l : List Nat) : takeG (c :: l) = if shapeL c = [] then none else (fieldsP (shapeL c) (c :: l)).map fun q => (.str ⟨#[c]⟩ :: q.1, q.2) := rfl
/-! a field read and written -/
theorem span_app {p : Nat → Bool} {a b : List Nat} (ha : ∀ x ∈ a, p x = true) (hb : b = [] ∨ ∃ y r, b = y :: r ∧ p y = false) : (a ++ b).takeWhile p = a ∧ (a ++ b).dropWhile p = b := by
  induction a with
  | nil =>
    rcases hb with rfl | ⟨y, r, rfl, hy⟩
    · exact ⟨rfl, rfl⟩
    · simp [hy]
  | cons x a ih =>
    have := ih fun y hy => ha y (List.mem_cons_of_mem _ hy)
    have hx := ha x (by simp)
    simp [hx, this.1, this.2]
theorem intL_dig {n : Int} (h : okNum n) : ∀ x ∈ intL n, isDig x = true := by
  obtain ⟨k, rfl⟩ := Int.eq_ofNat_of_zero_le h.1
  rw [intL_nat]
  exact fun x hx => decide_eq_true (TL.numL_digits k x hx)
/-- what may stand behind a number -/
def Stops (b : List Nat) : Prop := b = [] ∨ ∃ y r, b = y :: r ∧ isDig y = false
theorem numF_back {c : Nat} {n : Int} (h : okNum n) {b : List Nat} (hb : Stops b) : numF c (c :: (intL n ++ b)) = some (n, b) := by
  obtain ⟨h1, h2⟩ := span_app (intL_dig h) hb
  rw [numF_cons, if_pos rfl, h1, h2, numC_back h]
  rfl
theorem numF_some {c : Nat} {l b : List Nat} {n : Int} (h : numF c l = some (n, b)) : l = c :: (intL n ++ b) ∧ okNum n ∧ Stops b := by
  cases l with
  | nil => cases h
  | cons x r =>
    rw [numF_cons] at h
    split at h
    · rename_i e
      subst e
      cases hn : numC (r.takeWhile isDig) with
      | none => rw [hn] at h; cases h
      | some m =>
        rw [hn] at h
        cases h
        obtain ⟨h1, h2⟩ := numC_some hn
        refine ⟨by rw [h1, List.takeWhile_append_dropWhile], h2, ?_⟩
        cases hd : r.dropWhile isDig with
        | nil => exact .inl rfl
        | cons y q =>
          refine .inr ⟨y, q, rfl, ?_⟩
          have := List.head?_dropWhile_not (p := isDig) r
          rw [hd] at this
          simpa using this
    · cases h
def okCode (s : Str) : Prop := ∀ x ∈ s.cps.toList, isCode x = true
theorem codeF_back {s : Str} (h : okCode s) (b : List Nat) : codeF (122 :: (s.cps.toList ++ 122 :: b)) = some (s.cps.toList, b) := by
  obtain ⟨h1, h2⟩ := span_app (b := 122 :: b) h (.inr ⟨122, b, rfl, by decide⟩)
  rw [codeF_cons, if_pos rfl, h1, h2]
  rfl
theorem codeF_some {l b s : List Nat} (h : codeF l = some (s, b)) : l = 122 :: (s ++ 122 :: b) ∧ ∀ x ∈ s, isCode x = true := by
  cases l with
  | nil => cases h
  | cons x r =>
    rw [codeF_cons] at h
    split at h
    · rename_i e
      subst e
      split at h
      · cases h
      · rename_i y q hq
        split at h
        · rename_i e
          subst e
          cases h
          refine ⟨?_, fun z hz => ?_⟩
          · rw [← hq, List.takeWhile_append_dropWhile]
          · exact mem_tw hz
        · cases h
    · cases h
/-- a command that a block can contain -/
def okC : Cmd → Prop
  | .p a b n => okNum a ∧ okNum b ∧ okNum n
  | .w a n => okNum a ∧ okNum n
  | .d a s => okNum a ∧ okCode s
  | .k a b n => okNum a ∧ okNum b ∧ okNum n
theorem stop_c {y : Nat} {r : List Nat} (h : isDig y = false) : Stops (y :: r) := .inr ⟨y, r, rfl, h⟩
theorem takeC_back {c : Cmd} (h : okC c) {b : List Nat} (hb : Stops b) : takeC (c.txt ++ b) = some (c, b) := by
  cases c with
  | p x y z =>
    obtain ⟨h1, h2, h3⟩ := h
    simp only [Cmd.txt, List.cons_append, List.append_assoc, takeC, if_true]
    rw [numF_back h1 (stop_c (by decide)), Option.bind_some, numF_back h2 (stop_c (by decide)), Option.bind_some, numF_back h3 hb]
    rfl
  | w x y =>
    obtain ⟨h1, h2⟩ := h
    simp only [Cmd.txt, List.cons_append, List.append_assoc, takeC]
    rw [if_neg (by decide), if_pos trivial, numF_back h1 (stop_c (by decide)), Option.bind_some, numF_back h2 hb]
    rfl
  | d x s =>
    obtain ⟨h1, h2⟩ := h
    simp only [Cmd.txt, List.cons_append, List.append_assoc, takeC, List.nil_append]
    rw [if_neg (by decide), if_neg (by decide), if_pos trivial, numF_back h1 (stop_c (by decide)), Option.bind_some, codeF_back h2]
    rfl
  | k x y z =>
    obtain ⟨h1, h2, h3⟩ := h
    simp only [Cmd.txt, List.cons_append, List.append_assoc, takeC]
    rw [if_neg (by decide), if_neg (by decide), if_neg (by decide), if_pos trivial, numF_back h1 (stop_c (by decide)), Option.bind_some, numF_back h2 (stop_c (by decide)), Option.bind_some, numF_back h3 hb]
    rfl
theorem takeC_some {l b : List Nat} {c : Cmd} (h : takeC l = some (c, b)) : l = c.txt ++ b ∧ okC c := by
  cases l with
  | nil => cases h
  | cons x r =>
    rw [takeC_cons] at h
    generalize x :: r = L at h ⊢
    split at h
    · obtain ⟨⟨a, l1⟩, h1, h⟩ := Option.bind_eq_some_iff.mp h
      obtain ⟨⟨b', l2⟩, h2, h⟩ := Option.bind_eq_some_iff.mp h
      obtain ⟨⟨n, l3⟩, h3, h⟩ := Option.map_eq_some_iff.mp h
      cases h
      obtain ⟨e1, o1, _⟩ := numF_some h1
      obtain ⟨e2, o2, _⟩ := numF_some h2
      obtain ⟨e3, o3, _⟩ := numF_some h3
      dsimp only at e1 e2 e3
      subst e1 e2 e3
      exact ⟨by simp [Cmd.txt], o1, o2, o3⟩
    split at h
    · obtain ⟨⟨a, l1⟩, h1, h⟩ := Option.bind_eq_some_iff.mp h
      obtain ⟨⟨n, l3⟩, h3, h⟩ := Option.map_eq_some_iff.mp h
      cases h
      obtain ⟨e1, o1, _⟩ := numF_some h1
      obtain ⟨e3, o3, _⟩ := numF_some h3
      dsimp only at e1 e3
      subst e1 e3
      exact ⟨by simp [Cmd.txt], o1, o3⟩
    split at h
    · obtain ⟨⟨a, l1⟩, h1, h⟩ := Option.bind_eq_some_iff.mp h
      obtain ⟨⟨n, l3⟩, h3, h⟩ := Option.map_eq_some_iff.mp h
      cases h
      obtain ⟨e1, o1, _⟩ := numF_some h1
      obtain ⟨e3, o3⟩ := codeF_some h3
      dsimp only at e1 e3
      subst e1 e3
      exact ⟨by simp [Cmd.txt], o1, o3⟩
    split at h
    · obtain ⟨⟨a, l1⟩, h1, h⟩ := Option.bind_eq_some_iff.mp h
      obtain ⟨⟨b', l2⟩, h2, h⟩ := Option.bind_eq_some_iff.mp h
      obtain ⟨⟨n, l3⟩, h3, h⟩ := Option.map_eq_some_iff.mp h
      cases h
      obtain ⟨e1, o1, _⟩ := numF_some h1
      obtain ⟨e2, o2, _⟩ := numF_some h2
      obtain ⟨e3, o3, _⟩ := numF_some h3
      dsimp only at e1 e2 e3
      subst e1 e2 e3
      exact ⟨by simp [Cmd.txt], o1, o2, o3⟩
    · cases h
theorem txt_ne (c : Cmd) : ∃ y r, c.txt = y :: r ∧ isDig y = false := by
  cases c
  · exact ⟨_, _, rfl, by decide⟩
  · exact ⟨_, _, rfl, by decide⟩
  · exact ⟨_, _, rfl, by decide⟩
  · exact ⟨_, _, rfl, by decide⟩
theorem takeC_lt {l b : List Nat} {c : Cmd} (h : takeC l = some (c, b)) : b.length < l.length := by
  obtain ⟨e, _⟩ := takeC_some h
  obtain ⟨y, r, e2, _⟩ := txt_ne c
  rw [e, e2, List.cons_append, List.length_cons, List.length_append]
  omega
/-! the commands of a block -/
def comsF : Nat → List Nat → Option (List Cmd)
  | _, [] => some []
  | 0, _ :: _ => none
  | n + 1, x :: l => match takeC (x :: l) with
    | none => none
    | some (c, r) => (comsF n r).map fun cs => c :: cs
theorem comsF_two : ∀ (n m : Nat) (l : List Nat), l.length ≤ n → l.length ≤ m → comsF n l = comsF m l
  | n, m, [], _, _ => by cases n <;> cases m <;> rfl
  | 0, _, _ :: _, h, _ => by simp at h
  | _, 0, _ :: _, _, h => by simp at h
  | n + 1, m + 1, x :: l, h, h' => by
    unfold comsF
    cases e : takeC (x :: l) with
    | none => rfl
    | some q =>
      have hl := takeC_lt (c := q.1) (b := q.2) e
      simp only [List.length_cons] at hl h h'
      dsimp only
      rw [comsF_two n m q.2 (by omega) (by omega)]
theorem comsF_up (n : Nat) (l : List Nat) (h : l.length ≤ n) : comsF n l = comsF l.length l := comsF_two n _ l h (Nat.le_refl _)
def comsO (l : List Nat) : Option (List Cmd) := comsF l.length l
def comsP (l : List Nat) : List Cmd := (comsO l).getD []
theorem comsO_nil : comsO [] = some [] := rfl
theorem comsO_step {l r : List Nat} {c : Cmd} (h : takeC l = some (c, r)) : comsO l = (comsO r).map fun cs => c :: cs := by
  cases l with
  | nil => cases h
  | cons x l =>
    have hl := takeC_lt h
    unfold comsO
    rw [List.length_cons] at hl ⊢
    rw [comsF, h]
    dsimp only
    rw [comsF_up l.length r (by omega)]
theorem comsO_none {x : Nat} {l : List Nat} (h : takeC (x :: l) = none) : comsO (x :: l) = none := by
  unfold comsO
  rw [List.length_cons, comsF, h]
def txtsP (cs : List Cmd) : List Nat := cs.flatMap Cmd.txt
theorem txts_stop (cs : List Cmd) : Stops (txtsP cs) := by
  cases cs with
  | nil => exact .inl rfl
  | cons c cs =>
    obtain ⟨y, r, e, h⟩ := txt_ne c
    unfold txtsP
    rw [List.flatMap_cons, e]
    exact stop_c h
theorem coms_back : ∀ cs : List Cmd, (∀ c ∈ cs, okC c) → comsO (txtsP cs) = some cs
  | [], _ => rfl
  | c :: cs, h => by
    have ht : takeC (txtsP (c :: cs)) = some (c, txtsP cs) := takeC_back (h c (by simp)) (txts_stop cs)
    rw [comsO_step ht, coms_back cs fun d hd => h d (List.mem_cons_of_mem _ hd)]
    rfl
theorem coms_some : ∀ (n : Nat) {l : List Nat} {cs : List Cmd}, l.length ≤ n → comsO l = some cs → l = txtsP cs ∧ ∀ c ∈ cs, okC c
  | _, [], cs, _, h => by cases h; exact ⟨rfl, by simp⟩
  | 0, _ :: _, _, hl, _ => by simp at hl
  | n + 1, x :: l, cs, hl, h => by
    cases e : takeC (x :: l) with
    | none => rw [comsO_none e] at h; cases h
    | some q =>
      obtain ⟨c, r⟩ := q
      rw [comsO_step e] at h
      obtain ⟨cs', h1, rfl⟩ := Option.map_eq_some_iff.mp h
      have hlt := takeC_lt e
      obtain ⟨e1, o1⟩ := takeC_some e
      obtain ⟨e2, o2⟩ := coms_some n (by omega) h1
      refine ⟨by rw [e1, e2]; rfl, fun d hd => ?_⟩
      rcases List.mem_cons.mp hd with rfl | hd
      · exact o1
      · exact o2 d hd
/-! texts cut in two -/
theorem cut_two (z : Str) (j k : Nat) : (cutS z (some (j : Int)) (some (k : Int))).cps.toList = (z.cps.toList.drop j).take (k - j) := by
  unfold cutS
  rw [HT.sIx_nat, HT.sIx_nat, str_len]
  show (z.cps.toList.drop _).take _ = _
  by_cases hj : j ≤ z.cps.toList.length
  · rw [Nat.min_eq_left hj]
    by_cases hk : k ≤ z.cps.toList.length
    · rw [Nat.min_eq_left hk]
    · rw [Nat.min_eq_right (by omega)]
      rw [List.take_of_length_le (by rw [List.length_drop]; omega), List.take_of_length_le (by rw [List.length_drop]; omega)]
  · have e1 : min j z.cps.toList.length = z.cps.toList.length := by omega
    rw [e1, List.drop_of_length_le (Nat.le_refl _), List.drop_of_length_le (l := z.cps.toList) (i := j) (by omega)]
    simp
theorem cut_one (z : Str) (j : Nat) : (cutS z (some (j : Int)) (some ((j : Int) + 1))).cps.toList = (z.cps.toList.drop j).take 1 := by
  have := cut_two z j (j + 1)
  rw [show j + 1 - j = 1 by omega] at this
  exact this
theorem cut_is {z : Str} {j : Nat} {c : Nat} {y : Str} (hy : y.cps.toList = [c]) : cutS z (some (j : Int)) (some ((j : Int) + 1)) = y ↔ ∃ r, z.cps.toList.drop j = c :: r := by
  constructor
  · intro h
    have e := cut_one z j
    rw [h, hy] at e
    cases hd : z.cps.toList.drop j with
    | nil => rw [hd] at e; cases e
    | cons x r =>
      rw [hd] at e
      have : c = x := (List.cons.inj e).1
      exact ⟨r, by rw [this]⟩
  · rintro ⟨r, hd⟩
    refine str_ext ?_
    rw [cut_one, hd, hy]
    rfl
theorem sign_inj {a b : Nat} : (⟨#[a]⟩ : Str) = ⟨#[b]⟩ ↔ a = b := ⟨fun h => by cases h; rfl, fun h => by rw [h]⟩
def shapesK : List (Str × D) := [("p", .str "pqr"), ("w", .str "wx"), ("d", .str "dz"), ("k", .str "kbv")]
theorem shape_of (c : Nat) : (shapesK.lookup (⟨#[c]⟩ : Str)).getD (.str "") = .str ⟨(shapeL c).toArray⟩ := by
  have hp : (Str.ofString "p").cps.toList = [112] := by decide +kernel
  have hw : (Str.ofString "w").cps.toList = [119] := by decide +kernel
  have hd : (Str.ofString "d").cps.toList = [100] := by decide +kernel
  have hk : (Str.ofString "k").cps.toList = [107] := by decide +kernel
  unfold shapesK shapeL
  by_cases h1 : c = 112
  · subst h1; kernel_rfl
  by_cases h2 : c = 119
  · subst h2; kernel_rfl
  by_cases h3 : c = 100
  · subst h3; kernel_rfl
  by_cases h4 : c = 107
  · subst h4; kernel_rfl
  rw [if_neg h1, if_neg h2, if_neg h3, if_neg h4]
  have k1 : ((⟨#[c]⟩ : Str) == Str.ofString "p") = false := beq_eq_false_iff_ne.mpr fun e => h1 ((one_eq hp).mp e)
  have k2 : ((⟨#[c]⟩ : Str) == Str.ofString "w") = false := beq_eq_false_iff_ne.mpr fun e => h2 ((one_eq hw).mp e)
  have k3 : ((⟨#[c]⟩ : Str) == Str.ofString "d") = false := beq_eq_false_iff_ne.mpr fun e => h3 ((one_eq hd).mp e)
  have k4 : ((⟨#[c]⟩ : Str) == Str.ofString "k") = false := beq_eq_false_iff_ne.mpr fun e => h4 ((one_eq hk).mp e)
  simp only [List.lookup, k1, k2, k3, k4]
  rfl
theorem code_l : (Str.ofString "acefghijlmnostuy0123456789").cps.toList = [97, 99, 101, 102, 103, 104, 105, 106, 108, 109, 110, 111, 115, 116, 117, 121, 48, 49, 50, 51, 52, 53, 54, 55, 56, 57] := by decide +kernel
theorem mem_code {c : Nat} : c ∈ (Str.ofString "acefghijlmnostuy0123456789").cps.toList ↔ isCode c = true := by
  rw [code_l]
  unfold isCode isDig
  simp only [List.mem_cons, List.not_mem_nil, or_false, Bool.or_eq_true, decide_eq_true_eq, List.contains_cons, List.contains_nil, beq_iff_eq, Bool.or_false]
  omega
theorem drop_tw (p : Nat → Bool) : ∀ l : List Nat, l.drop (l.takeWhile p).length = l.dropWhile p
  | [] => rfl
  | x :: l => by
    rw [List.takeWhile_cons, List.dropWhile_cons]
    split
    · rw [List.length_cons, List.drop_succ_cons]
      exact drop_tw p l
    · rfl
theorem tw_len (p : Nat → Bool) (l : List Nat) : (l.takeWhile p).length ≤ l.length := (List.takeWhile_sublist p).length_le
def endOf (p : Nat → Bool) (L : List Nat) (j : Nat) : Nat := j + 1 + ((L.drop (j + 1)).takeWhile p).length
theorem endOf_drop (p : Nat → Bool) (L : List Nat) (j : Nat) : L.drop (endOf p L j) = (L.drop (j + 1)).dropWhile p := by
  unfold endOf
  rw [← List.drop_drop, drop_tw]
theorem endOf_le {p : Nat → Bool} {L : List Nat} {j : Nat} (h : j < L.length) : endOf p L j ≤ L.length := by
  unfold endOf
  have := tw_len p (L.drop (j + 1))
  rw [List.length_drop] at this
  omega
theorem drop_lt {L r : List Nat} {j c : Nat} (h : L.drop j = c :: r) : j < L.length ∧ L.drop (j + 1) = r := by
  constructor
  · have := congrArg List.length h
    rw [List.length_drop, List.length_cons] at this
    omega
  · rw [show j + 1 = j + 1 from rfl, ← List.drop_drop, h]
    rfl
theorem fld_code {L r r' : List Nat} {j : Nat} (h1 : L.drop j = 122 :: r) (h2 : L.drop (endOf isCode L j) = 122 :: r') : fieldF 122 (L.drop j) = some (.str ⟨((L.drop (j + 1)).takeWhile isCode).toArray⟩, L.drop (endOf isCode L j + 1)) := by
  obtain ⟨_, e1⟩ := drop_lt h1
  obtain ⟨_, e2⟩ := drop_lt h2
  rw [endOf_drop, e1] at h2
  rw [field_code, h1, codeF_cons, if_pos rfl, h2]
  dsimp only
  rw [if_pos rfl, e2, e1]
  rfl
theorem fld_code_no {L : List Nat} {j : Nat} (h : ¬((∃ r, L.drop j = 122 :: r) ∧ ∃ r', L.drop (endOf isCode L j) = 122 :: r')) : fieldF 122 (L.drop j) = none := by
  rw [field_code]
  cases hd : L.drop j with
  | nil => rfl
  | cons x r =>
    obtain ⟨_, e1⟩ := drop_lt hd
    rw [codeF_cons]
    by_cases hx : x = 122
    · rw [if_pos hx]
      subst hx
      rw [endOf_drop, e1] at h
      cases hw : r.dropWhile isCode with
      | nil => rfl
      | cons y r' =>
        rw [hw] at h
        dsimp only
        rw [if_neg (fun e => h ⟨⟨_, hd⟩, r', by rw [e]⟩)]
        rfl
    · rw [if_neg hx]
      rfl
theorem fld_num {L r : List Nat} {j c : Nat} {n : Int} (hc : c ≠ 122) (h1 : L.drop j = c :: r) (h2 : numC ((L.drop (j + 1)).takeWhile isDig) = some n) : fieldF c (L.drop j) = some (.int n, L.drop (endOf isDig L j)) := by
  obtain ⟨_, e1⟩ := drop_lt h1
  rw [e1] at h2
  rw [endOf_drop, e1, field_num hc, h1, numF_cons, if_pos rfl, h2]
  rfl
theorem fld_num_no {L : List Nat} {j c : Nat} (hc : c ≠ 122) (h : (∃ r, L.drop j = c :: r) → numC ((L.drop (j + 1)).takeWhile isDig) = none) : fieldF c (L.drop j) = none := by
  rw [field_num hc]
  cases hd : L.drop j with
  | nil => rfl
  | cons x r =>
    obtain ⟨_, e1⟩ := drop_lt hd
    rw [numF_cons]
    by_cases hx : x = c
    · subst hx
      have h2 := h ⟨r, hd⟩
      rw [e1] at h2
      rw [if_pos rfl, h2]
      rfl
    · rw [if_neg hx]
      rfl
theorem fields_cons {c : Nat} {cs l r : List Nat} {d : D} (h : fieldF c l = some (d, r)) : fieldsP (c :: cs) l = (fieldsP cs r).map fun q => (d :: q.1, q.2) := by
  rw [fieldsP, h]
theorem fields_none {c : Nat} {cs l : List Nat} (h : fieldF c l = none) : fieldsP (c :: cs) l = none := by
  rw [fieldsP, h]
theorem cut_end (p : Nat → Bool) (z : Str) (j : Nat) : cutS z (some ((j : Int) + 1)) (some ((endOf p z.cps.toList j : Nat) : Int)) = ⟨((z.cps.toList.drop (j + 1)).takeWhile p).toArray⟩ := str_ext (by
  have := cut_two z (j + 1) (endOf p z.cps.toList j)
  rw [show (((j + 1 : Nat) : Int)) = (j : Int) + 1 by omega] at this
  rw [this]
  show _ = (z.cps.toList.drop (j + 1)).takeWhile p
  unfold endOf
  rw [show j + 1 + ((z.cps.toList.drop (j + 1)).takeWhile p).length - (j + 1) = ((z.cps.toList.drop (j + 1)).takeWhile p).length by omega]
  generalize z.cps.toList.drop (j + 1) = l
  induction l with
  | nil => rfl
  | cons x l ih =>
    rw [List.takeWhile_cons]
    split
    · rw [List.length_cons, List.take_succ_cons, ih]
    · rfl)
/-! a command's text, made -/
def smallI (i : Int) : Prop := -2000000000 ≤ i ∧ i ≤ 2000000000
def smallC : Cmd → Prop
  | .p a b n => smallI a ∧ smallI b ∧ smallI n
  | .w a n => smallI a ∧ smallI n
  | .d a s => smallI a ∧ s.length ≤ 1000
  | .k a b n => smallI a ∧ smallI b ∧ smallI n
theorem small_ok {i : Int} (h : okNum i) : smallI i := ⟨by have := h.1; omega, by have := h.2; omega⟩
theorem small_log {i : Int} (h : smallI i) : i.natAbs.log2 < 1920 := log_small h.1 h.2
def cs1 (c : Nat) : Str := ⟨#[c]⟩
theorem str_p (a b n : Int) : (Cmd.p a b n).str = Str.ofString "p" ++ toString a ++ Str.ofString "q" ++ toString b ++ Str.ofString "r" ++ toString n := str_ext (by
  show (Cmd.p a b n).txt = TL.tl _
  have h1 : TL.tl (Str.ofString "p") = [112] := by decide +kernel
  have h2 : TL.tl (Str.ofString "q") = [113] := by decide +kernel
  have h3 : TL.tl (Str.ofString "r") = [114] := by decide +kernel
  simp only [TL.tl_append, h1, h2, h3, Cmd.txt, intL]
  simp [TL.tl])
theorem str_w (a n : Int) : (Cmd.w a n).str = Str.ofString "w" ++ toString a ++ Str.ofString "x" ++ toString n := str_ext (by
  show (Cmd.w a n).txt = TL.tl _
  have h1 : TL.tl (Str.ofString "w") = [119] := by decide +kernel
  have h2 : TL.tl (Str.ofString "x") = [120] := by decide +kernel
  simp only [TL.tl_append, h1, h2, Cmd.txt, intL]
  simp [TL.tl])
theorem str_k (a b n : Int) : (Cmd.k a b n).str = Str.ofString "k" ++ toString a ++ Str.ofString "b" ++ toString b ++ Str.ofString "v" ++ toString n := str_ext (by
  show (Cmd.k a b n).txt = TL.tl _
  have h1 : TL.tl (Str.ofString "k") = [107] := by decide +kernel
  have h2 : TL.tl (Str.ofString "b") = [98] := by decide +kernel
  have h3 : TL.tl (Str.ofString "v") = [118] := by decide +kernel
  simp only [TL.tl_append, h1, h2, h3, Cmd.txt, intL]
  simp [TL.tl])
theorem str_d (a : Int) (s : Str) : (Cmd.d a s).str = Str.ofString "d" ++ toString a ++ Str.ofString "z" ++ s ++ Str.ofString "z" := str_ext (by
  show (Cmd.d a s).txt = TL.tl _
  have h1 : TL.tl (Str.ofString "d") = [100] := by decide +kernel
  have h2 : TL.tl (Str.ofString "z") = [122] := by decide +kernel
  simp only [TL.tl_append, h1, h2, Cmd.txt, intL]
  simp [TL.tl])
/-! == of commands -/
theorem Cmd.t_inj {c c' : Cmd} (h : c.t = c'.t) : c = c' := by
  have n1 : ∀ {a b : String}, Str.ofString a ≠ Str.ofString b → D.str (Str.ofString a) ≠ D.str (Str.ofString b) := fun h e => h (D.str.inj e)
  cases c <;> cases c' <;> simp only [Cmd.t, Cmd.ds, D.tup.injEq, List.cons.injEq, D.int.injEq, D.str.injEq, and_true, qpw, qpd, qpk, qwp, qwd, qwk, qdp, qdw, qdk, qkp, qkw, qkd, false_and, reduceCtorEq, and_false] at h
  · obtain ⟨_, rfl, rfl, rfl⟩ := h; rfl
  · obtain ⟨_, rfl, rfl⟩ := h; rfl
  · obtain ⟨_, rfl, rfl⟩ := h; rfl
  · obtain ⟨_, rfl, rfl, rfl⟩ := h; rfl
theorem Cmd.nob (c : Cmd) : c.t.nob = true := by cases c <;> simp [Cmd.t, Cmd.ds, D.nob, D.nobs]
theorem deq_cmd (c c' : Cmd) : deq c.t c'.t = decide (c = c') := by
  rw [Bool.eq_iff_iff, deq_iff _ _ c.nob c'.nob, decide_eq_true_iff]
  exact ⟨Cmd.t_inj, fun h => by rw [h]⟩
theorem nobs_cmd : ∀ cs : List Cmd, D.nobs (cs.map Cmd.t) = true
  | [] => rfl
  | c :: cs => by simp [D.nobs, c.nob, nobs_cmd cs]
theorem cmds_inj : ∀ {xs ys : List Cmd}, xs.map Cmd.t = ys.map Cmd.t → xs = ys
  | [], [], _ => rfl
  | [], _ :: _, h => nomatch h
  | _ :: _, [], h => nomatch h
  | x :: xs, y :: ys, h => by
    rw [List.map_cons, List.map_cons, List.cons.injEq] at h
    rw [Cmd.t_inj h.1, cmds_inj h.2]
theorem deq_cmds (xs ys : List Cmd) : deq (D.lst (xs.map Cmd.t)) (D.lst (ys.map Cmd.t)) = decide (xs = ys) := by
  rw [Bool.eq_iff_iff, deq_iff _ _ (by simp [D.nob, nobs_cmd]) (by simp [D.nob, nobs_cmd]), decide_eq_true_iff]
  exact ⟨fun h => cmds_inj (D.lst.inj h), fun h => by rw [h]⟩
theorem din_cmd {x : Cmd} {xs : List Cmd} : din x.t (xs.map Cmd.t) = decide (x ∈ xs) := by
  rw [Bool.eq_iff_iff, decide_eq_true_iff]
  exact din_iff deq_cmd
def okT : Cmd → Prop
  | .d _ s => PyData.strOk s = true
  | _ => True
theorem Cmd.fit {c : Cmd} (h : okT c) : c.t.fit = true := by
  have kp : PyData.strOk (Str.ofString "p") = true := by decide +kernel
  have kw : PyData.strOk (Str.ofString "w") = true := by decide +kernel
  have kd : PyData.strOk (Str.ofString "d") = true := by decide +kernel
  have kk : PyData.strOk (Str.ofString "k") = true := by decide +kernel
  cases c <;> simp [D.fit, Cmd.t, Cmd.ds, D.dat, D.dats, D.dep, D.deps, kp, kw, kd, kk]
  exact h
theorem cmds_fit {cs : List Cmd} (h : ∀ c ∈ cs, okT c) : (D.lst (cs.map Cmd.t)).fit = true := fit_of 1 (by decide) _ fun d hd => by
  obtain ⟨c, hc, rfl⟩ := List.mem_map.mp hd
  refine ⟨fit_dat (Cmd.fit (h c hc)), ?_⟩
  cases c <;> simp [Cmd.t, Cmd.ds, D.dep, D.deps]
theorem code_lt {c : Nat} (h : isCode c = true) : c < 128 := by
  unfold isCode isDig at h
  simp only [Bool.or_eq_true, decide_eq_true_eq, List.contains_cons, List.contains_nil, beq_iff_eq, Bool.or_false] at h
  omega
theorem okT_of {c : Cmd} (h : okC c) : okT c := by
  cases c
  case d a s => exact strOk_of fun x hx => by have := code_lt (h.2 x hx); omega
  all_goals trivial
theorem smallC_of {c : Cmd} (h : okC c) (hl : ∀ a s, c = .d a s → s.length ≤ 1000) : smallC c := by
  cases c
  case p => exact ⟨small_ok h.1, small_ok h.2.1, small_ok h.2.2⟩
  case w => exact ⟨small_ok h.1, small_ok h.2⟩
  case d => exact ⟨small_ok h.1, hl _ _ rfl⟩
  case k => exact ⟨small_ok h.1, small_ok h.2.1, small_ok h.2.2⟩
theorem coms_one {c : Cmd} (h : okC c) : comsP c.str.cps.toList = [c] := by
  have := coms_back [c] fun d hd => by rw [List.mem_singleton.mp hd]; exact h
  have e : c.str.cps.toList = txtsP [c] := by simp [txtsP, Cmd.str]
  unfold comsP
  rw [e, this]
  rfl
/-! the block of the first ones that fit -/
def fitN : Nat → List Cmd → Nat
  | _, [] => 0
  | l, c :: cs => if 60 < l + c.txt.length then 0 else 1 + fitN (l + c.txt.length) cs
def blockS (cs : List Cmd) : Str := ⟨(txtsP cs).toArray⟩
def fitC (cs : List Cmd) : List Cmd := cs.take (fitN 0 cs)
theorem txts_app (a b : List Cmd) : txtsP (a ++ b) = txtsP a ++ txtsP b := by simp [txtsP]
theorem blockS_snoc (cs : List Cmd) (c : Cmd) : blockS cs ++ c.str = blockS (cs ++ [c]) := str_ext (by
  show TL.tl _ = TL.tl _
  rw [TL.tl_append]
  show txtsP cs ++ c.txt = txtsP (cs ++ [c])
  rw [txts_app]
  simp [txtsP])
theorem blockS_len (cs : List Cmd) : (blockS cs).length = (txtsP cs).length := str_len _
theorem fitN_le : ∀ (l : Nat) (cs : List Cmd), fitN l cs ≤ cs.length
  | _, [] => Nat.le_refl _
  | l, c :: cs => by
    unfold fitN
    split
    · exact Nat.zero_le _
    · have := fitN_le (l + c.txt.length) cs
      rw [List.length_cons]
      omega
theorem fitN_app {pre post : List Cmd} {c : Cmd} (l : Nat) (h : fitN l (pre ++ c :: post) = pre.length + fitN (l + (txtsP pre).length) (c :: post)) (hl : ¬60 < l + (txtsP (pre ++ [c])).length) :
    fitN l (pre ++ c :: post) = (pre ++ [c]).length + fitN (l + (txtsP (pre ++ [c])).length) post := by
  have e : (txtsP (pre ++ [c])).length = (txtsP pre).length + c.txt.length := by rw [txts_app, List.length_append]; simp [txtsP]
  rw [h, List.length_append, fitN, if_neg (by rw [e] at hl; omega), e, Nat.add_assoc l]
  simp only [List.length_cons, List.length_nil]
  omega
theorem fitN_stop {pre post : List Cmd} {c : Cmd} (l : Nat) (h : fitN l (pre ++ c :: post) = pre.length + fitN (l + (txtsP pre).length) (c :: post)) (hl : 60 < l + (txtsP (pre ++ [c])).length) : fitN l (pre ++ c :: post) = pre.length := by
  have e : (txtsP (pre ++ [c])).length = (txtsP pre).length + c.txt.length := by rw [txts_app, List.length_append]; simp [txtsP]
  rw [h, fitN, if_pos (by rw [e] at hl; omega)]
  rfl
theorem smallC_len {c : Cmd} (h : smallC c) : c.str.length ≤ 10000 := by
  have k : ∀ {i : Int}, smallI i → (intL i).length ≤ 1921 := fun h => by
    have := int_len (small_log h)
    rw [str_len] at this
    exact this
  have e : c.str.length = c.txt.length := str_len _
  rw [e]
  cases c <;> simp only [smallC] at h <;> simp only [Cmd.txt, List.length_cons, List.length_append]
  · have := k h.1; have := k h.2.1; have := k h.2.2; omega
  · have := k h.1; have := k h.2; omega
  · have := k h.1
    have h2 := h.2
    rw [str_len] at h2
    simp only [List.length_nil]
    omega
  · have := k h.1; have := k h.2.1; have := k h.2.2; omega
theorem fit_len : ∀ (cs : List Cmd) (l : Nat), l ≤ 60 → l + (txtsP (cs.take (fitN l cs))).length ≤ 60
  | [], l, h => by simpa [fitN, txtsP] using h
  | c :: cs, l, h => by
    unfold fitN
    split
    · simpa [txtsP] using h
    · rename_i hl
      rw [Nat.add_comm 1, List.take_succ_cons]
      have := fit_len cs (l + c.txt.length) (by omega)
      show l + (c.txt ++ txtsP _).length ≤ 60
      rw [List.length_append]
      omega
theorem block_len (cs : List Cmd) : (blockS (fitC cs)).length ≤ 60 := by
  have := fit_len cs 0 (by decide)
  rw [blockS_len]
  unfold fitC
  omega
theorem fitC_mem {cs : List Cmd} {c : Cmd} (h : c ∈ fitC cs) : c ∈ cs := List.mem_of_mem_take h
theorem blockS_back {cs : List Cmd} (h : ∀ c ∈ cs, okC c) : comsP (blockS cs).cps.toList = cs := by
  unfold comsP
  rw [show (blockS cs).cps.toList = txtsP cs from rfl, coms_back cs h]
  rfl
theorem txts_mem {cs : List Cmd} {c : Cmd} (h : c ∈ cs) : c.txt.length ≤ (txtsP cs).length := by
  induction cs with
  | nil => cases h
  | cons x cs ih =>
    show c.txt.length ≤ (x.txt ++ txtsP cs).length
    rw [List.length_append]
    rcases List.mem_cons.mp h with rfl | h
    · omega
    · have := ih h
      omega
theorem coms_of (y : Str) : comsP y.cps.toList = [] ∨ (y = blockS (comsP y.cps.toList) ∧ ∀ c ∈ comsP y.cps.toList, okC c ∧ (y.length ≤ 1000 → smallC c)) := by
  unfold comsP
  cases h : comsO y.cps.toList with
  | none => exact .inl rfl
  | some cs =>
    obtain ⟨h1, h2⟩ := coms_some _ (Nat.le_refl _) h
    refine .inr ⟨str_ext h1, fun c hc => ⟨h2 c hc, fun hl => smallC_of (h2 c hc) fun a s e => ?_⟩⟩
    have hc : c ∈ cs := hc
    have := txts_mem hc
    rw [e] at this
    have h3 := congrArg List.length h1
    rw [str_len] at hl ⊢
    simp only [Cmd.txt, List.length_cons, List.length_append] at this
    show s.cps.toList.length ≤ 1000
    have h3 : y.cps.toList.length = (txtsP cs).length := h3
    omega
theorem joinL_flat : ∀ ls : List (List Nat), TL.joinL [] ls = ls.flatten
  | [] => rfl
  | [x] => by simp [TL.joinL]
  | x :: y :: l => by
    have := joinL_flat (y :: l)
    show x ++ ([] ++ TL.joinL [] (y :: l)) = _
    rw [this]
    rfl
theorem join_cmds (cs : List Cmd) : Txt.join (Str.ofString "") (cs.map Cmd.str) = blockS cs := str_ext (by
  have he : TL.tl (Str.ofString "") = [] := by decide +kernel
  show TL.tl _ = txtsP cs
  rw [TL.join_eq, TL.tl_join, he, List.map_map, joinL_flat]
  show _ = cs.flatMap Cmd.txt
  rw [List.flatMap_def]
  rfl)
theorem txt_lt {c : Cmd} (h : okC c) : ∀ x ∈ c.txt, x < 128 := by
  have k : ∀ {n : Int}, okNum n → ∀ x ∈ intL n, x < 128 := fun h x hx => dig_lt (intL_dig h x hx)
  intro x hx
  cases c <;> simp only [Cmd.txt, List.mem_cons, List.mem_append, List.not_mem_nil, or_false] at hx
  · rcases hx with rfl | hx | rfl | hx | rfl | hx
    · decide
    · exact k h.1 x hx
    · decide
    · exact k h.2.1 x hx
    · decide
    · exact k h.2.2 x hx
  · rcases hx with rfl | hx | rfl | hx
    · decide
    · exact k h.1 x hx
    · decide
    · exact k h.2 x hx
  · rcases hx with rfl | hx | rfl | hx | rfl
    · decide
    · exact k h.1 x hx
    · decide
    · exact code_lt (h.2 x hx)
    · decide
  · rcases hx with rfl | hx | rfl | hx | rfl | hx
    · decide
    · exact k h.1 x hx
    · decide
    · exact k h.2.1 x hx
    · decide
    · exact k h.2.2 x hx
theorem blockS_ok {cs : List Cmd} (h : ∀ c ∈ cs, okC c) : PyData.strOk (blockS cs) = true := strOk_of fun x hx => by
  have hx : x ∈ txtsP cs := hx
  obtain ⟨c, hc, hx⟩ := List.mem_flatMap.mp hx
  have := txt_lt (h c hc) x hx
  omega
end Toy

/-! commands that are no commands -/
namespace Toy
open PySem L2 DL
def Cmd.setA : Cmd → Int → Cmd
  | .p _ b n, a => .p a b n
  | .w _ n, a => .w a n
  | .d _ s, a => .d a s
  | .k _ b n, a => .k a b n
def isD : Cmd → Bool
  | .d _ _ => true
  | _ => false
def Cmd.code : Cmd → Str
  | .d _ s => s
  | _ => ""
def Cmd.one : Cmd → Int
  | .p a _ _ => a
  | .w a _ => a
  | .d a _ => a
  | .k a _ _ => a
def Cmd.rest : Cmd → Prop
  | .p _ b n => okNum b ∧ okNum n
  | .w _ n => okNum n
  | .d _ s => s.length ≤ 1000
  | .k _ b n => okNum b ∧ okNum n
/-- a command whose first number or code may be wrong -/
def Near (c : Cmd) : Prop := smallI c.one ∧ okT c ∧ c.rest
theorem near_small {c : Cmd} (h : Near c) : smallC c := by
  obtain ⟨h1, h2, h3⟩ := h
  cases c
  · exact ⟨h1, small_ok h3.1, small_ok h3.2⟩
  · exact ⟨h1, small_ok h3⟩
  · exact ⟨h1, h3⟩
  · exact ⟨h1, small_ok h3.1, small_ok h3.2⟩
theorem near_of {c : Cmd} (h : okC c) (hs : smallC c) : Near c := by
  cases c
  · exact ⟨small_ok h.1, trivial, h.2⟩
  · exact ⟨small_ok h.1, trivial, h.2⟩
  · exact ⟨small_ok h.1, okT_of h, hs.2⟩
  · exact ⟨small_ok h.1, trivial, h.2⟩
theorem near_ok {c : Cmd} (h : Near c) : okC c ↔ okNum c.one ∧ okCode c.code := by
  obtain ⟨h1, h2, h3⟩ := h
  have e : okCode "" := fun x hx => by
    rw [show (Str.ofString "").cps.toList = [] from by decide +kernel] at hx
    cases hx
  cases c
  · exact ⟨fun k => ⟨k.1, e⟩, fun k => ⟨k.1, h3⟩⟩
  · exact ⟨fun k => ⟨k.1, e⟩, fun k => ⟨k.1, h3⟩⟩
  · exact Iff.rfl
  · exact ⟨fun k => ⟨k.1, e⟩, fun k => ⟨k.1, h3⟩⟩
theorem near_set {c : Cmd} {a : Int} (h : Near c) (ha : smallI a) : Near (c.setA a) := by
  obtain ⟨h1, h2, h3⟩ := h
  cases c <;> exact ⟨ha, h2, h3⟩
theorem near_code {a : Int} {s : Str} (ha : smallI a) (hs : PyData.strOk s = true) (hl : s.length ≤ 1000) : Near (.d a s) := ⟨ha, hs, hl⟩
theorem fold_mem : ∀ (l : List (Array Nat)) (acc : Array Nat) (x : Nat), x ∈ (l.foldl (· ++ ·) acc).toList → x ∈ acc.toList ∨ ∃ y ∈ l, x ∈ y.toList
  | [], acc, x, h => .inl h
  | y :: l, acc, x, h => by
    rw [List.foldl_cons] at h
    rcases fold_mem l (acc ++ y) x h with k | ⟨z, hz, k⟩
    · rw [Array.toList_append, List.mem_append] at k
      rcases k with k | k
      · exact .inl k
      · exact .inr ⟨y, by simp, k⟩
    · exact .inr ⟨z, by simp [hz], k⟩
theorem repS_mem {a : Str} {n : Int} {x : Nat} (h : x ∈ (repS a n).cps.toList) : x ∈ a.cps.toList := by
  rcases fold_mem _ _ _ h with k | ⟨y, hy, k⟩
  · exact absurd k (by simp)
  · rw [(List.mem_replicate.mp hy).2] at k
    exact k
theorem repS_len {a : Str} {n : Int} : (repS a n).length = n.toNat * a.length := by
  unfold repS
  show (List.foldl (· ++ ·) #[] (List.replicate n.toNat a.cps)).size = _
  rw [foldl_size, List.map_replicate, List.sum_replicate_nat]
  simp [Str.length]
/-- a text's commands are this one exactly if it is valid -/
theorem coms_is {c : Cmd} : comsP c.str.cps.toList = [c] ↔ okC c := by
  constructor
  · intro h
    rcases coms_of c.str with k | ⟨_, k⟩
    · rw [h] at k
      cases k
    · rw [h] at k
      exact (k c (by simp)).1
  · exact coms_one
instance : DecidablePred okC := fun c => by
  cases c <;> (unfold okC okCode okNum; infer_instance)
def rightP (c : Cmd) : Bool := decide (okC c ∧ c.str.length ≤ 60)
end Toy

/-! what restore reads, line by line -/
namespace Toy
open PySem L2 DL
def badL (who : Int) (ss : List Stm) (l : Let) : Bool := decide (l.who ≠ who) || (ss.find? fun e => clash e l.st).isSome || decide (l.st ∈ ss)
def restP (who : Int) : List Stm → Nat → List Str → Except Nat (List Stm)
  | ss, _, [] => .ok ss
  | ss, i, z :: zs => match readP (wordsL z) with
    | .error _ => match zs with
      | [] => .ok ss
      | _ :: _ => .error i
    | .ok l => if badL who ss l = true then .error i else restP who (ss ++ [l.st]) (i + 1) zs
theorem name_ok {b : Option Str} (h : ∀ x, b = some x → isName x = true) : okB b := fun x hx => strOk_of fun c hc => by
  have h := h x hx
  unfold isName at h
  split at h
  · cases h
  · rename_i d ds e
    rw [e] at hc
    simp only [Bool.and_eq_true] at h
    have := lets_lt (List.all_eq_true.mp h.2 c hc)
    omega
theorem read_okB {ws : List Str} {l : Let} (h : readP ws = .ok l) : okB l.st.b := name_ok fun x hx => (read_b h x hx).2
theorem restP_good {who : Int} {ss : List Stm} {i : Nat} {l : Let} {zs : List Str} {z : Str} (h : readP (wordsL z) = .ok l) (hb : badL who ss l = false) : restP who ss i (z :: zs) = restP who (ss ++ [l.st]) (i + 1) zs := by
  cases zs <;> simp [restP, h, hb]
theorem restP_bad {who : Int} {ss : List Stm} {i : Nat} {l : Let} {zs : List Str} {z : Str} (h : readP (wordsL z) = .ok l) (hb : badL who ss l = true) : restP who ss i (z :: zs) = .error i := by
  cases zs <;> simp [restP, h, hb]
theorem restP_torn {who : Int} {ss : List Stm} {i j : Nat} {zs : List Str} {z : Str} (h : readP (wordsL z) = .error j) : restP who ss i (z :: zs) = if zs = [] then .ok ss else .error i := by
  cases zs <;> simp [restP, h]
/-- no two of them clash, none stands twice -/
def Apart (ss : List Stm) : Prop := ss.Pairwise fun s t => s ≠ t ∧ clash s t = false
theorem apart_snoc {ss : List Stm} (h : Apart ss) {s : Stm} (hf : (ss.find? fun e => clash e s) = none) (hn : s ∉ ss) : Apart (ss ++ [s]) := by
  refine List.pairwise_append.mpr ⟨h, by simp, fun a ha b hb => ?_⟩
  rw [List.mem_singleton.mp hb]
  refine ⟨fun e => hn (e ▸ ha), ?_⟩
  have := List.find?_eq_none.mp hf a ha
  simpa using this
theorem line_ok1 {l : Let} (h : GoodL l) : (lineP l.who l.st).length ≤ 1000 := by
  obtain ⟨h1, h2, _⟩ := wordsP_len h.small
  have h3 := sum_len h1
  have h4 := Nat.mul_le_mul_right (60 + 9) h2
  have h5 : ∀ ws : List Str, (PySem.Str.join " " ws).length ≤ (ws.map Str.length).sum + ws.length * 1 := by
    intro ws
    induction ws with
    | nil => simp [PySem.Str.join, PySem.Str.empty, Str.length]
    | cons x r ih =>
      cases r with
      | nil => show x.length ≤ _; simp
      | cons z r =>
        show (x ++ " " ++ PySem.Str.join " " (z :: r)).length ≤ _
        rw [PySem.Str.length_append, PySem.Str.length_append, List.map_cons, List.sum_cons, List.length_cons, Nat.succ_mul, show (Str.ofString " ").length = 1 by decide +kernel]
        omega
  have h6 := h5 (wordsP l.who l.st)
  unfold lineP
  rw [TL.join_eq]
  omega
theorem line_ok {l : Let} (h : GoodL l) : (lineP l.who l.st).length ≤ 800000 := Nat.le_trans (line_ok1 h) (by omega)
theorem menu_name (k : Nat) : ∀ x, menuB k = some x → isName x = true := fun x h => by
  rcases k with _ | _ | _ | _ | _ | k
  · cases h; decide +kernel
  · cases h; decide +kernel
  · cases h; decide +kernel
  · cases h; decide +kernel
  · cases h
  · cases h
theorem menu_len (k : Nat) : ∀ x, menuB k = some x → x.length ≤ 60 := fun x h => by
  rcases k with _ | _ | _ | _ | _ | k
  · cases h; decide +kernel
  · cases h; decide +kernel
  · cases h; decide +kernel
  · cases h; decide +kernel
  · cases h
  · cases h
theorem stm_good' {who : Int} (g h : Int) (w0 : 0 ≤ who) (w1 : who < 1000000000) (h0 : 0 ≤ h) (h1 : h < 1000) : GoodL ⟨who, stm g h⟩ := by
  have t0 : 0 ≤ g / 5 % 4 := by omega
  have t1 : g / 5 % 4 < 4 := by omega
  unfold stm
  split
  · exact ⟨⟨w0, by show who < (1000000000 : Int); omega, h0, by show h < (1000000000 : Int); omega, t0, by show g / 5 % 4 < (1000000000 : Int); omega, (fun y hy => nomatch hy), menu_len _⟩, menu_name _, trivial⟩
  · have hy : ∀ y, (if menuB (g % 5).toNat ≠ none ∧ 0 < g / 5 % 4 ∧ g / 40 % 2 = 1 then some (g / 80 % (g / 5 % 4)) else none) = some y → 0 ≤ y ∧ y < g / 5 % 4 := fun y hy => by
      split at hy
      · rename_i hc
        cases hy
        exact ⟨Int.emod_nonneg _ (by omega), Int.emod_lt_of_pos _ hc.2.1⟩
      · cases hy
    exact ⟨⟨w0, by show who < (1000000000 : Int); omega, h0, by show h < (1000000000 : Int); omega, t0, by show g / 5 % 4 < (1000000000 : Int); omega, (fun y e => by have := hy y e; omega), menu_len _⟩, menu_name _, fun z e => (hy z e).2⟩
theorem stm_good {who : Int} (g h : Int) (w0 : 0 ≤ who) (w1 : who < 1000) (h0 : 0 ≤ h) (h1 : h < 1000) : GoodL ⟨who, stm g h⟩ := stm_good' g h w0 (by omega) h0 h1
theorem apart_all {ss : List Stm} (h : Apart ss) {s : Stm} (hs : s ∈ ss) : ss.find? (fun e => clash e s) = none := by
  refine List.find?_eq_none.mpr fun e he => ?_
  by_cases k : e = s
  · rw [k, clash_self]
    decide
  · have hp : ∀ l : List Stm, Apart l → ∀ e ∈ l, ∀ s ∈ l, e ≠ s → clash e s = false := by
      intro l
      induction l with
      | nil => intro _ e he; cases he
      | cons x xs ih =>
        intro h e he s hs n
        obtain ⟨h1, h2⟩ := List.pairwise_cons.mp h
        rcases List.mem_cons.mp he with e1 | he
        · rcases List.mem_cons.mp hs with e2 | hs
          · exact absurd (e1.trans e2.symm) n
          · rw [e1]
            exact (h1 _ hs).2
        · rcases List.mem_cons.mp hs with e2 | hs
          · rw [e2, clash_comm]
            exact (h1 _ he).2
          · exact ih h2 _ he _ hs n
    rw [hp ss h e he s hs k]
    decide
theorem read_stm {who : Int} (g h : Int) (w0 : 0 ≤ who) (w1 : who < 1000) (h0 : 0 ≤ h) (h1 : h < 1000) : readP (wordsL (lineP who (stm g h))) = .ok ⟨who, stm g h⟩ := read_back (l := ⟨who, stm g h⟩) (stm_good g h w0 w1 h0 h1)
def kindW (b : Bool) : Str := if b = true then "prevote" else "precommit"
theorem kindS (g h : Int) : ∃ b : Bool, ∃ p q : D, ∃ ps : List D, (stm g h).parts = .str (kindW b) :: p :: q :: ps := by
  unfold stm
  split
  · exact ⟨false, _, _, _, rfl⟩
  · exact ⟨true, _, _, _, rfl⟩
def headL (who : Nat) (b : Bool) : List Nat := TL.numL who ++ 32 :: (kindW b).cps.toList
theorem line_take {who : Nat} (g h : Int) {n : Nat} (hn : n ≤ 9) : ∃ b : Bool, (lineP (who : Int) (stm g h)).cps.toList.take n = (headL who b).take n := by
  obtain ⟨b, p, q, ps, e⟩ := kindS g h
  refine ⟨b, ?_⟩
  have h7 : 7 ≤ (kindW b).cps.toList.length := by cases b <;> decide +kernel
  have h1 : 1 ≤ (TL.numL who).length := List.length_pos_iff.mpr (TL.numL_ne who)
  have el : (lineP (who : Int) (stm g h)).cps.toList = headL who b ++ 32 :: (PySem.Str.join " " (partS p :: (q :: ps).map partS)).cps.toList := by
    unfold lineP wordsP
    rw [e, TL.join_eq]
    show TL.tl ((toString ((who : Nat) : Int) : Str) ++ " " ++ (kindW b ++ " " ++ PySem.Str.join " " (partS p :: (q :: ps).map partS))) = _
    rw [TL.tl_append, TL.tl_append, TL.tl_append, TL.tl_append, blank_l, TL.tl_num]
    unfold headL
    simp only [List.append_assoc, List.cons_append, List.nil_append]
    first | done | rfl
  rw [el]
  exact List.take_append_of_le_length (by unfold headL; rw [List.length_append, List.length_cons]; omega)
def errB {α β : Type} : Except α β → Bool
  | .error _ => true
  | .ok _ => false
theorem heads : ∀ who : Fin 17, ∀ b : Bool, ∀ n : Fin 9, errB (readP (wordsL ⟨((headL who.val b).take (n.val + 1)).toArray⟩)) = true := by decide +kernel
theorem torn_read {who : Int} (g h : Int) (w0 : 0 ≤ who) (w1 : who ≤ 16) (x : Int) : ∃ j, readP (wordsL (cutS (lineP who (stm g h)) none (some (1 + x % 9)))) = .error j := by
  obtain ⟨w, rfl⟩ := Int.eq_ofNat_of_zero_le w0
  have hx0 : 0 ≤ x % 9 := Int.emod_nonneg _ (by decide)
  have hx1 : x % 9 < 9 := Int.emod_lt_of_pos _ (by decide)
  obtain ⟨n, hn⟩ := Int.eq_ofNat_of_zero_le hx0
  have e1 : 1 + x % 9 = ((n + 1 : Nat) : Int) := by omega
  obtain ⟨b, hb⟩ := line_take (who := w) g h (n := n + 1) (by omega)
  have e : cutS (lineP (w : Int) (stm g h)) none (some (1 + x % 9)) = ⟨((headL w b).take (n + 1)).toArray⟩ := str_ext (by rw [e1, take_lt, hb])
  have k := heads ⟨w, by omega⟩ b ⟨n, by omega⟩
  rw [e]
  dsimp only at k
  generalize readP (wordsL ⟨((headL w b).take (n + 1)).toArray⟩) = r at k
  cases r with
  | error j => exact ⟨j, rfl⟩
  | ok l => cases k
/-! k07's own bookkeeping -/
def keyP (who : Int) (cl : Bool) (zs : List Str) (ss : List Stm) : Option (Nat × Bool) → Prop
  | none => ∀ rest, restP who [] 0 (zs ++ rest) = restP who ss zs.length rest
  | some (b, last) => cl = false ∧ ∃ pre z post sb, zs = pre ++ z :: post ∧ pre.length = b ∧ (∀ rest, restP who [] 0 (pre ++ rest) = restP who sb b rest) ∧
      (match last with | true => (∃ j, readP (wordsL z) = .error j) ∧ (post = [] → ss = sb) | false => ∃ l, readP (wordsL z) = .ok l ∧ badL who sb l = true)
def badD : Option (Nat × Bool) → D
  | none => .non
  | some x => .int x.1
theorem keyP_nil (who : Int) (cl : Bool) : keyP who cl [] [] none := fun _ => rfl
theorem keyP_good {who : Int} {cl : Bool} {zs : List Str} {ss : List Stm} {z : Str} {l : Let} (h : keyP who cl zs ss none) (hr : readP (wordsL z) = .ok l) (hb : badL who ss l = false) : keyP who cl (zs ++ [z]) (ss ++ [l.st]) none := fun rest => by
  rw [List.append_assoc, h, List.length_append]
  exact restP_good hr hb
theorem keyP_some {who : Int} {cl : Bool} {zs : List Str} {ss ss' : List Stm} {b : Nat} {last : Bool} (z : Str) (h : keyP who cl zs ss (some (b, last))) : keyP who cl (zs ++ [z]) ss' (some (b, last)) := by
  obtain ⟨hc, pre, y, post, sb, rfl, hl, hp, hm⟩ := h
  refine ⟨hc, pre, y, post ++ [z], sb, by simp, hl, hp, ?_⟩
  cases last with
  | true => exact ⟨hm.1, fun e => absurd e (by simp)⟩
  | false => exact hm
theorem keyP_torn {who : Int} {zs : List Str} {ss : List Stm} {z : Str} {j : Nat} (h : keyP who false zs ss none) (hr : readP (wordsL z) = .error j) : keyP who false (zs ++ [z]) ss (some (zs.length, true)) :=
  ⟨rfl, zs, z, [], ss, rfl, rfl, h, ⟨j, hr⟩, fun _ => rfl⟩
theorem keyP_bad {who : Int} {zs : List Str} {ss : List Stm} {z : Str} {l : Let} (h : keyP who false zs ss none) (hr : readP (wordsL z) = .ok l) (hb : badL who ss l = true) : keyP who false (zs ++ [z]) ss (some (zs.length, false)) :=
  ⟨rfl, zs, z, [], ss, rfl, rfl, h, l, hr, hb⟩
theorem keyP_end {who : Int} {cl : Bool} {zs : List Str} {ss : List Stm} (h : keyP who cl zs ss none) : restP who [] 0 zs = .ok ss := by
  have := h []
  rw [List.append_nil] at this
  rw [this, restP]
theorem keyP_endT {who : Int} {cl : Bool} {zs : List Str} {ss : List Stm} {z : Str} {j : Nat} (h : keyP who cl zs ss none) (hr : readP (wordsL z) = .error j) : restP who [] 0 (zs ++ [z]) = .ok ss := by
  rw [h, restP_torn hr]
  rfl
def endD : Option Nat → D
  | none => .non
  | some b => .int b
def endR (ss : List Stm) : Option Nat → Except Nat (List Stm)
  | none => .ok ss
  | some b => .error b
theorem menu_torn (x : Int) : ∃ z : Str, atI [D.str "0 prevote", D.str "", D.str "9 precommit 0 0", D.str "0 prevote 0 1 a 1"] (x % 4) = some (.str z) ∧ z.length ≤ 800000 ∧ PyData.strOk z = true ∧ ∃ i, readP (wordsL z) = .error i := by
  have h1 : 0 ≤ x % 4 := Int.emod_nonneg _ (by decide)
  have h2 : x % 4 < 4 := Int.emod_lt_of_pos _ (by decide)
  generalize x % 4 = y at h1 h2
  obtain ⟨n, rfl⟩ := Int.eq_ofNat_of_zero_le h1
  have : n = 0 ∨ n = 1 ∨ n = 2 ∨ n = 3 := by omega
  rcases this with rfl | rfl | rfl | rfl
  · exact ⟨"0 prevote", atI_nat rfl, by decide +kernel, by decide +kernel, 2, by kernel_rfl⟩
  · exact ⟨"", atI_nat rfl, by decide +kernel, by decide +kernel, 0, by rfl⟩
  · exact ⟨"9 precommit 0 0", atI_nat rfl, by decide +kernel, by decide +kernel, 4, by kernel_rfl⟩
  · exact ⟨"0 prevote 0 1 a 1", atI_nat rfl, by decide +kernel, by decide +kernel, 5, by kernel_rfl⟩
theorem keyP_out {who : Int} {cl : Bool} {zs : List Str} {ss : List Stm} {b : Nat} {last : Bool} (h : keyP who cl zs ss (some (b, last))) : restP who [] 0 zs = if b + 1 = zs.length ∧ last = true then .ok ss else .error b := by
  obtain ⟨hc, pre, y, post, sb, rfl, hl, hp, hm⟩ := h
  rw [hp]
  cases last with
  | false =>
    obtain ⟨l, hr, hb⟩ := hm
    rw [restP_bad hr hb, if_neg (by simp)]
  | true =>
    obtain ⟨⟨j, hr⟩, he⟩ := hm
    rw [restP_torn hr, List.length_append, List.length_cons]
    cases post with
    | nil => rw [if_pos rfl, if_pos ⟨by simp; omega, rfl⟩, he rfl]
    | cons x xs => rw [if_neg (by simp), if_neg (by simp; omega)]
/-! what is signed, one after the other (k37) -/
def sign1 (ss : List Stm) (s : Stm) : List Stm := if (ss.find? fun e => clash e s).isSome ∨ s ∈ ss then ss else ss ++ [s]
def drawS (c : Int) : Stm := stm c (c % 7 / 6)
def signedP (ss : List Stm) (cs : List Int) : List Stm := cs.foldl (fun ss c => sign1 ss (drawS c)) ss
theorem signedP_snoc (ss : List Stm) (cs : List Int) (c : Int) : signedP ss (cs ++ [c]) = sign1 (signedP ss cs) (drawS c) := by
  unfold signedP
  rw [List.foldl_append]
  rfl
theorem sign1_apart {ss : List Stm} (h : Apart ss) (s : Stm) : Apart (sign1 ss s) := by
  unfold sign1
  split
  · exact h
  · rename_i hn
    exact apart_snoc h (by
      cases e : ss.find? (fun e => clash e s) with
      | none => rfl
      | some x => exact absurd (.inl (by rw [e]; rfl)) hn) fun hm => hn (.inr hm)
theorem sign1_mem {ss : List Stm} {s x : Stm} (h : x ∈ sign1 ss s) : x ∈ ss ∨ x = s := by
  unfold sign1 at h
  split at h
  · exact .inl h
  · simpa using h
theorem signed_apart {ss : List Stm} (h : Apart ss) (cs : List Int) : Apart (signedP ss cs) := by
  unfold signedP
  induction cs generalizing ss with
  | nil => exact h
  | cons c cs ih => exact ih (sign1_apart h _)
theorem signed_pre (ss : List Stm) (cs : List Int) : ∃ more, signedP ss cs = ss ++ more ∧ more.length ≤ cs.length := by
  unfold signedP
  induction cs generalizing ss with
  | nil => exact ⟨[], by simp, Nat.le_refl _⟩
  | cons c cs ih =>
    obtain ⟨more, e, hl⟩ := ih (sign1 ss (drawS c))
    rw [List.foldl_cons, e]
    unfold sign1
    split
    · exact ⟨more, rfl, Nat.le_succ_of_le hl⟩
    · exact ⟨drawS c :: more, by simp, by simp; omega⟩
theorem signed_mem {P : Stm → Prop} {ss : List Stm} (h : ∀ x ∈ ss, P x) (hd : ∀ c, P (drawS c)) (cs : List Int) : ∀ x ∈ signedP ss cs, P x := by
  unfold signedP
  induction cs generalizing ss with
  | nil => exact h
  | cons c cs ih =>
    refine ih (ss := sign1 ss (drawS c)) fun x hx => ?_
    rcases sign1_mem hx with hx | rfl
    · exact h x hx
    · exact hd c
theorem apart_take {ss : List Stm} (h : Apart ss) (n : Nat) : Apart (ss.take n) := List.Pairwise.sublist (List.take_sublist n ss) h
theorem apart_at {ss : List Stm} (h : Apart ss) {i : Nat} (hi : i < ss.length) : (ss.take i).find? (fun e => clash e ss[i]) = none ∧ ss[i] ∉ ss.take i := by
  have e : ss = ss.take i ++ ss[i] :: ss.drop (i + 1) := by rw [← List.drop_eq_getElem_cons hi, List.take_append_drop]
  unfold Apart at h
  generalize hx : ss[i] = x at e
  generalize ss.take i = pre at e ⊢
  rw [e, List.pairwise_append] at h
  have h2 := fun y hy => h.2.2 y hy x (by simp)
  exact ⟨List.find?_eq_none.mpr fun y hy => by rw [(h2 y hy).2]; decide, fun hm => (h2 x hm).1 rfl⟩
/-- whole lines are read back -/
theorem restP_lines {who : Int} {ss : List Stm} (hg : ∀ s ∈ ss, GoodL ⟨who, s⟩) (ha : Apart ss) (w : Nat) (hw : w ≤ ss.length) : ∀ zs : List Str, restP who [] 0 ((ss.take w).map (lineP who) ++ zs) = restP who (ss.take w) w zs := by
  induction w with
  | zero => intro zs; rw [List.take_zero]; rfl
  | succ w ih =>
    intro zs
    obtain ⟨h1, h2⟩ := apart_at ha hw
    have hr := read_back (hg _ (List.getElem_mem hw))
    have e : ss.take (w + 1) = ss.take w ++ [ss[w]] := by rw [List.take_succ, List.getElem?_eq_getElem hw]; rfl
    have hb : badL who (ss.take w) ⟨who, ss[w]⟩ = false := by unfold badL; dsimp only; rw [h1]; simp [h2]
    generalize ss[w] = s at hr e hb
    rw [e, List.map_append, List.append_assoc]
    refine (ih (Nat.le_of_lt hw) _).trans ?_
    exact restP_good hr hb
def noNl (z : Str) : Prop := 10 ∉ z.cps.toList
theorem spl_cut : ∀ (ps : List (List Nat)) (k : Nat), (∀ p ∈ ps, 10 ∉ p) → ps ≠ [] →
    ∃ w j, w < ps.length ∧ TL.spl [10] 0 [] ((TL.joinL [10] ps).take k) = ps.take w ++ [(ps.getD w []).take j]
  | [], _, _, h => absurd rfl h
  | [p], k, h, _ => by
    refine ⟨0, k, Nat.zero_lt_one, ?_⟩
    show TL.spl [10] 0 [] (p.take k) = [p.take k]
    rw [TL.spl_last1 (fun hm => h p (by simp) (List.mem_of_mem_take hm)), List.nil_append]
  | p :: q :: r, k, h, _ => by
    have hp := h p (by simp)
    have e : TL.joinL [10] (p :: q :: r) = p ++ ([10] ++ TL.joinL [10] (q :: r)) := rfl
    rw [e]
    by_cases hk : k ≤ p.length
    · refine ⟨0, k, by simp, ?_⟩
      rw [List.take_append_of_le_length hk, TL.spl_last1 (fun hm => hp (List.mem_of_mem_take hm)), List.nil_append]
      rfl
    · obtain ⟨w, j, hw, ih⟩ := spl_cut (q :: r) (k - p.length - 1) (fun x hx => h x (List.mem_cons_of_mem _ hx)) (by simp)
      refine ⟨w + 1, j, by simpa using hw, ?_⟩
      have e2 : (p ++ ([10] ++ TL.joinL [10] (q :: r))).take k = p ++ (10 :: [] ++ (TL.joinL [10] (q :: r)).take (k - p.length - 1)) := by
        rw [List.take_append, List.take_of_length_le (by omega)]
        congr 1
        obtain ⟨n, hn⟩ : ∃ n, k - p.length = n + 1 := ⟨k - p.length - 1, by omega⟩
        rw [hn]
        rfl
      rw [e2, TL.spl_part1 hp, ih, List.nil_append]
      rfl
def nlS : Str := Str.ofString "\n"
theorem nl_l : TL.tl nlS = [10] := by decide +kernel
theorem split_nl (z : Str) : (Txt.split z nlS).map TL.tl = TL.spl [10] 0 [] (TL.tl z) := by
  have := TL.split_spl z nlS (by rw [nl_l]; simp) (TL.kind_ok (by decide +kernel))
  rw [nl_l] at this
  exact this
theorem tls_inj : ∀ {xs ys : List Str}, xs.map TL.tl = ys.map TL.tl → xs = ys
  | [], [], _ => rfl
  | [], _ :: _, h => nomatch h
  | _ :: _, [], h => nomatch h
  | x :: xs, y :: ys, h => by
    rw [List.map_cons, List.map_cons, List.cons.injEq] at h
    rw [str_ext h.1, tls_inj h.2]
theorem cut_split {ls : List Str} (h : ∀ z ∈ ls, noNl z) (hne : ls ≠ []) (k : Nat) : ∃ w j : Nat, w < ls.length ∧ Txt.split (cutS (Txt.join nlS ls) none (some (k : Int))) nlS = ls.take w ++ [cutS (ls.getD w "") none (some (j : Int))] := by
  obtain ⟨w, j, hw, e⟩ := spl_cut (ls.map TL.tl) k (fun p hp => by
    obtain ⟨z, hz, rfl⟩ := List.mem_map.mp hp
    exact h z hz) (by simpa using hne)
  rw [List.length_map] at hw
  refine ⟨w, j, hw, tls_inj ?_⟩
  rw [split_nl, show TL.tl (cutS (Txt.join nlS ls) none (some (k : Int))) = (TL.tl (Txt.join nlS ls)).take k from take_lt, TL.join_eq, TL.tl_join, nl_l, e, List.map_append, List.map_take, List.map_cons, List.map_nil]
  congr 2
  rw [show TL.tl (cutS (ls.getD w "") none (some (j : Int))) = (TL.tl (ls.getD w "")).take j from take_lt]
  congr 1
  rw [List.getD_eq_getElem?_getD, List.getD_eq_getElem?_getD, List.getElem?_map, List.getElem?_eq_getElem hw]
  rfl
theorem split_empty : Txt.split (Str.ofString "") nlS = [Str.ofString ""] := by kernel_rfl
theorem empty_bad : ∃ j, readP (wordsL (Str.ofString "")) = .error j := ⟨0, by rfl⟩
theorem name_free10 {w : Str} (h : isName w = true) : 10 ∉ w.cps.toList := fun hm => by
  unfold isName at h
  split at h
  · cases h
  · rename_i c cs e
    rw [e] at hm
    simp only [Bool.and_eq_true] at h
    have := List.all_eq_true.mp h.2 10 hm
    revert this
    decide
theorem nl_free {l : Let} (h : GoodL l) : ∀ w ∈ wordsP l.who l.st, 10 ∉ w.cps.toList := by
  have hi : ∀ i : Int, 10 ∉ (toString i : Str).cps.toList := fun i => PyProof.Rows.int_text_free' 10 ⟨by decide, by decide⟩ i
  have hb : ∀ b : Option Str, (∀ x, b = some x → isName x = true) → 10 ∉ (partS (obD b)).cps.toList := fun b hx => by
    cases b with
    | none => show 10 ∉ (Str.ofString "-").cps.toList; decide +kernel
    | some x => exact name_free10 (hx x rfl)
  have hl : ∀ y : Option Int, 10 ∉ (partS (oiD y)).cps.toList := fun y => by
    cases y with
    | none => show 10 ∉ (Str.ofString "-").cps.toList; decide +kernel
    | some y => exact hi y
  have k1 : 10 ∉ (Str.ofString "proposal").cps.toList := by decide +kernel
  have k2 : 10 ∉ (Str.ofString "prevote").cps.toList := by decide +kernel
  have k3 : 10 ∉ (Str.ofString "precommit").cps.toList := by decide +kernel
  obtain ⟨who, st⟩ := l
  have hn := h.name
  intro w hw
  cases st with
  | pro h' t' b' =>
    simp only [wordsP, Stm.parts, List.map_cons, List.map_nil, List.mem_cons, List.not_mem_nil, or_false] at hw
    rcases hw with rfl | rfl | rfl | rfl | rfl
    · exact hi _
    · exact k1
    · exact hi _
    · exact hi _
    · exact hb _ hn
  | vote h' t' b' l' =>
    simp only [wordsP, Stm.parts, List.map_cons, List.map_nil, List.mem_cons, List.not_mem_nil, or_false] at hw
    rcases hw with rfl | rfl | rfl | rfl | rfl | rfl
    · exact hi _
    · exact k2
    · exact hi _
    · exact hi _
    · exact hb _ hn
    · exact hl _
  | com h' t' b' =>
    simp only [wordsP, Stm.parts, List.map_cons, List.map_nil, List.mem_cons, List.not_mem_nil, or_false] at hw
    rcases hw with rfl | rfl | rfl | rfl | rfl
    · exact hi _
    · exact k3
    · exact hi _
    · exact hi _
    · exact hb _ hn
theorem joinL_mem {S : List Nat} {c : Nat} : ∀ {ps : List (List Nat)}, c ∈ TL.joinL S ps → c ∈ S ∨ ∃ p ∈ ps, c ∈ p
  | [], h => nomatch h
  | [p], h => .inr ⟨p, by simp, h⟩
  | p :: q :: r, h => by
    have h : c ∈ p ++ (S ++ TL.joinL S (q :: r)) := h
    rcases List.mem_append.mp h with h | h
    · exact .inr ⟨p, by simp, h⟩
    rcases List.mem_append.mp h with h | h
    · exact .inl h
    rcases joinL_mem h with h | ⟨x, hx, h⟩
    · exact .inl h
    · exact .inr ⟨x, List.mem_cons_of_mem _ hx, h⟩
/-- a written line has no line feed -/
theorem lineP_noNl {l : Let} (h : GoodL l) : noNl (lineP l.who l.st) := fun hm => by
  have hm : 10 ∈ TL.tl (Txt.join " " (wordsP l.who l.st)) := hm
  rw [TL.join_eq, TL.tl_join] at hm
  rcases joinL_mem hm with hm | ⟨p, hp, hm⟩
  · rw [blank_l] at hm
    exact absurd hm (by decide)
  · obtain ⟨w, hw, rfl⟩ := List.mem_map.mp hp
    exact nl_free h w hw hm
theorem join_len0 {sep : Str} (hs : sep.length ≤ 1) (ws : List Str) : (PySem.Str.join sep ws).length ≤ (ws.map Str.length).sum + ws.length := by
  induction ws with
  | nil => simp [PySem.Str.join, PySem.Str.empty, Str.length]
  | cons x r ih =>
    cases r with
    | nil => show x.length ≤ _; simp
    | cons z r =>
      show (x ++ sep ++ PySem.Str.join sep (z :: r)).length ≤ _
      rw [PySem.Str.length_append, PySem.Str.length_append, List.map_cons, List.sum_cons, List.length_cons]
      omega
theorem join_len {c : Nat} {sep : Str} (hs : sep.length ≤ 1) (ws : List Str) (h : ∀ w ∈ ws, w.length ≤ c) : (PySem.Str.join sep ws).length ≤ ws.length * c + ws.length :=
  Nat.le_trans (join_len0 hs ws) (Nat.add_le_add_right (sum_len h) _)
theorem good_okB {who : Int} {s : Stm} (h : GoodL ⟨who, s⟩) : okB s.b := name_ok h.name
theorem outcome {who : Int} {S : List Stm} {w wh : Nat} {z : Str} (hS : ∀ s ∈ S, GoodL ⟨who, s⟩) (hA : Apart S) (hw : w ≤ S.length)
    (h1 : (wh = w ∧ ∀ h : w < S.length, z ≠ lineP who S[w]) ∨ (wh = w + 1 ∧ ∃ h : w < S.length, z = lineP who S[w])) :
    match restP who [] 0 ((S.take w).map (lineP who) ++ [z]) with
    | .error i => i = w ∧ wh = w ∧ z ≠ Str.ofString ""
    | .ok S' => Apart S' ∧ (∀ x ∈ S', okB x.b) ∧ S'.length ≤ wh + 1 ∧ wh ≤ S'.length ∧ wh ≤ S.length ∧ S'.take wh = S.take wh ∧ (wh < S'.length → wh = w) := by
  rw [restP_lines hS hA w hw]
  have hzl : ∀ h : w < S.length, z = lineP who S[w] → readP (wordsL z) = .ok ⟨who, S[w]⟩ := fun h e => by
    rw [e]
    exact read_back (l := ⟨who, S[w]⟩) (hS _ (List.getElem_mem h))
  have hat := apart_take hA w
  have hok : ∀ x ∈ S.take w, okB x.b := fun x hx => good_okB (hS x (List.mem_of_mem_take hx))
  have hlt : (S.take w).length = w := by rw [List.length_take]; omega
  cases hr : readP (wordsL z) with
  | error j =>
    rw [restP_torn hr, if_pos rfl]
    have e : wh = w := by
      rcases h1 with h1 | ⟨_, h, e⟩
      · exact h1.1
      · have k := (hzl h e).symm.trans hr
        cases k
    subst e
    refine ⟨hat, hok, by omega, by omega, hw, ?_, fun h => by omega⟩
    rw [List.take_take, Nat.min_self]
  | ok l =>
    cases hb : badL who (S.take w) l with
    | true =>
      rw [restP_bad hr hb]
      refine ⟨rfl, ?_, fun e => ?_⟩
      · rcases h1 with h1 | ⟨_, h, e⟩
        · exact h1.1
        · have el : l = ⟨who, S[w]⟩ := (Except.ok.inj ((hzl h e).symm.trans hr)).symm
          subst el
          obtain ⟨k1, k2⟩ := apart_at hA h
          unfold badL at hb
          dsimp only at hb
          rw [k1] at hb
          simp [k2] at hb
      · obtain ⟨j, hj⟩ := empty_bad
        rw [e, hj] at hr
        cases hr
    | false =>
      rw [restP_good hr hb, restP]
      have hb2 : ((S.take w).find? fun e => clash e l.st) = none ∧ l.st ∉ S.take w := by
        unfold badL at hb
        simp only [Bool.or_eq_false_iff, decide_eq_false_iff_not] at hb
        refine ⟨?_, hb.2⟩
        cases e : (S.take w).find? fun e => clash e l.st with
        | none => rfl
        | some x => rw [e] at hb; exact absurd hb.1.2 (by simp)
      refine ⟨apart_snoc hat hb2.1 hb2.2, fun x hx => ?_, ?_, ?_, ?_, ?_, ?_⟩
      · rcases List.mem_append.mp hx with hx | hx
        · exact hok x hx
        · rw [List.mem_singleton.mp hx]
          exact read_okB hr
      · rw [List.length_append, hlt]
        rcases h1 with h1 | h1 <;> simp <;> omega
      · rw [List.length_append, hlt]
        rcases h1 with h1 | h1 <;> simp <;> omega
      · rcases h1 with h1 | ⟨h1, h2, _⟩ <;> omega
      · rcases h1 with ⟨rfl, _⟩ | ⟨rfl, h, e⟩
        · rw [List.take_append_of_le_length (by omega), List.take_take, Nat.min_self]
        · have el : l = ⟨who, S[w]⟩ := (Except.ok.inj ((hzl h e).symm.trans hr)).symm
          subst el
          rw [List.take_of_length_le (by simp; omega), List.take_succ, List.getElem?_eq_getElem h]
          rfl
      · intro h
        rw [List.length_append, hlt] at h
        simp at h
        rcases h1 with h1 | h1 <;> omega
/-- what is left of the text, cut anywhere -/
theorem left_of {who : Int} {S : List Stm} (hS : ∀ s ∈ S, GoodL ⟨who, s⟩) {k : Nat} : ∃ (w : Nat) (z : Str), Txt.split (cutS (Txt.join nlS (S.map (lineP who))) none (some (k : Int))) nlS = (S.take w).map (lineP who) ++ [z] ∧ w ≤ S.length ∧ z.length ≤ 800000 ∧ PyData.strOk z = true ∧ (S = [] ∨ w < S.length) := by
  by_cases hne : S = []
  · subst hne
    refine ⟨0, Str.ofString "", ?_, Nat.le_refl _, by decide +kernel, by decide +kernel, .inl rfl⟩
    have e : cutS (Txt.join nlS (([] : List Stm).map (lineP who))) none (some (k : Int)) = Str.ofString "" := str_ext (by
      rw [take_lt, TL.join_eq]
      show List.take k [] = []
      exact List.take_nil)
    rw [e]
    exact split_empty
  · obtain ⟨w, j, hw, e⟩ := cut_split (ls := S.map (lineP who)) (fun z hz => by
      obtain ⟨s, hs, rfl⟩ := List.mem_map.mp hz
      exact lineP_noNl (hS s hs)) (by simpa using hne) k
    rw [List.length_map] at hw
    have e2 : (S.map (lineP who)).getD w "" = lineP who S[w] := by
      rw [List.getD_eq_getElem?_getD, List.getElem?_map, List.getElem?_eq_getElem hw]
      rfl
    have hg := hS _ (List.getElem_mem hw)
    refine ⟨w, _, by rw [e, List.map_take], Nat.le_of_lt hw, ?_, ?_, .inr hw⟩
    · rw [e2]
      exact Nat.le_trans (cut_len _ _ _) (line_ok hg)
    · rw [e2]
      exact cut_ok _ _ (lineP_ok (good_okB hg))
theorem last_at {xs : List Str} {z : Str} : atI ((xs ++ [z]).map D.str) (-1) = some (.str z) := by
  unfold atI ixN
  rw [List.length_map, List.length_append, List.map_append]
  simp only [List.length_cons, List.length_nil]
  rw [if_neg (by decide), if_pos (by omega)]
  have e : (-1 + ((xs.length + (0 + 1) : Nat) : Int)).toNat = (xs.map D.str).length := by rw [List.length_map]; omega
  rw [e]
  show (List.map D.str xs ++ List.map D.str [z])[(List.map D.str xs).length]? = _
  rw [List.getElem?_append_right (Nat.le_refl _), Nat.sub_self]
  rfl
theorem apart_two {L : List Stm} (h : Apart L) {n : Nat} {x y : Stm} (hx : x ∈ L.take n) (hy : y ∈ L.drop n) : clash x y = false := by
  unfold Apart at h
  rw [← List.take_append_drop n L, List.pairwise_append] at h
  exact (h.2.2 x hx y hy).2
end Toy

/-! lines of events -/
namespace Toy
open PySem L2 DL
theorem num_back {w : Str} {n : Int} (h : numP w = some n) : (toString n : Str) = w ∧ 0 ≤ n ∧ n < 1000000000 := by
  obtain ⟨h1, h2⟩ := numP_some h
  have e : numV w = ((NumText.digitsVal w.cps.toList : Nat) : Int) := rfl
  rw [e] at h2
  subst h2
  have hb := numL_back (l := w.cps.toList) (by rw [show (⟨w.cps.toList.toArray⟩ : Str) = w from str_ext rfl]; exact h1)
  have hl := (isNum_int h1).2
  rw [str_len] at hl
  refine ⟨str_ext ((intL_nat _).trans hb), Int.natCast_nonneg _, ?_⟩
  have hn : (TL.numL (NumText.digitsVal w.cps.toList)).length ≤ 9 := by rw [hb]; exact hl
  by_cases hv : 10 ^ 9 ≤ NumText.digitsVal w.cps.toList
  · have := numL_lo 9 _ hv
    omega
  · omega
theorem atP_back {ws : List Str} {i : Nat} {n : Int} (h : atP ws i = some n) : ws[i]? = some (toString n : Str) ∧ 0 ≤ n ∧ n < 1000000000 := by
  unfold atP at h
  cases e : ws[i]? with
  | none => rw [e] at h; cases h
  | some w =>
    rw [e] at h
    have := num_back (show numP w = some n from h)
    exact ⟨by rw [this.1], this.2⟩
theorem block_wd {ws : List Str} {i : Nat} {f : Bool} {b : Option Str} (h : blockP ws i f = some b) : ws[i]? = some (partS (obD b)) ∧ ∀ x, b = some x → isName x = true := by
  unfold blockP at h
  cases e : ws[i]? with
  | none => rw [e] at h; cases h
  | some w =>
    rw [e] at h
    dsimp only at h
    split at h
    · rename_i hw
      cases h
      exact ⟨by rw [hw.2]; rfl, fun x hx => by cases hx⟩
    · split at h
      · rename_i hn
        cases h
        exact ⟨rfl, fun x hx => by cases hx; exact hn⟩
      · cases h
theorem lean_wd {ws : List Str} {i : Nat} {t : Int} {y : Option Int} (h : leanP ws i t = some y) : ws[i]? = some (partS (oiD y)) ∧ ∀ x, y = some x → 0 ≤ x ∧ x < 1000000000 := by
  unfold leanP at h
  cases e : ws[i]? with
  | none => rw [e] at h; cases h
  | some w =>
    rw [e] at h
    dsimp only at h
    split at h
    · rename_i hw
      cases h
      exact ⟨by rw [hw]; rfl, fun x hx => by cases hx⟩
    · cases hn : numP w with
      | none => rw [hn] at h; cases h
      | some n =>
        rw [hn] at h
        dsimp only at h
        split at h
        · cases h
          obtain ⟨h1, h2⟩ := num_back hn
          exact ⟨by rw [← h1]; rfl, fun x hx => by cases hx; exact h2⟩
        · cases h
theorem five_eq {α : Type} {ws : List α} {a b c d e : α} (h0 : ws[0]? = some a) (h1 : ws[1]? = some b) (h2 : ws[2]? = some c) (h3 : ws[3]? = some d) (h4 : ws[4]? = some e) (hl : ws.length ≤ 5) : ws = [a, b, c, d, e] := by
  match ws, hl with
  | [], _ => cases h0
  | [_], _ => cases h1
  | [_, _], _ => cases h2
  | [_, _, _], _ => cases h3
  | [_, _, _, _], _ => cases h4
  | [_, _, _, _, _], _ =>
    cases h0; cases h1; cases h2; cases h3; cases h4; rfl
theorem six_eq {α : Type} {ws : List α} {a b c d e f : α} (h0 : ws[0]? = some a) (h1 : ws[1]? = some b) (h2 : ws[2]? = some c) (h3 : ws[3]? = some d) (h4 : ws[4]? = some e) (h5 : ws[5]? = some f) (hl : ws.length ≤ 6) : ws = [a, b, c, d, e, f] := by
  match ws, hl with
  | [], _ => cases h0
  | [_], _ => cases h1
  | [_, _], _ => cases h2
  | [_, _, _], _ => cases h3
  | [_, _, _, _], _ => cases h4
  | [_, _, _, _, _], _ => cases h5
  | [_, _, _, _, _, _], _ =>
    cases h0; cases h1; cases h2; cases h3; cases h4; cases h5; rfl
theorem word_at {ws : List Str} {i : Nat} {w : Str} (h : ws.getD i "" = w) (hi : i < ws.length) : ws[i]? = some w := by
  rw [List.getD_eq_getElem?_getD, List.getElem?_eq_getElem hi] at h
  rw [List.getElem?_eq_getElem hi]
  exact congrArg some h
/-- the words of a letter that was read are its own -/
theorem read_words {ws : List Str} {l : Let} (h : readP ws = .ok l) : wordsP l.who l.st = ws ∧ SmallL l.who l.st 60 := by
  unfold readP at h
  cases h0 : atP ws 0 with
  | none => rw [h0] at h; cases h
  | some who =>
    rw [h0] at h
    dsimp only at h
    split at h
    · cases h
    · rename_i hk
      have hk : kindB (ws.getD 1 "") = true := by simpa using hk
      cases h2 : atP ws 2 with
      | none => rw [h2] at h; cases h
      | some hh =>
        rw [h2] at h
        dsimp only at h
        cases h3 : atP ws 3 with
        | none => rw [h3] at h; cases h
        | some t =>
          rw [h3] at h
          dsimp only at h
          cases h4 : blockP ws 4 (decide (ws.getD 1 "" ≠ "proposal")) with
          | none => rw [h4] at h; cases h
          | some b =>
            rw [h4] at h
            dsimp only at h
            obtain ⟨e0, w0, w1⟩ := atP_back h0
            obtain ⟨e2, p0, p1⟩ := atP_back h2
            obtain ⟨e3, t0, t1⟩ := atP_back h3
            obtain ⟨e4, hb⟩ := block_wd h4
            have hl4 : 4 < ws.length := (List.getElem?_eq_some_iff.mp e4).1
            have hb60 : ∀ x, b = some x → x.length ≤ 60 := fun x hx => by
              have := hb x hx
              rw [str_len]
              unfold isName at this
              split at this
              · cases this
              · rename_i c cs ec
                simp only [Bool.and_eq_true, decide_eq_true_eq] at this
                rw [ec, List.length_cons]
                omega
            split at h
            · rename_i hp
              have e1 := word_at hp (by omega)
              cases h5 : leanP ws 5 t with
              | none => rw [h5] at h; cases h
              | some y =>
                rw [h5] at h
                dsimp only at h
                split at h
                · cases h
                · cases h
                  obtain ⟨e5, hy⟩ := lean_wd h5
                  refine ⟨?_, w0, w1, p0, p1, t0, t1, hy, hb60⟩
                  rw [six_eq e0 e1 e2 e3 e4 e5 (by omega)]
                  rfl
            · rename_i hp
              split at h
              · cases h
              · cases h
                unfold kindB at hk
                simp only [decide_eq_true_eq] at hk
                split
                · rename_i hq
                  have e1 := word_at hq (by omega)
                  refine ⟨?_, w0, w1, p0, p1, t0, t1, (fun y hy => nomatch hy), hb60⟩
                  rw [five_eq e0 e1 e2 e3 e4 (by omega)]
                  rfl
                · rename_i hq
                  have hc : ws.getD 1 "" = "precommit" := by
                    rcases hk with k | k | k
                    · exact absurd k hq
                    · exact absurd k hp
                    · exact k
                  have e1 := word_at hc (by omega)
                  refine ⟨?_, w0, w1, p0, p1, t0, t1, (fun y hy => nomatch hy), hb60⟩
                  rw [five_eq e0 e1 e2 e3 e4 (by omega)]
                  rfl
theorem join_spl (s : Nat) : ∀ (L acc : List Nat), TL.joinL [s] (TL.spl [s] 0 acc L) = acc ++ L
  | [], acc => by
    rw [TL.spl_nil, List.append_nil]
    rfl
  | c :: r, acc => by
    by_cases h : c = s
    · subst h
      have hp : TL.pre [c] (c :: r) = true := by simp [TL.pre]
      rw [TL.spl_hit hp]
      have ih := join_spl c r []
      rw [show [c].length - 1 = 0 from rfl]
      obtain ⟨x, y, e⟩ := List.exists_cons_of_ne_nil (spl_ne (S := [c]) r 0 [])
      rw [e] at ih ⊢
      show acc ++ ([c] ++ TL.joinL [c] (x :: y)) = _
      rw [ih]
      simp
    · have hp : TL.pre [s] (c :: r) = false := by
        simp [TL.pre, Ne.symm h]
        exact h
      rw [TL.spl_miss hp, join_spl s r (acc ++ [c]), List.append_assoc]
      rfl
theorem join_words (z : Str) : Txt.join " " (wordsL z) = z := str_ext (by
  show TL.tl _ = TL.tl z
  rw [TL.join_eq, TL.tl_join, words_spl, blank_l, join_spl, List.nil_append])
/-! events -/
inductive Ev where
  | inj (l : Let) | sub (i : Int) (c : Cmd) | num (k : Str) (ns : List Int)
def Ev.d : Ev → D
  | .inj l => .tup [.str "inject", l.d]
  | .sub i c => .tup [.str "submit", .int i, c.t]
  | .num k ns => .tup (.str k :: ns.map .int)
def Ev.ws : Ev → List Str
  | .inj l => Str.ofString "inject" :: wordsP l.who l.st
  | .sub i c => [Str.ofString "submit", (toString i : Str), c.str]
  | .num k ns => k :: ns.map fun n => (toString n : Str)
def lineV (e : Ev) : Str := Txt.join " " e.ws
def kindN (w : Str) : Option Nat := if w = "deliver" then some 2 else if w = "timeout" then some 1 else if w = "assist" then some 2 else if w = "crash" then some 1 else none
def numsP : List Str → Option (List Int)
  | [] => some []
  | w :: ws => match numP w with
    | none => none
    | some n => (numsP ws).map fun ns => n :: ns
/-- the event that a line writes -/
def readV (z : Str) : Option Ev :=
  if (wordsL z).getD 0 "" = "inject" then match readP (wordsL (cutS z (some 7) none)) with
    | .ok l => some (.inj l)
    | .error _ => none
  else if (wordsL z).getD 0 "" = "submit" then match wordsL z with
    | [_, a, b] => match comsP b.cps.toList with
      | [c] => if 60 < b.length then none else (numP a).map fun n => .sub n c
      | _ => none
    | _ => none
  else match kindN ((wordsL z).getD 0 "") with
    | none => none
    | some k => if (wordsL z).length = 1 + k then (numsP ((wordsL z).drop 1)).map fun ns => .num ((wordsL z).getD 0 "") ns else none
theorem numsP_back : ∀ {ws : List Str} {ns : List Int}, numsP ws = some ns → (ns.map fun n => (toString n : Str)) = ws ∧ ∀ n ∈ ns, 0 ≤ n ∧ n < 1000000000
  | [], ns, h => by
    cases h
    exact ⟨rfl, by simp⟩
  | w :: ws, ns, h => by
    unfold numsP at h
    cases hn : numP w with
    | none => rw [hn] at h; cases h
    | some n =>
      rw [hn] at h
      dsimp only at h
      cases hs : numsP ws with
      | none => rw [hs] at h; cases h
      | some xs =>
        rw [hs] at h
        cases h
        obtain ⟨e1, h1⟩ := num_back hn
        obtain ⟨e2, h2⟩ := numsP_back hs
        refine ⟨by rw [List.map_cons, e1, e2], fun x hx => ?_⟩
        rcases List.mem_cons.mp hx with rfl | hx
        · exact h1
        · exact h2 x hx
theorem nums_back : ∀ ns : List Int, (∀ n ∈ ns, 0 ≤ n ∧ n < 1000000000) → numsP (ns.map fun n => (toString n : Str)) = some ns
  | [], _ => rfl
  | n :: ns, h => by
    obtain ⟨h0, h1⟩ := h n (List.mem_cons_self ..)
    rw [List.map_cons]
    unfold numsP
    rw [num_of_int h0 h1, nums_back ns fun x hx => h x (List.mem_cons_of_mem _ hx)]
    rfl
/-- an event that can be written -/
def EvOk : Ev → Prop
  | .inj l => SmallL l.who l.st 60
  | .sub i c => (0 ≤ i ∧ i < 1000000000) ∧ okC c ∧ smallC c
  | .num k ns => kindN k = some ns.length ∧ ∀ n ∈ ns, 0 ≤ n ∧ n < 1000000000
theorem SmallL.more' {w : Int} {s : Stm} (h : SmallL w s 60) : SmallL w s 1000 := by
  obtain ⟨a1, a2, a3, a4, a5, a6, a7, a8⟩ := h
  exact ⟨a1, a2, a3, a4, a5, a6, a7, fun x hx => Nat.le_trans (a8 x hx) (by decide)⟩
theorem joinV_len (y : Str) : ∀ ws : List Str, (PySem.Str.join y ws).length ≤ (ws.map Str.length).sum + ws.length * y.length
  | [] => by simp [PySem.Str.join, PySem.Str.empty, Str.length]
  | [x] => by
    show x.length ≤ _
    simp
  | x :: z :: r => by
    have ih := joinV_len y (z :: r)
    show (x ++ y ++ PySem.Str.join y (z :: r)).length ≤ _
    rw [PySem.Str.length_append, PySem.Str.length_append, List.map_cons, List.sum_cons, List.length_cons, Nat.succ_mul]
    omega
theorem line_len60 {w : Int} {s : Stm} (h : SmallL w s 60) : (lineP w s).length ≤ 500 := by
  obtain ⟨h1, h2, _⟩ := wordsP_len h
  have h3 := sum_len h1
  have h4 := joinV_len " " (wordsP w s)
  rw [show (Str.ofString " ").length = 1 by decide +kernel] at h4
  unfold lineP
  rw [TL.join_eq]
  have := Nat.mul_le_mul_right (60 + 9) h2
  omega
theorem joinL_cons (s x : List Nat) (ps : List (List Nat)) (h : ps ≠ []) : TL.joinL s (x :: ps) = x ++ (s ++ TL.joinL s ps) := by
  cases ps with
  | nil => exact absurd rfl h
  | cons y r => rfl
theorem join_cons (x : Str) (ws : List Str) (h : ws ≠ []) : TL.tl (Txt.join " " (x :: ws)) = TL.tl x ++ (32 :: TL.tl (Txt.join " " ws)) := by
  rw [TL.join_eq, TL.join_eq, TL.tl_join, TL.tl_join, blank_l, List.map_cons, joinL_cons _ _ _ (by simpa using h)]
  rfl
theorem inj_eq (l : Let) : Str.ofString "inject " ++ lineP l.who l.st = lineV (.inj l) := str_ext (by
  show TL.tl _ = TL.tl (Txt.join " " (Str.ofString "inject" :: wordsP l.who l.st))
  rw [join_cons _ _ (by unfold wordsP; simp), TL.tl_append, show TL.tl (Str.ofString "inject ") = TL.tl (Str.ofString "inject") ++ [32] by decide +kernel, List.append_assoc]
  rfl)
theorem sub_eq (i : Int) (c : Cmd) : Str.ofString "submit " ++ Str.ofString (toString i) ++ Str.ofString " " ++ c.str = lineV (.sub i c) := str_ext (by
  show TL.tl _ = TL.tl (Txt.join " " [Str.ofString "submit", (toString i : Str), c.str])
  rw [join_cons _ _ (by simp), join_cons _ _ (by simp), TL.tl_append, TL.tl_append, TL.tl_append, show TL.tl (Str.ofString "submit ") = TL.tl (Str.ofString "submit") ++ [32] by decide +kernel, blank_l]
  simp only [List.append_assoc]
  rfl)
theorem kind_le {k : Str} {n : Nat} (h : kindN k = some n) : n ≤ 2 := by
  unfold kindN at h
  repeat' split at h
  all_goals first
    | (cases h; omega)
    | cases h
theorem cut_tail (d : D) (ds : List D) : cutD (d :: ds) (some 1) none = ds := by
  have := cut_drop (f := fun d : D => d) (d :: ds) 1
  simpa using this
theorem kind_len {k : Str} {n : Nat} (h : kindN k = some n) : k.length ≤ 10 := by
  unfold kindN at h
  split at h
  · rename_i e; rw [e]; decide +kernel
  · split at h
    · rename_i e; rw [e]; decide +kernel
    · split at h
      · rename_i e; rw [e]; decide +kernel
      · split at h
        · rename_i e; rw [e]; decide +kernel
        · cases h
theorem ws_words {e : Ev} (h : ∀ w ∈ e.ws, 32 ∉ w.cps.toList) (hne : e.ws ≠ []) : wordsL (lineV e) = e.ws := TL.split_join blank_l blank_k hne h
theorem num_free (i : Int) : 32 ∉ (toString i : Str).cps.toList := PyProof.Rows.int_text_free' 32 ⟨by decide, by decide⟩ i
theorem cmd_free {c : Cmd} (h : okC c) : 32 ∉ c.txt := by
  have k : ∀ n : Int, 32 ∉ intL n := num_free
  have kc : ∀ {s : Str}, okCode s → 32 ∉ s.cps.toList := fun h hm => by
    have := h 32 hm
    revert this
    decide
  cases c with
  | p a b n => simp only [Cmd.txt, List.mem_cons, List.mem_append, not_or]; exact ⟨by decide, k a, by decide, k b, by decide, k n⟩
  | w a n => simp only [Cmd.txt, List.mem_cons, List.mem_append, not_or]; exact ⟨by decide, k a, by decide, k n⟩
  | d a s => simp only [Cmd.txt, List.mem_cons, List.mem_append, not_or]; exact ⟨by decide, k a, by decide, kc h.2, by decide, by simp⟩
  | k a b n => simp only [Cmd.txt, List.mem_cons, List.mem_append, not_or]; exact ⟨by decide, k a, by decide, k b, by decide, k n⟩
theorem sub_ws {i : Int} {c : Cmd} (h : okC c) : wordsL (lineV (.sub i c)) = [Str.ofString "submit", (toString i : Str), c.str] := ws_words (fun w hw => by
  simp only [Ev.ws, List.mem_cons, List.not_mem_nil, or_false] at hw
  rcases hw with rfl | rfl | rfl
  · decide +kernel
  · exact num_free i
  · exact cmd_free h) (by simp [Ev.ws])
theorem sub_read {i : Int} {c : Cmd} (h0 : 0 ≤ i) (h1 : i < 1000000000) (h : okC c) : readV (lineV (.sub i c)) = if 60 < c.str.length then none else some (.sub i c) := by
  have hc : comsP c.str.cps.toList = [c] := coms_one h
  unfold readV
  rw [sub_ws h, show [Str.ofString "submit", (toString i : Str), c.str].getD 0 "" = Str.ofString "submit" from rfl]
  rw [if_neg (by decide +kernel), if_pos rfl]
  dsimp only
  rw [hc]
  dsimp only
  rw [num_of_int h0 h1]
  rfl
theorem kind_not {k : Str} {n : Nat} (h : kindN k = some n) : k ≠ Str.ofString "inject" ∧ k ≠ Str.ofString "submit" ∧ 32 ∉ k.cps.toList := by
  unfold kindN at h
  split at h
  · rename_i e; rw [e]; decide +kernel
  · split at h
    · rename_i e; rw [e]; decide +kernel
    · split at h
      · rename_i e; rw [e]; decide +kernel
      · split at h
        · rename_i e; rw [e]; decide +kernel
        · cases h
theorem num_ws {k : Str} {ns : List Int} {n : Nat} (h : kindN k = some n) : wordsL (lineV (.num k ns)) = k :: ns.map fun n => (toString n : Str) := ws_words (fun w hw => by
  rcases List.mem_cons.mp hw with rfl | hw
  · exact (kind_not h).2.2
  · obtain ⟨n, _, rfl⟩ := List.mem_map.mp hw
    exact num_free n) (by simp [Ev.ws])
theorem num_read {k : Str} {ns : List Int} (h : EvOk (.num k ns)) : readV (lineV (.num k ns)) = some (.num k ns) := by
  obtain ⟨h1, h2⟩ := h
  obtain ⟨n1, n2, _⟩ := kind_not h1
  unfold readV
  rw [num_ws h1]
  rw [show (k :: ns.map fun n => (toString n : Str)).getD 0 "" = k from rfl, if_neg n1, if_neg n2, h1]
  dsimp only
  rw [if_pos (by rw [List.length_cons, List.length_map]; omega), List.drop_succ_cons, List.drop_zero, nums_back ns h2]
  rfl
theorem cut7 (y : Str) : cutS (Str.ofString "inject " ++ y) (some 7) none = y := str_ext (by
  have h7 : TL.tl (Str.ofString "inject ") = [105, 110, 106, 101, 99, 116, 32] := by decide +kernel
  have e : (Str.ofString "inject " ++ y).cps.toList = [105, 110, 106, 101, 99, 116, 32] ++ y.cps.toList := by
    show TL.tl _ = _
    rw [TL.tl_append, h7]
  have hl : (Str.ofString "inject " ++ y).length = 7 + y.cps.toList.length := by
    rw [str_len, e, List.length_append]
    rfl
  have e3 : (cutS (Str.ofString "inject " ++ y) (some 7) none).cps.toList = ((Str.ofString "inject " ++ y).cps.toList.drop (HT.sIx (Str.ofString "inject " ++ y).length 0 (some 7))).take (HT.sIx (Str.ofString "inject " ++ y).length (Str.ofString "inject " ++ y).length none - HT.sIx (Str.ofString "inject " ++ y).length 0 (some 7)) := rfl
  have h3 : HT.sIx (7 + y.cps.toList.length) 0 (some 7) = 7 := (HT.sIx_nat (7 + y.cps.toList.length) 0 7).trans (by omega)
  rw [e3, hl, h3, HT.sIx_none, e]
  rw [show ([105, 110, 106, 101, 99, 116, 32] ++ y.cps.toList : List Nat).drop 7 = y.cps.toList from rfl]
  exact List.take_of_length_le (by omega))
theorem inj_ws {l : Let} (h : GoodL l) : wordsL (lineV (.inj l)) = Str.ofString "inject" :: wordsP l.who l.st := ws_words (fun w hw => by
  rcases List.mem_cons.mp hw with rfl | hw
  · decide +kernel
  · exact blank_free h w hw) (by simp [Ev.ws])
theorem inj_read {l : Let} (h : GoodL l) : readV (lineV (.inj l)) = some (.inj l) := by
  unfold readV
  rw [inj_ws h]
  rw [show (Str.ofString "inject" :: wordsP l.who l.st).getD 0 "" = Str.ofString "inject" from rfl, if_pos rfl, ← inj_eq, cut7, read_back h]
theorem rest_inj {z : Str} {r : List Str} (h : wordsL z = Str.ofString "inject" :: r) (hr : r ≠ []) : z = Str.ofString "inject " ++ Txt.join " " r := str_ext (by
  have hj := join_words z
  rw [h] at hj
  show TL.tl z = TL.tl _
  rw [← hj, join_cons _ _ hr, TL.tl_append, show TL.tl (Str.ofString "inject ") = TL.tl (Str.ofString "inject") ++ [32] by decide +kernel, List.append_assoc]
  rfl)
theorem head_word {z : Str} {w : Str} (h : (wordsL z).getD 0 "" = w) : ∃ r, wordsL z = w :: r := by
  obtain ⟨x, r, e⟩ := List.exists_cons_of_ne_nil (words_ne z)
  rw [e] at h
  exact ⟨r, by rw [e, ← h]; rfl⟩
/-- what was read is written again as the same line -/
theorem readV_some {z : Str} {e : Ev} (h : readV z = some e) : lineV e = z ∧ EvOk e := by
  unfold readV at h
  split at h
  · rename_i h0
    obtain ⟨r, e0⟩ := head_word h0
    cases hr : readP (wordsL (cutS z (some 7) none)) with
    | error j => rw [hr] at h; cases h
    | ok l =>
      rw [hr] at h
      cases h
      obtain ⟨h1, h2⟩ := read_words hr
      refine ⟨?_, h2⟩
      by_cases hn : r = []
      · exfalso
        have hj := join_words z
        rw [e0, hn] at hj
        have hz : z = Str.ofString "inject" := hj.symm
        rw [hz, show cutS (Str.ofString "inject") (some 7) none = Str.ofString "" by decide +kernel, show readP (wordsL (Str.ofString "")) = .error 0 by rfl] at hr
        cases hr
      · have hz := rest_inj e0 hn
        rw [hz, cut7] at h1
        rw [← inj_eq, hz]
        congr 1
        unfold lineP
        rw [h1, join_words]
  · split at h
    · rename_i h0
      split at h
      · rename_i x a b e0
        split at h
        · rename_i c hc
          split at h
          · cases h
          · rename_i hb
            cases hn : numP a with
            | none => rw [hn] at h; cases h
            | some n =>
              rw [hn] at h
              cases h
              obtain ⟨e1, n0, n1⟩ := num_back hn
              rcases coms_of b with k | ⟨k1, k2⟩
              · rw [k] at hc; cases hc
              · rw [hc] at k1 k2
                have hbs : b = c.str := by
                  rw [k1]
                  exact str_ext (by simp [blockS, txtsP, Cmd.str])
                obtain ⟨o1, o2⟩ := k2 c (by simp)
                rw [e0] at h0
                have hx : x = Str.ofString "submit" := h0
                refine ⟨?_, ⟨n0, n1⟩, o1, o2 (by omega)⟩
                have hj := join_words z
                rw [e0, hx, hbs, ← e1] at hj
                exact hj
        · cases h
      · cases h
    · cases hk : kindN ((wordsL z).getD 0 "") with
      | none => rw [hk] at h; cases h
      | some k =>
        rw [hk] at h
        dsimp only at h
        split at h
        · rename_i hl
          cases hn : numsP ((wordsL z).drop 1) with
          | none => rw [hn] at h; cases h
          | some ns =>
            rw [hn] at h
            cases h
            obtain ⟨e1, h1⟩ := numsP_back hn
            obtain ⟨r, e0⟩ := head_word (z := z) rfl
            have hd : (wordsL z).drop 1 = r := by rw [e0]; rfl
            rw [hd] at e1
            refine ⟨?_, ?_, h1⟩
            · have hj := join_words z
              conv at hj => lhs; rw [e0, ← e1]
              exact hj
            · rw [hk]
              have := congrArg List.length e1
              rw [List.length_map] at this
              have h2 := congrArg List.length e0
              rw [List.length_cons] at h2
              congr 1
              omega
        · cases h
theorem joinL_snoc (s w : List Nat) : ∀ ps : List (List Nat), ps ≠ [] → TL.joinL s (ps ++ [w]) = TL.joinL s ps ++ (s ++ w)
  | [], h => absurd rfl h
  | [x], _ => rfl
  | x :: y :: r, _ => by
    have ih := joinL_snoc s w (y :: r) (by simp)
    show x ++ (s ++ TL.joinL s ((y :: r) ++ [w])) = (x ++ (s ++ TL.joinL s (y :: r))) ++ (s ++ w)
    rw [ih, List.append_assoc, List.append_assoc]
theorem join_snoc (ws : List Str) (h : ws ≠ []) : Txt.join " " ws ++ Str.ofString " " = Txt.join " " (ws ++ [Str.ofString ""]) := str_ext (by
  show TL.tl _ = TL.tl _
  rw [TL.tl_append, TL.join_eq, TL.join_eq, TL.tl_join, TL.tl_join, List.map_append, List.map_cons, List.map_nil, joinL_snoc _ _ _ (by simpa using h), blank_l]
  rfl)
theorem blank_front (z : Str) : (wordsL (Str.ofString " " ++ z)).getD 0 "" = Str.ofString "" := by
  have e := words_spl (Str.ofString " " ++ z)
  rw [TL.tl_append, blank_l] at e
  rw [show ([32] : List Nat) ++ TL.tl z = 32 :: TL.tl z from rfl, TL.spl_hit (by simp [TL.pre])] at e
  cases h : wordsL (Str.ofString " " ++ z) with
  | nil => rfl
  | cons x r =>
    rw [h, List.map_cons, List.cons.injEq] at e
    exact str_ext e.1
/-- a blank in front: no event -/
theorem front_none (z : Str) : readV (Str.ofString " " ++ z) = none := by
  unfold readV
  rw [blank_front, if_neg (by decide +kernel), if_neg (by decide +kernel)]
  rfl
theorem ws_more {ws : List Str} (h : ∀ w ∈ ws, 32 ∉ w.cps.toList) (hne : ws ≠ []) : wordsL (Txt.join " " ws ++ Str.ofString " ") = ws ++ [Str.ofString ""] := by
  rw [join_snoc ws hne]
  exact TL.split_join blank_l blank_k (by simp) fun w hw => by
    rcases List.mem_append.mp hw with k | k
    · exact h w k
    · rw [List.mem_singleton.mp k]
      decide +kernel
/-- an event that reads back -/
def EvGood : Ev → Prop
  | .inj l => GoodL l
  | .sub i c => (0 ≤ i ∧ i < 1000000000) ∧ okC c ∧ smallC c ∧ c.str.length ≤ 60
  | .num k ns => kindN k = some ns.length ∧ ∀ n ∈ ns, 0 ≤ n ∧ n < 1000000000
theorem EvGood.ok {e : Ev} (h : EvGood e) : EvOk e := by
  cases e with
  | inj l => exact h.small
  | sub i c => exact ⟨h.1, h.2.1, h.2.2.1⟩
  | num k ns => exact h
theorem EvGood.free {e : Ev} (h : EvGood e) : ∀ w ∈ e.ws, 32 ∉ w.cps.toList := by
  cases e with
  | inj l =>
    intro w hw
    rcases List.mem_cons.mp hw with rfl | hw
    · decide +kernel
    · exact blank_free h w hw
  | sub i c =>
    intro w hw
    simp only [Ev.ws, List.mem_cons, List.not_mem_nil, or_false] at hw
    rcases hw with rfl | rfl | rfl
    · decide +kernel
    · exact num_free i
    · exact cmd_free h.2.1
  | num k ns =>
    intro w hw
    rcases List.mem_cons.mp hw with rfl | hw
    · exact (kind_not h.1).2.2
    · obtain ⟨n, _, rfl⟩ := List.mem_map.mp hw
      exact num_free n
theorem EvGood.ne (e : Ev) : e.ws ≠ [] := by cases e <;> simp [Ev.ws]
theorem good_read {e : Ev} (h : EvGood e) : readV (lineV e) = some e := by
  cases e with
  | inj l => exact inj_read h
  | sub i c => rw [sub_read h.1.1 h.1.2 h.2.1, if_neg (by have := h.2.2.2; omega)]
  | num k ns => exact num_read h
theorem read_more (l x : Let) : wordsP x.who x.st ≠ wordsP l.who l.st ++ [Str.ofString ""] := fun e => by
  have hl := congrArg List.length e
  have h1 := congrArg (fun ws : List Str => ws[1]?) e
  obtain ⟨w, s⟩ := l
  obtain ⟨w2, s2⟩ := x
  cases s <;> cases s2 <;> simp [wordsP, Stm.parts] at hl h1
  all_goals (revert h1; simp only [partS]; decide +kernel)
/-- a blank behind: no event -/
theorem back_none {e : Ev} (h : EvGood e) : readV (lineV e ++ Str.ofString " ") = none := by
  have hw := ws_more h.free (EvGood.ne e)
  rw [show Txt.join " " e.ws = lineV e from rfl] at hw
  cases e with
  | inj l =>
    unfold readV
    rw [hw, show (Ev.ws (.inj l) ++ [Str.ofString ""]).getD 0 "" = Str.ofString "inject" from rfl, if_pos rfl]
    have hz : lineV (.inj l) ++ Str.ofString " " = Str.ofString "inject " ++ (lineP l.who l.st ++ Str.ofString " ") := str_ext (by
      rw [← inj_eq]
      show TL.tl _ = TL.tl _
      rw [TL.tl_append, TL.tl_append, TL.tl_append, TL.tl_append, List.append_assoc])
    rw [hz, cut7]
    have hb : wordsL (lineP l.who l.st ++ Str.ofString " ") = wordsP l.who l.st ++ [Str.ofString ""] := ws_more (blank_free h) (by unfold wordsP; simp)
    rw [hb]
    cases hr : readP (wordsP l.who l.st ++ [Str.ofString ""]) with
    | error j => rfl
    | ok x => exact absurd (read_words hr).1 (read_more l x)
  | sub i c =>
    unfold readV
    rw [hw, show (Ev.ws (.sub i c) ++ [Str.ofString ""]).getD 0 "" = Str.ofString "submit" from rfl, if_neg (by decide +kernel), if_pos rfl]
    rfl
  | num k ns =>
    obtain ⟨n1, n2, _⟩ := kind_not h.1
    unfold readV
    rw [hw, show (Ev.ws (.num k ns) ++ [Str.ofString ""]).getD 0 "" = k from rfl, if_neg n1, if_neg n2, h.1]
    dsimp only
    rw [if_neg (by simp [Ev.ws]; omega)]
theorem good_line {e : Ev} (h : EvGood e) : (lineV e).length ≤ 500 ∧ PyData.strOk (lineV e) = true ∧ (wordsL (lineV e)).length ≤ 8 := by
  have hw : wordsL (lineV e) = e.ws := ws_words h.free (EvGood.ne e)
  have hn : ∀ i : Int, 0 ≤ i → i < 1000000000 → (toString i : Str).length ≤ 9 := fun i h0 h1 => by
    have h2 := num_of_int h0 h1
    obtain ⟨h3, _⟩ := numP_some h2
    exact (isNum_int h3).2
  have k : (∀ w ∈ e.ws, w.length ≤ 69 ∧ PyData.strOk w = true) ∧ e.ws.length ≤ 7 := by
    cases e with
    | inj l =>
      obtain ⟨h1, h2, _⟩ := wordsP_len h.small
      refine ⟨fun w hw => ?_, by simp only [Ev.ws, List.length_cons]; omega⟩
      rcases List.mem_cons.mp hw with rfl | hw
      · decide +kernel
      · refine ⟨h1 w hw, ?_⟩
        have hb : okB l.st.b := fun x hx => name_ok h.name x hx
        have := lineP_ok (who := l.who) (s := l.st) hb
        exact strOk_of fun c hc => of_strOk this c (by
          have e2 := words_line h
          rw [← e2] at hw
          exact (words_mem hw).2 c hc)
    | sub i c =>
      refine ⟨fun w hw => ?_, by simp [Ev.ws]⟩
      simp only [Ev.ws, List.mem_cons, List.not_mem_nil, or_false] at hw
      rcases hw with rfl | rfl | rfl
      · decide +kernel
      · exact ⟨Nat.le_trans (hn i h.1.1 h.1.2) (by decide), strOk_num i⟩
      · exact ⟨Nat.le_trans h.2.2.2 (by decide), strOk_of fun x hx => by have := txt_lt h.2.1 x hx; omega⟩
    | num k ns =>
      refine ⟨fun w hw => ?_, by have := kind_le h.1; simp only [Ev.ws, List.length_cons, List.length_map]; omega⟩
      rcases List.mem_cons.mp hw with rfl | hw
      · refine ⟨Nat.le_trans (kind_len h.1) (by decide), ?_⟩
        have h1 := h.1
        unfold kindN at h1
        split at h1
        · rename_i e; rw [e]; decide +kernel
        · split at h1
          · rename_i e; rw [e]; decide +kernel
          · split at h1
            · rename_i e; rw [e]; decide +kernel
            · split at h1
              · rename_i e; rw [e]; decide +kernel
              · cases h1
      · obtain ⟨n, hn2, rfl⟩ := List.mem_map.mp hw
        exact ⟨Nat.le_trans (hn n (h.2 n hn2).1 (h.2 n hn2).2) (by decide), strOk_num n⟩
  refine ⟨?_, strOk_join (by decide +kernel) fun w hw => (k.1 w hw).2, by rw [hw]; omega⟩
  have h3 := sum_len fun w hw => (k.1 w hw).1
  have h4 := joinV_len " " e.ws
  rw [show (Str.ofString " ").length = 1 by decide +kernel] at h4
  unfold lineV
  rw [TL.join_eq]
  have := Nat.mul_le_mul_right 69 k.2
  have := k.2
  omega
theorem let_dat {l : Let} (h : okB l.st.b) : l.d.dat = true ∧ l.d.dep ≤ 2 := by
  refine ⟨fit_dat (Let.fit h), ?_⟩
  obtain ⟨w, s⟩ := l
  cases s <;> simp [Let.d, Stm.d, D.dep, D.deps, obD_dep, oiD_dep]
theorem cmd_fit {c : Cmd} (h : okC c) : c.t.dat = true ∧ c.t.dep ≤ 2 := by
  refine ⟨fit_dat (Cmd.fit (okT_of h)), ?_⟩
  cases c <;> simp [Cmd.t, Cmd.ds, D.dep, D.deps]
theorem good_fit {e : Ev} (h : EvGood e) : e.d.fit = true := by
  have hk : ∀ k : Str, PyData.strOk k = true → (D.str k).dat = true := fun k h => h
  cases e with
  | inj l =>
    have hb : okB l.st.b := fun x hx => name_ok h.name x hx
    obtain ⟨h1, h2⟩ := let_dat hb
    have h3 : PyData.strOk (Str.ofString "inject") = true := by decide +kernel
    unfold D.fit
    simp only [Ev.d, D.dat, D.dats, D.dep, D.deps, h1, h3, Bool.and_true, Bool.true_and, decide_eq_true_eq]
    omega
  | sub i c =>
    have h1 := cmd_fit h.2.1
    have h3 : PyData.strOk (Str.ofString "submit") = true := by decide +kernel
    obtain ⟨h4, h5⟩ := h1
    unfold D.fit
    simp only [Ev.d, D.dat, D.dats, D.dep, D.deps, h4, h3, Bool.and_true, Bool.true_and, decide_eq_true_eq]
    omega
  | num k ns =>
    have h3 : PyData.strOk k = true := by
      have := (good_line (e := .num k ns) h).2.1
      have hw := num_ws (ns := ns) h.1
      have hm : k ∈ wordsL (lineV (.num k ns)) := by rw [hw]; simp
      exact strOk_of fun c hc => of_strOk this c ((words_mem hm).2 c hc)
    have h4 := fit_dat (fit_ints ns)
    have h5 : D.deps (ns.map D.int) ≤ 1 := by
      clear h h3 h4
      induction ns with
      | nil => simp [D.deps]
      | cons n ns ih => simp only [List.map_cons, D.deps, D.dep]; omega
    unfold D.fit
    simp only [Ev.d, D.dat, D.dats, D.dep, D.deps, h3, Bool.and_true, Bool.true_and, decide_eq_true_eq, Bool.and_eq_true]
    exact ⟨h4, by omega⟩
end Toy

local macro_rules | `(tactic| walk_at "w") => `(tactic| conv => whnf)
-- a way's test made short; a way that cannot be is closed
set_option hygiene false in
local macro_rules | `(tactic| walk_at "k") => `(tactic| simp [DL.isN_non, DL.isN_int, DL.isN_str, DL.isN_tup, DL.isN_lst, DL.isN_ins, Toy.Stm.isVote, Toy.isN_ob, Toy.isN_oi, Toy.kpv, Toy.kpc, Toy.kvp, Toy.kvc, Toy.kcp, Toy.kcv, Toy.qpw, Toy.qpd, Toy.qpk, Toy.qwp, Toy.qwd, Toy.qwk, Toy.qdp, Toy.qdw, Toy.qdk, Toy.qkp, Toy.qkw, Toy.qkd, DL.nb] at hb)
local macro_rules | `(tactic| walk_at "x") => `(tactic| fail)
local macro_rules | `(tactic| walk_at "F") => `(tactic| fail)
local macro_rules | `(tactic| walk_at "E") => `(tactic| fail)
local macro_rules | `(tactic| walk_at "Q") => `(tactic| fail)
local macro_rules | `(tactic| walk_at "D") => `(tactic| fail)
local macro_rules | `(tactic| walk_at "I") => `(tactic| fail)
local macro_rules | `(tactic| walk_at "R") => `(tactic| fail)
local macro_rules | `(tactic| walk_at "P") => `(tactic| fail)
local macro_rules | `(tactic| walk_at "o") => `(tactic| (first | omega | (simp only [List.length_map, List.length_range, List.length_cons, List.length_nil, List.length_append]; omega)))
local macro_rules | `(tactic| walk_at "ne") => `(tactic| (first | assumption | exact Ne.symm (by assumption) | exact DL.ne_at (by assumption) (by (first | assumption | exact DL.fresh_up (by assumption) | exact DL.fresh_dn (by assumption) | exact DL.fresh_dn (DL.fresh_dn (by assumption)) | exact DL.fresh_dn (DL.fresh_dn (DL.fresh_dn (by assumption))))) | exact Ne.symm (DL.ne_at (by assumption) (by (first | assumption | exact DL.fresh_up (by assumption) | exact DL.fresh_dn (by assumption) | exact DL.fresh_dn (DL.fresh_dn (by assumption)) | exact DL.fresh_dn (DL.fresh_dn (DL.fresh_dn (by assumption)))))) | exact DL.fresh_ne (by assumption) | exact Ne.symm (DL.fresh_ne (by assumption)) | exact DL.fresh_ne (DL.fresh_dn (by assumption)) | exact Ne.symm (DL.fresh_ne (DL.fresh_dn (by assumption))) | exact DL.fresh_ne (DL.fresh_dn (DL.fresh_dn (by assumption))) | exact Ne.symm (DL.fresh_ne (DL.fresh_dn (DL.fresh_dn (by assumption))))))
local macro_rules | `(tactic| walk_at "H") => `(tactic| (first | exact DL.mup_same | assumption | (refine (DL.mup_ne (by (first | assumption | exact Ne.symm (by assumption) | exact DL.ne_at (by assumption) (by (first | assumption | exact DL.fresh_up (by assumption) | exact DL.fresh_dn (by assumption) | exact DL.fresh_dn (DL.fresh_dn (by assumption)) | exact DL.fresh_dn (DL.fresh_dn (DL.fresh_dn (by assumption))))) | exact Ne.symm (DL.ne_at (by assumption) (by (first | assumption | exact DL.fresh_up (by assumption) | exact DL.fresh_dn (by assumption) | exact DL.fresh_dn (DL.fresh_dn (by assumption)) | exact DL.fresh_dn (DL.fresh_dn (DL.fresh_dn (by assumption)))))) | exact DL.fresh_ne (by assumption) | exact Ne.symm (DL.fresh_ne (by assumption)) | exact DL.fresh_ne (DL.fresh_dn (by assumption)) | exact Ne.symm (DL.fresh_ne (DL.fresh_dn (by assumption))) | exact DL.fresh_ne (DL.fresh_dn (DL.fresh_dn (by assumption))) | exact Ne.symm (DL.fresh_ne (DL.fresh_dn (DL.fresh_dn (by assumption))))))).trans ?_; first | exact DL.mup_same | assumption | (refine (DL.mup_ne (by (first | assumption | exact Ne.symm (by assumption) | exact DL.ne_at (by assumption) (by (first | assumption | exact DL.fresh_up (by assumption) | exact DL.fresh_dn (by assumption) | exact DL.fresh_dn (DL.fresh_dn (by assumption)) | exact DL.fresh_dn (DL.fresh_dn (DL.fresh_dn (by assumption))))) | exact Ne.symm (DL.ne_at (by assumption) (by (first | assumption | exact DL.fresh_up (by assumption) | exact DL.fresh_dn (by assumption) | exact DL.fresh_dn (DL.fresh_dn (by assumption)) | exact DL.fresh_dn (DL.fresh_dn (DL.fresh_dn (by assumption)))))) | exact DL.fresh_ne (by assumption) | exact Ne.symm (DL.fresh_ne (by assumption)) | exact DL.fresh_ne (DL.fresh_dn (by assumption)) | exact Ne.symm (DL.fresh_ne (DL.fresh_dn (by assumption))) | exact DL.fresh_ne (DL.fresh_dn (DL.fresh_dn (by assumption))) | exact Ne.symm (DL.fresh_ne (DL.fresh_dn (DL.fresh_dn (by assumption))))))).trans ?_; first | exact DL.mup_same | assumption | (refine (DL.mup_ne (by (first | assumption | exact Ne.symm (by assumption) | exact DL.ne_at (by assumption) (by (first | assumption | exact DL.fresh_up (by assumption) | exact DL.fresh_dn (by assumption) | exact DL.fresh_dn (DL.fresh_dn (by assumption)) | exact DL.fresh_dn (DL.fresh_dn (DL.fresh_dn (by assumption))))) | exact Ne.symm (DL.ne_at (by assumption) (by (first | assumption | exact DL.fresh_up (by assumption) | exact DL.fresh_dn (by assumption) | exact DL.fresh_dn (DL.fresh_dn (by assumption)) | exact DL.fresh_dn (DL.fresh_dn (DL.fresh_dn (by assumption)))))) | exact DL.fresh_ne (by assumption) | exact Ne.symm (DL.fresh_ne (by assumption)) | exact DL.fresh_ne (DL.fresh_dn (by assumption)) | exact Ne.symm (DL.fresh_ne (DL.fresh_dn (by assumption))) | exact DL.fresh_ne (DL.fresh_dn (DL.fresh_dn (by assumption))) | exact Ne.symm (DL.fresh_ne (DL.fresh_dn (DL.fresh_dn (by assumption))))))).trans ?_; first | exact DL.mup_same | assumption | (refine (DL.mup_ne (by (first | assumption | exact Ne.symm (by assumption) | exact DL.ne_at (by assumption) (by (first | assumption | exact DL.fresh_up (by assumption) | exact DL.fresh_dn (by assumption) | exact DL.fresh_dn (DL.fresh_dn (by assumption)) | exact DL.fresh_dn (DL.fresh_dn (DL.fresh_dn (by assumption))))) | exact Ne.symm (DL.ne_at (by assumption) (by (first | assumption | exact DL.fresh_up (by assumption) | exact DL.fresh_dn (by assumption) | exact DL.fresh_dn (DL.fresh_dn (by assumption)) | exact DL.fresh_dn (DL.fresh_dn (DL.fresh_dn (by assumption)))))) | exact DL.fresh_ne (by assumption) | exact Ne.symm (DL.fresh_ne (by assumption)) | exact DL.fresh_ne (DL.fresh_dn (by assumption)) | exact Ne.symm (DL.fresh_ne (DL.fresh_dn (by assumption))) | exact DL.fresh_ne (DL.fresh_dn (DL.fresh_dn (by assumption))) | exact Ne.symm (DL.fresh_ne (DL.fresh_dn (DL.fresh_dn (by assumption))))))).trans ?_; first | exact DL.mup_same | assumption | (refine (DL.mup_ne (by (first | assumption | exact Ne.symm (by assumption) | exact DL.ne_at (by assumption) (by (first | assumption | exact DL.fresh_up (by assumption) | exact DL.fresh_dn (by assumption) | exact DL.fresh_dn (DL.fresh_dn (by assumption)) | exact DL.fresh_dn (DL.fresh_dn (DL.fresh_dn (by assumption))))) | exact Ne.symm (DL.ne_at (by assumption) (by (first | assumption | exact DL.fresh_up (by assumption) | exact DL.fresh_dn (by assumption) | exact DL.fresh_dn (DL.fresh_dn (by assumption)) | exact DL.fresh_dn (DL.fresh_dn (DL.fresh_dn (by assumption)))))) | exact DL.fresh_ne (by assumption) | exact Ne.symm (DL.fresh_ne (by assumption)) | exact DL.fresh_ne (DL.fresh_dn (by assumption)) | exact Ne.symm (DL.fresh_ne (DL.fresh_dn (by assumption))) | exact DL.fresh_ne (DL.fresh_dn (DL.fresh_dn (by assumption))) | exact Ne.symm (DL.fresh_ne (DL.fresh_dn (DL.fresh_dn (by assumption))))))).trans ?_; first | exact DL.mup_same | assumption)))))))
local macro_rules | `(tactic| walk_at "L") => `(tactic| (first | exact rfl | assumption | exact DL.asL_same | exact DL.asL_adr (by (first | exact DL.mup_same | assumption | (refine (DL.mup_ne (by (first | assumption | exact Ne.symm (by assumption) | exact DL.ne_at (by assumption) (by (first | assumption | exact DL.fresh_up (by assumption) | exact DL.fresh_dn (by assumption) | exact DL.fresh_dn (DL.fresh_dn (by assumption)) | exact DL.fresh_dn (DL.fresh_dn (DL.fresh_dn (by assumption))))) | exact Ne.symm (DL.ne_at (by assumption) (by (first | assumption | exact DL.fresh_up (by assumption) | exact DL.fresh_dn (by assumption) | exact DL.fresh_dn (DL.fresh_dn (by assumption)) | exact DL.fresh_dn (DL.fresh_dn (DL.fresh_dn (by assumption)))))) | exact DL.fresh_ne (by assumption) | exact Ne.symm (DL.fresh_ne (by assumption)) | exact DL.fresh_ne (DL.fresh_dn (by assumption)) | exact Ne.symm (DL.fresh_ne (DL.fresh_dn (by assumption))) | exact DL.fresh_ne (DL.fresh_dn (DL.fresh_dn (by assumption))) | exact Ne.symm (DL.fresh_ne (DL.fresh_dn (DL.fresh_dn (by assumption))))))).trans ?_; first | exact DL.mup_same | assumption | (refine (DL.mup_ne (by (first | assumption | exact Ne.symm (by assumption) | exact DL.ne_at (by assumption) (by (first | assumption | exact DL.fresh_up (by assumption) | exact DL.fresh_dn (by assumption) | exact DL.fresh_dn (DL.fresh_dn (by assumption)) | exact DL.fresh_dn (DL.fresh_dn (DL.fresh_dn (by assumption))))) | exact Ne.symm (DL.ne_at (by assumption) (by (first | assumption | exact DL.fresh_up (by assumption) | exact DL.fresh_dn (by assumption) | exact DL.fresh_dn (DL.fresh_dn (by assumption)) | exact DL.fresh_dn (DL.fresh_dn (DL.fresh_dn (by assumption)))))) | exact DL.fresh_ne (by assumption) | exact Ne.symm (DL.fresh_ne (by assumption)) | exact DL.fresh_ne (DL.fresh_dn (by assumption)) | exact Ne.symm (DL.fresh_ne (DL.fresh_dn (by assumption))) | exact DL.fresh_ne (DL.fresh_dn (DL.fresh_dn (by assumption))) | exact Ne.symm (DL.fresh_ne (DL.fresh_dn (DL.fresh_dn (by assumption))))))).trans ?_; first | exact DL.mup_same | assumption | (refine (DL.mup_ne (by (first | assumption | exact Ne.symm (by assumption) | exact DL.ne_at (by assumption) (by (first | assumption | exact DL.fresh_up (by assumption) | exact DL.fresh_dn (by assumption) | exact DL.fresh_dn (DL.fresh_dn (by assumption)) | exact DL.fresh_dn (DL.fresh_dn (DL.fresh_dn (by assumption))))) | exact Ne.symm (DL.ne_at (by assumption) (by (first | assumption | exact DL.fresh_up (by assumption) | exact DL.fresh_dn (by assumption) | exact DL.fresh_dn (DL.fresh_dn (by assumption)) | exact DL.fresh_dn (DL.fresh_dn (DL.fresh_dn (by assumption)))))) | exact DL.fresh_ne (by assumption) | exact Ne.symm (DL.fresh_ne (by assumption)) | exact DL.fresh_ne (DL.fresh_dn (by assumption)) | exact Ne.symm (DL.fresh_ne (DL.fresh_dn (by assumption))) | exact DL.fresh_ne (DL.fresh_dn (DL.fresh_dn (by assumption))) | exact Ne.symm (DL.fresh_ne (DL.fresh_dn (DL.fresh_dn (by assumption))))))).trans ?_; first | exact DL.mup_same | assumption | (refine (DL.mup_ne (by (first | assumption | exact Ne.symm (by assumption) | exact DL.ne_at (by assumption) (by (first | assumption | exact DL.fresh_up (by assumption) | exact DL.fresh_dn (by assumption) | exact DL.fresh_dn (DL.fresh_dn (by assumption)) | exact DL.fresh_dn (DL.fresh_dn (DL.fresh_dn (by assumption))))) | exact Ne.symm (DL.ne_at (by assumption) (by (first | assumption | exact DL.fresh_up (by assumption) | exact DL.fresh_dn (by assumption) | exact DL.fresh_dn (DL.fresh_dn (by assumption)) | exact DL.fresh_dn (DL.fresh_dn (DL.fresh_dn (by assumption)))))) | exact DL.fresh_ne (by assumption) | exact Ne.symm (DL.fresh_ne (by assumption)) | exact DL.fresh_ne (DL.fresh_dn (by assumption)) | exact Ne.symm (DL.fresh_ne (DL.fresh_dn (by assumption))) | exact DL.fresh_ne (DL.fresh_dn (DL.fresh_dn (by assumption))) | exact Ne.symm (DL.fresh_ne (DL.fresh_dn (DL.fresh_dn (by assumption))))))).trans ?_; first | exact DL.mup_same | assumption | (refine (DL.mup_ne (by (first | assumption | exact Ne.symm (by assumption) | exact DL.ne_at (by assumption) (by (first | assumption | exact DL.fresh_up (by assumption) | exact DL.fresh_dn (by assumption) | exact DL.fresh_dn (DL.fresh_dn (by assumption)) | exact DL.fresh_dn (DL.fresh_dn (DL.fresh_dn (by assumption))))) | exact Ne.symm (DL.ne_at (by assumption) (by (first | assumption | exact DL.fresh_up (by assumption) | exact DL.fresh_dn (by assumption) | exact DL.fresh_dn (DL.fresh_dn (by assumption)) | exact DL.fresh_dn (DL.fresh_dn (DL.fresh_dn (by assumption)))))) | exact DL.fresh_ne (by assumption) | exact Ne.symm (DL.fresh_ne (by assumption)) | exact DL.fresh_ne (DL.fresh_dn (by assumption)) | exact Ne.symm (DL.fresh_ne (DL.fresh_dn (by assumption))) | exact DL.fresh_ne (DL.fresh_dn (DL.fresh_dn (by assumption))) | exact Ne.symm (DL.fresh_ne (DL.fresh_dn (DL.fresh_dn (by assumption))))))).trans ?_; first | exact DL.mup_same | assumption))))))) | exact DL.asL_up (by assumption) (by (first | assumption | exact DL.fresh_up (by assumption) | exact DL.fresh_dn (by assumption) | exact DL.fresh_dn (DL.fresh_dn (by assumption)) | exact DL.fresh_dn (DL.fresh_dn (DL.fresh_dn (by assumption))))) | exact DL.asL_up (DL.asL_up (by assumption) (by (first | assumption | exact DL.fresh_up (by assumption) | exact DL.fresh_dn (by assumption) | exact DL.fresh_dn (DL.fresh_dn (by assumption)) | exact DL.fresh_dn (DL.fresh_dn (DL.fresh_dn (by assumption)))))) (by (first | assumption | exact DL.fresh_up (by assumption) | exact DL.fresh_dn (by assumption) | exact DL.fresh_dn (DL.fresh_dn (by assumption)) | exact DL.fresh_dn (DL.fresh_dn (DL.fresh_dn (by assumption)))))))
local macro_rules | `(tactic| walk_at "LP") => `(tactic| (first | (first | exact rfl | assumption | exact DL.asL_same | exact DL.asL_adr (by (first | exact DL.mup_same | assumption | (refine (DL.mup_ne (by (first | assumption | exact Ne.symm (by assumption) | exact DL.ne_at (by assumption) (by (first | assumption | exact DL.fresh_up (by assumption) | exact DL.fresh_dn (by assumption) | exact DL.fresh_dn (DL.fresh_dn (by assumption)) | exact DL.fresh_dn (DL.fresh_dn (DL.fresh_dn (by assumption))))) | exact Ne.symm (DL.ne_at (by assumption) (by (first | assumption | exact DL.fresh_up (by assumption) | exact DL.fresh_dn (by assumption) | exact DL.fresh_dn (DL.fresh_dn (by assumption)) | exact DL.fresh_dn (DL.fresh_dn (DL.fresh_dn (by assumption)))))) | exact DL.fresh_ne (by assumption) | exact Ne.symm (DL.fresh_ne (by assumption)) | exact DL.fresh_ne (DL.fresh_dn (by assumption)) | exact Ne.symm (DL.fresh_ne (DL.fresh_dn (by assumption))) | exact DL.fresh_ne (DL.fresh_dn (DL.fresh_dn (by assumption))) | exact Ne.symm (DL.fresh_ne (DL.fresh_dn (DL.fresh_dn (by assumption))))))).trans ?_; first | exact DL.mup_same | assumption | (refine (DL.mup_ne (by (first | assumption | exact Ne.symm (by assumption) | exact DL.ne_at (by assumption) (by (first | assumption | exact DL.fresh_up (by assumption) | exact DL.fresh_dn (by assumption) | exact DL.fresh_dn (DL.fresh_dn (by assumption)) | exact DL.fresh_dn (DL.fresh_dn (DL.fresh_dn (by assumption))))) | exact Ne.symm (DL.ne_at (by assumption) (by (first | assumption | exact DL.fresh_up (by assumption) | exact DL.fresh_dn (by assumption) | exact DL.fresh_dn (DL.fresh_dn (by assumption)) | exact DL.fresh_dn (DL.fresh_dn (DL.fresh_dn (by assumption)))))) | exact DL.fresh_ne (by assumption) | exact Ne.symm (DL.fresh_ne (by assumption)) | exact DL.fresh_ne (DL.fresh_dn (by assumption)) | exact Ne.symm (DL.fresh_ne (DL.fresh_dn (by assumption))) | exact DL.fresh_ne (DL.fresh_dn (DL.fresh_dn (by assumption))) | exact Ne.symm (DL.fresh_ne (DL.fresh_dn (DL.fresh_dn (by assumption))))))).trans ?_; first | exact DL.mup_same | assumption | (refine (DL.mup_ne (by (first | assumption | exact Ne.symm (by assumption) | exact DL.ne_at (by assumption) (by (first | assumption | exact DL.fresh_up (by assumption) | exact DL.fresh_dn (by assumption) | exact DL.fresh_dn (DL.fresh_dn (by assumption)) | exact DL.fresh_dn (DL.fresh_dn (DL.fresh_dn (by assumption))))) | exact Ne.symm (DL.ne_at (by assumption) (by (first | assumption | exact DL.fresh_up (by assumption) | exact DL.fresh_dn (by assumption) | exact DL.fresh_dn (DL.fresh_dn (by assumption)) | exact DL.fresh_dn (DL.fresh_dn (DL.fresh_dn (by assumption)))))) | exact DL.fresh_ne (by assumption) | exact Ne.symm (DL.fresh_ne (by assumption)) | exact DL.fresh_ne (DL.fresh_dn (by assumption)) | exact Ne.symm (DL.fresh_ne (DL.fresh_dn (by assumption))) | exact DL.fresh_ne (DL.fresh_dn (DL.fresh_dn (by assumption))) | exact Ne.symm (DL.fresh_ne (DL.fresh_dn (DL.fresh_dn (by assumption))))))).trans ?_; first | exact DL.mup_same | assumption | (refine (DL.mup_ne (by (first | assumption | exact Ne.symm (by assumption) | exact DL.ne_at (by assumption) (by (first | assumption | exact DL.fresh_up (by assumption) | exact DL.fresh_dn (by assumption) | exact DL.fresh_dn (DL.fresh_dn (by assumption)) | exact DL.fresh_dn (DL.fresh_dn (DL.fresh_dn (by assumption))))) | exact Ne.symm (DL.ne_at (by assumption) (by (first | assumption | exact DL.fresh_up (by assumption) | exact DL.fresh_dn (by assumption) | exact DL.fresh_dn (DL.fresh_dn (by assumption)) | exact DL.fresh_dn (DL.fresh_dn (DL.fresh_dn (by assumption)))))) | exact DL.fresh_ne (by assumption) | exact Ne.symm (DL.fresh_ne (by assumption)) | exact DL.fresh_ne (DL.fresh_dn (by assumption)) | exact Ne.symm (DL.fresh_ne (DL.fresh_dn (by assumption))) | exact DL.fresh_ne (DL.fresh_dn (DL.fresh_dn (by assumption))) | exact Ne.symm (DL.fresh_ne (DL.fresh_dn (DL.fresh_dn (by assumption))))))).trans ?_; first | exact DL.mup_same | assumption | (refine (DL.mup_ne (by (first | assumption | exact Ne.symm (by assumption) | exact DL.ne_at (by assumption) (by (first | assumption | exact DL.fresh_up (by assumption) | exact DL.fresh_dn (by assumption) | exact DL.fresh_dn (DL.fresh_dn (by assumption)) | exact DL.fresh_dn (DL.fresh_dn (DL.fresh_dn (by assumption))))) | exact Ne.symm (DL.ne_at (by assumption) (by (first | assumption | exact DL.fresh_up (by assumption) | exact DL.fresh_dn (by assumption) | exact DL.fresh_dn (DL.fresh_dn (by assumption)) | exact DL.fresh_dn (DL.fresh_dn (DL.fresh_dn (by assumption)))))) | exact DL.fresh_ne (by assumption) | exact Ne.symm (DL.fresh_ne (by assumption)) | exact DL.fresh_ne (DL.fresh_dn (by assumption)) | exact Ne.symm (DL.fresh_ne (DL.fresh_dn (by assumption))) | exact DL.fresh_ne (DL.fresh_dn (DL.fresh_dn (by assumption))) | exact Ne.symm (DL.fresh_ne (DL.fresh_dn (DL.fresh_dn (by assumption))))))).trans ?_; first | exact DL.mup_same | assumption))))))) | exact DL.asL_up (by assumption) (by (first | assumption | exact DL.fresh_up (by assumption) | exact DL.fresh_dn (by assumption) | exact DL.fresh_dn (DL.fresh_dn (by assumption)) | exact DL.fresh_dn (DL.fresh_dn (DL.fresh_dn (by assumption))))) | exact DL.asL_up (DL.asL_up (by assumption) (by (first | assumption | exact DL.fresh_up (by assumption) | exact DL.fresh_dn (by assumption) | exact DL.fresh_dn (DL.fresh_dn (by assumption)) | exact DL.fresh_dn (DL.fresh_dn (DL.fresh_dn (by assumption)))))) (by (first | assumption | exact DL.fresh_up (by assumption) | exact DL.fresh_dn (by assumption) | exact DL.fresh_dn (DL.fresh_dn (by assumption)) | exact DL.fresh_dn (DL.fresh_dn (DL.fresh_dn (by assumption)))))) | walk_at "P"))
local macro_rules | `(tactic| walk_at "t") => `(tactic| (first | (simp only [DL.tgSet, DL.fsets, DL.fset, DL.fwipe, DL.fwipe.fdel, List.map_cons, List.map_nil, Toy.Let.d]; exact rfl)))
local macro_rules | `(tactic| walk_at "A") => `(tactic| (first | exact rfl | refine DL.consEq (by walk_at "R1") (by walk_at "A")))
local macro_rules | `(tactic| walk_at "R1") => `(tactic| (first | exact rfl | exact (rfl : _ = Toy.obD (some _)) | exact (rfl : _ = Toy.obD none) | exact (rfl : _ = Toy.oiD (some _)) | exact (rfl : _ = Toy.oiD none) | exact congrArg DL.D.int (Int.toNat_of_nonneg (by (first | omega | (simp only [List.length_map, List.length_range, List.length_cons, List.length_nil, List.length_append]; omega)))).symm | walk_at "R"))
local macro_rules | `(tactic| walk_at "call") => `(tactic| (first | refine Exists.intro _ (Exists.intro _ (And.intro (by walk_at "A") (And.intro (by walk_at "LP") (And.intro (by walk_at "LP") ?_)))) | refine Exists.intro _ (Exists.intro _ (And.intro (by walk_at "A") (And.intro (by walk_at "LP") ?_))) | refine Exists.intro _ (Exists.intro _ (And.intro (by walk_at "A") ?_)) | refine Exists.intro _ (Exists.intro _ (Exists.intro _ (And.intro (by walk_at "A") (And.intro (by walk_at "LP") (And.intro (by walk_at "LP") ?_))))) | refine Exists.intro _ (Exists.intro _ (Exists.intro _ (And.intro (by walk_at "A") (And.intro (by walk_at "LP") ?_)))) | refine Exists.intro _ (Exists.intro _ (Exists.intro _ (And.intro (by walk_at "A") ?_))) | refine Exists.intro _ (Exists.intro _ (Exists.intro _ (Exists.intro _ (And.intro (by walk_at "A") (And.intro (by walk_at "LP") (And.intro (by walk_at "LP") ?_)))))) | refine Exists.intro _ (Exists.intro _ (Exists.intro _ (Exists.intro _ (And.intro (by walk_at "A") (And.intro (by walk_at "LP") ?_))))) | refine Exists.intro _ (Exists.intro _ (Exists.intro _ (Exists.intro _ (And.intro (by walk_at "A") ?_)))) | refine Exists.intro _ (Exists.intro _ (Exists.intro _ (Exists.intro _ (Exists.intro _ (And.intro (by walk_at "A") (And.intro (by walk_at "LP") (And.intro (by walk_at "LP") ?_))))))) | refine Exists.intro _ (Exists.intro _ (Exists.intro _ (Exists.intro _ (Exists.intro _ (And.intro (by walk_at "A") (And.intro (by walk_at "LP") ?_)))))) | refine Exists.intro _ (Exists.intro _ (Exists.intro _ (Exists.intro _ (Exists.intro _ (And.intro (by walk_at "A") ?_))))) | refine Exists.intro _ (Exists.intro _ (Exists.intro _ (Exists.intro _ (Exists.intro _ (Exists.intro _ (And.intro (by walk_at "A") (And.intro (by walk_at "LP") (And.intro (by walk_at "LP") ?_)))))))) | refine Exists.intro _ (Exists.intro _ (Exists.intro _ (Exists.intro _ (Exists.intro _ (Exists.intro _ (And.intro (by walk_at "A") (And.intro (by walk_at "LP") ?_))))))) | refine Exists.intro _ (Exists.intro _ (Exists.intro _ (Exists.intro _ (Exists.intro _ (Exists.intro _ (And.intro (by walk_at "A") ?_)))))) | refine Exists.intro _ (Exists.intro _ (Exists.intro _ (Exists.intro _ (Exists.intro _ (Exists.intro _ (Exists.intro _ (And.intro (by walk_at "A") (And.intro (by walk_at "LP") (And.intro (by walk_at "LP") ?_))))))))) | refine Exists.intro _ (Exists.intro _ (Exists.intro _ (Exists.intro _ (Exists.intro _ (Exists.intro _ (Exists.intro _ (And.intro (by walk_at "A") (And.intro (by walk_at "LP") ?_)))))))) | refine Exists.intro _ (Exists.intro _ (Exists.intro _ (Exists.intro _ (Exists.intro _ (Exists.intro _ (Exists.intro _ (And.intro (by walk_at "A") ?_))))))) | refine Exists.intro _ (Exists.intro _ (Exists.intro _ (Exists.intro _ (Exists.intro _ (Exists.intro _ (Exists.intro _ (Exists.intro _ (And.intro (by walk_at "A") (And.intro (by walk_at "LP") (And.intro (by walk_at "LP") ?_)))))))))) | refine Exists.intro _ (Exists.intro _ (Exists.intro _ (Exists.intro _ (Exists.intro _ (Exists.intro _ (Exists.intro _ (Exists.intro _ (And.intro (by walk_at "A") (And.intro (by walk_at "LP") ?_))))))))) | refine Exists.intro _ (Exists.intro _ (Exists.intro _ (Exists.intro _ (Exists.intro _ (Exists.intro _ (Exists.intro _ (Exists.intro _ (And.intro (by walk_at "A") ?_)))))))) | refine Exists.intro _ (Exists.intro _ (Exists.intro _ (Exists.intro _ (Exists.intro _ (Exists.intro _ (Exists.intro _ (Exists.intro _ (Exists.intro _ (And.intro (by walk_at "A") (And.intro (by walk_at "LP") (And.intro (by walk_at "LP") ?_))))))))))) | refine Exists.intro _ (Exists.intro _ (Exists.intro _ (Exists.intro _ (Exists.intro _ (Exists.intro _ (Exists.intro _ (Exists.intro _ (Exists.intro _ (And.intro (by walk_at "A") (And.intro (by walk_at "LP") ?_)))))))))) | refine Exists.intro _ (Exists.intro _ (Exists.intro _ (Exists.intro _ (Exists.intro _ (Exists.intro _ (Exists.intro _ (Exists.intro _ (Exists.intro _ (And.intro (by walk_at "A") ?_))))))))) | refine Exists.intro _ (Exists.intro _ (Exists.intro _ (Exists.intro _ (Exists.intro _ (Exists.intro _ (Exists.intro _ (Exists.intro _ (Exists.intro _ (Exists.intro _ (And.intro (by walk_at "A") (And.intro (by walk_at "LP") (And.intro (by walk_at "LP") ?_)))))))))))) | refine Exists.intro _ (Exists.intro _ (Exists.intro _ (Exists.intro _ (Exists.intro _ (Exists.intro _ (Exists.intro _ (Exists.intro _ (Exists.intro _ (Exists.intro _ (And.intro (by walk_at "A") (And.intro (by walk_at "LP") ?_))))))))))) | refine Exists.intro _ (Exists.intro _ (Exists.intro _ (Exists.intro _ (Exists.intro _ (Exists.intro _ (Exists.intro _ (Exists.intro _ (Exists.intro _ (Exists.intro _ (And.intro (by walk_at "A") ?_))))))))))))
set_option hygiene false in
local macro_rules | `(tactic| walk_at "P") => `(tactic| first | exact BkR.up (by assumption) (by first | assumption | exact DL.fresh_up (by assumption) | exact DL.fresh_dn (by assumption) | exact DL.fresh_dn (DL.fresh_dn (by assumption)) | exact DL.fresh_dn (DL.fresh_dn (DL.fresh_dn (by assumption)))) | exact BkR.up (BkR.up (by assumption) (by first | assumption | exact DL.fresh_up (by assumption) | exact DL.fresh_dn (by assumption) | exact DL.fresh_dn (DL.fresh_dn (by assumption)) | exact DL.fresh_dn (DL.fresh_dn (DL.fresh_dn (by assumption))))) (by first | assumption | exact DL.fresh_up (by assumption) | exact DL.fresh_dn (by assumption) | exact DL.fresh_dn (DL.fresh_dn (by assumption)) | exact DL.fresh_dn (DL.fresh_dn (DL.fresh_dn (by assumption)))))
set_option hygiene false in
local macro_rules | `(tactic| walk_at "g") => `(tactic| ((try dsimp only [DL.fstart]); (repeat' ((conv => whnf); first | (show And _ _; (first | (show (_ = true → _) ∧ (_ = false → _); refine And.intro (fun hb => ?_) (fun hb => ?_) <;> try (walk_at "k")) | (show (_ = _) ∧ _; refine And.intro (by (first | exact rfl | exact DL.dty_lst (by (first | exact DL.mup_same | assumption | (refine (DL.mup_ne (by (first | assumption | exact Ne.symm (by assumption) | exact DL.ne_at (by assumption) (by (first | assumption | exact DL.fresh_up (by assumption) | exact DL.fresh_dn (by assumption) | exact DL.fresh_dn (DL.fresh_dn (by assumption)) | exact DL.fresh_dn (DL.fresh_dn (DL.fresh_dn (by assumption))))) | exact Ne.symm (DL.ne_at (by assumption) (by (first | assumption | exact DL.fresh_up (by assumption) | exact DL.fresh_dn (by assumption) | exact DL.fresh_dn (DL.fresh_dn (by assumption)) | exact DL.fresh_dn (DL.fresh_dn (DL.fresh_dn (by assumption)))))) | exact DL.fresh_ne (by assumption) | exact Ne.symm (DL.fresh_ne (by assumption)) | exact DL.fresh_ne (DL.fresh_dn (by assumption)) | exact Ne.symm (DL.fresh_ne (DL.fresh_dn (by assumption))) | exact DL.fresh_ne (DL.fresh_dn (DL.fresh_dn (by assumption))) | exact Ne.symm (DL.fresh_ne (DL.fresh_dn (DL.fresh_dn (by assumption))))))).trans ?_; first | exact DL.mup_same | assumption | (refine (DL.mup_ne (by (first | assumption | exact Ne.symm (by assumption) | exact DL.ne_at (by assumption) (by (first | assumption | exact DL.fresh_up (by assumption) | exact DL.fresh_dn (by assumption) | exact DL.fresh_dn (DL.fresh_dn (by assumption)) | exact DL.fresh_dn (DL.fresh_dn (DL.fresh_dn (by assumption))))) | exact Ne.symm (DL.ne_at (by assumption) (by (first | assumption | exact DL.fresh_up (by assumption) | exact DL.fresh_dn (by assumption) | exact DL.fresh_dn (DL.fresh_dn (by assumption)) | exact DL.fresh_dn (DL.fresh_dn (DL.fresh_dn (by assumption)))))) | exact DL.fresh_ne (by assumption) | exact Ne.symm (DL.fresh_ne (by assumption)) | exact DL.fresh_ne (DL.fresh_dn (by assumption)) | exact Ne.symm (DL.fresh_ne (DL.fresh_dn (by assumption))) | exact DL.fresh_ne (DL.fresh_dn (DL.fresh_dn (by assumption))) | exact Ne.symm (DL.fresh_ne (DL.fresh_dn (DL.fresh_dn (by assumption))))))).trans ?_; first | exact DL.mup_same | assumption | (refine (DL.mup_ne (by (first | assumption | exact Ne.symm (by assumption) | exact DL.ne_at (by assumption) (by (first | assumption | exact DL.fresh_up (by assumption) | exact DL.fresh_dn (by assumption) | exact DL.fresh_dn (DL.fresh_dn (by assumption)) | exact DL.fresh_dn (DL.fresh_dn (DL.fresh_dn (by assumption))))) | exact Ne.symm (DL.ne_at (by assumption) (by (first | assumption | exact DL.fresh_up (by assumption) | exact DL.fresh_dn (by assumption) | exact DL.fresh_dn (DL.fresh_dn (by assumption)) | exact DL.fresh_dn (DL.fresh_dn (DL.fresh_dn (by assumption)))))) | exact DL.fresh_ne (by assumption) | exact Ne.symm (DL.fresh_ne (by assumption)) | exact DL.fresh_ne (DL.fresh_dn (by assumption)) | exact Ne.symm (DL.fresh_ne (DL.fresh_dn (by assumption))) | exact DL.fresh_ne (DL.fresh_dn (DL.fresh_dn (by assumption))) | exact Ne.symm (DL.fresh_ne (DL.fresh_dn (DL.fresh_dn (by assumption))))))).trans ?_; first | exact DL.mup_same | assumption | (refine (DL.mup_ne (by (first | assumption | exact Ne.symm (by assumption) | exact DL.ne_at (by assumption) (by (first | assumption | exact DL.fresh_up (by assumption) | exact DL.fresh_dn (by assumption) | exact DL.fresh_dn (DL.fresh_dn (by assumption)) | exact DL.fresh_dn (DL.fresh_dn (DL.fresh_dn (by assumption))))) | exact Ne.symm (DL.ne_at (by assumption) (by (first | assumption | exact DL.fresh_up (by assumption) | exact DL.fresh_dn (by assumption) | exact DL.fresh_dn (DL.fresh_dn (by assumption)) | exact DL.fresh_dn (DL.fresh_dn (DL.fresh_dn (by assumption)))))) | exact DL.fresh_ne (by assumption) | exact Ne.symm (DL.fresh_ne (by assumption)) | exact DL.fresh_ne (DL.fresh_dn (by assumption)) | exact Ne.symm (DL.fresh_ne (DL.fresh_dn (by assumption))) | exact DL.fresh_ne (DL.fresh_dn (DL.fresh_dn (by assumption))) | exact Ne.symm (DL.fresh_ne (DL.fresh_dn (DL.fresh_dn (by assumption))))))).trans ?_; first | exact DL.mup_same | assumption | (refine (DL.mup_ne (by (first | assumption | exact Ne.symm (by assumption) | exact DL.ne_at (by assumption) (by (first | assumption | exact DL.fresh_up (by assumption) | exact DL.fresh_dn (by assumption) | exact DL.fresh_dn (DL.fresh_dn (by assumption)) | exact DL.fresh_dn (DL.fresh_dn (DL.fresh_dn (by assumption))))) | exact Ne.symm (DL.ne_at (by assumption) (by (first | assumption | exact DL.fresh_up (by assumption) | exact DL.fresh_dn (by assumption) | exact DL.fresh_dn (DL.fresh_dn (by assumption)) | exact DL.fresh_dn (DL.fresh_dn (DL.fresh_dn (by assumption)))))) | exact DL.fresh_ne (by assumption) | exact Ne.symm (DL.fresh_ne (by assumption)) | exact DL.fresh_ne (DL.fresh_dn (by assumption)) | exact Ne.symm (DL.fresh_ne (DL.fresh_dn (by assumption))) | exact DL.fresh_ne (DL.fresh_dn (DL.fresh_dn (by assumption))) | exact Ne.symm (DL.fresh_ne (DL.fresh_dn (DL.fresh_dn (by assumption))))))).trans ?_; first | exact DL.mup_same | assumption))))))) | assumption | exact DL.asL_adr (by (first | exact DL.mup_same | assumption | (refine (DL.mup_ne (by (first | assumption | exact Ne.symm (by assumption) | exact DL.ne_at (by assumption) (by (first | assumption | exact DL.fresh_up (by assumption) | exact DL.fresh_dn (by assumption) | exact DL.fresh_dn (DL.fresh_dn (by assumption)) | exact DL.fresh_dn (DL.fresh_dn (DL.fresh_dn (by assumption))))) | exact Ne.symm (DL.ne_at (by assumption) (by (first | assumption | exact DL.fresh_up (by assumption) | exact DL.fresh_dn (by assumption) | exact DL.fresh_dn (DL.fresh_dn (by assumption)) | exact DL.fresh_dn (DL.fresh_dn (DL.fresh_dn (by assumption)))))) | exact DL.fresh_ne (by assumption) | exact Ne.symm (DL.fresh_ne (by assumption)) | exact DL.fresh_ne (DL.fresh_dn (by assumption)) | exact Ne.symm (DL.fresh_ne (DL.fresh_dn (by assumption))) | exact DL.fresh_ne (DL.fresh_dn (DL.fresh_dn (by assumption))) | exact Ne.symm (DL.fresh_ne (DL.fresh_dn (DL.fresh_dn (by assumption))))))).trans ?_; first | exact DL.mup_same | assumption | (refine (DL.mup_ne (by (first | assumption | exact Ne.symm (by assumption) | exact DL.ne_at (by assumption) (by (first | assumption | exact DL.fresh_up (by assumption) | exact DL.fresh_dn (by assumption) | exact DL.fresh_dn (DL.fresh_dn (by assumption)) | exact DL.fresh_dn (DL.fresh_dn (DL.fresh_dn (by assumption))))) | exact Ne.symm (DL.ne_at (by assumption) (by (first | assumption | exact DL.fresh_up (by assumption) | exact DL.fresh_dn (by assumption) | exact DL.fresh_dn (DL.fresh_dn (by assumption)) | exact DL.fresh_dn (DL.fresh_dn (DL.fresh_dn (by assumption)))))) | exact DL.fresh_ne (by assumption) | exact Ne.symm (DL.fresh_ne (by assumption)) | exact DL.fresh_ne (DL.fresh_dn (by assumption)) | exact Ne.symm (DL.fresh_ne (DL.fresh_dn (by assumption))) | exact DL.fresh_ne (DL.fresh_dn (DL.fresh_dn (by assumption))) | exact Ne.symm (DL.fresh_ne (DL.fresh_dn (DL.fresh_dn (by assumption))))))).trans ?_; first | exact DL.mup_same | assumption | (refine (DL.mup_ne (by (first | assumption | exact Ne.symm (by assumption) | exact DL.ne_at (by assumption) (by (first | assumption | exact DL.fresh_up (by assumption) | exact DL.fresh_dn (by assumption) | exact DL.fresh_dn (DL.fresh_dn (by assumption)) | exact DL.fresh_dn (DL.fresh_dn (DL.fresh_dn (by assumption))))) | exact Ne.symm (DL.ne_at (by assumption) (by (first | assumption | exact DL.fresh_up (by assumption) | exact DL.fresh_dn (by assumption) | exact DL.fresh_dn (DL.fresh_dn (by assumption)) | exact DL.fresh_dn (DL.fresh_dn (DL.fresh_dn (by assumption)))))) | exact DL.fresh_ne (by assumption) | exact Ne.symm (DL.fresh_ne (by assumption)) | exact DL.fresh_ne (DL.fresh_dn (by assumption)) | exact Ne.symm (DL.fresh_ne (DL.fresh_dn (by assumption))) | exact DL.fresh_ne (DL.fresh_dn (DL.fresh_dn (by assumption))) | exact Ne.symm (DL.fresh_ne (DL.fresh_dn (DL.fresh_dn (by assumption))))))).trans ?_; first | exact DL.mup_same | assumption | (refine (DL.mup_ne (by (first | assumption | exact Ne.symm (by assumption) | exact DL.ne_at (by assumption) (by (first | assumption | exact DL.fresh_up (by assumption) | exact DL.fresh_dn (by assumption) | exact DL.fresh_dn (DL.fresh_dn (by assumption)) | exact DL.fresh_dn (DL.fresh_dn (DL.fresh_dn (by assumption))))) | exact Ne.symm (DL.ne_at (by assumption) (by (first | assumption | exact DL.fresh_up (by assumption) | exact DL.fresh_dn (by assumption) | exact DL.fresh_dn (DL.fresh_dn (by assumption)) | exact DL.fresh_dn (DL.fresh_dn (DL.fresh_dn (by assumption)))))) | exact DL.fresh_ne (by assumption) | exact Ne.symm (DL.fresh_ne (by assumption)) | exact DL.fresh_ne (DL.fresh_dn (by assumption)) | exact Ne.symm (DL.fresh_ne (DL.fresh_dn (by assumption))) | exact DL.fresh_ne (DL.fresh_dn (DL.fresh_dn (by assumption))) | exact Ne.symm (DL.fresh_ne (DL.fresh_dn (DL.fresh_dn (by assumption))))))).trans ?_; first | exact DL.mup_same | assumption | (refine (DL.mup_ne (by (first | assumption | exact Ne.symm (by assumption) | exact DL.ne_at (by assumption) (by (first | assumption | exact DL.fresh_up (by assumption) | exact DL.fresh_dn (by assumption) | exact DL.fresh_dn (DL.fresh_dn (by assumption)) | exact DL.fresh_dn (DL.fresh_dn (DL.fresh_dn (by assumption))))) | exact Ne.symm (DL.ne_at (by assumption) (by (first | assumption | exact DL.fresh_up (by assumption) | exact DL.fresh_dn (by assumption) | exact DL.fresh_dn (DL.fresh_dn (by assumption)) | exact DL.fresh_dn (DL.fresh_dn (DL.fresh_dn (by assumption)))))) | exact DL.fresh_ne (by assumption) | exact Ne.symm (DL.fresh_ne (by assumption)) | exact DL.fresh_ne (DL.fresh_dn (by assumption)) | exact Ne.symm (DL.fresh_ne (DL.fresh_dn (by assumption))) | exact DL.fresh_ne (DL.fresh_dn (DL.fresh_dn (by assumption))) | exact Ne.symm (DL.fresh_ne (DL.fresh_dn (DL.fresh_dn (by assumption))))))).trans ?_; first | exact DL.mup_same | assumption))))))) | exact DL.asL_up (by assumption) (by (first | assumption | exact DL.fresh_up (by assumption) | exact DL.fresh_dn (by assumption) | exact DL.fresh_dn (DL.fresh_dn (by assumption)) | exact DL.fresh_dn (DL.fresh_dn (DL.fresh_dn (by assumption))))) | exact DL.asL_up (DL.asL_up (by assumption) (by (first | assumption | exact DL.fresh_up (by assumption) | exact DL.fresh_dn (by assumption) | exact DL.fresh_dn (DL.fresh_dn (by assumption)) | exact DL.fresh_dn (DL.fresh_dn (DL.fresh_dn (by assumption)))))) (by (first | assumption | exact DL.fresh_up (by assumption) | exact DL.fresh_dn (by assumption) | exact DL.fresh_dn (DL.fresh_dn (by assumption)) | exact DL.fresh_dn (DL.fresh_dn (DL.fresh_dn (by assumption))))) | exact DL.mup_same | exact DL.fit_ints _ | omega | (first | exact DL.mup_same | assumption | (refine (DL.mup_ne (by (first | assumption | exact Ne.symm (by assumption) | exact DL.ne_at (by assumption) (by (first | assumption | exact DL.fresh_up (by assumption) | exact DL.fresh_dn (by assumption) | exact DL.fresh_dn (DL.fresh_dn (by assumption)) | exact DL.fresh_dn (DL.fresh_dn (DL.fresh_dn (by assumption))))) | exact Ne.symm (DL.ne_at (by assumption) (by (first | assumption | exact DL.fresh_up (by assumption) | exact DL.fresh_dn (by assumption) | exact DL.fresh_dn (DL.fresh_dn (by assumption)) | exact DL.fresh_dn (DL.fresh_dn (DL.fresh_dn (by assumption)))))) | exact DL.fresh_ne (by assumption) | exact Ne.symm (DL.fresh_ne (by assumption)) | exact DL.fresh_ne (DL.fresh_dn (by assumption)) | exact Ne.symm (DL.fresh_ne (DL.fresh_dn (by assumption))) | exact DL.fresh_ne (DL.fresh_dn (DL.fresh_dn (by assumption))) | exact Ne.symm (DL.fresh_ne (DL.fresh_dn (DL.fresh_dn (by assumption))))))).trans ?_; first | exact DL.mup_same | assumption | (refine (DL.mup_ne (by (first | assumption | exact Ne.symm (by assumption) | exact DL.ne_at (by assumption) (by (first | assumption | exact DL.fresh_up (by assumption) | exact DL.fresh_dn (by assumption) | exact DL.fresh_dn (DL.fresh_dn (by assumption)) | exact DL.fresh_dn (DL.fresh_dn (DL.fresh_dn (by assumption))))) | exact Ne.symm (DL.ne_at (by assumption) (by (first | assumption | exact DL.fresh_up (by assumption) | exact DL.fresh_dn (by assumption) | exact DL.fresh_dn (DL.fresh_dn (by assumption)) | exact DL.fresh_dn (DL.fresh_dn (DL.fresh_dn (by assumption)))))) | exact DL.fresh_ne (by assumption) | exact Ne.symm (DL.fresh_ne (by assumption)) | exact DL.fresh_ne (DL.fresh_dn (by assumption)) | exact Ne.symm (DL.fresh_ne (DL.fresh_dn (by assumption))) | exact DL.fresh_ne (DL.fresh_dn (DL.fresh_dn (by assumption))) | exact Ne.symm (DL.fresh_ne (DL.fresh_dn (DL.fresh_dn (by assumption))))))).trans ?_; first | exact DL.mup_same | assumption | (refine (DL.mup_ne (by (first | assumption | exact Ne.symm (by assumption) | exact DL.ne_at (by assumption) (by (first | assumption | exact DL.fresh_up (by assumption) | exact DL.fresh_dn (by assumption) | exact DL.fresh_dn (DL.fresh_dn (by assumption)) | exact DL.fresh_dn (DL.fresh_dn (DL.fresh_dn (by assumption))))) | exact Ne.symm (DL.ne_at (by assumption) (by (first | assumption | exact DL.fresh_up (by assumption) | exact DL.fresh_dn (by assumption) | exact DL.fresh_dn (DL.fresh_dn (by assumption)) | exact DL.fresh_dn (DL.fresh_dn (DL.fresh_dn (by assumption)))))) | exact DL.fresh_ne (by assumption) | exact Ne.symm (DL.fresh_ne (by assumption)) | exact DL.fresh_ne (DL.fresh_dn (by assumption)) | exact Ne.symm (DL.fresh_ne (DL.fresh_dn (by assumption))) | exact DL.fresh_ne (DL.fresh_dn (DL.fresh_dn (by assumption))) | exact Ne.symm (DL.fresh_ne (DL.fresh_dn (DL.fresh_dn (by assumption))))))).trans ?_; first | exact DL.mup_same | assumption | (refine (DL.mup_ne (by (first | assumption | exact Ne.symm (by assumption) | exact DL.ne_at (by assumption) (by (first | assumption | exact DL.fresh_up (by assumption) | exact DL.fresh_dn (by assumption) | exact DL.fresh_dn (DL.fresh_dn (by assumption)) | exact DL.fresh_dn (DL.fresh_dn (DL.fresh_dn (by assumption))))) | exact Ne.symm (DL.ne_at (by assumption) (by (first | assumption | exact DL.fresh_up (by assumption) | exact DL.fresh_dn (by assumption) | exact DL.fresh_dn (DL.fresh_dn (by assumption)) | exact DL.fresh_dn (DL.fresh_dn (DL.fresh_dn (by assumption)))))) | exact DL.fresh_ne (by assumption) | exact Ne.symm (DL.fresh_ne (by assumption)) | exact DL.fresh_ne (DL.fresh_dn (by assumption)) | exact Ne.symm (DL.fresh_ne (DL.fresh_dn (by assumption))) | exact DL.fresh_ne (DL.fresh_dn (DL.fresh_dn (by assumption))) | exact Ne.symm (DL.fresh_ne (DL.fresh_dn (DL.fresh_dn (by assumption))))))).trans ?_; first | exact DL.mup_same | assumption | (refine (DL.mup_ne (by (first | assumption | exact Ne.symm (by assumption) | exact DL.ne_at (by assumption) (by (first | assumption | exact DL.fresh_up (by assumption) | exact DL.fresh_dn (by assumption) | exact DL.fresh_dn (DL.fresh_dn (by assumption)) | exact DL.fresh_dn (DL.fresh_dn (DL.fresh_dn (by assumption))))) | exact Ne.symm (DL.ne_at (by assumption) (by (first | assumption | exact DL.fresh_up (by assumption) | exact DL.fresh_dn (by assumption) | exact DL.fresh_dn (DL.fresh_dn (by assumption)) | exact DL.fresh_dn (DL.fresh_dn (DL.fresh_dn (by assumption)))))) | exact DL.fresh_ne (by assumption) | exact Ne.symm (DL.fresh_ne (by assumption)) | exact DL.fresh_ne (DL.fresh_dn (by assumption)) | exact Ne.symm (DL.fresh_ne (DL.fresh_dn (by assumption))) | exact DL.fresh_ne (DL.fresh_dn (DL.fresh_dn (by assumption))) | exact Ne.symm (DL.fresh_ne (DL.fresh_dn (DL.fresh_dn (by assumption))))))).trans ?_; first | exact DL.mup_same | assumption)))))))) ?_) | (show (_ ≤ _) ∧ _; refine And.intro (by first | exact DL.sz (Nat.le_of_ble_eq_true rfl) | (refine DL.sz ?_; first | omega | (simp only [PySem.Str.length_append]; omega) | (simp only [List.length_map, List.length_append, List.length_range, List.length_cons, List.length_nil]; omega) | (simp; done) | (simp; omega)) | assumption | exact Nat.le_trans (List.length_filter_le ..) (by omega) | first | omega | (simp only [PySem.Str.length_append]; omega) | (simp only [List.length_map, List.length_append, List.length_range, List.length_cons, List.length_nil]; omega) | (simp; done) | (simp; omega)) ?_; try rw [DL.mup_mup]) | (show (_ < _) ∧ _; refine And.intro (by first | exact DL.szl (Nat.le_of_ble_eq_true rfl) | (refine DL.szl ?_; first | omega | (simp only [PySem.Str.length_append]; omega) | (simp only [List.length_map, List.length_append, List.length_range, List.length_cons, List.length_nil]; omega) | (simp; done) | (simp; omega)) | assumption | first | omega | (simp only [PySem.Str.length_append]; omega) | (simp only [List.length_map, List.length_append, List.length_range, List.length_cons, List.length_nil]; omega) | (simp; done) | (simp; omega)) ?_; try rw [DL.mup_mup]) | (show (Exists _) ∧ _; refine And.intro (by first | exact Exists.intro _ (Exists.intro _ (And.intro (by (first | exact rfl | assumption | exact DL.insK_adr (by (first | exact DL.mup_same | assumption | (refine (DL.mup_ne (by (first | assumption | exact Ne.symm (by assumption) | exact DL.ne_at (by assumption) (by (first | assumption | exact DL.fresh_up (by assumption) | exact DL.fresh_dn (by assumption) | exact DL.fresh_dn (DL.fresh_dn (by assumption)) | exact DL.fresh_dn (DL.fresh_dn (DL.fresh_dn (by assumption))))) | exact Ne.symm (DL.ne_at (by assumption) (by (first | assumption | exact DL.fresh_up (by assumption) | exact DL.fresh_dn (by assumption) | exact DL.fresh_dn (DL.fresh_dn (by assumption)) | exact DL.fresh_dn (DL.fresh_dn (DL.fresh_dn (by assumption)))))) | exact DL.fresh_ne (by assumption) | exact Ne.symm (DL.fresh_ne (by assumption)) | exact DL.fresh_ne (DL.fresh_dn (by assumption)) | exact Ne.symm (DL.fresh_ne (DL.fresh_dn (by assumption))) | exact DL.fresh_ne (DL.fresh_dn (DL.fresh_dn (by assumption))) | exact Ne.symm (DL.fresh_ne (DL.fresh_dn (DL.fresh_dn (by assumption))))))).trans ?_; first | exact DL.mup_same | assumption | (refine (DL.mup_ne (by (first | assumption | exact Ne.symm (by assumption) | exact DL.ne_at (by assumption) (by (first | assumption | exact DL.fresh_up (by assumption) | exact DL.fresh_dn (by assumption) | exact DL.fresh_dn (DL.fresh_dn (by assumption)) | exact DL.fresh_dn (DL.fresh_dn (DL.fresh_dn (by assumption))))) | exact Ne.symm (DL.ne_at (by assumption) (by (first | assumption | exact DL.fresh_up (by assumption) | exact DL.fresh_dn (by assumption) | exact DL.fresh_dn (DL.fresh_dn (by assumption)) | exact DL.fresh_dn (DL.fresh_dn (DL.fresh_dn (by assumption)))))) | exact DL.fresh_ne (by assumption) | exact Ne.symm (DL.fresh_ne (by assumption)) | exact DL.fresh_ne (DL.fresh_dn (by assumption)) | exact Ne.symm (DL.fresh_ne (DL.fresh_dn (by assumption))) | exact DL.fresh_ne (DL.fresh_dn (DL.fresh_dn (by assumption))) | exact Ne.symm (DL.fresh_ne (DL.fresh_dn (DL.fresh_dn (by assumption))))))).trans ?_; first | exact DL.mup_same | assumption | (refine (DL.mup_ne (by (first | assumption | exact Ne.symm (by assumption) | exact DL.ne_at (by assumption) (by (first | assumption | exact DL.fresh_up (by assumption) | exact DL.fresh_dn (by assumption) | exact DL.fresh_dn (DL.fresh_dn (by assumption)) | exact DL.fresh_dn (DL.fresh_dn (DL.fresh_dn (by assumption))))) | exact Ne.symm (DL.ne_at (by assumption) (by (first | assumption | exact DL.fresh_up (by assumption) | exact DL.fresh_dn (by assumption) | exact DL.fresh_dn (DL.fresh_dn (by assumption)) | exact DL.fresh_dn (DL.fresh_dn (DL.fresh_dn (by assumption)))))) | exact DL.fresh_ne (by assumption) | exact Ne.symm (DL.fresh_ne (by assumption)) | exact DL.fresh_ne (DL.fresh_dn (by assumption)) | exact Ne.symm (DL.fresh_ne (DL.fresh_dn (by assumption))) | exact DL.fresh_ne (DL.fresh_dn (DL.fresh_dn (by assumption))) | exact Ne.symm (DL.fresh_ne (DL.fresh_dn (DL.fresh_dn (by assumption))))))).trans ?_; first | exact DL.mup_same | assumption | (refine (DL.mup_ne (by (first | assumption | exact Ne.symm (by assumption) | exact DL.ne_at (by assumption) (by (first | assumption | exact DL.fresh_up (by assumption) | exact DL.fresh_dn (by assumption) | exact DL.fresh_dn (DL.fresh_dn (by assumption)) | exact DL.fresh_dn (DL.fresh_dn (DL.fresh_dn (by assumption))))) | exact Ne.symm (DL.ne_at (by assumption) (by (first | assumption | exact DL.fresh_up (by assumption) | exact DL.fresh_dn (by assumption) | exact DL.fresh_dn (DL.fresh_dn (by assumption)) | exact DL.fresh_dn (DL.fresh_dn (DL.fresh_dn (by assumption)))))) | exact DL.fresh_ne (by assumption) | exact Ne.symm (DL.fresh_ne (by assumption)) | exact DL.fresh_ne (DL.fresh_dn (by assumption)) | exact Ne.symm (DL.fresh_ne (DL.fresh_dn (by assumption))) | exact DL.fresh_ne (DL.fresh_dn (DL.fresh_dn (by assumption))) | exact Ne.symm (DL.fresh_ne (DL.fresh_dn (DL.fresh_dn (by assumption))))))).trans ?_; first | exact DL.mup_same | assumption | (refine (DL.mup_ne (by (first | assumption | exact Ne.symm (by assumption) | exact DL.ne_at (by assumption) (by (first | assumption | exact DL.fresh_up (by assumption) | exact DL.fresh_dn (by assumption) | exact DL.fresh_dn (DL.fresh_dn (by assumption)) | exact DL.fresh_dn (DL.fresh_dn (DL.fresh_dn (by assumption))))) | exact Ne.symm (DL.ne_at (by assumption) (by (first | assumption | exact DL.fresh_up (by assumption) | exact DL.fresh_dn (by assumption) | exact DL.fresh_dn (DL.fresh_dn (by assumption)) | exact DL.fresh_dn (DL.fresh_dn (DL.fresh_dn (by assumption)))))) | exact DL.fresh_ne (by assumption) | exact Ne.symm (DL.fresh_ne (by assumption)) | exact DL.fresh_ne (DL.fresh_dn (by assumption)) | exact Ne.symm (DL.fresh_ne (DL.fresh_dn (by assumption))) | exact DL.fresh_ne (DL.fresh_dn (DL.fresh_dn (by assumption))) | exact Ne.symm (DL.fresh_ne (DL.fresh_dn (DL.fresh_dn (by assumption))))))).trans ?_; first | exact DL.mup_same | assumption))))))))) (by decide +kernel))) | assumption) ?_) | (show (DL.Rg _) ∧ _; refine And.intro (DL.Rg.mk (by (first | omega | (simp only [List.length_map, List.length_range, List.length_cons, List.length_nil, List.length_append]; omega))) (by (first | omega | (simp only [List.length_map, List.length_range, List.length_cons, List.length_nil, List.length_append]; omega)))) ?_) | (show (L2.CMul _ _) ∧ _; refine And.intro (by (first | exact And.intro (by decide) (by decide) | exact Or.inl (And.intro (by decide) (by decide)) | exact Or.inr (And.intro (by decide) (by decide)) | exact And.intro (by omega) (by omega) | exact Or.inl (And.intro (by omega) (by omega)) | exact Or.inr (And.intro (by omega) (by omega)) | decide)) ?_) | (show (L2.CDiv _ _) ∧ _; refine And.intro (by (first | exact And.intro (by decide) (by decide) | exact Or.inl (And.intro (by decide) (by decide)) | exact Or.inr (And.intro (by decide) (by decide)) | exact And.intro (by omega) (by omega) | exact Or.inl (And.intro (by omega) (by omega)) | exact Or.inr (And.intro (by omega) (by omega)) | decide)) ?_) | refine And.intro (by assumption) ?_ | refine And.intro (by walk_at "P") ?_ | refine And.intro (by (first | exact And.intro (by decide) (by decide) | exact Or.inl (And.intro (by decide) (by decide)) | exact Or.inr (And.intro (by decide) (by decide)) | exact And.intro (by omega) (by omega) | exact Or.inl (And.intro (by omega) (by omega)) | exact Or.inr (And.intro (by omega) (by omega)) | decide)) ?_ | refine And.intro (by first | omega | trivial) ?_ | walk_at "x")) | (show ∃ m2, _ ∧ DL.GcR _ m2; refine Exists.intro _ (And.intro ?_ (by (first | exact DL.GcR.mk (by assumption) | exact DL.GcR.mk (DL.Gc.up (by (first | assumption | exact DL.fresh_up (by assumption) | exact DL.fresh_dn (by assumption) | exact DL.fresh_dn (DL.fresh_dn (by assumption)) | exact DL.fresh_dn (DL.fresh_dn (DL.fresh_dn (by assumption))))) (DL.Gc.up (by (first | assumption | exact DL.fresh_up (by assumption) | exact DL.fresh_dn (by assumption) | exact DL.fresh_dn (DL.fresh_dn (by assumption)) | exact DL.fresh_dn (DL.fresh_dn (DL.fresh_dn (by assumption))))) (DL.Gc.up (by (first | assumption | exact DL.fresh_up (by assumption) | exact DL.fresh_dn (by assumption) | exact DL.fresh_dn (DL.fresh_dn (by assumption)) | exact DL.fresh_dn (DL.fresh_dn (DL.fresh_dn (by assumption))))) (DL.Gc.up (by (first | assumption | exact DL.fresh_up (by assumption) | exact DL.fresh_dn (by assumption) | exact DL.fresh_dn (DL.fresh_dn (by assumption)) | exact DL.fresh_dn (DL.fresh_dn (DL.fresh_dn (by assumption))))) (DL.Gc.up (by (first | assumption | exact DL.fresh_up (by assumption) | exact DL.fresh_dn (by assumption) | exact DL.fresh_dn (DL.fresh_dn (by assumption)) | exact DL.fresh_dn (DL.fresh_dn (DL.fresh_dn (by assumption))))) (DL.Gc.refl _)))))) | exact DL.GcR.mk (DL.Gc.up (by (first | assumption | exact DL.fresh_up (by assumption) | exact DL.fresh_dn (by assumption) | exact DL.fresh_dn (DL.fresh_dn (by assumption)) | exact DL.fresh_dn (DL.fresh_dn (DL.fresh_dn (by assumption))))) (DL.Gc.up (by (first | assumption | exact DL.fresh_up (by assumption) | exact DL.fresh_dn (by assumption) | exact DL.fresh_dn (DL.fresh_dn (by assumption)) | exact DL.fresh_dn (DL.fresh_dn (DL.fresh_dn (by assumption))))) (DL.Gc.up (by (first | assumption | exact DL.fresh_up (by assumption) | exact DL.fresh_dn (by assumption) | exact DL.fresh_dn (DL.fresh_dn (by assumption)) | exact DL.fresh_dn (DL.fresh_dn (DL.fresh_dn (by assumption))))) (DL.Gc.up (by (first | assumption | exact DL.fresh_up (by assumption) | exact DL.fresh_dn (by assumption) | exact DL.fresh_dn (DL.fresh_dn (by assumption)) | exact DL.fresh_dn (DL.fresh_dn (DL.fresh_dn (by assumption))))) (DL.Gc.refl _))))) | exact DL.GcR.mk (DL.Gc.up (by (first | assumption | exact DL.fresh_up (by assumption) | exact DL.fresh_dn (by assumption) | exact DL.fresh_dn (DL.fresh_dn (by assumption)) | exact DL.fresh_dn (DL.fresh_dn (DL.fresh_dn (by assumption))))) (DL.Gc.up (by (first | assumption | exact DL.fresh_up (by assumption) | exact DL.fresh_dn (by assumption) | exact DL.fresh_dn (DL.fresh_dn (by assumption)) | exact DL.fresh_dn (DL.fresh_dn (DL.fresh_dn (by assumption))))) (DL.Gc.up (by (first | assumption | exact DL.fresh_up (by assumption) | exact DL.fresh_dn (by assumption) | exact DL.fresh_dn (DL.fresh_dn (by assumption)) | exact DL.fresh_dn (DL.fresh_dn (DL.fresh_dn (by assumption))))) (DL.Gc.both (DL.Gc.up (by (first | assumption | exact DL.fresh_up (by assumption) | exact DL.fresh_dn (by assumption) | exact DL.fresh_dn (DL.fresh_dn (by assumption)) | exact DL.fresh_dn (DL.fresh_dn (DL.fresh_dn (by assumption))))) (DL.Gc.refl _)))))) | exact DL.GcR.mk (DL.Gc.up (by (first | assumption | exact DL.fresh_up (by assumption) | exact DL.fresh_dn (by assumption) | exact DL.fresh_dn (DL.fresh_dn (by assumption)) | exact DL.fresh_dn (DL.fresh_dn (DL.fresh_dn (by assumption))))) (DL.Gc.up (by (first | assumption | exact DL.fresh_up (by assumption) | exact DL.fresh_dn (by assumption) | exact DL.fresh_dn (DL.fresh_dn (by assumption)) | exact DL.fresh_dn (DL.fresh_dn (DL.fresh_dn (by assumption))))) (DL.Gc.both (DL.Gc.up (by (first | assumption | exact DL.fresh_up (by assumption) | exact DL.fresh_dn (by assumption) | exact DL.fresh_dn (DL.fresh_dn (by assumption)) | exact DL.fresh_dn (DL.fresh_dn (DL.fresh_dn (by assumption))))) (DL.Gc.up (by (first | assumption | exact DL.fresh_up (by assumption) | exact DL.fresh_dn (by assumption) | exact DL.fresh_dn (DL.fresh_dn (by assumption)) | exact DL.fresh_dn (DL.fresh_dn (DL.fresh_dn (by assumption))))) (DL.Gc.refl _)))))) | exact DL.GcR.mk (DL.Gc.up (by (first | assumption | exact DL.fresh_up (by assumption) | exact DL.fresh_dn (by assumption) | exact DL.fresh_dn (DL.fresh_dn (by assumption)) | exact DL.fresh_dn (DL.fresh_dn (DL.fresh_dn (by assumption))))) (DL.Gc.both (DL.Gc.up (by (first | assumption | exact DL.fresh_up (by assumption) | exact DL.fresh_dn (by assumption) | exact DL.fresh_dn (DL.fresh_dn (by assumption)) | exact DL.fresh_dn (DL.fresh_dn (DL.fresh_dn (by assumption))))) (DL.Gc.up (by (first | assumption | exact DL.fresh_up (by assumption) | exact DL.fresh_dn (by assumption) | exact DL.fresh_dn (DL.fresh_dn (by assumption)) | exact DL.fresh_dn (DL.fresh_dn (DL.fresh_dn (by assumption))))) (DL.Gc.up (by (first | assumption | exact DL.fresh_up (by assumption) | exact DL.fresh_dn (by assumption) | exact DL.fresh_dn (DL.fresh_dn (by assumption)) | exact DL.fresh_dn (DL.fresh_dn (DL.fresh_dn (by assumption))))) (DL.Gc.refl _)))))) | exact DL.GcR.mk (DL.Gc.both (DL.Gc.up (by (first | assumption | exact DL.fresh_up (by assumption) | exact DL.fresh_dn (by assumption) | exact DL.fresh_dn (DL.fresh_dn (by assumption)) | exact DL.fresh_dn (DL.fresh_dn (DL.fresh_dn (by assumption))))) (DL.Gc.up (by (first | assumption | exact DL.fresh_up (by assumption) | exact DL.fresh_dn (by assumption) | exact DL.fresh_dn (DL.fresh_dn (by assumption)) | exact DL.fresh_dn (DL.fresh_dn (DL.fresh_dn (by assumption))))) (DL.Gc.up (by (first | assumption | exact DL.fresh_up (by assumption) | exact DL.fresh_dn (by assumption) | exact DL.fresh_dn (DL.fresh_dn (by assumption)) | exact DL.fresh_dn (DL.fresh_dn (DL.fresh_dn (by assumption))))) (DL.Gc.up (by (first | assumption | exact DL.fresh_up (by assumption) | exact DL.fresh_dn (by assumption) | exact DL.fresh_dn (DL.fresh_dn (by assumption)) | exact DL.fresh_dn (DL.fresh_dn (DL.fresh_dn (by assumption))))) (DL.Gc.refl _)))))) | exact DL.GcR.mk (DL.Gc.up (by (first | assumption | exact DL.fresh_up (by assumption) | exact DL.fresh_dn (by assumption) | exact DL.fresh_dn (DL.fresh_dn (by assumption)) | exact DL.fresh_dn (DL.fresh_dn (DL.fresh_dn (by assumption))))) (DL.Gc.up (by (first | assumption | exact DL.fresh_up (by assumption) | exact DL.fresh_dn (by assumption) | exact DL.fresh_dn (DL.fresh_dn (by assumption)) | exact DL.fresh_dn (DL.fresh_dn (DL.fresh_dn (by assumption))))) (DL.Gc.up (by (first | assumption | exact DL.fresh_up (by assumption) | exact DL.fresh_dn (by assumption) | exact DL.fresh_dn (DL.fresh_dn (by assumption)) | exact DL.fresh_dn (DL.fresh_dn (DL.fresh_dn (by assumption))))) (DL.Gc.refl _)))) | exact DL.GcR.mk (DL.Gc.up (by (first | assumption | exact DL.fresh_up (by assumption) | exact DL.fresh_dn (by assumption) | exact DL.fresh_dn (DL.fresh_dn (by assumption)) | exact DL.fresh_dn (DL.fresh_dn (DL.fresh_dn (by assumption))))) (DL.Gc.up (by (first | assumption | exact DL.fresh_up (by assumption) | exact DL.fresh_dn (by assumption) | exact DL.fresh_dn (DL.fresh_dn (by assumption)) | exact DL.fresh_dn (DL.fresh_dn (DL.fresh_dn (by assumption))))) (DL.Gc.both (DL.Gc.up (by (first | assumption | exact DL.fresh_up (by assumption) | exact DL.fresh_dn (by assumption) | exact DL.fresh_dn (DL.fresh_dn (by assumption)) | exact DL.fresh_dn (DL.fresh_dn (DL.fresh_dn (by assumption))))) (DL.Gc.refl _))))) | exact DL.GcR.mk (DL.Gc.up (by (first | assumption | exact DL.fresh_up (by assumption) | exact DL.fresh_dn (by assumption) | exact DL.fresh_dn (DL.fresh_dn (by assumption)) | exact DL.fresh_dn (DL.fresh_dn (DL.fresh_dn (by assumption))))) (DL.Gc.both (DL.Gc.up (by (first | assumption | exact DL.fresh_up (by assumption) | exact DL.fresh_dn (by assumption) | exact DL.fresh_dn (DL.fresh_dn (by assumption)) | exact DL.fresh_dn (DL.fresh_dn (DL.fresh_dn (by assumption))))) (DL.Gc.up (by (first | assumption | exact DL.fresh_up (by assumption) | exact DL.fresh_dn (by assumption) | exact DL.fresh_dn (DL.fresh_dn (by assumption)) | exact DL.fresh_dn (DL.fresh_dn (DL.fresh_dn (by assumption))))) (DL.Gc.refl _))))) | exact DL.GcR.mk (DL.Gc.both (DL.Gc.up (by (first | assumption | exact DL.fresh_up (by assumption) | exact DL.fresh_dn (by assumption) | exact DL.fresh_dn (DL.fresh_dn (by assumption)) | exact DL.fresh_dn (DL.fresh_dn (DL.fresh_dn (by assumption))))) (DL.Gc.up (by (first | assumption | exact DL.fresh_up (by assumption) | exact DL.fresh_dn (by assumption) | exact DL.fresh_dn (DL.fresh_dn (by assumption)) | exact DL.fresh_dn (DL.fresh_dn (DL.fresh_dn (by assumption))))) (DL.Gc.up (by (first | assumption | exact DL.fresh_up (by assumption) | exact DL.fresh_dn (by assumption) | exact DL.fresh_dn (DL.fresh_dn (by assumption)) | exact DL.fresh_dn (DL.fresh_dn (DL.fresh_dn (by assumption))))) (DL.Gc.refl _))))) | exact DL.GcR.mk (DL.Gc.up (by (first | assumption | exact DL.fresh_up (by assumption) | exact DL.fresh_dn (by assumption) | exact DL.fresh_dn (DL.fresh_dn (by assumption)) | exact DL.fresh_dn (DL.fresh_dn (DL.fresh_dn (by assumption))))) (DL.Gc.up (by (first | assumption | exact DL.fresh_up (by assumption) | exact DL.fresh_dn (by assumption) | exact DL.fresh_dn (DL.fresh_dn (by assumption)) | exact DL.fresh_dn (DL.fresh_dn (DL.fresh_dn (by assumption))))) (DL.Gc.both (DL.Gc.both (DL.Gc.up (by (first | assumption | exact DL.fresh_up (by assumption) | exact DL.fresh_dn (by assumption) | exact DL.fresh_dn (DL.fresh_dn (by assumption)) | exact DL.fresh_dn (DL.fresh_dn (DL.fresh_dn (by assumption))))) (DL.Gc.refl _)))))) | exact DL.GcR.mk (DL.Gc.up (by (first | assumption | exact DL.fresh_up (by assumption) | exact DL.fresh_dn (by assumption) | exact DL.fresh_dn (DL.fresh_dn (by assumption)) | exact DL.fresh_dn (DL.fresh_dn (DL.fresh_dn (by assumption))))) (DL.Gc.both (DL.Gc.up (by (first | assumption | exact DL.fresh_up (by assumption) | exact DL.fresh_dn (by assumption) | exact DL.fresh_dn (DL.fresh_dn (by assumption)) | exact DL.fresh_dn (DL.fresh_dn (DL.fresh_dn (by assumption))))) (DL.Gc.both (DL.Gc.up (by (first | assumption | exact DL.fresh_up (by assumption) | exact DL.fresh_dn (by assumption) | exact DL.fresh_dn (DL.fresh_dn (by assumption)) | exact DL.fresh_dn (DL.fresh_dn (DL.fresh_dn (by assumption))))) (DL.Gc.refl _)))))) | exact DL.GcR.mk (DL.Gc.up (by (first | assumption | exact DL.fresh_up (by assumption) | exact DL.fresh_dn (by assumption) | exact DL.fresh_dn (DL.fresh_dn (by assumption)) | exact DL.fresh_dn (DL.fresh_dn (DL.fresh_dn (by assumption))))) (DL.Gc.both (DL.Gc.both (DL.Gc.up (by (first | assumption | exact DL.fresh_up (by assumption) | exact DL.fresh_dn (by assumption) | exact DL.fresh_dn (DL.fresh_dn (by assumption)) | exact DL.fresh_dn (DL.fresh_dn (DL.fresh_dn (by assumption))))) (DL.Gc.up (by (first | assumption | exact DL.fresh_up (by assumption) | exact DL.fresh_dn (by assumption) | exact DL.fresh_dn (DL.fresh_dn (by assumption)) | exact DL.fresh_dn (DL.fresh_dn (DL.fresh_dn (by assumption))))) (DL.Gc.refl _)))))) | exact DL.GcR.mk (DL.Gc.both (DL.Gc.up (by (first | assumption | exact DL.fresh_up (by assumption) | exact DL.fresh_dn (by assumption) | exact DL.fresh_dn (DL.fresh_dn (by assumption)) | exact DL.fresh_dn (DL.fresh_dn (DL.fresh_dn (by assumption))))) (DL.Gc.up (by (first | assumption | exact DL.fresh_up (by assumption) | exact DL.fresh_dn (by assumption) | exact DL.fresh_dn (DL.fresh_dn (by assumption)) | exact DL.fresh_dn (DL.fresh_dn (DL.fresh_dn (by assumption))))) (DL.Gc.both (DL.Gc.up (by (first | assumption | exact DL.fresh_up (by assumption) | exact DL.fresh_dn (by assumption) | exact DL.fresh_dn (DL.fresh_dn (by assumption)) | exact DL.fresh_dn (DL.fresh_dn (DL.fresh_dn (by assumption))))) (DL.Gc.refl _)))))) | exact DL.GcR.mk (DL.Gc.both (DL.Gc.up (by (first | assumption | exact DL.fresh_up (by assumption) | exact DL.fresh_dn (by assumption) | exact DL.fresh_dn (DL.fresh_dn (by assumption)) | exact DL.fresh_dn (DL.fresh_dn (DL.fresh_dn (by assumption))))) (DL.Gc.both (DL.Gc.up (by (first | assumption | exact DL.fresh_up (by assumption) | exact DL.fresh_dn (by assumption) | exact DL.fresh_dn (DL.fresh_dn (by assumption)) | exact DL.fresh_dn (DL.fresh_dn (DL.fresh_dn (by assumption))))) (DL.Gc.up (by (first | assumption | exact DL.fresh_up (by assumption) | exact DL.fresh_dn (by assumption) | exact DL.fresh_dn (DL.fresh_dn (by assumption)) | exact DL.fresh_dn (DL.fresh_dn (DL.fresh_dn (by assumption))))) (DL.Gc.refl _)))))) | exact DL.GcR.mk (DL.Gc.both (DL.Gc.both (DL.Gc.up (by (first | assumption | exact DL.fresh_up (by assumption) | exact DL.fresh_dn (by assumption) | exact DL.fresh_dn (DL.fresh_dn (by assumption)) | exact DL.fresh_dn (DL.fresh_dn (DL.fresh_dn (by assumption))))) (DL.Gc.up (by (first | assumption | exact DL.fresh_up (by assumption) | exact DL.fresh_dn (by assumption) | exact DL.fresh_dn (DL.fresh_dn (by assumption)) | exact DL.fresh_dn (DL.fresh_dn (DL.fresh_dn (by assumption))))) (DL.Gc.up (by (first | assumption | exact DL.fresh_up (by assumption) | exact DL.fresh_dn (by assumption) | exact DL.fresh_dn (DL.fresh_dn (by assumption)) | exact DL.fresh_dn (DL.fresh_dn (DL.fresh_dn (by assumption))))) (DL.Gc.refl _)))))) | exact DL.GcR.mk (DL.Gc.up (by (first | assumption | exact DL.fresh_up (by assumption) | exact DL.fresh_dn (by assumption) | exact DL.fresh_dn (DL.fresh_dn (by assumption)) | exact DL.fresh_dn (DL.fresh_dn (DL.fresh_dn (by assumption))))) (DL.Gc.up (by (first | assumption | exact DL.fresh_up (by assumption) | exact DL.fresh_dn (by assumption) | exact DL.fresh_dn (DL.fresh_dn (by assumption)) | exact DL.fresh_dn (DL.fresh_dn (DL.fresh_dn (by assumption))))) (DL.Gc.refl _))) | exact DL.GcR.mk (DL.Gc.up (by (first | assumption | exact DL.fresh_up (by assumption) | exact DL.fresh_dn (by assumption) | exact DL.fresh_dn (DL.fresh_dn (by assumption)) | exact DL.fresh_dn (DL.fresh_dn (DL.fresh_dn (by assumption))))) (DL.Gc.both (DL.Gc.up (by (first | assumption | exact DL.fresh_up (by assumption) | exact DL.fresh_dn (by assumption) | exact DL.fresh_dn (DL.fresh_dn (by assumption)) | exact DL.fresh_dn (DL.fresh_dn (DL.fresh_dn (by assumption))))) (DL.Gc.refl _)))) | exact DL.GcR.mk (DL.Gc.both (DL.Gc.up (by (first | assumption | exact DL.fresh_up (by assumption) | exact DL.fresh_dn (by assumption) | exact DL.fresh_dn (DL.fresh_dn (by assumption)) | exact DL.fresh_dn (DL.fresh_dn (DL.fresh_dn (by assumption))))) (DL.Gc.up (by (first | assumption | exact DL.fresh_up (by assumption) | exact DL.fresh_dn (by assumption) | exact DL.fresh_dn (DL.fresh_dn (by assumption)) | exact DL.fresh_dn (DL.fresh_dn (DL.fresh_dn (by assumption))))) (DL.Gc.refl _)))) | exact DL.GcR.mk (DL.Gc.up (by (first | assumption | exact DL.fresh_up (by assumption) | exact DL.fresh_dn (by assumption) | exact DL.fresh_dn (DL.fresh_dn (by assumption)) | exact DL.fresh_dn (DL.fresh_dn (DL.fresh_dn (by assumption))))) (DL.Gc.both (DL.Gc.both (DL.Gc.up (by (first | assumption | exact DL.fresh_up (by assumption) | exact DL.fresh_dn (by assumption) | exact DL.fresh_dn (DL.fresh_dn (by assumption)) | exact DL.fresh_dn (DL.fresh_dn (DL.fresh_dn (by assumption))))) (DL.Gc.refl _))))) | exact DL.GcR.mk (DL.Gc.both (DL.Gc.up (by (first | assumption | exact DL.fresh_up (by assumption) | exact DL.fresh_dn (by assumption) | exact DL.fresh_dn (DL.fresh_dn (by assumption)) | exact DL.fresh_dn (DL.fresh_dn (DL.fresh_dn (by assumption))))) (DL.Gc.both (DL.Gc.up (by (first | assumption | exact DL.fresh_up (by assumption) | exact DL.fresh_dn (by assumption) | exact DL.fresh_dn (DL.fresh_dn (by assumption)) | exact DL.fresh_dn (DL.fresh_dn (DL.fresh_dn (by assumption))))) (DL.Gc.refl _))))) | exact DL.GcR.mk (DL.Gc.both (DL.Gc.both (DL.Gc.up (by (first | assumption | exact DL.fresh_up (by assumption) | exact DL.fresh_dn (by assumption) | exact DL.fresh_dn (DL.fresh_dn (by assumption)) | exact DL.fresh_dn (DL.fresh_dn (DL.fresh_dn (by assumption))))) (DL.Gc.up (by (first | assumption | exact DL.fresh_up (by assumption) | exact DL.fresh_dn (by assumption) | exact DL.fresh_dn (DL.fresh_dn (by assumption)) | exact DL.fresh_dn (DL.fresh_dn (DL.fresh_dn (by assumption))))) (DL.Gc.refl _))))) | exact DL.GcR.mk (DL.Gc.up (by (first | assumption | exact DL.fresh_up (by assumption) | exact DL.fresh_dn (by assumption) | exact DL.fresh_dn (DL.fresh_dn (by assumption)) | exact DL.fresh_dn (DL.fresh_dn (DL.fresh_dn (by assumption))))) (DL.Gc.both (DL.Gc.both (DL.Gc.both (DL.Gc.up (by (first | assumption | exact DL.fresh_up (by assumption) | exact DL.fresh_dn (by assumption) | exact DL.fresh_dn (DL.fresh_dn (by assumption)) | exact DL.fresh_dn (DL.fresh_dn (DL.fresh_dn (by assumption))))) (DL.Gc.refl _)))))) | exact DL.GcR.mk (DL.Gc.both (DL.Gc.up (by (first | assumption | exact DL.fresh_up (by assumption) | exact DL.fresh_dn (by assumption) | exact DL.fresh_dn (DL.fresh_dn (by assumption)) | exact DL.fresh_dn (DL.fresh_dn (DL.fresh_dn (by assumption))))) (DL.Gc.both (DL.Gc.both (DL.Gc.up (by (first | assumption | exact DL.fresh_up (by assumption) | exact DL.fresh_dn (by assumption) | exact DL.fresh_dn (DL.fresh_dn (by assumption)) | exact DL.fresh_dn (DL.fresh_dn (DL.fresh_dn (by assumption))))) (DL.Gc.refl _)))))) | exact DL.GcR.mk (DL.Gc.both (DL.Gc.both (DL.Gc.up (by (first | assumption | exact DL.fresh_up (by assumption) | exact DL.fresh_dn (by assumption) | exact DL.fresh_dn (DL.fresh_dn (by assumption)) | exact DL.fresh_dn (DL.fresh_dn (DL.fresh_dn (by assumption))))) (DL.Gc.both (DL.Gc.up (by (first | assumption | exact DL.fresh_up (by assumption) | exact DL.fresh_dn (by assumption) | exact DL.fresh_dn (DL.fresh_dn (by assumption)) | exact DL.fresh_dn (DL.fresh_dn (DL.fresh_dn (by assumption))))) (DL.Gc.refl _)))))) | exact DL.GcR.mk (DL.Gc.both (DL.Gc.both (DL.Gc.both (DL.Gc.up (by (first | assumption | exact DL.fresh_up (by assumption) | exact DL.fresh_dn (by assumption) | exact DL.fresh_dn (DL.fresh_dn (by assumption)) | exact DL.fresh_dn (DL.fresh_dn (DL.fresh_dn (by assumption))))) (DL.Gc.up (by (first | assumption | exact DL.fresh_up (by assumption) | exact DL.fresh_dn (by assumption) | exact DL.fresh_dn (DL.fresh_dn (by assumption)) | exact DL.fresh_dn (DL.fresh_dn (DL.fresh_dn (by assumption))))) (DL.Gc.refl _)))))) | exact DL.GcR.mk (DL.Gc.up (by (first | assumption | exact DL.fresh_up (by assumption) | exact DL.fresh_dn (by assumption) | exact DL.fresh_dn (DL.fresh_dn (by assumption)) | exact DL.fresh_dn (DL.fresh_dn (DL.fresh_dn (by assumption))))) (DL.Gc.refl _)) | exact DL.GcR.mk (DL.Gc.both (DL.Gc.up (by (first | assumption | exact DL.fresh_up (by assumption) | exact DL.fresh_dn (by assumption) | exact DL.fresh_dn (DL.fresh_dn (by assumption)) | exact DL.fresh_dn (DL.fresh_dn (DL.fresh_dn (by assumption))))) (DL.Gc.refl _))) | exact DL.GcR.mk (DL.Gc.both (DL.Gc.both (DL.Gc.up (by (first | assumption | exact DL.fresh_up (by assumption) | exact DL.fresh_dn (by assumption) | exact DL.fresh_dn (DL.fresh_dn (by assumption)) | exact DL.fresh_dn (DL.fresh_dn (DL.fresh_dn (by assumption))))) (DL.Gc.refl _)))) | exact DL.GcR.mk (DL.Gc.both (DL.Gc.both (DL.Gc.both (DL.Gc.up (by (first | assumption | exact DL.fresh_up (by assumption) | exact DL.fresh_dn (by assumption) | exact DL.fresh_dn (DL.fresh_dn (by assumption)) | exact DL.fresh_dn (DL.fresh_dn (DL.fresh_dn (by assumption))))) (DL.Gc.refl _))))) | exact DL.GcR.mk (DL.Gc.both (DL.Gc.both (DL.Gc.both (DL.Gc.both (DL.Gc.up (by (first | assumption | exact DL.fresh_up (by assumption) | exact DL.fresh_dn (by assumption) | exact DL.fresh_dn (DL.fresh_dn (by assumption)) | exact DL.fresh_dn (DL.fresh_dn (DL.fresh_dn (by assumption))))) (DL.Gc.refl _)))))) | exact DL.GcR.mk (DL.Gc.refl _))))) | (show Exists _; (first | (show ∃ x, List.find? _ _ = x ∧ _; refine Exists.intro _ (And.intro (by first | assumption | exact rfl) ?_)) | (show ∃ x, Toy.shownP _ _ _ _ = x ∧ _; refine Exists.intro _ (And.intro (by first | assumption | exact rfl) ?_)) | (show ∃ x, Toy.latestP _ _ _ = x ∧ _; refine Exists.intro _ (And.intro (by first | assumption | exact rfl) ?_)) | (show ∃ x, DL.tgSet _ _ _ = some x ∧ _; refine Exists.intro _ (And.intro (by (first | (simp only [DL.tgSet, DL.fsets, DL.fset, DL.fwipe, DL.fwipe.fdel, List.map_cons, List.map_nil, Toy.Let.d]; exact rfl))) ?_)) | (show ∃ x, DL.asL _ _ = _ ∧ _; refine Exists.intro _ (And.intro (by (first | exact rfl | assumption | exact DL.asL_same | exact DL.asL_adr (by (first | exact DL.mup_same | assumption | (refine (DL.mup_ne (by (first | assumption | exact Ne.symm (by assumption) | exact DL.ne_at (by assumption) (by (first | assumption | exact DL.fresh_up (by assumption) | exact DL.fresh_dn (by assumption) | exact DL.fresh_dn (DL.fresh_dn (by assumption)) | exact DL.fresh_dn (DL.fresh_dn (DL.fresh_dn (by assumption))))) | exact Ne.symm (DL.ne_at (by assumption) (by (first | assumption | exact DL.fresh_up (by assumption) | exact DL.fresh_dn (by assumption) | exact DL.fresh_dn (DL.fresh_dn (by assumption)) | exact DL.fresh_dn (DL.fresh_dn (DL.fresh_dn (by assumption)))))) | exact DL.fresh_ne (by assumption) | exact Ne.symm (DL.fresh_ne (by assumption)) | exact DL.fresh_ne (DL.fresh_dn (by assumption)) | exact Ne.symm (DL.fresh_ne (DL.fresh_dn (by assumption))) | exact DL.fresh_ne (DL.fresh_dn (DL.fresh_dn (by assumption))) | exact Ne.symm (DL.fresh_ne (DL.fresh_dn (DL.fresh_dn (by assumption))))))).trans ?_; first | exact DL.mup_same | assumption | (refine (DL.mup_ne (by (first | assumption | exact Ne.symm (by assumption) | exact DL.ne_at (by assumption) (by (first | assumption | exact DL.fresh_up (by assumption) | exact DL.fresh_dn (by assumption) | exact DL.fresh_dn (DL.fresh_dn (by assumption)) | exact DL.fresh_dn (DL.fresh_dn (DL.fresh_dn (by assumption))))) | exact Ne.symm (DL.ne_at (by assumption) (by (first | assumption | exact DL.fresh_up (by assumption) | exact DL.fresh_dn (by assumption) | exact DL.fresh_dn (DL.fresh_dn (by assumption)) | exact DL.fresh_dn (DL.fresh_dn (DL.fresh_dn (by assumption)))))) | exact DL.fresh_ne (by assumption) | exact Ne.symm (DL.fresh_ne (by assumption)) | exact DL.fresh_ne (DL.fresh_dn (by assumption)) | exact Ne.symm (DL.fresh_ne (DL.fresh_dn (by assumption))) | exact DL.fresh_ne (DL.fresh_dn (DL.fresh_dn (by assumption))) | exact Ne.symm (DL.fresh_ne (DL.fresh_dn (DL.fresh_dn (by assumption))))))).trans ?_; first | exact DL.mup_same | assumption | (refine (DL.mup_ne (by (first | assumption | exact Ne.symm (by assumption) | exact DL.ne_at (by assumption) (by (first | assumption | exact DL.fresh_up (by assumption) | exact DL.fresh_dn (by assumption) | exact DL.fresh_dn (DL.fresh_dn (by assumption)) | exact DL.fresh_dn (DL.fresh_dn (DL.fresh_dn (by assumption))))) | exact Ne.symm (DL.ne_at (by assumption) (by (first | assumption | exact DL.fresh_up (by assumption) | exact DL.fresh_dn (by assumption) | exact DL.fresh_dn (DL.fresh_dn (by assumption)) | exact DL.fresh_dn (DL.fresh_dn (DL.fresh_dn (by assumption)))))) | exact DL.fresh_ne (by assumption) | exact Ne.symm (DL.fresh_ne (by assumption)) | exact DL.fresh_ne (DL.fresh_dn (by assumption)) | exact Ne.symm (DL.fresh_ne (DL.fresh_dn (by assumption))) | exact DL.fresh_ne (DL.fresh_dn (DL.fresh_dn (by assumption))) | exact Ne.symm (DL.fresh_ne (DL.fresh_dn (DL.fresh_dn (by assumption))))))).trans ?_; first | exact DL.mup_same | assumption | (refine (DL.mup_ne (by (first | assumption | exact Ne.symm (by assumption) | exact DL.ne_at (by assumption) (by (first | assumption | exact DL.fresh_up (by assumption) | exact DL.fresh_dn (by assumption) | exact DL.fresh_dn (DL.fresh_dn (by assumption)) | exact DL.fresh_dn (DL.fresh_dn (DL.fresh_dn (by assumption))))) | exact Ne.symm (DL.ne_at (by assumption) (by (first | assumption | exact DL.fresh_up (by assumption) | exact DL.fresh_dn (by assumption) | exact DL.fresh_dn (DL.fresh_dn (by assumption)) | exact DL.fresh_dn (DL.fresh_dn (DL.fresh_dn (by assumption)))))) | exact DL.fresh_ne (by assumption) | exact Ne.symm (DL.fresh_ne (by assumption)) | exact DL.fresh_ne (DL.fresh_dn (by assumption)) | exact Ne.symm (DL.fresh_ne (DL.fresh_dn (by assumption))) | exact DL.fresh_ne (DL.fresh_dn (DL.fresh_dn (by assumption))) | exact Ne.symm (DL.fresh_ne (DL.fresh_dn (DL.fresh_dn (by assumption))))))).trans ?_; first | exact DL.mup_same | assumption | (refine (DL.mup_ne (by (first | assumption | exact Ne.symm (by assumption) | exact DL.ne_at (by assumption) (by (first | assumption | exact DL.fresh_up (by assumption) | exact DL.fresh_dn (by assumption) | exact DL.fresh_dn (DL.fresh_dn (by assumption)) | exact DL.fresh_dn (DL.fresh_dn (DL.fresh_dn (by assumption))))) | exact Ne.symm (DL.ne_at (by assumption) (by (first | assumption | exact DL.fresh_up (by assumption) | exact DL.fresh_dn (by assumption) | exact DL.fresh_dn (DL.fresh_dn (by assumption)) | exact DL.fresh_dn (DL.fresh_dn (DL.fresh_dn (by assumption)))))) | exact DL.fresh_ne (by assumption) | exact Ne.symm (DL.fresh_ne (by assumption)) | exact DL.fresh_ne (DL.fresh_dn (by assumption)) | exact Ne.symm (DL.fresh_ne (DL.fresh_dn (by assumption))) | exact DL.fresh_ne (DL.fresh_dn (DL.fresh_dn (by assumption))) | exact Ne.symm (DL.fresh_ne (DL.fresh_dn (DL.fresh_dn (by assumption))))))).trans ?_; first | exact DL.mup_same | assumption))))))) | exact DL.asL_up (by assumption) (by (first | assumption | exact DL.fresh_up (by assumption) | exact DL.fresh_dn (by assumption) | exact DL.fresh_dn (DL.fresh_dn (by assumption)) | exact DL.fresh_dn (DL.fresh_dn (DL.fresh_dn (by assumption))))) | exact DL.asL_up (DL.asL_up (by assumption) (by (first | assumption | exact DL.fresh_up (by assumption) | exact DL.fresh_dn (by assumption) | exact DL.fresh_dn (DL.fresh_dn (by assumption)) | exact DL.fresh_dn (DL.fresh_dn (DL.fresh_dn (by assumption)))))) (by (first | assumption | exact DL.fresh_up (by assumption) | exact DL.fresh_dn (by assumption) | exact DL.fresh_dn (DL.fresh_dn (by assumption)) | exact DL.fresh_dn (DL.fresh_dn (DL.fresh_dn (by assumption))))))) ?_)) | (show ∃ x y, DL.insK _ _ = _ ∧ _; refine Exists.intro _ (Exists.intro _ (And.intro (by (first | exact rfl | assumption | exact DL.insK_adr (by (first | exact DL.mup_same | assumption | (refine (DL.mup_ne (by (first | assumption | exact Ne.symm (by assumption) | exact DL.ne_at (by assumption) (by (first | assumption | exact DL.fresh_up (by assumption) | exact DL.fresh_dn (by assumption) | exact DL.fresh_dn (DL.fresh_dn (by assumption)) | exact DL.fresh_dn (DL.fresh_dn (DL.fresh_dn (by assumption))))) | exact Ne.symm (DL.ne_at (by assumption) (by (first | assumption | exact DL.fresh_up (by assumption) | exact DL.fresh_dn (by assumption) | exact DL.fresh_dn (DL.fresh_dn (by assumption)) | exact DL.fresh_dn (DL.fresh_dn (DL.fresh_dn (by assumption)))))) | exact DL.fresh_ne (by assumption) | exact Ne.symm (DL.fresh_ne (by assumption)) | exact DL.fresh_ne (DL.fresh_dn (by assumption)) | exact Ne.symm (DL.fresh_ne (DL.fresh_dn (by assumption))) | exact DL.fresh_ne (DL.fresh_dn (DL.fresh_dn (by assumption))) | exact Ne.symm (DL.fresh_ne (DL.fresh_dn (DL.fresh_dn (by assumption))))))).trans ?_; first | exact DL.mup_same | assumption | (refine (DL.mup_ne (by (first | assumption | exact Ne.symm (by assumption) | exact DL.ne_at (by assumption) (by (first | assumption | exact DL.fresh_up (by assumption) | exact DL.fresh_dn (by assumption) | exact DL.fresh_dn (DL.fresh_dn (by assumption)) | exact DL.fresh_dn (DL.fresh_dn (DL.fresh_dn (by assumption))))) | exact Ne.symm (DL.ne_at (by assumption) (by (first | assumption | exact DL.fresh_up (by assumption) | exact DL.fresh_dn (by assumption) | exact DL.fresh_dn (DL.fresh_dn (by assumption)) | exact DL.fresh_dn (DL.fresh_dn (DL.fresh_dn (by assumption)))))) | exact DL.fresh_ne (by assumption) | exact Ne.symm (DL.fresh_ne (by assumption)) | exact DL.fresh_ne (DL.fresh_dn (by assumption)) | exact Ne.symm (DL.fresh_ne (DL.fresh_dn (by assumption))) | exact DL.fresh_ne (DL.fresh_dn (DL.fresh_dn (by assumption))) | exact Ne.symm (DL.fresh_ne (DL.fresh_dn (DL.fresh_dn (by assumption))))))).trans ?_; first | exact DL.mup_same | assumption | (refine (DL.mup_ne (by (first | assumption | exact Ne.symm (by assumption) | exact DL.ne_at (by assumption) (by (first | assumption | exact DL.fresh_up (by assumption) | exact DL.fresh_dn (by assumption) | exact DL.fresh_dn (DL.fresh_dn (by assumption)) | exact DL.fresh_dn (DL.fresh_dn (DL.fresh_dn (by assumption))))) | exact Ne.symm (DL.ne_at (by assumption) (by (first | assumption | exact DL.fresh_up (by assumption) | exact DL.fresh_dn (by assumption) | exact DL.fresh_dn (DL.fresh_dn (by assumption)) | exact DL.fresh_dn (DL.fresh_dn (DL.fresh_dn (by assumption)))))) | exact DL.fresh_ne (by assumption) | exact Ne.symm (DL.fresh_ne (by assumption)) | exact DL.fresh_ne (DL.fresh_dn (by assumption)) | exact Ne.symm (DL.fresh_ne (DL.fresh_dn (by assumption))) | exact DL.fresh_ne (DL.fresh_dn (DL.fresh_dn (by assumption))) | exact Ne.symm (DL.fresh_ne (DL.fresh_dn (DL.fresh_dn (by assumption))))))).trans ?_; first | exact DL.mup_same | assumption | (refine (DL.mup_ne (by (first | assumption | exact Ne.symm (by assumption) | exact DL.ne_at (by assumption) (by (first | assumption | exact DL.fresh_up (by assumption) | exact DL.fresh_dn (by assumption) | exact DL.fresh_dn (DL.fresh_dn (by assumption)) | exact DL.fresh_dn (DL.fresh_dn (DL.fresh_dn (by assumption))))) | exact Ne.symm (DL.ne_at (by assumption) (by (first | assumption | exact DL.fresh_up (by assumption) | exact DL.fresh_dn (by assumption) | exact DL.fresh_dn (DL.fresh_dn (by assumption)) | exact DL.fresh_dn (DL.fresh_dn (DL.fresh_dn (by assumption)))))) | exact DL.fresh_ne (by assumption) | exact Ne.symm (DL.fresh_ne (by assumption)) | exact DL.fresh_ne (DL.fresh_dn (by assumption)) | exact Ne.symm (DL.fresh_ne (DL.fresh_dn (by assumption))) | exact DL.fresh_ne (DL.fresh_dn (DL.fresh_dn (by assumption))) | exact Ne.symm (DL.fresh_ne (DL.fresh_dn (DL.fresh_dn (by assumption))))))).trans ?_; first | exact DL.mup_same | assumption | (refine (DL.mup_ne (by (first | assumption | exact Ne.symm (by assumption) | exact DL.ne_at (by assumption) (by (first | assumption | exact DL.fresh_up (by assumption) | exact DL.fresh_dn (by assumption) | exact DL.fresh_dn (DL.fresh_dn (by assumption)) | exact DL.fresh_dn (DL.fresh_dn (DL.fresh_dn (by assumption))))) | exact Ne.symm (DL.ne_at (by assumption) (by (first | assumption | exact DL.fresh_up (by assumption) | exact DL.fresh_dn (by assumption) | exact DL.fresh_dn (DL.fresh_dn (by assumption)) | exact DL.fresh_dn (DL.fresh_dn (DL.fresh_dn (by assumption)))))) | exact DL.fresh_ne (by assumption) | exact Ne.symm (DL.fresh_ne (by assumption)) | exact DL.fresh_ne (DL.fresh_dn (by assumption)) | exact Ne.symm (DL.fresh_ne (DL.fresh_dn (by assumption))) | exact DL.fresh_ne (DL.fresh_dn (DL.fresh_dn (by assumption))) | exact Ne.symm (DL.fresh_ne (DL.fresh_dn (DL.fresh_dn (by assumption))))))).trans ?_; first | exact DL.mup_same | assumption))))))))) (And.intro rfl ?_)))) | (show ∃ x y, DL.asT _ _ = _ ∧ _; refine Exists.intro _ (Exists.intro _ (And.intro (by (first | exact rfl | assumption | exact DL.asT_adr (by (first | exact DL.mup_same | assumption | (refine (DL.mup_ne (by (first | assumption | exact Ne.symm (by assumption) | exact DL.ne_at (by assumption) (by (first | assumption | exact DL.fresh_up (by assumption) | exact DL.fresh_dn (by assumption) | exact DL.fresh_dn (DL.fresh_dn (by assumption)) | exact DL.fresh_dn (DL.fresh_dn (DL.fresh_dn (by assumption))))) | exact Ne.symm (DL.ne_at (by assumption) (by (first | assumption | exact DL.fresh_up (by assumption) | exact DL.fresh_dn (by assumption) | exact DL.fresh_dn (DL.fresh_dn (by assumption)) | exact DL.fresh_dn (DL.fresh_dn (DL.fresh_dn (by assumption)))))) | exact DL.fresh_ne (by assumption) | exact Ne.symm (DL.fresh_ne (by assumption)) | exact DL.fresh_ne (DL.fresh_dn (by assumption)) | exact Ne.symm (DL.fresh_ne (DL.fresh_dn (by assumption))) | exact DL.fresh_ne (DL.fresh_dn (DL.fresh_dn (by assumption))) | exact Ne.symm (DL.fresh_ne (DL.fresh_dn (DL.fresh_dn (by assumption))))))).trans ?_; first | exact DL.mup_same | assumption | (refine (DL.mup_ne (by (first | assumption | exact Ne.symm (by assumption) | exact DL.ne_at (by assumption) (by (first | assumption | exact DL.fresh_up (by assumption) | exact DL.fresh_dn (by assumption) | exact DL.fresh_dn (DL.fresh_dn (by assumption)) | exact DL.fresh_dn (DL.fresh_dn (DL.fresh_dn (by assumption))))) | exact Ne.symm (DL.ne_at (by assumption) (by (first | assumption | exact DL.fresh_up (by assumption) | exact DL.fresh_dn (by assumption) | exact DL.fresh_dn (DL.fresh_dn (by assumption)) | exact DL.fresh_dn (DL.fresh_dn (DL.fresh_dn (by assumption)))))) | exact DL.fresh_ne (by assumption) | exact Ne.symm (DL.fresh_ne (by assumption)) | exact DL.fresh_ne (DL.fresh_dn (by assumption)) | exact Ne.symm (DL.fresh_ne (DL.fresh_dn (by assumption))) | exact DL.fresh_ne (DL.fresh_dn (DL.fresh_dn (by assumption))) | exact Ne.symm (DL.fresh_ne (DL.fresh_dn (DL.fresh_dn (by assumption))))))).trans ?_; first | exact DL.mup_same | assumption | (refine (DL.mup_ne (by (first | assumption | exact Ne.symm (by assumption) | exact DL.ne_at (by assumption) (by (first | assumption | exact DL.fresh_up (by assumption) | exact DL.fresh_dn (by assumption) | exact DL.fresh_dn (DL.fresh_dn (by assumption)) | exact DL.fresh_dn (DL.fresh_dn (DL.fresh_dn (by assumption))))) | exact Ne.symm (DL.ne_at (by assumption) (by (first | assumption | exact DL.fresh_up (by assumption) | exact DL.fresh_dn (by assumption) | exact DL.fresh_dn (DL.fresh_dn (by assumption)) | exact DL.fresh_dn (DL.fresh_dn (DL.fresh_dn (by assumption)))))) | exact DL.fresh_ne (by assumption) | exact Ne.symm (DL.fresh_ne (by assumption)) | exact DL.fresh_ne (DL.fresh_dn (by assumption)) | exact Ne.symm (DL.fresh_ne (DL.fresh_dn (by assumption))) | exact DL.fresh_ne (DL.fresh_dn (DL.fresh_dn (by assumption))) | exact Ne.symm (DL.fresh_ne (DL.fresh_dn (DL.fresh_dn (by assumption))))))).trans ?_; first | exact DL.mup_same | assumption | (refine (DL.mup_ne (by (first | assumption | exact Ne.symm (by assumption) | exact DL.ne_at (by assumption) (by (first | assumption | exact DL.fresh_up (by assumption) | exact DL.fresh_dn (by assumption) | exact DL.fresh_dn (DL.fresh_dn (by assumption)) | exact DL.fresh_dn (DL.fresh_dn (DL.fresh_dn (by assumption))))) | exact Ne.symm (DL.ne_at (by assumption) (by (first | assumption | exact DL.fresh_up (by assumption) | exact DL.fresh_dn (by assumption) | exact DL.fresh_dn (DL.fresh_dn (by assumption)) | exact DL.fresh_dn (DL.fresh_dn (DL.fresh_dn (by assumption)))))) | exact DL.fresh_ne (by assumption) | exact Ne.symm (DL.fresh_ne (by assumption)) | exact DL.fresh_ne (DL.fresh_dn (by assumption)) | exact Ne.symm (DL.fresh_ne (DL.fresh_dn (by assumption))) | exact DL.fresh_ne (DL.fresh_dn (DL.fresh_dn (by assumption))) | exact Ne.symm (DL.fresh_ne (DL.fresh_dn (DL.fresh_dn (by assumption))))))).trans ?_; first | exact DL.mup_same | assumption | (refine (DL.mup_ne (by (first | assumption | exact Ne.symm (by assumption) | exact DL.ne_at (by assumption) (by (first | assumption | exact DL.fresh_up (by assumption) | exact DL.fresh_dn (by assumption) | exact DL.fresh_dn (DL.fresh_dn (by assumption)) | exact DL.fresh_dn (DL.fresh_dn (DL.fresh_dn (by assumption))))) | exact Ne.symm (DL.ne_at (by assumption) (by (first | assumption | exact DL.fresh_up (by assumption) | exact DL.fresh_dn (by assumption) | exact DL.fresh_dn (DL.fresh_dn (by assumption)) | exact DL.fresh_dn (DL.fresh_dn (DL.fresh_dn (by assumption)))))) | exact DL.fresh_ne (by assumption) | exact Ne.symm (DL.fresh_ne (by assumption)) | exact DL.fresh_ne (DL.fresh_dn (by assumption)) | exact Ne.symm (DL.fresh_ne (DL.fresh_dn (by assumption))) | exact DL.fresh_ne (DL.fresh_dn (DL.fresh_dn (by assumption))) | exact Ne.symm (DL.fresh_ne (DL.fresh_dn (DL.fresh_dn (by assumption))))))).trans ?_; first | exact DL.mup_same | assumption))))))))) (And.intro (by (first | exact rfl | assumption | exact DL.asT_adr (by (first | exact DL.mup_same | assumption | (refine (DL.mup_ne (by (first | assumption | exact Ne.symm (by assumption) | exact DL.ne_at (by assumption) (by (first | assumption | exact DL.fresh_up (by assumption) | exact DL.fresh_dn (by assumption) | exact DL.fresh_dn (DL.fresh_dn (by assumption)) | exact DL.fresh_dn (DL.fresh_dn (DL.fresh_dn (by assumption))))) | exact Ne.symm (DL.ne_at (by assumption) (by (first | assumption | exact DL.fresh_up (by assumption) | exact DL.fresh_dn (by assumption) | exact DL.fresh_dn (DL.fresh_dn (by assumption)) | exact DL.fresh_dn (DL.fresh_dn (DL.fresh_dn (by assumption)))))) | exact DL.fresh_ne (by assumption) | exact Ne.symm (DL.fresh_ne (by assumption)) | exact DL.fresh_ne (DL.fresh_dn (by assumption)) | exact Ne.symm (DL.fresh_ne (DL.fresh_dn (by assumption))) | exact DL.fresh_ne (DL.fresh_dn (DL.fresh_dn (by assumption))) | exact Ne.symm (DL.fresh_ne (DL.fresh_dn (DL.fresh_dn (by assumption))))))).trans ?_; first | exact DL.mup_same | assumption | (refine (DL.mup_ne (by (first | assumption | exact Ne.symm (by assumption) | exact DL.ne_at (by assumption) (by (first | assumption | exact DL.fresh_up (by assumption) | exact DL.fresh_dn (by assumption) | exact DL.fresh_dn (DL.fresh_dn (by assumption)) | exact DL.fresh_dn (DL.fresh_dn (DL.fresh_dn (by assumption))))) | exact Ne.symm (DL.ne_at (by assumption) (by (first | assumption | exact DL.fresh_up (by assumption) | exact DL.fresh_dn (by assumption) | exact DL.fresh_dn (DL.fresh_dn (by assumption)) | exact DL.fresh_dn (DL.fresh_dn (DL.fresh_dn (by assumption)))))) | exact DL.fresh_ne (by assumption) | exact Ne.symm (DL.fresh_ne (by assumption)) | exact DL.fresh_ne (DL.fresh_dn (by assumption)) | exact Ne.symm (DL.fresh_ne (DL.fresh_dn (by assumption))) | exact DL.fresh_ne (DL.fresh_dn (DL.fresh_dn (by assumption))) | exact Ne.symm (DL.fresh_ne (DL.fresh_dn (DL.fresh_dn (by assumption))))))).trans ?_; first | exact DL.mup_same | assumption | (refine (DL.mup_ne (by (first | assumption | exact Ne.symm (by assumption) | exact DL.ne_at (by assumption) (by (first | assumption | exact DL.fresh_up (by assumption) | exact DL.fresh_dn (by assumption) | exact DL.fresh_dn (DL.fresh_dn (by assumption)) | exact DL.fresh_dn (DL.fresh_dn (DL.fresh_dn (by assumption))))) | exact Ne.symm (DL.ne_at (by assumption) (by (first | assumption | exact DL.fresh_up (by assumption) | exact DL.fresh_dn (by assumption) | exact DL.fresh_dn (DL.fresh_dn (by assumption)) | exact DL.fresh_dn (DL.fresh_dn (DL.fresh_dn (by assumption)))))) | exact DL.fresh_ne (by assumption) | exact Ne.symm (DL.fresh_ne (by assumption)) | exact DL.fresh_ne (DL.fresh_dn (by assumption)) | exact Ne.symm (DL.fresh_ne (DL.fresh_dn (by assumption))) | exact DL.fresh_ne (DL.fresh_dn (DL.fresh_dn (by assumption))) | exact Ne.symm (DL.fresh_ne (DL.fresh_dn (DL.fresh_dn (by assumption))))))).trans ?_; first | exact DL.mup_same | assumption | (refine (DL.mup_ne (by (first | assumption | exact Ne.symm (by assumption) | exact DL.ne_at (by assumption) (by (first | assumption | exact DL.fresh_up (by assumption) | exact DL.fresh_dn (by assumption) | exact DL.fresh_dn (DL.fresh_dn (by assumption)) | exact DL.fresh_dn (DL.fresh_dn (DL.fresh_dn (by assumption))))) | exact Ne.symm (DL.ne_at (by assumption) (by (first | assumption | exact DL.fresh_up (by assumption) | exact DL.fresh_dn (by assumption) | exact DL.fresh_dn (DL.fresh_dn (by assumption)) | exact DL.fresh_dn (DL.fresh_dn (DL.fresh_dn (by assumption)))))) | exact DL.fresh_ne (by assumption) | exact Ne.symm (DL.fresh_ne (by assumption)) | exact DL.fresh_ne (DL.fresh_dn (by assumption)) | exact Ne.symm (DL.fresh_ne (DL.fresh_dn (by assumption))) | exact DL.fresh_ne (DL.fresh_dn (DL.fresh_dn (by assumption))) | exact Ne.symm (DL.fresh_ne (DL.fresh_dn (DL.fresh_dn (by assumption))))))).trans ?_; first | exact DL.mup_same | assumption | (refine (DL.mup_ne (by (first | assumption | exact Ne.symm (by assumption) | exact DL.ne_at (by assumption) (by (first | assumption | exact DL.fresh_up (by assumption) | exact DL.fresh_dn (by assumption) | exact DL.fresh_dn (DL.fresh_dn (by assumption)) | exact DL.fresh_dn (DL.fresh_dn (DL.fresh_dn (by assumption))))) | exact Ne.symm (DL.ne_at (by assumption) (by (first | assumption | exact DL.fresh_up (by assumption) | exact DL.fresh_dn (by assumption) | exact DL.fresh_dn (DL.fresh_dn (by assumption)) | exact DL.fresh_dn (DL.fresh_dn (DL.fresh_dn (by assumption)))))) | exact DL.fresh_ne (by assumption) | exact Ne.symm (DL.fresh_ne (by assumption)) | exact DL.fresh_ne (DL.fresh_dn (by assumption)) | exact Ne.symm (DL.fresh_ne (DL.fresh_dn (by assumption))) | exact DL.fresh_ne (DL.fresh_dn (DL.fresh_dn (by assumption))) | exact Ne.symm (DL.fresh_ne (DL.fresh_dn (DL.fresh_dn (by assumption))))))).trans ?_; first | exact DL.mup_same | assumption))))))))) ?_)))) | (show ∃ x, DL.asT _ _ = _ ∧ _; refine Exists.intro _ (And.intro (by (first | exact rfl | assumption | exact DL.asT_adr (by (first | exact DL.mup_same | assumption | (refine (DL.mup_ne (by (first | assumption | exact Ne.symm (by assumption) | exact DL.ne_at (by assumption) (by (first | assumption | exact DL.fresh_up (by assumption) | exact DL.fresh_dn (by assumption) | exact DL.fresh_dn (DL.fresh_dn (by assumption)) | exact DL.fresh_dn (DL.fresh_dn (DL.fresh_dn (by assumption))))) | exact Ne.symm (DL.ne_at (by assumption) (by (first | assumption | exact DL.fresh_up (by assumption) | exact DL.fresh_dn (by assumption) | exact DL.fresh_dn (DL.fresh_dn (by assumption)) | exact DL.fresh_dn (DL.fresh_dn (DL.fresh_dn (by assumption)))))) | exact DL.fresh_ne (by assumption) | exact Ne.symm (DL.fresh_ne (by assumption)) | exact DL.fresh_ne (DL.fresh_dn (by assumption)) | exact Ne.symm (DL.fresh_ne (DL.fresh_dn (by assumption))) | exact DL.fresh_ne (DL.fresh_dn (DL.fresh_dn (by assumption))) | exact Ne.symm (DL.fresh_ne (DL.fresh_dn (DL.fresh_dn (by assumption))))))).trans ?_; first | exact DL.mup_same | assumption | (refine (DL.mup_ne (by (first | assumption | exact Ne.symm (by assumption) | exact DL.ne_at (by assumption) (by (first | assumption | exact DL.fresh_up (by assumption) | exact DL.fresh_dn (by assumption) | exact DL.fresh_dn (DL.fresh_dn (by assumption)) | exact DL.fresh_dn (DL.fresh_dn (DL.fresh_dn (by assumption))))) | exact Ne.symm (DL.ne_at (by assumption) (by (first | assumption | exact DL.fresh_up (by assumption) | exact DL.fresh_dn (by assumption) | exact DL.fresh_dn (DL.fresh_dn (by assumption)) | exact DL.fresh_dn (DL.fresh_dn (DL.fresh_dn (by assumption)))))) | exact DL.fresh_ne (by assumption) | exact Ne.symm (DL.fresh_ne (by assumption)) | exact DL.fresh_ne (DL.fresh_dn (by assumption)) | exact Ne.symm (DL.fresh_ne (DL.fresh_dn (by assumption))) | exact DL.fresh_ne (DL.fresh_dn (DL.fresh_dn (by assumption))) | exact Ne.symm (DL.fresh_ne (DL.fresh_dn (DL.fresh_dn (by assumption))))))).trans ?_; first | exact DL.mup_same | assumption | (refine (DL.mup_ne (by (first | assumption | exact Ne.symm (by assumption) | exact DL.ne_at (by assumption) (by (first | assumption | exact DL.fresh_up (by assumption) | exact DL.fresh_dn (by assumption) | exact DL.fresh_dn (DL.fresh_dn (by assumption)) | exact DL.fresh_dn (DL.fresh_dn (DL.fresh_dn (by assumption))))) | exact Ne.symm (DL.ne_at (by assumption) (by (first | assumption | exact DL.fresh_up (by assumption) | exact DL.fresh_dn (by assumption) | exact DL.fresh_dn (DL.fresh_dn (by assumption)) | exact DL.fresh_dn (DL.fresh_dn (DL.fresh_dn (by assumption)))))) | exact DL.fresh_ne (by assumption) | exact Ne.symm (DL.fresh_ne (by assumption)) | exact DL.fresh_ne (DL.fresh_dn (by assumption)) | exact Ne.symm (DL.fresh_ne (DL.fresh_dn (by assumption))) | exact DL.fresh_ne (DL.fresh_dn (DL.fresh_dn (by assumption))) | exact Ne.symm (DL.fresh_ne (DL.fresh_dn (DL.fresh_dn (by assumption))))))).trans ?_; first | exact DL.mup_same | assumption | (refine (DL.mup_ne (by (first | assumption | exact Ne.symm (by assumption) | exact DL.ne_at (by assumption) (by (first | assumption | exact DL.fresh_up (by assumption) | exact DL.fresh_dn (by assumption) | exact DL.fresh_dn (DL.fresh_dn (by assumption)) | exact DL.fresh_dn (DL.fresh_dn (DL.fresh_dn (by assumption))))) | exact Ne.symm (DL.ne_at (by assumption) (by (first | assumption | exact DL.fresh_up (by assumption) | exact DL.fresh_dn (by assumption) | exact DL.fresh_dn (DL.fresh_dn (by assumption)) | exact DL.fresh_dn (DL.fresh_dn (DL.fresh_dn (by assumption)))))) | exact DL.fresh_ne (by assumption) | exact Ne.symm (DL.fresh_ne (by assumption)) | exact DL.fresh_ne (DL.fresh_dn (by assumption)) | exact Ne.symm (DL.fresh_ne (DL.fresh_dn (by assumption))) | exact DL.fresh_ne (DL.fresh_dn (DL.fresh_dn (by assumption))) | exact Ne.symm (DL.fresh_ne (DL.fresh_dn (DL.fresh_dn (by assumption))))))).trans ?_; first | exact DL.mup_same | assumption | (refine (DL.mup_ne (by (first | assumption | exact Ne.symm (by assumption) | exact DL.ne_at (by assumption) (by (first | assumption | exact DL.fresh_up (by assumption) | exact DL.fresh_dn (by assumption) | exact DL.fresh_dn (DL.fresh_dn (by assumption)) | exact DL.fresh_dn (DL.fresh_dn (DL.fresh_dn (by assumption))))) | exact Ne.symm (DL.ne_at (by assumption) (by (first | assumption | exact DL.fresh_up (by assumption) | exact DL.fresh_dn (by assumption) | exact DL.fresh_dn (DL.fresh_dn (by assumption)) | exact DL.fresh_dn (DL.fresh_dn (DL.fresh_dn (by assumption)))))) | exact DL.fresh_ne (by assumption) | exact Ne.symm (DL.fresh_ne (by assumption)) | exact DL.fresh_ne (DL.fresh_dn (by assumption)) | exact Ne.symm (DL.fresh_ne (DL.fresh_dn (by assumption))) | exact DL.fresh_ne (DL.fresh_dn (DL.fresh_dn (by assumption))) | exact Ne.symm (DL.fresh_ne (DL.fresh_dn (DL.fresh_dn (by assumption))))))).trans ?_; first | exact DL.mup_same | assumption))))))))) ?_)) | (show ∃ x y, DL.dty _ _ = _ ∧ _; refine Exists.intro _ (Exists.intro _ (And.intro (by first | exact rfl | exact DL.dty_lst (by (first | exact DL.mup_same | assumption | (refine (DL.mup_ne (by (first | assumption | exact Ne.symm (by assumption) | exact DL.ne_at (by assumption) (by (first | assumption | exact DL.fresh_up (by assumption) | exact DL.fresh_dn (by assumption) | exact DL.fresh_dn (DL.fresh_dn (by assumption)) | exact DL.fresh_dn (DL.fresh_dn (DL.fresh_dn (by assumption))))) | exact Ne.symm (DL.ne_at (by assumption) (by (first | assumption | exact DL.fresh_up (by assumption) | exact DL.fresh_dn (by assumption) | exact DL.fresh_dn (DL.fresh_dn (by assumption)) | exact DL.fresh_dn (DL.fresh_dn (DL.fresh_dn (by assumption)))))) | exact DL.fresh_ne (by assumption) | exact Ne.symm (DL.fresh_ne (by assumption)) | exact DL.fresh_ne (DL.fresh_dn (by assumption)) | exact Ne.symm (DL.fresh_ne (DL.fresh_dn (by assumption))) | exact DL.fresh_ne (DL.fresh_dn (DL.fresh_dn (by assumption))) | exact Ne.symm (DL.fresh_ne (DL.fresh_dn (DL.fresh_dn (by assumption))))))).trans ?_; first | exact DL.mup_same | assumption | (refine (DL.mup_ne (by (first | assumption | exact Ne.symm (by assumption) | exact DL.ne_at (by assumption) (by (first | assumption | exact DL.fresh_up (by assumption) | exact DL.fresh_dn (by assumption) | exact DL.fresh_dn (DL.fresh_dn (by assumption)) | exact DL.fresh_dn (DL.fresh_dn (DL.fresh_dn (by assumption))))) | exact Ne.symm (DL.ne_at (by assumption) (by (first | assumption | exact DL.fresh_up (by assumption) | exact DL.fresh_dn (by assumption) | exact DL.fresh_dn (DL.fresh_dn (by assumption)) | exact DL.fresh_dn (DL.fresh_dn (DL.fresh_dn (by assumption)))))) | exact DL.fresh_ne (by assumption) | exact Ne.symm (DL.fresh_ne (by assumption)) | exact DL.fresh_ne (DL.fresh_dn (by assumption)) | exact Ne.symm (DL.fresh_ne (DL.fresh_dn (by assumption))) | exact DL.fresh_ne (DL.fresh_dn (DL.fresh_dn (by assumption))) | exact Ne.symm (DL.fresh_ne (DL.fresh_dn (DL.fresh_dn (by assumption))))))).trans ?_; first | exact DL.mup_same | assumption | (refine (DL.mup_ne (by (first | assumption | exact Ne.symm (by assumption) | exact DL.ne_at (by assumption) (by (first | assumption | exact DL.fresh_up (by assumption) | exact DL.fresh_dn (by assumption) | exact DL.fresh_dn (DL.fresh_dn (by assumption)) | exact DL.fresh_dn (DL.fresh_dn (DL.fresh_dn (by assumption))))) | exact Ne.symm (DL.ne_at (by assumption) (by (first | assumption | exact DL.fresh_up (by assumption) | exact DL.fresh_dn (by assumption) | exact DL.fresh_dn (DL.fresh_dn (by assumption)) | exact DL.fresh_dn (DL.fresh_dn (DL.fresh_dn (by assumption)))))) | exact DL.fresh_ne (by assumption) | exact Ne.symm (DL.fresh_ne (by assumption)) | exact DL.fresh_ne (DL.fresh_dn (by assumption)) | exact Ne.symm (DL.fresh_ne (DL.fresh_dn (by assumption))) | exact DL.fresh_ne (DL.fresh_dn (DL.fresh_dn (by assumption))) | exact Ne.symm (DL.fresh_ne (DL.fresh_dn (DL.fresh_dn (by assumption))))))).trans ?_; first | exact DL.mup_same | assumption | (refine (DL.mup_ne (by (first | assumption | exact Ne.symm (by assumption) | exact DL.ne_at (by assumption) (by (first | assumption | exact DL.fresh_up (by assumption) | exact DL.fresh_dn (by assumption) | exact DL.fresh_dn (DL.fresh_dn (by assumption)) | exact DL.fresh_dn (DL.fresh_dn (DL.fresh_dn (by assumption))))) | exact Ne.symm (DL.ne_at (by assumption) (by (first | assumption | exact DL.fresh_up (by assumption) | exact DL.fresh_dn (by assumption) | exact DL.fresh_dn (DL.fresh_dn (by assumption)) | exact DL.fresh_dn (DL.fresh_dn (DL.fresh_dn (by assumption)))))) | exact DL.fresh_ne (by assumption) | exact Ne.symm (DL.fresh_ne (by assumption)) | exact DL.fresh_ne (DL.fresh_dn (by assumption)) | exact Ne.symm (DL.fresh_ne (DL.fresh_dn (by assumption))) | exact DL.fresh_ne (DL.fresh_dn (DL.fresh_dn (by assumption))) | exact Ne.symm (DL.fresh_ne (DL.fresh_dn (DL.fresh_dn (by assumption))))))).trans ?_; first | exact DL.mup_same | assumption | (refine (DL.mup_ne (by (first | assumption | exact Ne.symm (by assumption) | exact DL.ne_at (by assumption) (by (first | assumption | exact DL.fresh_up (by assumption) | exact DL.fresh_dn (by assumption) | exact DL.fresh_dn (DL.fresh_dn (by assumption)) | exact DL.fresh_dn (DL.fresh_dn (DL.fresh_dn (by assumption))))) | exact Ne.symm (DL.ne_at (by assumption) (by (first | assumption | exact DL.fresh_up (by assumption) | exact DL.fresh_dn (by assumption) | exact DL.fresh_dn (DL.fresh_dn (by assumption)) | exact DL.fresh_dn (DL.fresh_dn (DL.fresh_dn (by assumption)))))) | exact DL.fresh_ne (by assumption) | exact Ne.symm (DL.fresh_ne (by assumption)) | exact DL.fresh_ne (DL.fresh_dn (by assumption)) | exact Ne.symm (DL.fresh_ne (DL.fresh_dn (by assumption))) | exact DL.fresh_ne (DL.fresh_dn (DL.fresh_dn (by assumption))) | exact Ne.symm (DL.fresh_ne (DL.fresh_dn (DL.fresh_dn (by assumption))))))).trans ?_; first | exact DL.mup_same | assumption)))))))) (And.intro rfl ?_)))) | (show ∃ x, L2.ixN _ _ = some x ∧ _; refine Exists.intro _ (And.intro (by first | assumption | exact DL.ixN_nat (by (first | omega | (simp only [List.length_map, List.length_range, List.length_cons, List.length_nil, List.length_append]; omega))) | exact DL.ixN_int (by (first | omega | (simp only [List.length_map, List.length_range, List.length_cons, List.length_nil, List.length_append]; omega))) (by (first | omega | (simp only [List.length_map, List.length_range, List.length_cons, List.length_nil, List.length_append]; omega)))) ?_)) | (show ∃ x, DL.fset _ _ _ = x ∧ _; refine Exists.intro _ (And.intro (by (simp only [DL.fset]; exact rfl)) ?_)) | (show ∃ x y, DL.asL _ _ = _ ∧ _; refine Exists.intro _ (Exists.intro _ (And.intro (by (first | exact rfl | assumption | exact DL.asL_same | exact DL.asL_adr (by (first | exact DL.mup_same | assumption | (refine (DL.mup_ne (by (first | assumption | exact Ne.symm (by assumption) | exact DL.ne_at (by assumption) (by (first | assumption | exact DL.fresh_up (by assumption) | exact DL.fresh_dn (by assumption) | exact DL.fresh_dn (DL.fresh_dn (by assumption)) | exact DL.fresh_dn (DL.fresh_dn (DL.fresh_dn (by assumption))))) | exact Ne.symm (DL.ne_at (by assumption) (by (first | assumption | exact DL.fresh_up (by assumption) | exact DL.fresh_dn (by assumption) | exact DL.fresh_dn (DL.fresh_dn (by assumption)) | exact DL.fresh_dn (DL.fresh_dn (DL.fresh_dn (by assumption)))))) | exact DL.fresh_ne (by assumption) | exact Ne.symm (DL.fresh_ne (by assumption)) | exact DL.fresh_ne (DL.fresh_dn (by assumption)) | exact Ne.symm (DL.fresh_ne (DL.fresh_dn (by assumption))) | exact DL.fresh_ne (DL.fresh_dn (DL.fresh_dn (by assumption))) | exact Ne.symm (DL.fresh_ne (DL.fresh_dn (DL.fresh_dn (by assumption))))))).trans ?_; first | exact DL.mup_same | assumption | (refine (DL.mup_ne (by (first | assumption | exact Ne.symm (by assumption) | exact DL.ne_at (by assumption) (by (first | assumption | exact DL.fresh_up (by assumption) | exact DL.fresh_dn (by assumption) | exact DL.fresh_dn (DL.fresh_dn (by assumption)) | exact DL.fresh_dn (DL.fresh_dn (DL.fresh_dn (by assumption))))) | exact Ne.symm (DL.ne_at (by assumption) (by (first | assumption | exact DL.fresh_up (by assumption) | exact DL.fresh_dn (by assumption) | exact DL.fresh_dn (DL.fresh_dn (by assumption)) | exact DL.fresh_dn (DL.fresh_dn (DL.fresh_dn (by assumption)))))) | exact DL.fresh_ne (by assumption) | exact Ne.symm (DL.fresh_ne (by assumption)) | exact DL.fresh_ne (DL.fresh_dn (by assumption)) | exact Ne.symm (DL.fresh_ne (DL.fresh_dn (by assumption))) | exact DL.fresh_ne (DL.fresh_dn (DL.fresh_dn (by assumption))) | exact Ne.symm (DL.fresh_ne (DL.fresh_dn (DL.fresh_dn (by assumption))))))).trans ?_; first | exact DL.mup_same | assumption | (refine (DL.mup_ne (by (first | assumption | exact Ne.symm (by assumption) | exact DL.ne_at (by assumption) (by (first | assumption | exact DL.fresh_up (by assumption) | exact DL.fresh_dn (by assumption) | exact DL.fresh_dn (DL.fresh_dn (by assumption)) | exact DL.fresh_dn (DL.fresh_dn (DL.fresh_dn (by assumption))))) | exact Ne.symm (DL.ne_at (by assumption) (by (first | assumption | exact DL.fresh_up (by assumption) | exact DL.fresh_dn (by assumption) | exact DL.fresh_dn (DL.fresh_dn (by assumption)) | exact DL.fresh_dn (DL.fresh_dn (DL.fresh_dn (by assumption)))))) | exact DL.fresh_ne (by assumption) | exact Ne.symm (DL.fresh_ne (by assumption)) | exact DL.fresh_ne (DL.fresh_dn (by assumption)) | exact Ne.symm (DL.fresh_ne (DL.fresh_dn (by assumption))) | exact DL.fresh_ne (DL.fresh_dn (DL.fresh_dn (by assumption))) | exact Ne.symm (DL.fresh_ne (DL.fresh_dn (DL.fresh_dn (by assumption))))))).trans ?_; first | exact DL.mup_same | assumption | (refine (DL.mup_ne (by (first | assumption | exact Ne.symm (by assumption) | exact DL.ne_at (by assumption) (by (first | assumption | exact DL.fresh_up (by assumption) | exact DL.fresh_dn (by assumption) | exact DL.fresh_dn (DL.fresh_dn (by assumption)) | exact DL.fresh_dn (DL.fresh_dn (DL.fresh_dn (by assumption))))) | exact Ne.symm (DL.ne_at (by assumption) (by (first | assumption | exact DL.fresh_up (by assumption) | exact DL.fresh_dn (by assumption) | exact DL.fresh_dn (DL.fresh_dn (by assumption)) | exact DL.fresh_dn (DL.fresh_dn (DL.fresh_dn (by assumption)))))) | exact DL.fresh_ne (by assumption) | exact Ne.symm (DL.fresh_ne (by assumption)) | exact DL.fresh_ne (DL.fresh_dn (by assumption)) | exact Ne.symm (DL.fresh_ne (DL.fresh_dn (by assumption))) | exact DL.fresh_ne (DL.fresh_dn (DL.fresh_dn (by assumption))) | exact Ne.symm (DL.fresh_ne (DL.fresh_dn (DL.fresh_dn (by assumption))))))).trans ?_; first | exact DL.mup_same | assumption | (refine (DL.mup_ne (by (first | assumption | exact Ne.symm (by assumption) | exact DL.ne_at (by assumption) (by (first | assumption | exact DL.fresh_up (by assumption) | exact DL.fresh_dn (by assumption) | exact DL.fresh_dn (DL.fresh_dn (by assumption)) | exact DL.fresh_dn (DL.fresh_dn (DL.fresh_dn (by assumption))))) | exact Ne.symm (DL.ne_at (by assumption) (by (first | assumption | exact DL.fresh_up (by assumption) | exact DL.fresh_dn (by assumption) | exact DL.fresh_dn (DL.fresh_dn (by assumption)) | exact DL.fresh_dn (DL.fresh_dn (DL.fresh_dn (by assumption)))))) | exact DL.fresh_ne (by assumption) | exact Ne.symm (DL.fresh_ne (by assumption)) | exact DL.fresh_ne (DL.fresh_dn (by assumption)) | exact Ne.symm (DL.fresh_ne (DL.fresh_dn (by assumption))) | exact DL.fresh_ne (DL.fresh_dn (DL.fresh_dn (by assumption))) | exact Ne.symm (DL.fresh_ne (DL.fresh_dn (DL.fresh_dn (by assumption))))))).trans ?_; first | exact DL.mup_same | assumption))))))) | exact DL.asL_up (by assumption) (by (first | assumption | exact DL.fresh_up (by assumption) | exact DL.fresh_dn (by assumption) | exact DL.fresh_dn (DL.fresh_dn (by assumption)) | exact DL.fresh_dn (DL.fresh_dn (DL.fresh_dn (by assumption))))) | exact DL.asL_up (DL.asL_up (by assumption) (by (first | assumption | exact DL.fresh_up (by assumption) | exact DL.fresh_dn (by assumption) | exact DL.fresh_dn (DL.fresh_dn (by assumption)) | exact DL.fresh_dn (DL.fresh_dn (DL.fresh_dn (by assumption)))))) (by (first | assumption | exact DL.fresh_up (by assumption) | exact DL.fresh_dn (by assumption) | exact DL.fresh_dn (DL.fresh_dn (by assumption)) | exact DL.fresh_dn (DL.fresh_dn (DL.fresh_dn (by assumption))))))) (And.intro (by (first | exact rfl | assumption | exact DL.asL_same | exact DL.asL_adr (by (first | exact DL.mup_same | assumption | (refine (DL.mup_ne (by (first | assumption | exact Ne.symm (by assumption) | exact DL.ne_at (by assumption) (by (first | assumption | exact DL.fresh_up (by assumption) | exact DL.fresh_dn (by assumption) | exact DL.fresh_dn (DL.fresh_dn (by assumption)) | exact DL.fresh_dn (DL.fresh_dn (DL.fresh_dn (by assumption))))) | exact Ne.symm (DL.ne_at (by assumption) (by (first | assumption | exact DL.fresh_up (by assumption) | exact DL.fresh_dn (by assumption) | exact DL.fresh_dn (DL.fresh_dn (by assumption)) | exact DL.fresh_dn (DL.fresh_dn (DL.fresh_dn (by assumption)))))) | exact DL.fresh_ne (by assumption) | exact Ne.symm (DL.fresh_ne (by assumption)) | exact DL.fresh_ne (DL.fresh_dn (by assumption)) | exact Ne.symm (DL.fresh_ne (DL.fresh_dn (by assumption))) | exact DL.fresh_ne (DL.fresh_dn (DL.fresh_dn (by assumption))) | exact Ne.symm (DL.fresh_ne (DL.fresh_dn (DL.fresh_dn (by assumption))))))).trans ?_; first | exact DL.mup_same | assumption | (refine (DL.mup_ne (by (first | assumption | exact Ne.symm (by assumption) | exact DL.ne_at (by assumption) (by (first | assumption | exact DL.fresh_up (by assumption) | exact DL.fresh_dn (by assumption) | exact DL.fresh_dn (DL.fresh_dn (by assumption)) | exact DL.fresh_dn (DL.fresh_dn (DL.fresh_dn (by assumption))))) | exact Ne.symm (DL.ne_at (by assumption) (by (first | assumption | exact DL.fresh_up (by assumption) | exact DL.fresh_dn (by assumption) | exact DL.fresh_dn (DL.fresh_dn (by assumption)) | exact DL.fresh_dn (DL.fresh_dn (DL.fresh_dn (by assumption)))))) | exact DL.fresh_ne (by assumption) | exact Ne.symm (DL.fresh_ne (by assumption)) | exact DL.fresh_ne (DL.fresh_dn (by assumption)) | exact Ne.symm (DL.fresh_ne (DL.fresh_dn (by assumption))) | exact DL.fresh_ne (DL.fresh_dn (DL.fresh_dn (by assumption))) | exact Ne.symm (DL.fresh_ne (DL.fresh_dn (DL.fresh_dn (by assumption))))))).trans ?_; first | exact DL.mup_same | assumption | (refine (DL.mup_ne (by (first | assumption | exact Ne.symm (by assumption) | exact DL.ne_at (by assumption) (by (first | assumption | exact DL.fresh_up (by assumption) | exact DL.fresh_dn (by assumption) | exact DL.fresh_dn (DL.fresh_dn (by assumption)) | exact DL.fresh_dn (DL.fresh_dn (DL.fresh_dn (by assumption))))) | exact Ne.symm (DL.ne_at (by assumption) (by (first | assumption | exact DL.fresh_up (by assumption) | exact DL.fresh_dn (by assumption) | exact DL.fresh_dn (DL.fresh_dn (by assumption)) | exact DL.fresh_dn (DL.fresh_dn (DL.fresh_dn (by assumption)))))) | exact DL.fresh_ne (by assumption) | exact Ne.symm (DL.fresh_ne (by assumption)) | exact DL.fresh_ne (DL.fresh_dn (by assumption)) | exact Ne.symm (DL.fresh_ne (DL.fresh_dn (by assumption))) | exact DL.fresh_ne (DL.fresh_dn (DL.fresh_dn (by assumption))) | exact Ne.symm (DL.fresh_ne (DL.fresh_dn (DL.fresh_dn (by assumption))))))).trans ?_; first | exact DL.mup_same | assumption | (refine (DL.mup_ne (by (first | assumption | exact Ne.symm (by assumption) | exact DL.ne_at (by assumption) (by (first | assumption | exact DL.fresh_up (by assumption) | exact DL.fresh_dn (by assumption) | exact DL.fresh_dn (DL.fresh_dn (by assumption)) | exact DL.fresh_dn (DL.fresh_dn (DL.fresh_dn (by assumption))))) | exact Ne.symm (DL.ne_at (by assumption) (by (first | assumption | exact DL.fresh_up (by assumption) | exact DL.fresh_dn (by assumption) | exact DL.fresh_dn (DL.fresh_dn (by assumption)) | exact DL.fresh_dn (DL.fresh_dn (DL.fresh_dn (by assumption)))))) | exact DL.fresh_ne (by assumption) | exact Ne.symm (DL.fresh_ne (by assumption)) | exact DL.fresh_ne (DL.fresh_dn (by assumption)) | exact Ne.symm (DL.fresh_ne (DL.fresh_dn (by assumption))) | exact DL.fresh_ne (DL.fresh_dn (DL.fresh_dn (by assumption))) | exact Ne.symm (DL.fresh_ne (DL.fresh_dn (DL.fresh_dn (by assumption))))))).trans ?_; first | exact DL.mup_same | assumption | (refine (DL.mup_ne (by (first | assumption | exact Ne.symm (by assumption) | exact DL.ne_at (by assumption) (by (first | assumption | exact DL.fresh_up (by assumption) | exact DL.fresh_dn (by assumption) | exact DL.fresh_dn (DL.fresh_dn (by assumption)) | exact DL.fresh_dn (DL.fresh_dn (DL.fresh_dn (by assumption))))) | exact Ne.symm (DL.ne_at (by assumption) (by (first | assumption | exact DL.fresh_up (by assumption) | exact DL.fresh_dn (by assumption) | exact DL.fresh_dn (DL.fresh_dn (by assumption)) | exact DL.fresh_dn (DL.fresh_dn (DL.fresh_dn (by assumption)))))) | exact DL.fresh_ne (by assumption) | exact Ne.symm (DL.fresh_ne (by assumption)) | exact DL.fresh_ne (DL.fresh_dn (by assumption)) | exact Ne.symm (DL.fresh_ne (DL.fresh_dn (by assumption))) | exact DL.fresh_ne (DL.fresh_dn (DL.fresh_dn (by assumption))) | exact Ne.symm (DL.fresh_ne (DL.fresh_dn (DL.fresh_dn (by assumption))))))).trans ?_; first | exact DL.mup_same | assumption))))))) | exact DL.asL_up (by assumption) (by (first | assumption | exact DL.fresh_up (by assumption) | exact DL.fresh_dn (by assumption) | exact DL.fresh_dn (DL.fresh_dn (by assumption)) | exact DL.fresh_dn (DL.fresh_dn (DL.fresh_dn (by assumption))))) | exact DL.asL_up (DL.asL_up (by assumption) (by (first | assumption | exact DL.fresh_up (by assumption) | exact DL.fresh_dn (by assumption) | exact DL.fresh_dn (DL.fresh_dn (by assumption)) | exact DL.fresh_dn (DL.fresh_dn (DL.fresh_dn (by assumption)))))) (by (first | assumption | exact DL.fresh_up (by assumption) | exact DL.fresh_dn (by assumption) | exact DL.fresh_dn (DL.fresh_dn (by assumption)) | exact DL.fresh_dn (DL.fresh_dn (DL.fresh_dn (by assumption))))))) ?_)))) | refine Exists.intro _ (And.intro (fun _ _ h => h) ?_) | refine Exists.intro _ (And.intro rfl ?_) | refine Exists.intro _ (And.intro (by (first | exact DL.mup_same | assumption | (refine (DL.mup_ne (by (first | assumption | exact Ne.symm (by assumption) | exact DL.ne_at (by assumption) (by (first | assumption | exact DL.fresh_up (by assumption) | exact DL.fresh_dn (by assumption) | exact DL.fresh_dn (DL.fresh_dn (by assumption)) | exact DL.fresh_dn (DL.fresh_dn (DL.fresh_dn (by assumption))))) | exact Ne.symm (DL.ne_at (by assumption) (by (first | assumption | exact DL.fresh_up (by assumption) | exact DL.fresh_dn (by assumption) | exact DL.fresh_dn (DL.fresh_dn (by assumption)) | exact DL.fresh_dn (DL.fresh_dn (DL.fresh_dn (by assumption)))))) | exact DL.fresh_ne (by assumption) | exact Ne.symm (DL.fresh_ne (by assumption)) | exact DL.fresh_ne (DL.fresh_dn (by assumption)) | exact Ne.symm (DL.fresh_ne (DL.fresh_dn (by assumption))) | exact DL.fresh_ne (DL.fresh_dn (DL.fresh_dn (by assumption))) | exact Ne.symm (DL.fresh_ne (DL.fresh_dn (DL.fresh_dn (by assumption))))))).trans ?_; first | exact DL.mup_same | assumption | (refine (DL.mup_ne (by (first | assumption | exact Ne.symm (by assumption) | exact DL.ne_at (by assumption) (by (first | assumption | exact DL.fresh_up (by assumption) | exact DL.fresh_dn (by assumption) | exact DL.fresh_dn (DL.fresh_dn (by assumption)) | exact DL.fresh_dn (DL.fresh_dn (DL.fresh_dn (by assumption))))) | exact Ne.symm (DL.ne_at (by assumption) (by (first | assumption | exact DL.fresh_up (by assumption) | exact DL.fresh_dn (by assumption) | exact DL.fresh_dn (DL.fresh_dn (by assumption)) | exact DL.fresh_dn (DL.fresh_dn (DL.fresh_dn (by assumption)))))) | exact DL.fresh_ne (by assumption) | exact Ne.symm (DL.fresh_ne (by assumption)) | exact DL.fresh_ne (DL.fresh_dn (by assumption)) | exact Ne.symm (DL.fresh_ne (DL.fresh_dn (by assumption))) | exact DL.fresh_ne (DL.fresh_dn (DL.fresh_dn (by assumption))) | exact Ne.symm (DL.fresh_ne (DL.fresh_dn (DL.fresh_dn (by assumption))))))).trans ?_; first | exact DL.mup_same | assumption | (refine (DL.mup_ne (by (first | assumption | exact Ne.symm (by assumption) | exact DL.ne_at (by assumption) (by (first | assumption | exact DL.fresh_up (by assumption) | exact DL.fresh_dn (by assumption) | exact DL.fresh_dn (DL.fresh_dn (by assumption)) | exact DL.fresh_dn (DL.fresh_dn (DL.fresh_dn (by assumption))))) | exact Ne.symm (DL.ne_at (by assumption) (by (first | assumption | exact DL.fresh_up (by assumption) | exact DL.fresh_dn (by assumption) | exact DL.fresh_dn (DL.fresh_dn (by assumption)) | exact DL.fresh_dn (DL.fresh_dn (DL.fresh_dn (by assumption)))))) | exact DL.fresh_ne (by assumption) | exact Ne.symm (DL.fresh_ne (by assumption)) | exact DL.fresh_ne (DL.fresh_dn (by assumption)) | exact Ne.symm (DL.fresh_ne (DL.fresh_dn (by assumption))) | exact DL.fresh_ne (DL.fresh_dn (DL.fresh_dn (by assumption))) | exact Ne.symm (DL.fresh_ne (DL.fresh_dn (DL.fresh_dn (by assumption))))))).trans ?_; first | exact DL.mup_same | assumption | (refine (DL.mup_ne (by (first | assumption | exact Ne.symm (by assumption) | exact DL.ne_at (by assumption) (by (first | assumption | exact DL.fresh_up (by assumption) | exact DL.fresh_dn (by assumption) | exact DL.fresh_dn (DL.fresh_dn (by assumption)) | exact DL.fresh_dn (DL.fresh_dn (DL.fresh_dn (by assumption))))) | exact Ne.symm (DL.ne_at (by assumption) (by (first | assumption | exact DL.fresh_up (by assumption) | exact DL.fresh_dn (by assumption) | exact DL.fresh_dn (DL.fresh_dn (by assumption)) | exact DL.fresh_dn (DL.fresh_dn (DL.fresh_dn (by assumption)))))) | exact DL.fresh_ne (by assumption) | exact Ne.symm (DL.fresh_ne (by assumption)) | exact DL.fresh_ne (DL.fresh_dn (by assumption)) | exact Ne.symm (DL.fresh_ne (DL.fresh_dn (by assumption))) | exact DL.fresh_ne (DL.fresh_dn (DL.fresh_dn (by assumption))) | exact Ne.symm (DL.fresh_ne (DL.fresh_dn (DL.fresh_dn (by assumption))))))).trans ?_; first | exact DL.mup_same | assumption | (refine (DL.mup_ne (by (first | assumption | exact Ne.symm (by assumption) | exact DL.ne_at (by assumption) (by (first | assumption | exact DL.fresh_up (by assumption) | exact DL.fresh_dn (by assumption) | exact DL.fresh_dn (DL.fresh_dn (by assumption)) | exact DL.fresh_dn (DL.fresh_dn (DL.fresh_dn (by assumption))))) | exact Ne.symm (DL.ne_at (by assumption) (by (first | assumption | exact DL.fresh_up (by assumption) | exact DL.fresh_dn (by assumption) | exact DL.fresh_dn (DL.fresh_dn (by assumption)) | exact DL.fresh_dn (DL.fresh_dn (DL.fresh_dn (by assumption)))))) | exact DL.fresh_ne (by assumption) | exact Ne.symm (DL.fresh_ne (by assumption)) | exact DL.fresh_ne (DL.fresh_dn (by assumption)) | exact Ne.symm (DL.fresh_ne (DL.fresh_dn (by assumption))) | exact DL.fresh_ne (DL.fresh_dn (DL.fresh_dn (by assumption))) | exact Ne.symm (DL.fresh_ne (DL.fresh_dn (DL.fresh_dn (by assumption))))))).trans ?_; first | exact DL.mup_same | assumption))))))) ?_) | refine Exists.intro _ (Exists.intro _ (And.intro (by (first | exact DL.mup_same | assumption | (refine (DL.mup_ne (by (first | assumption | exact Ne.symm (by assumption) | exact DL.ne_at (by assumption) (by (first | assumption | exact DL.fresh_up (by assumption) | exact DL.fresh_dn (by assumption) | exact DL.fresh_dn (DL.fresh_dn (by assumption)) | exact DL.fresh_dn (DL.fresh_dn (DL.fresh_dn (by assumption))))) | exact Ne.symm (DL.ne_at (by assumption) (by (first | assumption | exact DL.fresh_up (by assumption) | exact DL.fresh_dn (by assumption) | exact DL.fresh_dn (DL.fresh_dn (by assumption)) | exact DL.fresh_dn (DL.fresh_dn (DL.fresh_dn (by assumption)))))) | exact DL.fresh_ne (by assumption) | exact Ne.symm (DL.fresh_ne (by assumption)) | exact DL.fresh_ne (DL.fresh_dn (by assumption)) | exact Ne.symm (DL.fresh_ne (DL.fresh_dn (by assumption))) | exact DL.fresh_ne (DL.fresh_dn (DL.fresh_dn (by assumption))) | exact Ne.symm (DL.fresh_ne (DL.fresh_dn (DL.fresh_dn (by assumption))))))).trans ?_; first | exact DL.mup_same | assumption | (refine (DL.mup_ne (by (first | assumption | exact Ne.symm (by assumption) | exact DL.ne_at (by assumption) (by (first | assumption | exact DL.fresh_up (by assumption) | exact DL.fresh_dn (by assumption) | exact DL.fresh_dn (DL.fresh_dn (by assumption)) | exact DL.fresh_dn (DL.fresh_dn (DL.fresh_dn (by assumption))))) | exact Ne.symm (DL.ne_at (by assumption) (by (first | assumption | exact DL.fresh_up (by assumption) | exact DL.fresh_dn (by assumption) | exact DL.fresh_dn (DL.fresh_dn (by assumption)) | exact DL.fresh_dn (DL.fresh_dn (DL.fresh_dn (by assumption)))))) | exact DL.fresh_ne (by assumption) | exact Ne.symm (DL.fresh_ne (by assumption)) | exact DL.fresh_ne (DL.fresh_dn (by assumption)) | exact Ne.symm (DL.fresh_ne (DL.fresh_dn (by assumption))) | exact DL.fresh_ne (DL.fresh_dn (DL.fresh_dn (by assumption))) | exact Ne.symm (DL.fresh_ne (DL.fresh_dn (DL.fresh_dn (by assumption))))))).trans ?_; first | exact DL.mup_same | assumption | (refine (DL.mup_ne (by (first | assumption | exact Ne.symm (by assumption) | exact DL.ne_at (by assumption) (by (first | assumption | exact DL.fresh_up (by assumption) | exact DL.fresh_dn (by assumption) | exact DL.fresh_dn (DL.fresh_dn (by assumption)) | exact DL.fresh_dn (DL.fresh_dn (DL.fresh_dn (by assumption))))) | exact Ne.symm (DL.ne_at (by assumption) (by (first | assumption | exact DL.fresh_up (by assumption) | exact DL.fresh_dn (by assumption) | exact DL.fresh_dn (DL.fresh_dn (by assumption)) | exact DL.fresh_dn (DL.fresh_dn (DL.fresh_dn (by assumption)))))) | exact DL.fresh_ne (by assumption) | exact Ne.symm (DL.fresh_ne (by assumption)) | exact DL.fresh_ne (DL.fresh_dn (by assumption)) | exact Ne.symm (DL.fresh_ne (DL.fresh_dn (by assumption))) | exact DL.fresh_ne (DL.fresh_dn (DL.fresh_dn (by assumption))) | exact Ne.symm (DL.fresh_ne (DL.fresh_dn (DL.fresh_dn (by assumption))))))).trans ?_; first | exact DL.mup_same | assumption | (refine (DL.mup_ne (by (first | assumption | exact Ne.symm (by assumption) | exact DL.ne_at (by assumption) (by (first | assumption | exact DL.fresh_up (by assumption) | exact DL.fresh_dn (by assumption) | exact DL.fresh_dn (DL.fresh_dn (by assumption)) | exact DL.fresh_dn (DL.fresh_dn (DL.fresh_dn (by assumption))))) | exact Ne.symm (DL.ne_at (by assumption) (by (first | assumption | exact DL.fresh_up (by assumption) | exact DL.fresh_dn (by assumption) | exact DL.fresh_dn (DL.fresh_dn (by assumption)) | exact DL.fresh_dn (DL.fresh_dn (DL.fresh_dn (by assumption)))))) | exact DL.fresh_ne (by assumption) | exact Ne.symm (DL.fresh_ne (by assumption)) | exact DL.fresh_ne (DL.fresh_dn (by assumption)) | exact Ne.symm (DL.fresh_ne (DL.fresh_dn (by assumption))) | exact DL.fresh_ne (DL.fresh_dn (DL.fresh_dn (by assumption))) | exact Ne.symm (DL.fresh_ne (DL.fresh_dn (DL.fresh_dn (by assumption))))))).trans ?_; first | exact DL.mup_same | assumption | (refine (DL.mup_ne (by (first | assumption | exact Ne.symm (by assumption) | exact DL.ne_at (by assumption) (by (first | assumption | exact DL.fresh_up (by assumption) | exact DL.fresh_dn (by assumption) | exact DL.fresh_dn (DL.fresh_dn (by assumption)) | exact DL.fresh_dn (DL.fresh_dn (DL.fresh_dn (by assumption))))) | exact Ne.symm (DL.ne_at (by assumption) (by (first | assumption | exact DL.fresh_up (by assumption) | exact DL.fresh_dn (by assumption) | exact DL.fresh_dn (DL.fresh_dn (by assumption)) | exact DL.fresh_dn (DL.fresh_dn (DL.fresh_dn (by assumption)))))) | exact DL.fresh_ne (by assumption) | exact Ne.symm (DL.fresh_ne (by assumption)) | exact DL.fresh_ne (DL.fresh_dn (by assumption)) | exact Ne.symm (DL.fresh_ne (DL.fresh_dn (by assumption))) | exact DL.fresh_ne (DL.fresh_dn (DL.fresh_dn (by assumption))) | exact Ne.symm (DL.fresh_ne (DL.fresh_dn (DL.fresh_dn (by assumption))))))).trans ?_; first | exact DL.mup_same | assumption))))))) (And.intro (by (first | exact rfl | assumption | exact DL.asT_adr (by (first | exact DL.mup_same | assumption | (refine (DL.mup_ne (by (first | assumption | exact Ne.symm (by assumption) | exact DL.ne_at (by assumption) (by (first | assumption | exact DL.fresh_up (by assumption) | exact DL.fresh_dn (by assumption) | exact DL.fresh_dn (DL.fresh_dn (by assumption)) | exact DL.fresh_dn (DL.fresh_dn (DL.fresh_dn (by assumption))))) | exact Ne.symm (DL.ne_at (by assumption) (by (first | assumption | exact DL.fresh_up (by assumption) | exact DL.fresh_dn (by assumption) | exact DL.fresh_dn (DL.fresh_dn (by assumption)) | exact DL.fresh_dn (DL.fresh_dn (DL.fresh_dn (by assumption)))))) | exact DL.fresh_ne (by assumption) | exact Ne.symm (DL.fresh_ne (by assumption)) | exact DL.fresh_ne (DL.fresh_dn (by assumption)) | exact Ne.symm (DL.fresh_ne (DL.fresh_dn (by assumption))) | exact DL.fresh_ne (DL.fresh_dn (DL.fresh_dn (by assumption))) | exact Ne.symm (DL.fresh_ne (DL.fresh_dn (DL.fresh_dn (by assumption))))))).trans ?_; first | exact DL.mup_same | assumption | (refine (DL.mup_ne (by (first | assumption | exact Ne.symm (by assumption) | exact DL.ne_at (by assumption) (by (first | assumption | exact DL.fresh_up (by assumption) | exact DL.fresh_dn (by assumption) | exact DL.fresh_dn (DL.fresh_dn (by assumption)) | exact DL.fresh_dn (DL.fresh_dn (DL.fresh_dn (by assumption))))) | exact Ne.symm (DL.ne_at (by assumption) (by (first | assumption | exact DL.fresh_up (by assumption) | exact DL.fresh_dn (by assumption) | exact DL.fresh_dn (DL.fresh_dn (by assumption)) | exact DL.fresh_dn (DL.fresh_dn (DL.fresh_dn (by assumption)))))) | exact DL.fresh_ne (by assumption) | exact Ne.symm (DL.fresh_ne (by assumption)) | exact DL.fresh_ne (DL.fresh_dn (by assumption)) | exact Ne.symm (DL.fresh_ne (DL.fresh_dn (by assumption))) | exact DL.fresh_ne (DL.fresh_dn (DL.fresh_dn (by assumption))) | exact Ne.symm (DL.fresh_ne (DL.fresh_dn (DL.fresh_dn (by assumption))))))).trans ?_; first | exact DL.mup_same | assumption | (refine (DL.mup_ne (by (first | assumption | exact Ne.symm (by assumption) | exact DL.ne_at (by assumption) (by (first | assumption | exact DL.fresh_up (by assumption) | exact DL.fresh_dn (by assumption) | exact DL.fresh_dn (DL.fresh_dn (by assumption)) | exact DL.fresh_dn (DL.fresh_dn (DL.fresh_dn (by assumption))))) | exact Ne.symm (DL.ne_at (by assumption) (by (first | assumption | exact DL.fresh_up (by assumption) | exact DL.fresh_dn (by assumption) | exact DL.fresh_dn (DL.fresh_dn (by assumption)) | exact DL.fresh_dn (DL.fresh_dn (DL.fresh_dn (by assumption)))))) | exact DL.fresh_ne (by assumption) | exact Ne.symm (DL.fresh_ne (by assumption)) | exact DL.fresh_ne (DL.fresh_dn (by assumption)) | exact Ne.symm (DL.fresh_ne (DL.fresh_dn (by assumption))) | exact DL.fresh_ne (DL.fresh_dn (DL.fresh_dn (by assumption))) | exact Ne.symm (DL.fresh_ne (DL.fresh_dn (DL.fresh_dn (by assumption))))))).trans ?_; first | exact DL.mup_same | assumption | (refine (DL.mup_ne (by (first | assumption | exact Ne.symm (by assumption) | exact DL.ne_at (by assumption) (by (first | assumption | exact DL.fresh_up (by assumption) | exact DL.fresh_dn (by assumption) | exact DL.fresh_dn (DL.fresh_dn (by assumption)) | exact DL.fresh_dn (DL.fresh_dn (DL.fresh_dn (by assumption))))) | exact Ne.symm (DL.ne_at (by assumption) (by (first | assumption | exact DL.fresh_up (by assumption) | exact DL.fresh_dn (by assumption) | exact DL.fresh_dn (DL.fresh_dn (by assumption)) | exact DL.fresh_dn (DL.fresh_dn (DL.fresh_dn (by assumption)))))) | exact DL.fresh_ne (by assumption) | exact Ne.symm (DL.fresh_ne (by assumption)) | exact DL.fresh_ne (DL.fresh_dn (by assumption)) | exact Ne.symm (DL.fresh_ne (DL.fresh_dn (by assumption))) | exact DL.fresh_ne (DL.fresh_dn (DL.fresh_dn (by assumption))) | exact Ne.symm (DL.fresh_ne (DL.fresh_dn (DL.fresh_dn (by assumption))))))).trans ?_; first | exact DL.mup_same | assumption | (refine (DL.mup_ne (by (first | assumption | exact Ne.symm (by assumption) | exact DL.ne_at (by assumption) (by (first | assumption | exact DL.fresh_up (by assumption) | exact DL.fresh_dn (by assumption) | exact DL.fresh_dn (DL.fresh_dn (by assumption)) | exact DL.fresh_dn (DL.fresh_dn (DL.fresh_dn (by assumption))))) | exact Ne.symm (DL.ne_at (by assumption) (by (first | assumption | exact DL.fresh_up (by assumption) | exact DL.fresh_dn (by assumption) | exact DL.fresh_dn (DL.fresh_dn (by assumption)) | exact DL.fresh_dn (DL.fresh_dn (DL.fresh_dn (by assumption)))))) | exact DL.fresh_ne (by assumption) | exact Ne.symm (DL.fresh_ne (by assumption)) | exact DL.fresh_ne (DL.fresh_dn (by assumption)) | exact Ne.symm (DL.fresh_ne (DL.fresh_dn (by assumption))) | exact DL.fresh_ne (DL.fresh_dn (DL.fresh_dn (by assumption))) | exact Ne.symm (DL.fresh_ne (DL.fresh_dn (DL.fresh_dn (by assumption))))))).trans ?_; first | exact DL.mup_same | assumption))))))))) ?_))) | refine Exists.intro _ (Exists.intro _ (And.intro rfl (And.intro rfl ?_))) | refine Exists.intro _ (Exists.intro _ (And.intro rfl (And.intro (by (first | exact rfl | assumption | exact DL.asL_same | exact DL.asL_adr (by (first | exact DL.mup_same | assumption | (refine (DL.mup_ne (by (first | assumption | exact Ne.symm (by assumption) | exact DL.ne_at (by assumption) (by (first | assumption | exact DL.fresh_up (by assumption) | exact DL.fresh_dn (by assumption) | exact DL.fresh_dn (DL.fresh_dn (by assumption)) | exact DL.fresh_dn (DL.fresh_dn (DL.fresh_dn (by assumption))))) | exact Ne.symm (DL.ne_at (by assumption) (by (first | assumption | exact DL.fresh_up (by assumption) | exact DL.fresh_dn (by assumption) | exact DL.fresh_dn (DL.fresh_dn (by assumption)) | exact DL.fresh_dn (DL.fresh_dn (DL.fresh_dn (by assumption)))))) | exact DL.fresh_ne (by assumption) | exact Ne.symm (DL.fresh_ne (by assumption)) | exact DL.fresh_ne (DL.fresh_dn (by assumption)) | exact Ne.symm (DL.fresh_ne (DL.fresh_dn (by assumption))) | exact DL.fresh_ne (DL.fresh_dn (DL.fresh_dn (by assumption))) | exact Ne.symm (DL.fresh_ne (DL.fresh_dn (DL.fresh_dn (by assumption))))))).trans ?_; first | exact DL.mup_same | assumption | (refine (DL.mup_ne (by (first | assumption | exact Ne.symm (by assumption) | exact DL.ne_at (by assumption) (by (first | assumption | exact DL.fresh_up (by assumption) | exact DL.fresh_dn (by assumption) | exact DL.fresh_dn (DL.fresh_dn (by assumption)) | exact DL.fresh_dn (DL.fresh_dn (DL.fresh_dn (by assumption))))) | exact Ne.symm (DL.ne_at (by assumption) (by (first | assumption | exact DL.fresh_up (by assumption) | exact DL.fresh_dn (by assumption) | exact DL.fresh_dn (DL.fresh_dn (by assumption)) | exact DL.fresh_dn (DL.fresh_dn (DL.fresh_dn (by assumption)))))) | exact DL.fresh_ne (by assumption) | exact Ne.symm (DL.fresh_ne (by assumption)) | exact DL.fresh_ne (DL.fresh_dn (by assumption)) | exact Ne.symm (DL.fresh_ne (DL.fresh_dn (by assumption))) | exact DL.fresh_ne (DL.fresh_dn (DL.fresh_dn (by assumption))) | exact Ne.symm (DL.fresh_ne (DL.fresh_dn (DL.fresh_dn (by assumption))))))).trans ?_; first | exact DL.mup_same | assumption | (refine (DL.mup_ne (by (first | assumption | exact Ne.symm (by assumption) | exact DL.ne_at (by assumption) (by (first | assumption | exact DL.fresh_up (by assumption) | exact DL.fresh_dn (by assumption) | exact DL.fresh_dn (DL.fresh_dn (by assumption)) | exact DL.fresh_dn (DL.fresh_dn (DL.fresh_dn (by assumption))))) | exact Ne.symm (DL.ne_at (by assumption) (by (first | assumption | exact DL.fresh_up (by assumption) | exact DL.fresh_dn (by assumption) | exact DL.fresh_dn (DL.fresh_dn (by assumption)) | exact DL.fresh_dn (DL.fresh_dn (DL.fresh_dn (by assumption)))))) | exact DL.fresh_ne (by assumption) | exact Ne.symm (DL.fresh_ne (by assumption)) | exact DL.fresh_ne (DL.fresh_dn (by assumption)) | exact Ne.symm (DL.fresh_ne (DL.fresh_dn (by assumption))) | exact DL.fresh_ne (DL.fresh_dn (DL.fresh_dn (by assumption))) | exact Ne.symm (DL.fresh_ne (DL.fresh_dn (DL.fresh_dn (by assumption))))))).trans ?_; first | exact DL.mup_same | assumption | (refine (DL.mup_ne (by (first | assumption | exact Ne.symm (by assumption) | exact DL.ne_at (by assumption) (by (first | assumption | exact DL.fresh_up (by assumption) | exact DL.fresh_dn (by assumption) | exact DL.fresh_dn (DL.fresh_dn (by assumption)) | exact DL.fresh_dn (DL.fresh_dn (DL.fresh_dn (by assumption))))) | exact Ne.symm (DL.ne_at (by assumption) (by (first | assumption | exact DL.fresh_up (by assumption) | exact DL.fresh_dn (by assumption) | exact DL.fresh_dn (DL.fresh_dn (by assumption)) | exact DL.fresh_dn (DL.fresh_dn (DL.fresh_dn (by assumption)))))) | exact DL.fresh_ne (by assumption) | exact Ne.symm (DL.fresh_ne (by assumption)) | exact DL.fresh_ne (DL.fresh_dn (by assumption)) | exact Ne.symm (DL.fresh_ne (DL.fresh_dn (by assumption))) | exact DL.fresh_ne (DL.fresh_dn (DL.fresh_dn (by assumption))) | exact Ne.symm (DL.fresh_ne (DL.fresh_dn (DL.fresh_dn (by assumption))))))).trans ?_; first | exact DL.mup_same | assumption | (refine (DL.mup_ne (by (first | assumption | exact Ne.symm (by assumption) | exact DL.ne_at (by assumption) (by (first | assumption | exact DL.fresh_up (by assumption) | exact DL.fresh_dn (by assumption) | exact DL.fresh_dn (DL.fresh_dn (by assumption)) | exact DL.fresh_dn (DL.fresh_dn (DL.fresh_dn (by assumption))))) | exact Ne.symm (DL.ne_at (by assumption) (by (first | assumption | exact DL.fresh_up (by assumption) | exact DL.fresh_dn (by assumption) | exact DL.fresh_dn (DL.fresh_dn (by assumption)) | exact DL.fresh_dn (DL.fresh_dn (DL.fresh_dn (by assumption)))))) | exact DL.fresh_ne (by assumption) | exact Ne.symm (DL.fresh_ne (by assumption)) | exact DL.fresh_ne (DL.fresh_dn (by assumption)) | exact Ne.symm (DL.fresh_ne (DL.fresh_dn (by assumption))) | exact DL.fresh_ne (DL.fresh_dn (DL.fresh_dn (by assumption))) | exact Ne.symm (DL.fresh_ne (DL.fresh_dn (DL.fresh_dn (by assumption))))))).trans ?_; first | exact DL.mup_same | assumption))))))) | exact DL.asL_up (by assumption) (by (first | assumption | exact DL.fresh_up (by assumption) | exact DL.fresh_dn (by assumption) | exact DL.fresh_dn (DL.fresh_dn (by assumption)) | exact DL.fresh_dn (DL.fresh_dn (DL.fresh_dn (by assumption))))) | exact DL.asL_up (DL.asL_up (by assumption) (by (first | assumption | exact DL.fresh_up (by assumption) | exact DL.fresh_dn (by assumption) | exact DL.fresh_dn (DL.fresh_dn (by assumption)) | exact DL.fresh_dn (DL.fresh_dn (DL.fresh_dn (by assumption)))))) (by (first | assumption | exact DL.fresh_up (by assumption) | exact DL.fresh_dn (by assumption) | exact DL.fresh_dn (DL.fresh_dn (by assumption)) | exact DL.fresh_dn (DL.fresh_dn (DL.fresh_dn (by assumption))))))) ?_))) | refine Exists.intro _ (Exists.intro _ (And.intro rfl ?_)) | refine Exists.intro _ (Exists.intro _ (Exists.intro _ (And.intro rfl (And.intro rfl ?_)))) | refine Exists.intro _ (Exists.intro _ (Exists.intro _ (And.intro rfl (And.intro (by (first | exact rfl | assumption | exact DL.asL_same | exact DL.asL_adr (by (first | exact DL.mup_same | assumption | (refine (DL.mup_ne (by (first | assumption | exact Ne.symm (by assumption) | exact DL.ne_at (by assumption) (by (first | assumption | exact DL.fresh_up (by assumption) | exact DL.fresh_dn (by assumption) | exact DL.fresh_dn (DL.fresh_dn (by assumption)) | exact DL.fresh_dn (DL.fresh_dn (DL.fresh_dn (by assumption))))) | exact Ne.symm (DL.ne_at (by assumption) (by (first | assumption | exact DL.fresh_up (by assumption) | exact DL.fresh_dn (by assumption) | exact DL.fresh_dn (DL.fresh_dn (by assumption)) | exact DL.fresh_dn (DL.fresh_dn (DL.fresh_dn (by assumption)))))) | exact DL.fresh_ne (by assumption) | exact Ne.symm (DL.fresh_ne (by assumption)) | exact DL.fresh_ne (DL.fresh_dn (by assumption)) | exact Ne.symm (DL.fresh_ne (DL.fresh_dn (by assumption))) | exact DL.fresh_ne (DL.fresh_dn (DL.fresh_dn (by assumption))) | exact Ne.symm (DL.fresh_ne (DL.fresh_dn (DL.fresh_dn (by assumption))))))).trans ?_; first | exact DL.mup_same | assumption | (refine (DL.mup_ne (by (first | assumption | exact Ne.symm (by assumption) | exact DL.ne_at (by assumption) (by (first | assumption | exact DL.fresh_up (by assumption) | exact DL.fresh_dn (by assumption) | exact DL.fresh_dn (DL.fresh_dn (by assumption)) | exact DL.fresh_dn (DL.fresh_dn (DL.fresh_dn (by assumption))))) | exact Ne.symm (DL.ne_at (by assumption) (by (first | assumption | exact DL.fresh_up (by assumption) | exact DL.fresh_dn (by assumption) | exact DL.fresh_dn (DL.fresh_dn (by assumption)) | exact DL.fresh_dn (DL.fresh_dn (DL.fresh_dn (by assumption)))))) | exact DL.fresh_ne (by assumption) | exact Ne.symm (DL.fresh_ne (by assumption)) | exact DL.fresh_ne (DL.fresh_dn (by assumption)) | exact Ne.symm (DL.fresh_ne (DL.fresh_dn (by assumption))) | exact DL.fresh_ne (DL.fresh_dn (DL.fresh_dn (by assumption))) | exact Ne.symm (DL.fresh_ne (DL.fresh_dn (DL.fresh_dn (by assumption))))))).trans ?_; first | exact DL.mup_same | assumption | (refine (DL.mup_ne (by (first | assumption | exact Ne.symm (by assumption) | exact DL.ne_at (by assumption) (by (first | assumption | exact DL.fresh_up (by assumption) | exact DL.fresh_dn (by assumption) | exact DL.fresh_dn (DL.fresh_dn (by assumption)) | exact DL.fresh_dn (DL.fresh_dn (DL.fresh_dn (by assumption))))) | exact Ne.symm (DL.ne_at (by assumption) (by (first | assumption | exact DL.fresh_up (by assumption) | exact DL.fresh_dn (by assumption) | exact DL.fresh_dn (DL.fresh_dn (by assumption)) | exact DL.fresh_dn (DL.fresh_dn (DL.fresh_dn (by assumption)))))) | exact DL.fresh_ne (by assumption) | exact Ne.symm (DL.fresh_ne (by assumption)) | exact DL.fresh_ne (DL.fresh_dn (by assumption)) | exact Ne.symm (DL.fresh_ne (DL.fresh_dn (by assumption))) | exact DL.fresh_ne (DL.fresh_dn (DL.fresh_dn (by assumption))) | exact Ne.symm (DL.fresh_ne (DL.fresh_dn (DL.fresh_dn (by assumption))))))).trans ?_; first | exact DL.mup_same | assumption | (refine (DL.mup_ne (by (first | assumption | exact Ne.symm (by assumption) | exact DL.ne_at (by assumption) (by (first | assumption | exact DL.fresh_up (by assumption) | exact DL.fresh_dn (by assumption) | exact DL.fresh_dn (DL.fresh_dn (by assumption)) | exact DL.fresh_dn (DL.fresh_dn (DL.fresh_dn (by assumption))))) | exact Ne.symm (DL.ne_at (by assumption) (by (first | assumption | exact DL.fresh_up (by assumption) | exact DL.fresh_dn (by assumption) | exact DL.fresh_dn (DL.fresh_dn (by assumption)) | exact DL.fresh_dn (DL.fresh_dn (DL.fresh_dn (by assumption)))))) | exact DL.fresh_ne (by assumption) | exact Ne.symm (DL.fresh_ne (by assumption)) | exact DL.fresh_ne (DL.fresh_dn (by assumption)) | exact Ne.symm (DL.fresh_ne (DL.fresh_dn (by assumption))) | exact DL.fresh_ne (DL.fresh_dn (DL.fresh_dn (by assumption))) | exact Ne.symm (DL.fresh_ne (DL.fresh_dn (DL.fresh_dn (by assumption))))))).trans ?_; first | exact DL.mup_same | assumption | (refine (DL.mup_ne (by (first | assumption | exact Ne.symm (by assumption) | exact DL.ne_at (by assumption) (by (first | assumption | exact DL.fresh_up (by assumption) | exact DL.fresh_dn (by assumption) | exact DL.fresh_dn (DL.fresh_dn (by assumption)) | exact DL.fresh_dn (DL.fresh_dn (DL.fresh_dn (by assumption))))) | exact Ne.symm (DL.ne_at (by assumption) (by (first | assumption | exact DL.fresh_up (by assumption) | exact DL.fresh_dn (by assumption) | exact DL.fresh_dn (DL.fresh_dn (by assumption)) | exact DL.fresh_dn (DL.fresh_dn (DL.fresh_dn (by assumption)))))) | exact DL.fresh_ne (by assumption) | exact Ne.symm (DL.fresh_ne (by assumption)) | exact DL.fresh_ne (DL.fresh_dn (by assumption)) | exact Ne.symm (DL.fresh_ne (DL.fresh_dn (by assumption))) | exact DL.fresh_ne (DL.fresh_dn (DL.fresh_dn (by assumption))) | exact Ne.symm (DL.fresh_ne (DL.fresh_dn (DL.fresh_dn (by assumption))))))).trans ?_; first | exact DL.mup_same | assumption))))))) | exact DL.asL_up (by assumption) (by (first | assumption | exact DL.fresh_up (by assumption) | exact DL.fresh_dn (by assumption) | exact DL.fresh_dn (DL.fresh_dn (by assumption)) | exact DL.fresh_dn (DL.fresh_dn (DL.fresh_dn (by assumption))))) | exact DL.asL_up (DL.asL_up (by assumption) (by (first | assumption | exact DL.fresh_up (by assumption) | exact DL.fresh_dn (by assumption) | exact DL.fresh_dn (DL.fresh_dn (by assumption)) | exact DL.fresh_dn (DL.fresh_dn (DL.fresh_dn (by assumption)))))) (by (first | assumption | exact DL.fresh_up (by assumption) | exact DL.fresh_dn (by assumption) | exact DL.fresh_dn (DL.fresh_dn (by assumption)) | exact DL.fresh_dn (DL.fresh_dn (DL.fresh_dn (by assumption))))))) ?_)))) | refine Exists.intro _ (Exists.intro _ (Exists.intro _ (And.intro rfl ?_))) | refine Exists.intro _ (Exists.intro _ (Exists.intro _ (Exists.intro _ (And.intro rfl ?_)))) | (walk_at "call") | walk_at "x")) | (show Or _ _; first | (refine Or.inl (Exists.intro _ (And.intro (by (first | exact DL.mup_same | assumption | (refine (DL.mup_ne (by (first | assumption | exact Ne.symm (by assumption) | exact DL.ne_at (by assumption) (by (first | assumption | exact DL.fresh_up (by assumption) | exact DL.fresh_dn (by assumption) | exact DL.fresh_dn (DL.fresh_dn (by assumption)) | exact DL.fresh_dn (DL.fresh_dn (DL.fresh_dn (by assumption))))) | exact Ne.symm (DL.ne_at (by assumption) (by (first | assumption | exact DL.fresh_up (by assumption) | exact DL.fresh_dn (by assumption) | exact DL.fresh_dn (DL.fresh_dn (by assumption)) | exact DL.fresh_dn (DL.fresh_dn (DL.fresh_dn (by assumption)))))) | exact DL.fresh_ne (by assumption) | exact Ne.symm (DL.fresh_ne (by assumption)) | exact DL.fresh_ne (DL.fresh_dn (by assumption)) | exact Ne.symm (DL.fresh_ne (DL.fresh_dn (by assumption))) | exact DL.fresh_ne (DL.fresh_dn (DL.fresh_dn (by assumption))) | exact Ne.symm (DL.fresh_ne (DL.fresh_dn (DL.fresh_dn (by assumption))))))).trans ?_; first | exact DL.mup_same | assumption | (refine (DL.mup_ne (by (first | assumption | exact Ne.symm (by assumption) | exact DL.ne_at (by assumption) (by (first | assumption | exact DL.fresh_up (by assumption) | exact DL.fresh_dn (by assumption) | exact DL.fresh_dn (DL.fresh_dn (by assumption)) | exact DL.fresh_dn (DL.fresh_dn (DL.fresh_dn (by assumption))))) | exact Ne.symm (DL.ne_at (by assumption) (by (first | assumption | exact DL.fresh_up (by assumption) | exact DL.fresh_dn (by assumption) | exact DL.fresh_dn (DL.fresh_dn (by assumption)) | exact DL.fresh_dn (DL.fresh_dn (DL.fresh_dn (by assumption)))))) | exact DL.fresh_ne (by assumption) | exact Ne.symm (DL.fresh_ne (by assumption)) | exact DL.fresh_ne (DL.fresh_dn (by assumption)) | exact Ne.symm (DL.fresh_ne (DL.fresh_dn (by assumption))) | exact DL.fresh_ne (DL.fresh_dn (DL.fresh_dn (by assumption))) | exact Ne.symm (DL.fresh_ne (DL.fresh_dn (DL.fresh_dn (by assumption))))))).trans ?_; first | exact DL.mup_same | assumption | (refine (DL.mup_ne (by (first | assumption | exact Ne.symm (by assumption) | exact DL.ne_at (by assumption) (by (first | assumption | exact DL.fresh_up (by assumption) | exact DL.fresh_dn (by assumption) | exact DL.fresh_dn (DL.fresh_dn (by assumption)) | exact DL.fresh_dn (DL.fresh_dn (DL.fresh_dn (by assumption))))) | exact Ne.symm (DL.ne_at (by assumption) (by (first | assumption | exact DL.fresh_up (by assumption) | exact DL.fresh_dn (by assumption) | exact DL.fresh_dn (DL.fresh_dn (by assumption)) | exact DL.fresh_dn (DL.fresh_dn (DL.fresh_dn (by assumption)))))) | exact DL.fresh_ne (by assumption) | exact Ne.symm (DL.fresh_ne (by assumption)) | exact DL.fresh_ne (DL.fresh_dn (by assumption)) | exact Ne.symm (DL.fresh_ne (DL.fresh_dn (by assumption))) | exact DL.fresh_ne (DL.fresh_dn (DL.fresh_dn (by assumption))) | exact Ne.symm (DL.fresh_ne (DL.fresh_dn (DL.fresh_dn (by assumption))))))).trans ?_; first | exact DL.mup_same | assumption | (refine (DL.mup_ne (by (first | assumption | exact Ne.symm (by assumption) | exact DL.ne_at (by assumption) (by (first | assumption | exact DL.fresh_up (by assumption) | exact DL.fresh_dn (by assumption) | exact DL.fresh_dn (DL.fresh_dn (by assumption)) | exact DL.fresh_dn (DL.fresh_dn (DL.fresh_dn (by assumption))))) | exact Ne.symm (DL.ne_at (by assumption) (by (first | assumption | exact DL.fresh_up (by assumption) | exact DL.fresh_dn (by assumption) | exact DL.fresh_dn (DL.fresh_dn (by assumption)) | exact DL.fresh_dn (DL.fresh_dn (DL.fresh_dn (by assumption)))))) | exact DL.fresh_ne (by assumption) | exact Ne.symm (DL.fresh_ne (by assumption)) | exact DL.fresh_ne (DL.fresh_dn (by assumption)) | exact Ne.symm (DL.fresh_ne (DL.fresh_dn (by assumption))) | exact DL.fresh_ne (DL.fresh_dn (DL.fresh_dn (by assumption))) | exact Ne.symm (DL.fresh_ne (DL.fresh_dn (DL.fresh_dn (by assumption))))))).trans ?_; first | exact DL.mup_same | assumption | (refine (DL.mup_ne (by (first | assumption | exact Ne.symm (by assumption) | exact DL.ne_at (by assumption) (by (first | assumption | exact DL.fresh_up (by assumption) | exact DL.fresh_dn (by assumption) | exact DL.fresh_dn (DL.fresh_dn (by assumption)) | exact DL.fresh_dn (DL.fresh_dn (DL.fresh_dn (by assumption))))) | exact Ne.symm (DL.ne_at (by assumption) (by (first | assumption | exact DL.fresh_up (by assumption) | exact DL.fresh_dn (by assumption) | exact DL.fresh_dn (DL.fresh_dn (by assumption)) | exact DL.fresh_dn (DL.fresh_dn (DL.fresh_dn (by assumption)))))) | exact DL.fresh_ne (by assumption) | exact Ne.symm (DL.fresh_ne (by assumption)) | exact DL.fresh_ne (DL.fresh_dn (by assumption)) | exact Ne.symm (DL.fresh_ne (DL.fresh_dn (by assumption))) | exact DL.fresh_ne (DL.fresh_dn (DL.fresh_dn (by assumption))) | exact Ne.symm (DL.fresh_ne (DL.fresh_dn (DL.fresh_dn (by assumption))))))).trans ?_; first | exact DL.mup_same | assumption))))))) ?_)); (try rw [DL.mup_mup]); first | rw [DL.mdel_mup (by (first | assumption | exact DL.fresh_up (by assumption) | exact DL.fresh_dn (by assumption) | exact DL.fresh_dn (DL.fresh_dn (by assumption)) | exact DL.fresh_dn (DL.fresh_dn (DL.fresh_dn (by assumption)))))] | rw [DL.mdel_mup_ne (by (first | assumption | exact Ne.symm (by assumption) | exact DL.ne_at (by assumption) (by (first | assumption | exact DL.fresh_up (by assumption) | exact DL.fresh_dn (by assumption) | exact DL.fresh_dn (DL.fresh_dn (by assumption)) | exact DL.fresh_dn (DL.fresh_dn (DL.fresh_dn (by assumption))))) | exact Ne.symm (DL.ne_at (by assumption) (by (first | assumption | exact DL.fresh_up (by assumption) | exact DL.fresh_dn (by assumption) | exact DL.fresh_dn (DL.fresh_dn (by assumption)) | exact DL.fresh_dn (DL.fresh_dn (DL.fresh_dn (by assumption)))))) | exact DL.fresh_ne (by assumption) | exact Ne.symm (DL.fresh_ne (by assumption)) | exact DL.fresh_ne (DL.fresh_dn (by assumption)) | exact Ne.symm (DL.fresh_ne (DL.fresh_dn (by assumption))) | exact DL.fresh_ne (DL.fresh_dn (DL.fresh_dn (by assumption))) | exact Ne.symm (DL.fresh_ne (DL.fresh_dn (DL.fresh_dn (by assumption)))))), DL.mdel_mup (by (first | assumption | exact DL.fresh_up (by assumption) | exact DL.fresh_dn (by assumption) | exact DL.fresh_dn (DL.fresh_dn (by assumption)) | exact DL.fresh_dn (DL.fresh_dn (DL.fresh_dn (by assumption)))))] | rw [DL.mdel_mup_ne (by (first | assumption | exact Ne.symm (by assumption) | exact DL.ne_at (by assumption) (by (first | assumption | exact DL.fresh_up (by assumption) | exact DL.fresh_dn (by assumption) | exact DL.fresh_dn (DL.fresh_dn (by assumption)) | exact DL.fresh_dn (DL.fresh_dn (DL.fresh_dn (by assumption))))) | exact Ne.symm (DL.ne_at (by assumption) (by (first | assumption | exact DL.fresh_up (by assumption) | exact DL.fresh_dn (by assumption) | exact DL.fresh_dn (DL.fresh_dn (by assumption)) | exact DL.fresh_dn (DL.fresh_dn (DL.fresh_dn (by assumption)))))) | exact DL.fresh_ne (by assumption) | exact Ne.symm (DL.fresh_ne (by assumption)) | exact DL.fresh_ne (DL.fresh_dn (by assumption)) | exact Ne.symm (DL.fresh_ne (DL.fresh_dn (by assumption))) | exact DL.fresh_ne (DL.fresh_dn (DL.fresh_dn (by assumption))) | exact Ne.symm (DL.fresh_ne (DL.fresh_dn (DL.fresh_dn (by assumption)))))), DL.mdel_mup_ne (by (first | assumption | exact Ne.symm (by assumption) | exact DL.ne_at (by assumption) (by (first | assumption | exact DL.fresh_up (by assumption) | exact DL.fresh_dn (by assumption) | exact DL.fresh_dn (DL.fresh_dn (by assumption)) | exact DL.fresh_dn (DL.fresh_dn (DL.fresh_dn (by assumption))))) | exact Ne.symm (DL.ne_at (by assumption) (by (first | assumption | exact DL.fresh_up (by assumption) | exact DL.fresh_dn (by assumption) | exact DL.fresh_dn (DL.fresh_dn (by assumption)) | exact DL.fresh_dn (DL.fresh_dn (DL.fresh_dn (by assumption)))))) | exact DL.fresh_ne (by assumption) | exact Ne.symm (DL.fresh_ne (by assumption)) | exact DL.fresh_ne (DL.fresh_dn (by assumption)) | exact Ne.symm (DL.fresh_ne (DL.fresh_dn (by assumption))) | exact DL.fresh_ne (DL.fresh_dn (DL.fresh_dn (by assumption))) | exact Ne.symm (DL.fresh_ne (DL.fresh_dn (DL.fresh_dn (by assumption)))))), DL.mdel_mup (by (first | assumption | exact DL.fresh_up (by assumption) | exact DL.fresh_dn (by assumption) | exact DL.fresh_dn (DL.fresh_dn (by assumption)) | exact DL.fresh_dn (DL.fresh_dn (DL.fresh_dn (by assumption)))))] | skip) | (refine Or.inr (Exists.intro _ (Exists.intro _ (Exists.intro _ (And.intro (by (first | exact DL.mup_same | assumption | (refine (DL.mup_ne (by (first | assumption | exact Ne.symm (by assumption) | exact DL.ne_at (by assumption) (by (first | assumption | exact DL.fresh_up (by assumption) | exact DL.fresh_dn (by assumption) | exact DL.fresh_dn (DL.fresh_dn (by assumption)) | exact DL.fresh_dn (DL.fresh_dn (DL.fresh_dn (by assumption))))) | exact Ne.symm (DL.ne_at (by assumption) (by (first | assumption | exact DL.fresh_up (by assumption) | exact DL.fresh_dn (by assumption) | exact DL.fresh_dn (DL.fresh_dn (by assumption)) | exact DL.fresh_dn (DL.fresh_dn (DL.fresh_dn (by assumption)))))) | exact DL.fresh_ne (by assumption) | exact Ne.symm (DL.fresh_ne (by assumption)) | exact DL.fresh_ne (DL.fresh_dn (by assumption)) | exact Ne.symm (DL.fresh_ne (DL.fresh_dn (by assumption))) | exact DL.fresh_ne (DL.fresh_dn (DL.fresh_dn (by assumption))) | exact Ne.symm (DL.fresh_ne (DL.fresh_dn (DL.fresh_dn (by assumption))))))).trans ?_; first | exact DL.mup_same | assumption | (refine (DL.mup_ne (by (first | assumption | exact Ne.symm (by assumption) | exact DL.ne_at (by assumption) (by (first | assumption | exact DL.fresh_up (by assumption) | exact DL.fresh_dn (by assumption) | exact DL.fresh_dn (DL.fresh_dn (by assumption)) | exact DL.fresh_dn (DL.fresh_dn (DL.fresh_dn (by assumption))))) | exact Ne.symm (DL.ne_at (by assumption) (by (first | assumption | exact DL.fresh_up (by assumption) | exact DL.fresh_dn (by assumption) | exact DL.fresh_dn (DL.fresh_dn (by assumption)) | exact DL.fresh_dn (DL.fresh_dn (DL.fresh_dn (by assumption)))))) | exact DL.fresh_ne (by assumption) | exact Ne.symm (DL.fresh_ne (by assumption)) | exact DL.fresh_ne (DL.fresh_dn (by assumption)) | exact Ne.symm (DL.fresh_ne (DL.fresh_dn (by assumption))) | exact DL.fresh_ne (DL.fresh_dn (DL.fresh_dn (by assumption))) | exact Ne.symm (DL.fresh_ne (DL.fresh_dn (DL.fresh_dn (by assumption))))))).trans ?_; first | exact DL.mup_same | assumption | (refine (DL.mup_ne (by (first | assumption | exact Ne.symm (by assumption) | exact DL.ne_at (by assumption) (by (first | assumption | exact DL.fresh_up (by assumption) | exact DL.fresh_dn (by assumption) | exact DL.fresh_dn (DL.fresh_dn (by assumption)) | exact DL.fresh_dn (DL.fresh_dn (DL.fresh_dn (by assumption))))) | exact Ne.symm (DL.ne_at (by assumption) (by (first | assumption | exact DL.fresh_up (by assumption) | exact DL.fresh_dn (by assumption) | exact DL.fresh_dn (DL.fresh_dn (by assumption)) | exact DL.fresh_dn (DL.fresh_dn (DL.fresh_dn (by assumption)))))) | exact DL.fresh_ne (by assumption) | exact Ne.symm (DL.fresh_ne (by assumption)) | exact DL.fresh_ne (DL.fresh_dn (by assumption)) | exact Ne.symm (DL.fresh_ne (DL.fresh_dn (by assumption))) | exact DL.fresh_ne (DL.fresh_dn (DL.fresh_dn (by assumption))) | exact Ne.symm (DL.fresh_ne (DL.fresh_dn (DL.fresh_dn (by assumption))))))).trans ?_; first | exact DL.mup_same | assumption | (refine (DL.mup_ne (by (first | assumption | exact Ne.symm (by assumption) | exact DL.ne_at (by assumption) (by (first | assumption | exact DL.fresh_up (by assumption) | exact DL.fresh_dn (by assumption) | exact DL.fresh_dn (DL.fresh_dn (by assumption)) | exact DL.fresh_dn (DL.fresh_dn (DL.fresh_dn (by assumption))))) | exact Ne.symm (DL.ne_at (by assumption) (by (first | assumption | exact DL.fresh_up (by assumption) | exact DL.fresh_dn (by assumption) | exact DL.fresh_dn (DL.fresh_dn (by assumption)) | exact DL.fresh_dn (DL.fresh_dn (DL.fresh_dn (by assumption)))))) | exact DL.fresh_ne (by assumption) | exact Ne.symm (DL.fresh_ne (by assumption)) | exact DL.fresh_ne (DL.fresh_dn (by assumption)) | exact Ne.symm (DL.fresh_ne (DL.fresh_dn (by assumption))) | exact DL.fresh_ne (DL.fresh_dn (DL.fresh_dn (by assumption))) | exact Ne.symm (DL.fresh_ne (DL.fresh_dn (DL.fresh_dn (by assumption))))))).trans ?_; first | exact DL.mup_same | assumption | (refine (DL.mup_ne (by (first | assumption | exact Ne.symm (by assumption) | exact DL.ne_at (by assumption) (by (first | assumption | exact DL.fresh_up (by assumption) | exact DL.fresh_dn (by assumption) | exact DL.fresh_dn (DL.fresh_dn (by assumption)) | exact DL.fresh_dn (DL.fresh_dn (DL.fresh_dn (by assumption))))) | exact Ne.symm (DL.ne_at (by assumption) (by (first | assumption | exact DL.fresh_up (by assumption) | exact DL.fresh_dn (by assumption) | exact DL.fresh_dn (DL.fresh_dn (by assumption)) | exact DL.fresh_dn (DL.fresh_dn (DL.fresh_dn (by assumption)))))) | exact DL.fresh_ne (by assumption) | exact Ne.symm (DL.fresh_ne (by assumption)) | exact DL.fresh_ne (DL.fresh_dn (by assumption)) | exact Ne.symm (DL.fresh_ne (DL.fresh_dn (by assumption))) | exact DL.fresh_ne (DL.fresh_dn (DL.fresh_dn (by assumption))) | exact Ne.symm (DL.fresh_ne (DL.fresh_dn (DL.fresh_dn (by assumption))))))).trans ?_; first | exact DL.mup_same | assumption))))))) ?_)))); (try rw [DL.mup_mup]); first | rw [DL.mdel_mup (by (first | assumption | exact DL.fresh_up (by assumption) | exact DL.fresh_dn (by assumption) | exact DL.fresh_dn (DL.fresh_dn (by assumption)) | exact DL.fresh_dn (DL.fresh_dn (DL.fresh_dn (by assumption)))))] | rw [DL.mdel_mup_ne (by (first | assumption | exact Ne.symm (by assumption) | exact DL.ne_at (by assumption) (by (first | assumption | exact DL.fresh_up (by assumption) | exact DL.fresh_dn (by assumption) | exact DL.fresh_dn (DL.fresh_dn (by assumption)) | exact DL.fresh_dn (DL.fresh_dn (DL.fresh_dn (by assumption))))) | exact Ne.symm (DL.ne_at (by assumption) (by (first | assumption | exact DL.fresh_up (by assumption) | exact DL.fresh_dn (by assumption) | exact DL.fresh_dn (DL.fresh_dn (by assumption)) | exact DL.fresh_dn (DL.fresh_dn (DL.fresh_dn (by assumption)))))) | exact DL.fresh_ne (by assumption) | exact Ne.symm (DL.fresh_ne (by assumption)) | exact DL.fresh_ne (DL.fresh_dn (by assumption)) | exact Ne.symm (DL.fresh_ne (DL.fresh_dn (by assumption))) | exact DL.fresh_ne (DL.fresh_dn (DL.fresh_dn (by assumption))) | exact Ne.symm (DL.fresh_ne (DL.fresh_dn (DL.fresh_dn (by assumption)))))), DL.mdel_mup (by (first | assumption | exact DL.fresh_up (by assumption) | exact DL.fresh_dn (by assumption) | exact DL.fresh_dn (DL.fresh_dn (by assumption)) | exact DL.fresh_dn (DL.fresh_dn (DL.fresh_dn (by assumption)))))] | rw [DL.mdel_mup_ne (by (first | assumption | exact Ne.symm (by assumption) | exact DL.ne_at (by assumption) (by (first | assumption | exact DL.fresh_up (by assumption) | exact DL.fresh_dn (by assumption) | exact DL.fresh_dn (DL.fresh_dn (by assumption)) | exact DL.fresh_dn (DL.fresh_dn (DL.fresh_dn (by assumption))))) | exact Ne.symm (DL.ne_at (by assumption) (by (first | assumption | exact DL.fresh_up (by assumption) | exact DL.fresh_dn (by assumption) | exact DL.fresh_dn (DL.fresh_dn (by assumption)) | exact DL.fresh_dn (DL.fresh_dn (DL.fresh_dn (by assumption)))))) | exact DL.fresh_ne (by assumption) | exact Ne.symm (DL.fresh_ne (by assumption)) | exact DL.fresh_ne (DL.fresh_dn (by assumption)) | exact Ne.symm (DL.fresh_ne (DL.fresh_dn (by assumption))) | exact DL.fresh_ne (DL.fresh_dn (DL.fresh_dn (by assumption))) | exact Ne.symm (DL.fresh_ne (DL.fresh_dn (DL.fresh_dn (by assumption)))))), DL.mdel_mup_ne (by (first | assumption | exact Ne.symm (by assumption) | exact DL.ne_at (by assumption) (by (first | assumption | exact DL.fresh_up (by assumption) | exact DL.fresh_dn (by assumption) | exact DL.fresh_dn (DL.fresh_dn (by assumption)) | exact DL.fresh_dn (DL.fresh_dn (DL.fresh_dn (by assumption))))) | exact Ne.symm (DL.ne_at (by assumption) (by (first | assumption | exact DL.fresh_up (by assumption) | exact DL.fresh_dn (by assumption) | exact DL.fresh_dn (DL.fresh_dn (by assumption)) | exact DL.fresh_dn (DL.fresh_dn (DL.fresh_dn (by assumption)))))) | exact DL.fresh_ne (by assumption) | exact Ne.symm (DL.fresh_ne (by assumption)) | exact DL.fresh_ne (DL.fresh_dn (by assumption)) | exact Ne.symm (DL.fresh_ne (DL.fresh_dn (by assumption))) | exact DL.fresh_ne (DL.fresh_dn (DL.fresh_dn (by assumption))) | exact Ne.symm (DL.fresh_ne (DL.fresh_dn (DL.fresh_dn (by assumption)))))), DL.mdel_mup (by (first | assumption | exact DL.fresh_up (by assumption) | exact DL.fresh_dn (by assumption) | exact DL.fresh_dn (DL.fresh_dn (by assumption)) | exact DL.fresh_dn (DL.fresh_dn (DL.fresh_dn (by assumption)))))] | skip) | walk_at "x") | (show DL.IxG _ _ _ _; first | refine DL.IxG.tup rfl rfl (by (first | exact DL.atI0 | exact rfl | assumption | exact DL.atI_ints (by (first | omega | (simp only [List.length_map, List.length_range, List.length_cons, List.length_nil, List.length_append]; omega))) | walk_at "I")) ?_ | refine DL.IxG.lst rfl (by (first | exact rfl | assumption | exact DL.asL_same | exact DL.asL_adr (by (first | exact DL.mup_same | assumption | (refine (DL.mup_ne (by (first | assumption | exact Ne.symm (by assumption) | exact DL.ne_at (by assumption) (by (first | assumption | exact DL.fresh_up (by assumption) | exact DL.fresh_dn (by assumption) | exact DL.fresh_dn (DL.fresh_dn (by assumption)) | exact DL.fresh_dn (DL.fresh_dn (DL.fresh_dn (by assumption))))) | exact Ne.symm (DL.ne_at (by assumption) (by (first | assumption | exact DL.fresh_up (by assumption) | exact DL.fresh_dn (by assumption) | exact DL.fresh_dn (DL.fresh_dn (by assumption)) | exact DL.fresh_dn (DL.fresh_dn (DL.fresh_dn (by assumption)))))) | exact DL.fresh_ne (by assumption) | exact Ne.symm (DL.fresh_ne (by assumption)) | exact DL.fresh_ne (DL.fresh_dn (by assumption)) | exact Ne.symm (DL.fresh_ne (DL.fresh_dn (by assumption))) | exact DL.fresh_ne (DL.fresh_dn (DL.fresh_dn (by assumption))) | exact Ne.symm (DL.fresh_ne (DL.fresh_dn (DL.fresh_dn (by assumption))))))).trans ?_; first | exact DL.mup_same | assumption | (refine (DL.mup_ne (by (first | assumption | exact Ne.symm (by assumption) | exact DL.ne_at (by assumption) (by (first | assumption | exact DL.fresh_up (by assumption) | exact DL.fresh_dn (by assumption) | exact DL.fresh_dn (DL.fresh_dn (by assumption)) | exact DL.fresh_dn (DL.fresh_dn (DL.fresh_dn (by assumption))))) | exact Ne.symm (DL.ne_at (by assumption) (by (first | assumption | exact DL.fresh_up (by assumption) | exact DL.fresh_dn (by assumption) | exact DL.fresh_dn (DL.fresh_dn (by assumption)) | exact DL.fresh_dn (DL.fresh_dn (DL.fresh_dn (by assumption)))))) | exact DL.fresh_ne (by assumption) | exact Ne.symm (DL.fresh_ne (by assumption)) | exact DL.fresh_ne (DL.fresh_dn (by assumption)) | exact Ne.symm (DL.fresh_ne (DL.fresh_dn (by assumption))) | exact DL.fresh_ne (DL.fresh_dn (DL.fresh_dn (by assumption))) | exact Ne.symm (DL.fresh_ne (DL.fresh_dn (DL.fresh_dn (by assumption))))))).trans ?_; first | exact DL.mup_same | assumption | (refine (DL.mup_ne (by (first | assumption | exact Ne.symm (by assumption) | exact DL.ne_at (by assumption) (by (first | assumption | exact DL.fresh_up (by assumption) | exact DL.fresh_dn (by assumption) | exact DL.fresh_dn (DL.fresh_dn (by assumption)) | exact DL.fresh_dn (DL.fresh_dn (DL.fresh_dn (by assumption))))) | exact Ne.symm (DL.ne_at (by assumption) (by (first | assumption | exact DL.fresh_up (by assumption) | exact DL.fresh_dn (by assumption) | exact DL.fresh_dn (DL.fresh_dn (by assumption)) | exact DL.fresh_dn (DL.fresh_dn (DL.fresh_dn (by assumption)))))) | exact DL.fresh_ne (by assumption) | exact Ne.symm (DL.fresh_ne (by assumption)) | exact DL.fresh_ne (DL.fresh_dn (by assumption)) | exact Ne.symm (DL.fresh_ne (DL.fresh_dn (by assumption))) | exact DL.fresh_ne (DL.fresh_dn (DL.fresh_dn (by assumption))) | exact Ne.symm (DL.fresh_ne (DL.fresh_dn (DL.fresh_dn (by assumption))))))).trans ?_; first | exact DL.mup_same | assumption | (refine (DL.mup_ne (by (first | assumption | exact Ne.symm (by assumption) | exact DL.ne_at (by assumption) (by (first | assumption | exact DL.fresh_up (by assumption) | exact DL.fresh_dn (by assumption) | exact DL.fresh_dn (DL.fresh_dn (by assumption)) | exact DL.fresh_dn (DL.fresh_dn (DL.fresh_dn (by assumption))))) | exact Ne.symm (DL.ne_at (by assumption) (by (first | assumption | exact DL.fresh_up (by assumption) | exact DL.fresh_dn (by assumption) | exact DL.fresh_dn (DL.fresh_dn (by assumption)) | exact DL.fresh_dn (DL.fresh_dn (DL.fresh_dn (by assumption)))))) | exact DL.fresh_ne (by assumption) | exact Ne.symm (DL.fresh_ne (by assumption)) | exact DL.fresh_ne (DL.fresh_dn (by assumption)) | exact Ne.symm (DL.fresh_ne (DL.fresh_dn (by assumption))) | exact DL.fresh_ne (DL.fresh_dn (DL.fresh_dn (by assumption))) | exact Ne.symm (DL.fresh_ne (DL.fresh_dn (DL.fresh_dn (by assumption))))))).trans ?_; first | exact DL.mup_same | assumption | (refine (DL.mup_ne (by (first | assumption | exact Ne.symm (by assumption) | exact DL.ne_at (by assumption) (by (first | assumption | exact DL.fresh_up (by assumption) | exact DL.fresh_dn (by assumption) | exact DL.fresh_dn (DL.fresh_dn (by assumption)) | exact DL.fresh_dn (DL.fresh_dn (DL.fresh_dn (by assumption))))) | exact Ne.symm (DL.ne_at (by assumption) (by (first | assumption | exact DL.fresh_up (by assumption) | exact DL.fresh_dn (by assumption) | exact DL.fresh_dn (DL.fresh_dn (by assumption)) | exact DL.fresh_dn (DL.fresh_dn (DL.fresh_dn (by assumption)))))) | exact DL.fresh_ne (by assumption) | exact Ne.symm (DL.fresh_ne (by assumption)) | exact DL.fresh_ne (DL.fresh_dn (by assumption)) | exact Ne.symm (DL.fresh_ne (DL.fresh_dn (by assumption))) | exact DL.fresh_ne (DL.fresh_dn (DL.fresh_dn (by assumption))) | exact Ne.symm (DL.fresh_ne (DL.fresh_dn (DL.fresh_dn (by assumption))))))).trans ?_; first | exact DL.mup_same | assumption))))))) | exact DL.asL_up (by assumption) (by (first | assumption | exact DL.fresh_up (by assumption) | exact DL.fresh_dn (by assumption) | exact DL.fresh_dn (DL.fresh_dn (by assumption)) | exact DL.fresh_dn (DL.fresh_dn (DL.fresh_dn (by assumption))))) | exact DL.asL_up (DL.asL_up (by assumption) (by (first | assumption | exact DL.fresh_up (by assumption) | exact DL.fresh_dn (by assumption) | exact DL.fresh_dn (DL.fresh_dn (by assumption)) | exact DL.fresh_dn (DL.fresh_dn (DL.fresh_dn (by assumption)))))) (by (first | assumption | exact DL.fresh_up (by assumption) | exact DL.fresh_dn (by assumption) | exact DL.fresh_dn (DL.fresh_dn (by assumption)) | exact DL.fresh_dn (DL.fresh_dn (DL.fresh_dn (by assumption))))))) (by (first | exact DL.atI0 | exact rfl | assumption | exact DL.atI_ints (by (first | omega | (simp only [List.length_map, List.length_range, List.length_cons, List.length_nil, List.length_append]; omega))) | walk_at "I")) ?_ | refine DL.IxG.str rfl rfl (by first | exact DL.sz (Nat.le_of_ble_eq_true rfl) | (refine DL.sz ?_; first | omega | (simp only [PySem.Str.length_append]; omega) | (simp only [List.length_map, List.length_append, List.length_range, List.length_cons, List.length_nil]; omega) | (simp; done) | (simp; omega)) | assumption | exact Nat.le_trans (List.length_filter_le ..) (by omega) | first | omega | (simp only [PySem.Str.length_append]; omega) | (simp only [List.length_map, List.length_append, List.length_range, List.length_cons, List.length_nil]; omega) | (simp; done) | (simp; omega)) (by (first | exact DL.atI0 | exact rfl | assumption | exact DL.atI_ints (by (first | omega | (simp only [List.length_map, List.length_range, List.length_cons, List.length_nil, List.length_append]; omega))) | walk_at "I")) ?_ | walk_at "x") | (show DL.EqG _ _ _ _ _; first | refine DL.EqG.sc (by (first | exact rfl | exact Toy.dsc_ob _ _ | exact Toy.dsc_oi _ _ | exact Toy.dsc_ob (some _) _ | exact Toy.dsc_ob _ (some _) | exact Toy.dsc_oi (some _) _ | exact Toy.dsc_oi _ (some _) | walk_at "E")) ?_ | refine DL.EqG.dt (by (first | exact DL.view_lst | exact DL.view_adr (by (first | exact DL.mup_same | assumption | (refine (DL.mup_ne (by (first | assumption | exact Ne.symm (by assumption) | exact DL.ne_at (by assumption) (by (first | assumption | exact DL.fresh_up (by assumption) | exact DL.fresh_dn (by assumption) | exact DL.fresh_dn (DL.fresh_dn (by assumption)) | exact DL.fresh_dn (DL.fresh_dn (DL.fresh_dn (by assumption))))) | exact Ne.symm (DL.ne_at (by assumption) (by (first | assumption | exact DL.fresh_up (by assumption) | exact DL.fresh_dn (by assumption) | exact DL.fresh_dn (DL.fresh_dn (by assumption)) | exact DL.fresh_dn (DL.fresh_dn (DL.fresh_dn (by assumption)))))) | exact DL.fresh_ne (by assumption) | exact Ne.symm (DL.fresh_ne (by assumption)) | exact DL.fresh_ne (DL.fresh_dn (by assumption)) | exact Ne.symm (DL.fresh_ne (DL.fresh_dn (by assumption))) | exact DL.fresh_ne (DL.fresh_dn (DL.fresh_dn (by assumption))) | exact Ne.symm (DL.fresh_ne (DL.fresh_dn (DL.fresh_dn (by assumption))))))).trans ?_; first | exact DL.mup_same | assumption | (refine (DL.mup_ne (by (first | assumption | exact Ne.symm (by assumption) | exact DL.ne_at (by assumption) (by (first | assumption | exact DL.fresh_up (by assumption) | exact DL.fresh_dn (by assumption) | exact DL.fresh_dn (DL.fresh_dn (by assumption)) | exact DL.fresh_dn (DL.fresh_dn (DL.fresh_dn (by assumption))))) | exact Ne.symm (DL.ne_at (by assumption) (by (first | assumption | exact DL.fresh_up (by assumption) | exact DL.fresh_dn (by assumption) | exact DL.fresh_dn (DL.fresh_dn (by assumption)) | exact DL.fresh_dn (DL.fresh_dn (DL.fresh_dn (by assumption)))))) | exact DL.fresh_ne (by assumption) | exact Ne.symm (DL.fresh_ne (by assumption)) | exact DL.fresh_ne (DL.fresh_dn (by assumption)) | exact Ne.symm (DL.fresh_ne (DL.fresh_dn (by assumption))) | exact DL.fresh_ne (DL.fresh_dn (DL.fresh_dn (by assumption))) | exact Ne.symm (DL.fresh_ne (DL.fresh_dn (DL.fresh_dn (by assumption))))))).trans ?_; first | exact DL.mup_same | assumption | (refine (DL.mup_ne (by (first | assumption | exact Ne.symm (by assumption) | exact DL.ne_at (by assumption) (by (first | assumption | exact DL.fresh_up (by assumption) | exact DL.fresh_dn (by assumption) | exact DL.fresh_dn (DL.fresh_dn (by assumption)) | exact DL.fresh_dn (DL.fresh_dn (DL.fresh_dn (by assumption))))) | exact Ne.symm (DL.ne_at (by assumption) (by (first | assumption | exact DL.fresh_up (by assumption) | exact DL.fresh_dn (by assumption) | exact DL.fresh_dn (DL.fresh_dn (by assumption)) | exact DL.fresh_dn (DL.fresh_dn (DL.fresh_dn (by assumption)))))) | exact DL.fresh_ne (by assumption) | exact Ne.symm (DL.fresh_ne (by assumption)) | exact DL.fresh_ne (DL.fresh_dn (by assumption)) | exact Ne.symm (DL.fresh_ne (DL.fresh_dn (by assumption))) | exact DL.fresh_ne (DL.fresh_dn (DL.fresh_dn (by assumption))) | exact Ne.symm (DL.fresh_ne (DL.fresh_dn (DL.fresh_dn (by assumption))))))).trans ?_; first | exact DL.mup_same | assumption | (refine (DL.mup_ne (by (first | assumption | exact Ne.symm (by assumption) | exact DL.ne_at (by assumption) (by (first | assumption | exact DL.fresh_up (by assumption) | exact DL.fresh_dn (by assumption) | exact DL.fresh_dn (DL.fresh_dn (by assumption)) | exact DL.fresh_dn (DL.fresh_dn (DL.fresh_dn (by assumption))))) | exact Ne.symm (DL.ne_at (by assumption) (by (first | assumption | exact DL.fresh_up (by assumption) | exact DL.fresh_dn (by assumption) | exact DL.fresh_dn (DL.fresh_dn (by assumption)) | exact DL.fresh_dn (DL.fresh_dn (DL.fresh_dn (by assumption)))))) | exact DL.fresh_ne (by assumption) | exact Ne.symm (DL.fresh_ne (by assumption)) | exact DL.fresh_ne (DL.fresh_dn (by assumption)) | exact Ne.symm (DL.fresh_ne (DL.fresh_dn (by assumption))) | exact DL.fresh_ne (DL.fresh_dn (DL.fresh_dn (by assumption))) | exact Ne.symm (DL.fresh_ne (DL.fresh_dn (DL.fresh_dn (by assumption))))))).trans ?_; first | exact DL.mup_same | assumption | (refine (DL.mup_ne (by (first | assumption | exact Ne.symm (by assumption) | exact DL.ne_at (by assumption) (by (first | assumption | exact DL.fresh_up (by assumption) | exact DL.fresh_dn (by assumption) | exact DL.fresh_dn (DL.fresh_dn (by assumption)) | exact DL.fresh_dn (DL.fresh_dn (DL.fresh_dn (by assumption))))) | exact Ne.symm (DL.ne_at (by assumption) (by (first | assumption | exact DL.fresh_up (by assumption) | exact DL.fresh_dn (by assumption) | exact DL.fresh_dn (DL.fresh_dn (by assumption)) | exact DL.fresh_dn (DL.fresh_dn (DL.fresh_dn (by assumption)))))) | exact DL.fresh_ne (by assumption) | exact Ne.symm (DL.fresh_ne (by assumption)) | exact DL.fresh_ne (DL.fresh_dn (by assumption)) | exact Ne.symm (DL.fresh_ne (DL.fresh_dn (by assumption))) | exact DL.fresh_ne (DL.fresh_dn (DL.fresh_dn (by assumption))) | exact Ne.symm (DL.fresh_ne (DL.fresh_dn (DL.fresh_dn (by assumption))))))).trans ?_; first | exact DL.mup_same | assumption))))))) | exact DL.view_fz | exact DL.view_tup | exact rfl)) (by (first | exact DL.view_lst | exact DL.view_adr (by (first | exact DL.mup_same | assumption | (refine (DL.mup_ne (by (first | assumption | exact Ne.symm (by assumption) | exact DL.ne_at (by assumption) (by (first | assumption | exact DL.fresh_up (by assumption) | exact DL.fresh_dn (by assumption) | exact DL.fresh_dn (DL.fresh_dn (by assumption)) | exact DL.fresh_dn (DL.fresh_dn (DL.fresh_dn (by assumption))))) | exact Ne.symm (DL.ne_at (by assumption) (by (first | assumption | exact DL.fresh_up (by assumption) | exact DL.fresh_dn (by assumption) | exact DL.fresh_dn (DL.fresh_dn (by assumption)) | exact DL.fresh_dn (DL.fresh_dn (DL.fresh_dn (by assumption)))))) | exact DL.fresh_ne (by assumption) | exact Ne.symm (DL.fresh_ne (by assumption)) | exact DL.fresh_ne (DL.fresh_dn (by assumption)) | exact Ne.symm (DL.fresh_ne (DL.fresh_dn (by assumption))) | exact DL.fresh_ne (DL.fresh_dn (DL.fresh_dn (by assumption))) | exact Ne.symm (DL.fresh_ne (DL.fresh_dn (DL.fresh_dn (by assumption))))))).trans ?_; first | exact DL.mup_same | assumption | (refine (DL.mup_ne (by (first | assumption | exact Ne.symm (by assumption) | exact DL.ne_at (by assumption) (by (first | assumption | exact DL.fresh_up (by assumption) | exact DL.fresh_dn (by assumption) | exact DL.fresh_dn (DL.fresh_dn (by assumption)) | exact DL.fresh_dn (DL.fresh_dn (DL.fresh_dn (by assumption))))) | exact Ne.symm (DL.ne_at (by assumption) (by (first | assumption | exact DL.fresh_up (by assumption) | exact DL.fresh_dn (by assumption) | exact DL.fresh_dn (DL.fresh_dn (by assumption)) | exact DL.fresh_dn (DL.fresh_dn (DL.fresh_dn (by assumption)))))) | exact DL.fresh_ne (by assumption) | exact Ne.symm (DL.fresh_ne (by assumption)) | exact DL.fresh_ne (DL.fresh_dn (by assumption)) | exact Ne.symm (DL.fresh_ne (DL.fresh_dn (by assumption))) | exact DL.fresh_ne (DL.fresh_dn (DL.fresh_dn (by assumption))) | exact Ne.symm (DL.fresh_ne (DL.fresh_dn (DL.fresh_dn (by assumption))))))).trans ?_; first | exact DL.mup_same | assumption | (refine (DL.mup_ne (by (first | assumption | exact Ne.symm (by assumption) | exact DL.ne_at (by assumption) (by (first | assumption | exact DL.fresh_up (by assumption) | exact DL.fresh_dn (by assumption) | exact DL.fresh_dn (DL.fresh_dn (by assumption)) | exact DL.fresh_dn (DL.fresh_dn (DL.fresh_dn (by assumption))))) | exact Ne.symm (DL.ne_at (by assumption) (by (first | assumption | exact DL.fresh_up (by assumption) | exact DL.fresh_dn (by assumption) | exact DL.fresh_dn (DL.fresh_dn (by assumption)) | exact DL.fresh_dn (DL.fresh_dn (DL.fresh_dn (by assumption)))))) | exact DL.fresh_ne (by assumption) | exact Ne.symm (DL.fresh_ne (by assumption)) | exact DL.fresh_ne (DL.fresh_dn (by assumption)) | exact Ne.symm (DL.fresh_ne (DL.fresh_dn (by assumption))) | exact DL.fresh_ne (DL.fresh_dn (DL.fresh_dn (by assumption))) | exact Ne.symm (DL.fresh_ne (DL.fresh_dn (DL.fresh_dn (by assumption))))))).trans ?_; first | exact DL.mup_same | assumption | (refine (DL.mup_ne (by (first | assumption | exact Ne.symm (by assumption) | exact DL.ne_at (by assumption) (by (first | assumption | exact DL.fresh_up (by assumption) | exact DL.fresh_dn (by assumption) | exact DL.fresh_dn (DL.fresh_dn (by assumption)) | exact DL.fresh_dn (DL.fresh_dn (DL.fresh_dn (by assumption))))) | exact Ne.symm (DL.ne_at (by assumption) (by (first | assumption | exact DL.fresh_up (by assumption) | exact DL.fresh_dn (by assumption) | exact DL.fresh_dn (DL.fresh_dn (by assumption)) | exact DL.fresh_dn (DL.fresh_dn (DL.fresh_dn (by assumption)))))) | exact DL.fresh_ne (by assumption) | exact Ne.symm (DL.fresh_ne (by assumption)) | exact DL.fresh_ne (DL.fresh_dn (by assumption)) | exact Ne.symm (DL.fresh_ne (DL.fresh_dn (by assumption))) | exact DL.fresh_ne (DL.fresh_dn (DL.fresh_dn (by assumption))) | exact Ne.symm (DL.fresh_ne (DL.fresh_dn (DL.fresh_dn (by assumption))))))).trans ?_; first | exact DL.mup_same | assumption | (refine (DL.mup_ne (by (first | assumption | exact Ne.symm (by assumption) | exact DL.ne_at (by assumption) (by (first | assumption | exact DL.fresh_up (by assumption) | exact DL.fresh_dn (by assumption) | exact DL.fresh_dn (DL.fresh_dn (by assumption)) | exact DL.fresh_dn (DL.fresh_dn (DL.fresh_dn (by assumption))))) | exact Ne.symm (DL.ne_at (by assumption) (by (first | assumption | exact DL.fresh_up (by assumption) | exact DL.fresh_dn (by assumption) | exact DL.fresh_dn (DL.fresh_dn (by assumption)) | exact DL.fresh_dn (DL.fresh_dn (DL.fresh_dn (by assumption)))))) | exact DL.fresh_ne (by assumption) | exact Ne.symm (DL.fresh_ne (by assumption)) | exact DL.fresh_ne (DL.fresh_dn (by assumption)) | exact Ne.symm (DL.fresh_ne (DL.fresh_dn (by assumption))) | exact DL.fresh_ne (DL.fresh_dn (DL.fresh_dn (by assumption))) | exact Ne.symm (DL.fresh_ne (DL.fresh_dn (DL.fresh_dn (by assumption))))))).trans ?_; first | exact DL.mup_same | assumption))))))) | exact DL.view_fz | exact DL.view_tup | exact rfl)) (by (first | assumption | exact DL.fit_int _ | exact DL.fit_ints _ | exact Toy.Let.fit (by assumption) | exact Toy.Stm.fit (by assumption) | exact Toy.lets_fit (by assumption) | exact Toy.fit_oi _ | exact Toy.fit_ois _ | exact Toy.fit_str (by assumption) | exact Toy.fit_strs (by assumption) | exact Toy.pD_fit' (by assumption) | exact Toy.pDs_fit (by assumption) | exact Toy.fit_let' (by assumption) | exact rfl | walk_at "F")) (by (first | assumption | exact DL.fit_int _ | exact DL.fit_ints _ | exact Toy.Let.fit (by assumption) | exact Toy.Stm.fit (by assumption) | exact Toy.lets_fit (by assumption) | exact Toy.fit_oi _ | exact Toy.fit_ois _ | exact Toy.fit_str (by assumption) | exact Toy.fit_strs (by assumption) | exact Toy.pD_fit' (by assumption) | exact Toy.pDs_fit (by assumption) | exact Toy.fit_let' (by assumption) | exact rfl | walk_at "F")) (by (first | exact Toy.deq_let _ _ | exact Toy.deq_stm _ _ | assumption | walk_at "Q" | exact rfl)) ?_ | walk_at "x") | (show DL.TruG _ _ _; first | refine DL.TruG.bl rfl ?_ | refine DL.TruG.int rfl ?_ | refine DL.TruG.tup rfl ?_ | refine DL.TruG.lst (by (first | exact rfl | assumption | exact DL.asL_same | exact DL.asL_adr (by (first | exact DL.mup_same | assumption | (refine (DL.mup_ne (by (first | assumption | exact Ne.symm (by assumption) | exact DL.ne_at (by assumption) (by (first | assumption | exact DL.fresh_up (by assumption) | exact DL.fresh_dn (by assumption) | exact DL.fresh_dn (DL.fresh_dn (by assumption)) | exact DL.fresh_dn (DL.fresh_dn (DL.fresh_dn (by assumption))))) | exact Ne.symm (DL.ne_at (by assumption) (by (first | assumption | exact DL.fresh_up (by assumption) | exact DL.fresh_dn (by assumption) | exact DL.fresh_dn (DL.fresh_dn (by assumption)) | exact DL.fresh_dn (DL.fresh_dn (DL.fresh_dn (by assumption)))))) | exact DL.fresh_ne (by assumption) | exact Ne.symm (DL.fresh_ne (by assumption)) | exact DL.fresh_ne (DL.fresh_dn (by assumption)) | exact Ne.symm (DL.fresh_ne (DL.fresh_dn (by assumption))) | exact DL.fresh_ne (DL.fresh_dn (DL.fresh_dn (by assumption))) | exact Ne.symm (DL.fresh_ne (DL.fresh_dn (DL.fresh_dn (by assumption))))))).trans ?_; first | exact DL.mup_same | assumption | (refine (DL.mup_ne (by (first | assumption | exact Ne.symm (by assumption) | exact DL.ne_at (by assumption) (by (first | assumption | exact DL.fresh_up (by assumption) | exact DL.fresh_dn (by assumption) | exact DL.fresh_dn (DL.fresh_dn (by assumption)) | exact DL.fresh_dn (DL.fresh_dn (DL.fresh_dn (by assumption))))) | exact Ne.symm (DL.ne_at (by assumption) (by (first | assumption | exact DL.fresh_up (by assumption) | exact DL.fresh_dn (by assumption) | exact DL.fresh_dn (DL.fresh_dn (by assumption)) | exact DL.fresh_dn (DL.fresh_dn (DL.fresh_dn (by assumption)))))) | exact DL.fresh_ne (by assumption) | exact Ne.symm (DL.fresh_ne (by assumption)) | exact DL.fresh_ne (DL.fresh_dn (by assumption)) | exact Ne.symm (DL.fresh_ne (DL.fresh_dn (by assumption))) | exact DL.fresh_ne (DL.fresh_dn (DL.fresh_dn (by assumption))) | exact Ne.symm (DL.fresh_ne (DL.fresh_dn (DL.fresh_dn (by assumption))))))).trans ?_; first | exact DL.mup_same | assumption | (refine (DL.mup_ne (by (first | assumption | exact Ne.symm (by assumption) | exact DL.ne_at (by assumption) (by (first | assumption | exact DL.fresh_up (by assumption) | exact DL.fresh_dn (by assumption) | exact DL.fresh_dn (DL.fresh_dn (by assumption)) | exact DL.fresh_dn (DL.fresh_dn (DL.fresh_dn (by assumption))))) | exact Ne.symm (DL.ne_at (by assumption) (by (first | assumption | exact DL.fresh_up (by assumption) | exact DL.fresh_dn (by assumption) | exact DL.fresh_dn (DL.fresh_dn (by assumption)) | exact DL.fresh_dn (DL.fresh_dn (DL.fresh_dn (by assumption)))))) | exact DL.fresh_ne (by assumption) | exact Ne.symm (DL.fresh_ne (by assumption)) | exact DL.fresh_ne (DL.fresh_dn (by assumption)) | exact Ne.symm (DL.fresh_ne (DL.fresh_dn (by assumption))) | exact DL.fresh_ne (DL.fresh_dn (DL.fresh_dn (by assumption))) | exact Ne.symm (DL.fresh_ne (DL.fresh_dn (DL.fresh_dn (by assumption))))))).trans ?_; first | exact DL.mup_same | assumption | (refine (DL.mup_ne (by (first | assumption | exact Ne.symm (by assumption) | exact DL.ne_at (by assumption) (by (first | assumption | exact DL.fresh_up (by assumption) | exact DL.fresh_dn (by assumption) | exact DL.fresh_dn (DL.fresh_dn (by assumption)) | exact DL.fresh_dn (DL.fresh_dn (DL.fresh_dn (by assumption))))) | exact Ne.symm (DL.ne_at (by assumption) (by (first | assumption | exact DL.fresh_up (by assumption) | exact DL.fresh_dn (by assumption) | exact DL.fresh_dn (DL.fresh_dn (by assumption)) | exact DL.fresh_dn (DL.fresh_dn (DL.fresh_dn (by assumption)))))) | exact DL.fresh_ne (by assumption) | exact Ne.symm (DL.fresh_ne (by assumption)) | exact DL.fresh_ne (DL.fresh_dn (by assumption)) | exact Ne.symm (DL.fresh_ne (DL.fresh_dn (by assumption))) | exact DL.fresh_ne (DL.fresh_dn (DL.fresh_dn (by assumption))) | exact Ne.symm (DL.fresh_ne (DL.fresh_dn (DL.fresh_dn (by assumption))))))).trans ?_; first | exact DL.mup_same | assumption | (refine (DL.mup_ne (by (first | assumption | exact Ne.symm (by assumption) | exact DL.ne_at (by assumption) (by (first | assumption | exact DL.fresh_up (by assumption) | exact DL.fresh_dn (by assumption) | exact DL.fresh_dn (DL.fresh_dn (by assumption)) | exact DL.fresh_dn (DL.fresh_dn (DL.fresh_dn (by assumption))))) | exact Ne.symm (DL.ne_at (by assumption) (by (first | assumption | exact DL.fresh_up (by assumption) | exact DL.fresh_dn (by assumption) | exact DL.fresh_dn (DL.fresh_dn (by assumption)) | exact DL.fresh_dn (DL.fresh_dn (DL.fresh_dn (by assumption)))))) | exact DL.fresh_ne (by assumption) | exact Ne.symm (DL.fresh_ne (by assumption)) | exact DL.fresh_ne (DL.fresh_dn (by assumption)) | exact Ne.symm (DL.fresh_ne (DL.fresh_dn (by assumption))) | exact DL.fresh_ne (DL.fresh_dn (DL.fresh_dn (by assumption))) | exact Ne.symm (DL.fresh_ne (DL.fresh_dn (DL.fresh_dn (by assumption))))))).trans ?_; first | exact DL.mup_same | assumption))))))) | exact DL.asL_up (by assumption) (by (first | assumption | exact DL.fresh_up (by assumption) | exact DL.fresh_dn (by assumption) | exact DL.fresh_dn (DL.fresh_dn (by assumption)) | exact DL.fresh_dn (DL.fresh_dn (DL.fresh_dn (by assumption))))) | exact DL.asL_up (DL.asL_up (by assumption) (by (first | assumption | exact DL.fresh_up (by assumption) | exact DL.fresh_dn (by assumption) | exact DL.fresh_dn (DL.fresh_dn (by assumption)) | exact DL.fresh_dn (DL.fresh_dn (DL.fresh_dn (by assumption)))))) (by (first | assumption | exact DL.fresh_up (by assumption) | exact DL.fresh_dn (by assumption) | exact DL.fresh_dn (DL.fresh_dn (by assumption)) | exact DL.fresh_dn (DL.fresh_dn (DL.fresh_dn (by assumption))))))) ?_ | refine DL.TruG.non rfl ?_ | refine DL.TruG.str rfl (by first | exact DL.sz (Nat.le_of_ble_eq_true rfl) | (refine DL.sz ?_; first | omega | (simp only [PySem.Str.length_append]; omega) | (simp only [List.length_map, List.length_append, List.length_range, List.length_cons, List.length_nil]; omega) | (simp; done) | (simp; omega)) | assumption | exact Nat.le_trans (List.length_filter_le ..) (by omega) | first | omega | (simp only [PySem.Str.length_append]; omega) | (simp only [List.length_map, List.length_append, List.length_range, List.length_cons, List.length_nil]; omega) | (simp; done) | (simp; omega)) ?_ | walk_at "x") | (show DL.LenG _ _ _; first | refine DL.LenG.tup ?_ | refine DL.LenG.lst (by (first | exact rfl | assumption | exact DL.asL_same | exact DL.asL_adr (by (first | exact DL.mup_same | assumption | (refine (DL.mup_ne (by (first | assumption | exact Ne.symm (by assumption) | exact DL.ne_at (by assumption) (by (first | assumption | exact DL.fresh_up (by assumption) | exact DL.fresh_dn (by assumption) | exact DL.fresh_dn (DL.fresh_dn (by assumption)) | exact DL.fresh_dn (DL.fresh_dn (DL.fresh_dn (by assumption))))) | exact Ne.symm (DL.ne_at (by assumption) (by (first | assumption | exact DL.fresh_up (by assumption) | exact DL.fresh_dn (by assumption) | exact DL.fresh_dn (DL.fresh_dn (by assumption)) | exact DL.fresh_dn (DL.fresh_dn (DL.fresh_dn (by assumption)))))) | exact DL.fresh_ne (by assumption) | exact Ne.symm (DL.fresh_ne (by assumption)) | exact DL.fresh_ne (DL.fresh_dn (by assumption)) | exact Ne.symm (DL.fresh_ne (DL.fresh_dn (by assumption))) | exact DL.fresh_ne (DL.fresh_dn (DL.fresh_dn (by assumption))) | exact Ne.symm (DL.fresh_ne (DL.fresh_dn (DL.fresh_dn (by assumption))))))).trans ?_; first | exact DL.mup_same | assumption | (refine (DL.mup_ne (by (first | assumption | exact Ne.symm (by assumption) | exact DL.ne_at (by assumption) (by (first | assumption | exact DL.fresh_up (by assumption) | exact DL.fresh_dn (by assumption) | exact DL.fresh_dn (DL.fresh_dn (by assumption)) | exact DL.fresh_dn (DL.fresh_dn (DL.fresh_dn (by assumption))))) | exact Ne.symm (DL.ne_at (by assumption) (by (first | assumption | exact DL.fresh_up (by assumption) | exact DL.fresh_dn (by assumption) | exact DL.fresh_dn (DL.fresh_dn (by assumption)) | exact DL.fresh_dn (DL.fresh_dn (DL.fresh_dn (by assumption)))))) | exact DL.fresh_ne (by assumption) | exact Ne.symm (DL.fresh_ne (by assumption)) | exact DL.fresh_ne (DL.fresh_dn (by assumption)) | exact Ne.symm (DL.fresh_ne (DL.fresh_dn (by assumption))) | exact DL.fresh_ne (DL.fresh_dn (DL.fresh_dn (by assumption))) | exact Ne.symm (DL.fresh_ne (DL.fresh_dn (DL.fresh_dn (by assumption))))))).trans ?_; first | exact DL.mup_same | assumption | (refine (DL.mup_ne (by (first | assumption | exact Ne.symm (by assumption) | exact DL.ne_at (by assumption) (by (first | assumption | exact DL.fresh_up (by assumption) | exact DL.fresh_dn (by assumption) | exact DL.fresh_dn (DL.fresh_dn (by assumption)) | exact DL.fresh_dn (DL.fresh_dn (DL.fresh_dn (by assumption))))) | exact Ne.symm (DL.ne_at (by assumption) (by (first | assumption | exact DL.fresh_up (by assumption) | exact DL.fresh_dn (by assumption) | exact DL.fresh_dn (DL.fresh_dn (by assumption)) | exact DL.fresh_dn (DL.fresh_dn (DL.fresh_dn (by assumption)))))) | exact DL.fresh_ne (by assumption) | exact Ne.symm (DL.fresh_ne (by assumption)) | exact DL.fresh_ne (DL.fresh_dn (by assumption)) | exact Ne.symm (DL.fresh_ne (DL.fresh_dn (by assumption))) | exact DL.fresh_ne (DL.fresh_dn (DL.fresh_dn (by assumption))) | exact Ne.symm (DL.fresh_ne (DL.fresh_dn (DL.fresh_dn (by assumption))))))).trans ?_; first | exact DL.mup_same | assumption | (refine (DL.mup_ne (by (first | assumption | exact Ne.symm (by assumption) | exact DL.ne_at (by assumption) (by (first | assumption | exact DL.fresh_up (by assumption) | exact DL.fresh_dn (by assumption) | exact DL.fresh_dn (DL.fresh_dn (by assumption)) | exact DL.fresh_dn (DL.fresh_dn (DL.fresh_dn (by assumption))))) | exact Ne.symm (DL.ne_at (by assumption) (by (first | assumption | exact DL.fresh_up (by assumption) | exact DL.fresh_dn (by assumption) | exact DL.fresh_dn (DL.fresh_dn (by assumption)) | exact DL.fresh_dn (DL.fresh_dn (DL.fresh_dn (by assumption)))))) | exact DL.fresh_ne (by assumption) | exact Ne.symm (DL.fresh_ne (by assumption)) | exact DL.fresh_ne (DL.fresh_dn (by assumption)) | exact Ne.symm (DL.fresh_ne (DL.fresh_dn (by assumption))) | exact DL.fresh_ne (DL.fresh_dn (DL.fresh_dn (by assumption))) | exact Ne.symm (DL.fresh_ne (DL.fresh_dn (DL.fresh_dn (by assumption))))))).trans ?_; first | exact DL.mup_same | assumption | (refine (DL.mup_ne (by (first | assumption | exact Ne.symm (by assumption) | exact DL.ne_at (by assumption) (by (first | assumption | exact DL.fresh_up (by assumption) | exact DL.fresh_dn (by assumption) | exact DL.fresh_dn (DL.fresh_dn (by assumption)) | exact DL.fresh_dn (DL.fresh_dn (DL.fresh_dn (by assumption))))) | exact Ne.symm (DL.ne_at (by assumption) (by (first | assumption | exact DL.fresh_up (by assumption) | exact DL.fresh_dn (by assumption) | exact DL.fresh_dn (DL.fresh_dn (by assumption)) | exact DL.fresh_dn (DL.fresh_dn (DL.fresh_dn (by assumption)))))) | exact DL.fresh_ne (by assumption) | exact Ne.symm (DL.fresh_ne (by assumption)) | exact DL.fresh_ne (DL.fresh_dn (by assumption)) | exact Ne.symm (DL.fresh_ne (DL.fresh_dn (by assumption))) | exact DL.fresh_ne (DL.fresh_dn (DL.fresh_dn (by assumption))) | exact Ne.symm (DL.fresh_ne (DL.fresh_dn (DL.fresh_dn (by assumption))))))).trans ?_; first | exact DL.mup_same | assumption))))))) | exact DL.asL_up (by assumption) (by (first | assumption | exact DL.fresh_up (by assumption) | exact DL.fresh_dn (by assumption) | exact DL.fresh_dn (DL.fresh_dn (by assumption)) | exact DL.fresh_dn (DL.fresh_dn (DL.fresh_dn (by assumption))))) | exact DL.asL_up (DL.asL_up (by assumption) (by (first | assumption | exact DL.fresh_up (by assumption) | exact DL.fresh_dn (by assumption) | exact DL.fresh_dn (DL.fresh_dn (by assumption)) | exact DL.fresh_dn (DL.fresh_dn (DL.fresh_dn (by assumption)))))) (by (first | assumption | exact DL.fresh_up (by assumption) | exact DL.fresh_dn (by assumption) | exact DL.fresh_dn (DL.fresh_dn (by assumption)) | exact DL.fresh_dn (DL.fresh_dn (DL.fresh_dn (by assumption))))))) ?_ | refine DL.LenG.str (by first | exact DL.sz (Nat.le_of_ble_eq_true rfl) | (refine DL.sz ?_; first | omega | (simp only [PySem.Str.length_append]; omega) | (simp only [List.length_map, List.length_append, List.length_range, List.length_cons, List.length_nil]; omega) | (simp; done) | (simp; omega)) | assumption | exact Nat.le_trans (List.length_filter_le ..) (by omega) | first | omega | (simp only [PySem.Str.length_append]; omega) | (simp only [List.length_map, List.length_append, List.length_range, List.length_cons, List.length_nil]; omega) | (simp; done) | (simp; omega)) ?_ | walk_at "x") | (show DL.CatG _ _ _ _; first | refine DL.CatG.mk (by (first | exact rfl | assumption | exact DL.asT_adr (by (first | exact DL.mup_same | assumption | (refine (DL.mup_ne (by (first | assumption | exact Ne.symm (by assumption) | exact DL.ne_at (by assumption) (by (first | assumption | exact DL.fresh_up (by assumption) | exact DL.fresh_dn (by assumption) | exact DL.fresh_dn (DL.fresh_dn (by assumption)) | exact DL.fresh_dn (DL.fresh_dn (DL.fresh_dn (by assumption))))) | exact Ne.symm (DL.ne_at (by assumption) (by (first | assumption | exact DL.fresh_up (by assumption) | exact DL.fresh_dn (by assumption) | exact DL.fresh_dn (DL.fresh_dn (by assumption)) | exact DL.fresh_dn (DL.fresh_dn (DL.fresh_dn (by assumption)))))) | exact DL.fresh_ne (by assumption) | exact Ne.symm (DL.fresh_ne (by assumption)) | exact DL.fresh_ne (DL.fresh_dn (by assumption)) | exact Ne.symm (DL.fresh_ne (DL.fresh_dn (by assumption))) | exact DL.fresh_ne (DL.fresh_dn (DL.fresh_dn (by assumption))) | exact Ne.symm (DL.fresh_ne (DL.fresh_dn (DL.fresh_dn (by assumption))))))).trans ?_; first | exact DL.mup_same | assumption | (refine (DL.mup_ne (by (first | assumption | exact Ne.symm (by assumption) | exact DL.ne_at (by assumption) (by (first | assumption | exact DL.fresh_up (by assumption) | exact DL.fresh_dn (by assumption) | exact DL.fresh_dn (DL.fresh_dn (by assumption)) | exact DL.fresh_dn (DL.fresh_dn (DL.fresh_dn (by assumption))))) | exact Ne.symm (DL.ne_at (by assumption) (by (first | assumption | exact DL.fresh_up (by assumption) | exact DL.fresh_dn (by assumption) | exact DL.fresh_dn (DL.fresh_dn (by assumption)) | exact DL.fresh_dn (DL.fresh_dn (DL.fresh_dn (by assumption)))))) | exact DL.fresh_ne (by assumption) | exact Ne.symm (DL.fresh_ne (by assumption)) | exact DL.fresh_ne (DL.fresh_dn (by assumption)) | exact Ne.symm (DL.fresh_ne (DL.fresh_dn (by assumption))) | exact DL.fresh_ne (DL.fresh_dn (DL.fresh_dn (by assumption))) | exact Ne.symm (DL.fresh_ne (DL.fresh_dn (DL.fresh_dn (by assumption))))))).trans ?_; first | exact DL.mup_same | assumption | (refine (DL.mup_ne (by (first | assumption | exact Ne.symm (by assumption) | exact DL.ne_at (by assumption) (by (first | assumption | exact DL.fresh_up (by assumption) | exact DL.fresh_dn (by assumption) | exact DL.fresh_dn (DL.fresh_dn (by assumption)) | exact DL.fresh_dn (DL.fresh_dn (DL.fresh_dn (by assumption))))) | exact Ne.symm (DL.ne_at (by assumption) (by (first | assumption | exact DL.fresh_up (by assumption) | exact DL.fresh_dn (by assumption) | exact DL.fresh_dn (DL.fresh_dn (by assumption)) | exact DL.fresh_dn (DL.fresh_dn (DL.fresh_dn (by assumption)))))) | exact DL.fresh_ne (by assumption) | exact Ne.symm (DL.fresh_ne (by assumption)) | exact DL.fresh_ne (DL.fresh_dn (by assumption)) | exact Ne.symm (DL.fresh_ne (DL.fresh_dn (by assumption))) | exact DL.fresh_ne (DL.fresh_dn (DL.fresh_dn (by assumption))) | exact Ne.symm (DL.fresh_ne (DL.fresh_dn (DL.fresh_dn (by assumption))))))).trans ?_; first | exact DL.mup_same | assumption | (refine (DL.mup_ne (by (first | assumption | exact Ne.symm (by assumption) | exact DL.ne_at (by assumption) (by (first | assumption | exact DL.fresh_up (by assumption) | exact DL.fresh_dn (by assumption) | exact DL.fresh_dn (DL.fresh_dn (by assumption)) | exact DL.fresh_dn (DL.fresh_dn (DL.fresh_dn (by assumption))))) | exact Ne.symm (DL.ne_at (by assumption) (by (first | assumption | exact DL.fresh_up (by assumption) | exact DL.fresh_dn (by assumption) | exact DL.fresh_dn (DL.fresh_dn (by assumption)) | exact DL.fresh_dn (DL.fresh_dn (DL.fresh_dn (by assumption)))))) | exact DL.fresh_ne (by assumption) | exact Ne.symm (DL.fresh_ne (by assumption)) | exact DL.fresh_ne (DL.fresh_dn (by assumption)) | exact Ne.symm (DL.fresh_ne (DL.fresh_dn (by assumption))) | exact DL.fresh_ne (DL.fresh_dn (DL.fresh_dn (by assumption))) | exact Ne.symm (DL.fresh_ne (DL.fresh_dn (DL.fresh_dn (by assumption))))))).trans ?_; first | exact DL.mup_same | assumption | (refine (DL.mup_ne (by (first | assumption | exact Ne.symm (by assumption) | exact DL.ne_at (by assumption) (by (first | assumption | exact DL.fresh_up (by assumption) | exact DL.fresh_dn (by assumption) | exact DL.fresh_dn (DL.fresh_dn (by assumption)) | exact DL.fresh_dn (DL.fresh_dn (DL.fresh_dn (by assumption))))) | exact Ne.symm (DL.ne_at (by assumption) (by (first | assumption | exact DL.fresh_up (by assumption) | exact DL.fresh_dn (by assumption) | exact DL.fresh_dn (DL.fresh_dn (by assumption)) | exact DL.fresh_dn (DL.fresh_dn (DL.fresh_dn (by assumption)))))) | exact DL.fresh_ne (by assumption) | exact Ne.symm (DL.fresh_ne (by assumption)) | exact DL.fresh_ne (DL.fresh_dn (by assumption)) | exact Ne.symm (DL.fresh_ne (DL.fresh_dn (by assumption))) | exact DL.fresh_ne (DL.fresh_dn (DL.fresh_dn (by assumption))) | exact Ne.symm (DL.fresh_ne (DL.fresh_dn (DL.fresh_dn (by assumption))))))).trans ?_; first | exact DL.mup_same | assumption))))))))) (by (first | exact rfl | assumption | exact DL.asT_adr (by (first | exact DL.mup_same | assumption | (refine (DL.mup_ne (by (first | assumption | exact Ne.symm (by assumption) | exact DL.ne_at (by assumption) (by (first | assumption | exact DL.fresh_up (by assumption) | exact DL.fresh_dn (by assumption) | exact DL.fresh_dn (DL.fresh_dn (by assumption)) | exact DL.fresh_dn (DL.fresh_dn (DL.fresh_dn (by assumption))))) | exact Ne.symm (DL.ne_at (by assumption) (by (first | assumption | exact DL.fresh_up (by assumption) | exact DL.fresh_dn (by assumption) | exact DL.fresh_dn (DL.fresh_dn (by assumption)) | exact DL.fresh_dn (DL.fresh_dn (DL.fresh_dn (by assumption)))))) | exact DL.fresh_ne (by assumption) | exact Ne.symm (DL.fresh_ne (by assumption)) | exact DL.fresh_ne (DL.fresh_dn (by assumption)) | exact Ne.symm (DL.fresh_ne (DL.fresh_dn (by assumption))) | exact DL.fresh_ne (DL.fresh_dn (DL.fresh_dn (by assumption))) | exact Ne.symm (DL.fresh_ne (DL.fresh_dn (DL.fresh_dn (by assumption))))))).trans ?_; first | exact DL.mup_same | assumption | (refine (DL.mup_ne (by (first | assumption | exact Ne.symm (by assumption) | exact DL.ne_at (by assumption) (by (first | assumption | exact DL.fresh_up (by assumption) | exact DL.fresh_dn (by assumption) | exact DL.fresh_dn (DL.fresh_dn (by assumption)) | exact DL.fresh_dn (DL.fresh_dn (DL.fresh_dn (by assumption))))) | exact Ne.symm (DL.ne_at (by assumption) (by (first | assumption | exact DL.fresh_up (by assumption) | exact DL.fresh_dn (by assumption) | exact DL.fresh_dn (DL.fresh_dn (by assumption)) | exact DL.fresh_dn (DL.fresh_dn (DL.fresh_dn (by assumption)))))) | exact DL.fresh_ne (by assumption) | exact Ne.symm (DL.fresh_ne (by assumption)) | exact DL.fresh_ne (DL.fresh_dn (by assumption)) | exact Ne.symm (DL.fresh_ne (DL.fresh_dn (by assumption))) | exact DL.fresh_ne (DL.fresh_dn (DL.fresh_dn (by assumption))) | exact Ne.symm (DL.fresh_ne (DL.fresh_dn (DL.fresh_dn (by assumption))))))).trans ?_; first | exact DL.mup_same | assumption | (refine (DL.mup_ne (by (first | assumption | exact Ne.symm (by assumption) | exact DL.ne_at (by assumption) (by (first | assumption | exact DL.fresh_up (by assumption) | exact DL.fresh_dn (by assumption) | exact DL.fresh_dn (DL.fresh_dn (by assumption)) | exact DL.fresh_dn (DL.fresh_dn (DL.fresh_dn (by assumption))))) | exact Ne.symm (DL.ne_at (by assumption) (by (first | assumption | exact DL.fresh_up (by assumption) | exact DL.fresh_dn (by assumption) | exact DL.fresh_dn (DL.fresh_dn (by assumption)) | exact DL.fresh_dn (DL.fresh_dn (DL.fresh_dn (by assumption)))))) | exact DL.fresh_ne (by assumption) | exact Ne.symm (DL.fresh_ne (by assumption)) | exact DL.fresh_ne (DL.fresh_dn (by assumption)) | exact Ne.symm (DL.fresh_ne (DL.fresh_dn (by assumption))) | exact DL.fresh_ne (DL.fresh_dn (DL.fresh_dn (by assumption))) | exact Ne.symm (DL.fresh_ne (DL.fresh_dn (DL.fresh_dn (by assumption))))))).trans ?_; first | exact DL.mup_same | assumption | (refine (DL.mup_ne (by (first | assumption | exact Ne.symm (by assumption) | exact DL.ne_at (by assumption) (by (first | assumption | exact DL.fresh_up (by assumption) | exact DL.fresh_dn (by assumption) | exact DL.fresh_dn (DL.fresh_dn (by assumption)) | exact DL.fresh_dn (DL.fresh_dn (DL.fresh_dn (by assumption))))) | exact Ne.symm (DL.ne_at (by assumption) (by (first | assumption | exact DL.fresh_up (by assumption) | exact DL.fresh_dn (by assumption) | exact DL.fresh_dn (DL.fresh_dn (by assumption)) | exact DL.fresh_dn (DL.fresh_dn (DL.fresh_dn (by assumption)))))) | exact DL.fresh_ne (by assumption) | exact Ne.symm (DL.fresh_ne (by assumption)) | exact DL.fresh_ne (DL.fresh_dn (by assumption)) | exact Ne.symm (DL.fresh_ne (DL.fresh_dn (by assumption))) | exact DL.fresh_ne (DL.fresh_dn (DL.fresh_dn (by assumption))) | exact Ne.symm (DL.fresh_ne (DL.fresh_dn (DL.fresh_dn (by assumption))))))).trans ?_; first | exact DL.mup_same | assumption | (refine (DL.mup_ne (by (first | assumption | exact Ne.symm (by assumption) | exact DL.ne_at (by assumption) (by (first | assumption | exact DL.fresh_up (by assumption) | exact DL.fresh_dn (by assumption) | exact DL.fresh_dn (DL.fresh_dn (by assumption)) | exact DL.fresh_dn (DL.fresh_dn (DL.fresh_dn (by assumption))))) | exact Ne.symm (DL.ne_at (by assumption) (by (first | assumption | exact DL.fresh_up (by assumption) | exact DL.fresh_dn (by assumption) | exact DL.fresh_dn (DL.fresh_dn (by assumption)) | exact DL.fresh_dn (DL.fresh_dn (DL.fresh_dn (by assumption)))))) | exact DL.fresh_ne (by assumption) | exact Ne.symm (DL.fresh_ne (by assumption)) | exact DL.fresh_ne (DL.fresh_dn (by assumption)) | exact Ne.symm (DL.fresh_ne (DL.fresh_dn (by assumption))) | exact DL.fresh_ne (DL.fresh_dn (DL.fresh_dn (by assumption))) | exact Ne.symm (DL.fresh_ne (DL.fresh_dn (DL.fresh_dn (by assumption))))))).trans ?_; first | exact DL.mup_same | assumption))))))))) (by first | exact DL.sz (Nat.le_of_ble_eq_true rfl) | (refine DL.sz ?_; first | omega | (simp only [PySem.Str.length_append]; omega) | (simp only [List.length_map, List.length_append, List.length_range, List.length_cons, List.length_nil]; omega) | (simp; done) | (simp; omega)) | assumption | exact Nat.le_trans (List.length_filter_le ..) (by omega) | first | omega | (simp only [PySem.Str.length_append]; omega) | (simp only [List.length_map, List.length_append, List.length_range, List.length_cons, List.length_nil]; omega) | (simp; done) | (simp; omega)) ?_ | walk_at "x") | (show DL.ListG _ _ _; first | refine DL.ListG.tup ?_ | refine DL.ListG.lst (by (first | exact rfl | assumption | exact DL.asL_same | exact DL.asL_adr (by (first | exact DL.mup_same | assumption | (refine (DL.mup_ne (by (first | assumption | exact Ne.symm (by assumption) | exact DL.ne_at (by assumption) (by (first | assumption | exact DL.fresh_up (by assumption) | exact DL.fresh_dn (by assumption) | exact DL.fresh_dn (DL.fresh_dn (by assumption)) | exact DL.fresh_dn (DL.fresh_dn (DL.fresh_dn (by assumption))))) | exact Ne.symm (DL.ne_at (by assumption) (by (first | assumption | exact DL.fresh_up (by assumption) | exact DL.fresh_dn (by assumption) | exact DL.fresh_dn (DL.fresh_dn (by assumption)) | exact DL.fresh_dn (DL.fresh_dn (DL.fresh_dn (by assumption)))))) | exact DL.fresh_ne (by assumption) | exact Ne.symm (DL.fresh_ne (by assumption)) | exact DL.fresh_ne (DL.fresh_dn (by assumption)) | exact Ne.symm (DL.fresh_ne (DL.fresh_dn (by assumption))) | exact DL.fresh_ne (DL.fresh_dn (DL.fresh_dn (by assumption))) | exact Ne.symm (DL.fresh_ne (DL.fresh_dn (DL.fresh_dn (by assumption))))))).trans ?_; first | exact DL.mup_same | assumption | (refine (DL.mup_ne (by (first | assumption | exact Ne.symm (by assumption) | exact DL.ne_at (by assumption) (by (first | assumption | exact DL.fresh_up (by assumption) | exact DL.fresh_dn (by assumption) | exact DL.fresh_dn (DL.fresh_dn (by assumption)) | exact DL.fresh_dn (DL.fresh_dn (DL.fresh_dn (by assumption))))) | exact Ne.symm (DL.ne_at (by assumption) (by (first | assumption | exact DL.fresh_up (by assumption) | exact DL.fresh_dn (by assumption) | exact DL.fresh_dn (DL.fresh_dn (by assumption)) | exact DL.fresh_dn (DL.fresh_dn (DL.fresh_dn (by assumption)))))) | exact DL.fresh_ne (by assumption) | exact Ne.symm (DL.fresh_ne (by assumption)) | exact DL.fresh_ne (DL.fresh_dn (by assumption)) | exact Ne.symm (DL.fresh_ne (DL.fresh_dn (by assumption))) | exact DL.fresh_ne (DL.fresh_dn (DL.fresh_dn (by assumption))) | exact Ne.symm (DL.fresh_ne (DL.fresh_dn (DL.fresh_dn (by assumption))))))).trans ?_; first | exact DL.mup_same | assumption | (refine (DL.mup_ne (by (first | assumption | exact Ne.symm (by assumption) | exact DL.ne_at (by assumption) (by (first | assumption | exact DL.fresh_up (by assumption) | exact DL.fresh_dn (by assumption) | exact DL.fresh_dn (DL.fresh_dn (by assumption)) | exact DL.fresh_dn (DL.fresh_dn (DL.fresh_dn (by assumption))))) | exact Ne.symm (DL.ne_at (by assumption) (by (first | assumption | exact DL.fresh_up (by assumption) | exact DL.fresh_dn (by assumption) | exact DL.fresh_dn (DL.fresh_dn (by assumption)) | exact DL.fresh_dn (DL.fresh_dn (DL.fresh_dn (by assumption)))))) | exact DL.fresh_ne (by assumption) | exact Ne.symm (DL.fresh_ne (by assumption)) | exact DL.fresh_ne (DL.fresh_dn (by assumption)) | exact Ne.symm (DL.fresh_ne (DL.fresh_dn (by assumption))) | exact DL.fresh_ne (DL.fresh_dn (DL.fresh_dn (by assumption))) | exact Ne.symm (DL.fresh_ne (DL.fresh_dn (DL.fresh_dn (by assumption))))))).trans ?_; first | exact DL.mup_same | assumption | (refine (DL.mup_ne (by (first | assumption | exact Ne.symm (by assumption) | exact DL.ne_at (by assumption) (by (first | assumption | exact DL.fresh_up (by assumption) | exact DL.fresh_dn (by assumption) | exact DL.fresh_dn (DL.fresh_dn (by assumption)) | exact DL.fresh_dn (DL.fresh_dn (DL.fresh_dn (by assumption))))) | exact Ne.symm (DL.ne_at (by assumption) (by (first | assumption | exact DL.fresh_up (by assumption) | exact DL.fresh_dn (by assumption) | exact DL.fresh_dn (DL.fresh_dn (by assumption)) | exact DL.fresh_dn (DL.fresh_dn (DL.fresh_dn (by assumption)))))) | exact DL.fresh_ne (by assumption) | exact Ne.symm (DL.fresh_ne (by assumption)) | exact DL.fresh_ne (DL.fresh_dn (by assumption)) | exact Ne.symm (DL.fresh_ne (DL.fresh_dn (by assumption))) | exact DL.fresh_ne (DL.fresh_dn (DL.fresh_dn (by assumption))) | exact Ne.symm (DL.fresh_ne (DL.fresh_dn (DL.fresh_dn (by assumption))))))).trans ?_; first | exact DL.mup_same | assumption | (refine (DL.mup_ne (by (first | assumption | exact Ne.symm (by assumption) | exact DL.ne_at (by assumption) (by (first | assumption | exact DL.fresh_up (by assumption) | exact DL.fresh_dn (by assumption) | exact DL.fresh_dn (DL.fresh_dn (by assumption)) | exact DL.fresh_dn (DL.fresh_dn (DL.fresh_dn (by assumption))))) | exact Ne.symm (DL.ne_at (by assumption) (by (first | assumption | exact DL.fresh_up (by assumption) | exact DL.fresh_dn (by assumption) | exact DL.fresh_dn (DL.fresh_dn (by assumption)) | exact DL.fresh_dn (DL.fresh_dn (DL.fresh_dn (by assumption)))))) | exact DL.fresh_ne (by assumption) | exact Ne.symm (DL.fresh_ne (by assumption)) | exact DL.fresh_ne (DL.fresh_dn (by assumption)) | exact Ne.symm (DL.fresh_ne (DL.fresh_dn (by assumption))) | exact DL.fresh_ne (DL.fresh_dn (DL.fresh_dn (by assumption))) | exact Ne.symm (DL.fresh_ne (DL.fresh_dn (DL.fresh_dn (by assumption))))))).trans ?_; first | exact DL.mup_same | assumption))))))) | exact DL.asL_up (by assumption) (by (first | assumption | exact DL.fresh_up (by assumption) | exact DL.fresh_dn (by assumption) | exact DL.fresh_dn (DL.fresh_dn (by assumption)) | exact DL.fresh_dn (DL.fresh_dn (DL.fresh_dn (by assumption))))) | exact DL.asL_up (DL.asL_up (by assumption) (by (first | assumption | exact DL.fresh_up (by assumption) | exact DL.fresh_dn (by assumption) | exact DL.fresh_dn (DL.fresh_dn (by assumption)) | exact DL.fresh_dn (DL.fresh_dn (DL.fresh_dn (by assumption)))))) (by (first | assumption | exact DL.fresh_up (by assumption) | exact DL.fresh_dn (by assumption) | exact DL.fresh_dn (DL.fresh_dn (by assumption)) | exact DL.fresh_dn (DL.fresh_dn (DL.fresh_dn (by assumption))))))) ?_ | walk_at "x") | (show DL.InG _ _ _ _ _; first | refine DL.InG.tup rfl rfl rfl (by (first | exact DL.din_int | exact Toy.din_oi | exact Toy.din_let | exact Toy.din_str | exact Toy.din_pD' | exact Toy.din_let' | exact Toy.din_oi (l := none) | exact Toy.din_oi (l := some _) | assumption | walk_at "D" | exact rfl)) ?_ | refine DL.InG.sg rfl rfl ?_ | refine DL.InG.lst (by (first | exact rfl | assumption | exact DL.asL_same | exact DL.asL_adr (by (first | exact DL.mup_same | assumption | (refine (DL.mup_ne (by (first | assumption | exact Ne.symm (by assumption) | exact DL.ne_at (by assumption) (by (first | assumption | exact DL.fresh_up (by assumption) | exact DL.fresh_dn (by assumption) | exact DL.fresh_dn (DL.fresh_dn (by assumption)) | exact DL.fresh_dn (DL.fresh_dn (DL.fresh_dn (by assumption))))) | exact Ne.symm (DL.ne_at (by assumption) (by (first | assumption | exact DL.fresh_up (by assumption) | exact DL.fresh_dn (by assumption) | exact DL.fresh_dn (DL.fresh_dn (by assumption)) | exact DL.fresh_dn (DL.fresh_dn (DL.fresh_dn (by assumption)))))) | exact DL.fresh_ne (by assumption) | exact Ne.symm (DL.fresh_ne (by assumption)) | exact DL.fresh_ne (DL.fresh_dn (by assumption)) | exact Ne.symm (DL.fresh_ne (DL.fresh_dn (by assumption))) | exact DL.fresh_ne (DL.fresh_dn (DL.fresh_dn (by assumption))) | exact Ne.symm (DL.fresh_ne (DL.fresh_dn (DL.fresh_dn (by assumption))))))).trans ?_; first | exact DL.mup_same | assumption | (refine (DL.mup_ne (by (first | assumption | exact Ne.symm (by assumption) | exact DL.ne_at (by assumption) (by (first | assumption | exact DL.fresh_up (by assumption) | exact DL.fresh_dn (by assumption) | exact DL.fresh_dn (DL.fresh_dn (by assumption)) | exact DL.fresh_dn (DL.fresh_dn (DL.fresh_dn (by assumption))))) | exact Ne.symm (DL.ne_at (by assumption) (by (first | assumption | exact DL.fresh_up (by assumption) | exact DL.fresh_dn (by assumption) | exact DL.fresh_dn (DL.fresh_dn (by assumption)) | exact DL.fresh_dn (DL.fresh_dn (DL.fresh_dn (by assumption)))))) | exact DL.fresh_ne (by assumption) | exact Ne.symm (DL.fresh_ne (by assumption)) | exact DL.fresh_ne (DL.fresh_dn (by assumption)) | exact Ne.symm (DL.fresh_ne (DL.fresh_dn (by assumption))) | exact DL.fresh_ne (DL.fresh_dn (DL.fresh_dn (by assumption))) | exact Ne.symm (DL.fresh_ne (DL.fresh_dn (DL.fresh_dn (by assumption))))))).trans ?_; first | exact DL.mup_same | assumption | (refine (DL.mup_ne (by (first | assumption | exact Ne.symm (by assumption) | exact DL.ne_at (by assumption) (by (first | assumption | exact DL.fresh_up (by assumption) | exact DL.fresh_dn (by assumption) | exact DL.fresh_dn (DL.fresh_dn (by assumption)) | exact DL.fresh_dn (DL.fresh_dn (DL.fresh_dn (by assumption))))) | exact Ne.symm (DL.ne_at (by assumption) (by (first | assumption | exact DL.fresh_up (by assumption) | exact DL.fresh_dn (by assumption) | exact DL.fresh_dn (DL.fresh_dn (by assumption)) | exact DL.fresh_dn (DL.fresh_dn (DL.fresh_dn (by assumption)))))) | exact DL.fresh_ne (by assumption) | exact Ne.symm (DL.fresh_ne (by assumption)) | exact DL.fresh_ne (DL.fresh_dn (by assumption)) | exact Ne.symm (DL.fresh_ne (DL.fresh_dn (by assumption))) | exact DL.fresh_ne (DL.fresh_dn (DL.fresh_dn (by assumption))) | exact Ne.symm (DL.fresh_ne (DL.fresh_dn (DL.fresh_dn (by assumption))))))).trans ?_; first | exact DL.mup_same | assumption | (refine (DL.mup_ne (by (first | assumption | exact Ne.symm (by assumption) | exact DL.ne_at (by assumption) (by (first | assumption | exact DL.fresh_up (by assumption) | exact DL.fresh_dn (by assumption) | exact DL.fresh_dn (DL.fresh_dn (by assumption)) | exact DL.fresh_dn (DL.fresh_dn (DL.fresh_dn (by assumption))))) | exact Ne.symm (DL.ne_at (by assumption) (by (first | assumption | exact DL.fresh_up (by assumption) | exact DL.fresh_dn (by assumption) | exact DL.fresh_dn (DL.fresh_dn (by assumption)) | exact DL.fresh_dn (DL.fresh_dn (DL.fresh_dn (by assumption)))))) | exact DL.fresh_ne (by assumption) | exact Ne.symm (DL.fresh_ne (by assumption)) | exact DL.fresh_ne (DL.fresh_dn (by assumption)) | exact Ne.symm (DL.fresh_ne (DL.fresh_dn (by assumption))) | exact DL.fresh_ne (DL.fresh_dn (DL.fresh_dn (by assumption))) | exact Ne.symm (DL.fresh_ne (DL.fresh_dn (DL.fresh_dn (by assumption))))))).trans ?_; first | exact DL.mup_same | assumption | (refine (DL.mup_ne (by (first | assumption | exact Ne.symm (by assumption) | exact DL.ne_at (by assumption) (by (first | assumption | exact DL.fresh_up (by assumption) | exact DL.fresh_dn (by assumption) | exact DL.fresh_dn (DL.fresh_dn (by assumption)) | exact DL.fresh_dn (DL.fresh_dn (DL.fresh_dn (by assumption))))) | exact Ne.symm (DL.ne_at (by assumption) (by (first | assumption | exact DL.fresh_up (by assumption) | exact DL.fresh_dn (by assumption) | exact DL.fresh_dn (DL.fresh_dn (by assumption)) | exact DL.fresh_dn (DL.fresh_dn (DL.fresh_dn (by assumption)))))) | exact DL.fresh_ne (by assumption) | exact Ne.symm (DL.fresh_ne (by assumption)) | exact DL.fresh_ne (DL.fresh_dn (by assumption)) | exact Ne.symm (DL.fresh_ne (DL.fresh_dn (by assumption))) | exact DL.fresh_ne (DL.fresh_dn (DL.fresh_dn (by assumption))) | exact Ne.symm (DL.fresh_ne (DL.fresh_dn (DL.fresh_dn (by assumption))))))).trans ?_; first | exact DL.mup_same | assumption))))))) | exact DL.asL_up (by assumption) (by (first | assumption | exact DL.fresh_up (by assumption) | exact DL.fresh_dn (by assumption) | exact DL.fresh_dn (DL.fresh_dn (by assumption)) | exact DL.fresh_dn (DL.fresh_dn (DL.fresh_dn (by assumption))))) | exact DL.asL_up (DL.asL_up (by assumption) (by (first | assumption | exact DL.fresh_up (by assumption) | exact DL.fresh_dn (by assumption) | exact DL.fresh_dn (DL.fresh_dn (by assumption)) | exact DL.fresh_dn (DL.fresh_dn (DL.fresh_dn (by assumption)))))) (by (first | assumption | exact DL.fresh_up (by assumption) | exact DL.fresh_dn (by assumption) | exact DL.fresh_dn (DL.fresh_dn (by assumption)) | exact DL.fresh_dn (DL.fresh_dn (DL.fresh_dn (by assumption))))))) (by (first | assumption | exact DL.fit_int _ | exact DL.fit_ints _ | exact Toy.Let.fit (by assumption) | exact Toy.Stm.fit (by assumption) | exact Toy.lets_fit (by assumption) | exact Toy.fit_oi _ | exact Toy.fit_ois _ | exact Toy.fit_str (by assumption) | exact Toy.fit_strs (by assumption) | exact Toy.pD_fit' (by assumption) | exact Toy.pDs_fit (by assumption) | exact Toy.fit_let' (by assumption) | exact rfl | walk_at "F")) (by (first | assumption | exact DL.fit_int _ | exact DL.fit_ints _ | exact Toy.Let.fit (by assumption) | exact Toy.Stm.fit (by assumption) | exact Toy.lets_fit (by assumption) | exact Toy.fit_oi _ | exact Toy.fit_ois _ | exact Toy.fit_str (by assumption) | exact Toy.fit_strs (by assumption) | exact Toy.pD_fit' (by assumption) | exact Toy.pDs_fit (by assumption) | exact Toy.fit_let' (by assumption) | exact rfl | walk_at "F")) (by (first | exact DL.din_int | exact Toy.din_oi | exact Toy.din_let | exact Toy.din_str | exact Toy.din_pD' | exact Toy.din_let' | exact Toy.din_oi (l := none) | exact Toy.din_oi (l := some _) | assumption | walk_at "D" | exact rfl)) ?_ | walk_at "x") | (intro p hp) | exact rfl | walk_at "x")); all_goals (try (refine (fun (h : (_ : Prop)) => h) ?_; conv => whnf))))

namespace Toy
open PySem L2 DL
def top (i : Nat) : Stmt := PySem.Challenge.pw_tribunal_k32_lines_of_events.main.body.getD i (.Pass ⟨0, 0, 0, 0⟩)
abbrev s_l_cell : Stmt := top 33
abbrev s_number_of : Stmt := top 19
abbrev s_number_wire : Stmt := top 22
abbrev s_is_name : Stmt := top 18
abbrev s__block : Stmt := top 24
abbrev s__lean : Stmt := top 25
abbrev s_read_letter : Stmt := top 26
abbrev s__digits : Stmt := top 9
abbrev s_number_commands : Stmt := top 10
abbrev s__take : Stmt := top 12
abbrev s_commands_of : Stmt := top 13
abbrev s__numbers : Stmt := top 30
abbrev s_read_event : Stmt := top 31
abbrev s_l_long : Stmt := top 48
abbrev s_l_statement : Stmt := top 41
abbrev s_l_row : Stmt := top 35
abbrev s_l_code : Stmt := top 37
abbrev s_l_number : Stmt := top 36
abbrev s_l_command : Stmt := top 38
abbrev s_l_event : Stmt := top 44
abbrev s_l_text : Stmt := top 39
abbrev s_l_line : Stmt := top 45
abbrev s__part : Stmt := top 20
abbrev s_letter_line : Stmt := top 21
abbrev s_command_text : Stmt := top 14
abbrev s_event_line : Stmt := top 29
abbrev s_l_changed : Stmt := top 46
abbrev s_l_is_integer : Stmt := top 34
abbrev s_l_reads : Stmt := top 47
abbrev s_law : Stmt := top 49
abbrev s_E_BadLine : Stmt := inClass (top 2) 0
abbrev s_E_BadScript : Stmt := inClass (top 4) 0
structure Ad where
  l_cell : Addr
  fd_l_cell : FuncData
  number_of : Addr
  fd_number_of : FuncData
  number_wire : Addr
  fd_number_wire : FuncData
  is_name : Addr
  fd_is_name : FuncData
  _block : Addr
  fd__block : FuncData
  _lean : Addr
  fd__lean : FuncData
  read_letter : Addr
  fd_read_letter : FuncData
  _digits : Addr
  fd__digits : FuncData
  number_commands : Addr
  fd_number_commands : FuncData
  _take : Addr
  fd__take : FuncData
  commands_of : Addr
  fd_commands_of : FuncData
  _numbers : Addr
  fd__numbers : FuncData
  read_event : Addr
  fd_read_event : FuncData
  l_long : Addr
  fd_l_long : FuncData
  l_statement : Addr
  fd_l_statement : FuncData
  l_row : Addr
  fd_l_row : FuncData
  l_code : Addr
  fd_l_code : FuncData
  l_number : Addr
  fd_l_number : FuncData
  l_command : Addr
  fd_l_command : FuncData
  l_event : Addr
  fd_l_event : FuncData
  l_text : Addr
  fd_l_text : FuncData
  l_line : Addr
  fd_l_line : FuncData
  _part : Addr
  fd__part : FuncData
  letter_line : Addr
  fd_letter_line : FuncData
  command_text : Addr
  fd_command_text : FuncData
  event_line : Addr
  fd_event_line : FuncData
  l_changed : Addr
  fd_l_changed : FuncData
  l_is_integer : Addr
  fd_l_is_integer : FuncData
  l_reads : Addr
  fd_l_reads : FuncData
  law : Addr
  fd_law : FuncData
  E_BadCommand : Addr
  E_BadLine : Addr
  E_BadScript : Addr
  E_TribunalError : Addr
  I_BadLine : Addr
  fd_E_BadLine : FuncData
  I_BadScript : Addr
  fd_E_BadScript : FuncData
structure Txt (P : Program) (w : World) (K : PySem.W.Frag) (mg : Str → Option Value) (a : Ad) : Prop where
  F_l_cell : Fun K "_law_cell" "_law_cell" s_l_cell a.l_cell a.fd_l_cell
  b_l_cell : Binds K a.fd_l_cell ["_law_script", "_law_k"] []
  mg_l_cell : mg "_law_cell" = some (.ref a.l_cell)
  F_number_of : Fun K "number_of" "number_of" s_number_of a.number_of a.fd_number_of
  b_number_of : Binds K a.fd_number_of ["word"] []
  mg_number_of : mg "number_of" = some (.ref a.number_of)
  F_number_wire : Fun K "_number" "_number" s_number_wire a.number_wire a.fd_number_wire
  b_number_wire : Binds K a.fd_number_wire ["words", "at"] []
  mg_number_wire : mg "number_wire" = some (.ref a.number_wire)
  F_is_name : Fun K "is_name" "is_name" s_is_name a.is_name a.fd_is_name
  b_is_name : Binds K a.fd_is_name ["word"] []
  mg_is_name : mg "is_name" = some (.ref a.is_name)
  F__block : Fun K "_block" "_block" s__block a._block a.fd__block
  b__block : Binds K a.fd__block ["words", "at", "free"] []
  mg__block : mg "_block" = some (.ref a._block)
  F__lean : Fun K "_lean" "_lean" s__lean a._lean a.fd__lean
  b__lean : Binds K a.fd__lean ["words", "at", "turn"] []
  mg__lean : mg "_lean" = some (.ref a._lean)
  F_read_letter : Fun K "read_letter" "read_letter" s_read_letter a.read_letter a.fd_read_letter
  b_read_letter : Binds K a.fd_read_letter ["line"] []
  mg_read_letter : mg "read_letter" = some (.ref a.read_letter)
  F__digits : Fun K "_digits" "_digits" s__digits a._digits a.fd__digits
  b__digits : Binds K a.fd__digits ["text", "at"] []
  mg__digits : mg "_digits" = some (.ref a._digits)
  F_number_commands : Fun K "_number" "_number" s_number_commands a.number_commands a.fd_number_commands
  b_number_commands : Binds K a.fd_number_commands ["word"] []
  mg_number_commands : mg "number_commands" = some (.ref a.number_commands)
  F__take : Fun K "_take" "_take" s__take a._take a.fd__take
  b__take : Binds K a.fd__take ["text", "at"] []
  mg__take : mg "_take" = some (.ref a._take)
  F_commands_of : Fun K "commands_of" "commands_of" s_commands_of a.commands_of a.fd_commands_of
  b_commands_of : Binds K a.fd_commands_of ["block"] []
  mg_commands_of : mg "commands_of" = some (.ref a.commands_of)
  F__numbers : Fun K "_numbers" "_numbers" s__numbers a._numbers a.fd__numbers
  b__numbers : Binds K a.fd__numbers ["words", "at"] []
  mg__numbers : mg "_numbers" = some (.ref a._numbers)
  F_read_event : Fun K "read_event" "read_event" s_read_event a.read_event a.fd_read_event
  b_read_event : Binds K a.fd_read_event ["line", "at"] []
  mg_read_event : mg "read_event" = some (.ref a.read_event)
  F_l_long : Fun K "_law_long" "_law_long" s_l_long a.l_long a.fd_l_long
  b_l_long : Binds K a.fd_l_long ["_law_size", "_law_at"] []
  mg_l_long : mg "_law_long" = some (.ref a.l_long)
  F_l_statement : Fun K "_law_statement" "_law_statement" s_l_statement a.l_statement a.fd_l_statement
  b_l_statement : Binds K a.fd_l_statement ["_law_digit", "_law_height"] []
  mg_l_statement : mg "_law_statement" = some (.ref a.l_statement)
  F_l_row : Fun K "_law_row" "_law_row" s_l_row a.l_row a.fd_l_row
  b_l_row : Binds K a.fd_l_row ["_law_cell_here", "_law_count", "_law_size"] []
  mg_l_row : mg "_law_row" = some (.ref a.l_row)
  F_l_code : Fun K "_law_code" "_law_code" s_l_code a.l_code a.fd_l_code
  b_l_code : Binds K a.fd_l_code ["_law_cell_here"] []
  mg_l_code : mg "_law_code" = some (.ref a.l_code)
  F_l_number : Fun K "_law_number" "_law_number" s_l_number a.l_number a.fd_l_number
  b_l_number : Binds K a.fd_l_number ["_law_cell_here"] []
  mg_l_number : mg "_law_number" = some (.ref a.l_number)
  F_l_command : Fun K "_law_command" "_law_command" s_l_command a.l_command a.fd_l_command
  b_l_command : Binds K a.fd_l_command ["_law_cell_here", "_law_more"] []
  mg_l_command : mg "_law_command" = some (.ref a.l_command)
  F_l_event : Fun K "_law_event" "_law_event" s_l_event a.l_event a.fd_l_event
  b_l_event : Binds K a.fd_l_event ["_law_cell_here", "_law_more", "_law_last"] []
  mg_l_event : mg "_law_event" = some (.ref a.l_event)
  F_l_text : Fun K "_law_text" "_law_text" s_l_text a.l_text a.fd_l_text
  b_l_text : Binds K a.fd_l_text ["_law_command_here"] []
  mg_l_text : mg "_law_text" = some (.ref a.l_text)
  F_l_line : Fun K "_law_line" "_law_line" s_l_line a.l_line a.fd_l_line
  b_l_line : Binds K a.fd_l_line ["_law_event_here"] []
  mg_l_line : mg "_law_line" = some (.ref a.l_line)
  F__part : Fun K "_part" "_part" s__part a._part a.fd__part
  b__part : Binds K a.fd__part ["value"] []
  mg__part : mg "_part" = some (.ref a._part)
  F_letter_line : Fun K "letter_line" "letter_line" s_letter_line a.letter_line a.fd_letter_line
  b_letter_line : Binds K a.fd_letter_line ["letter"] []
  mg_letter_line : mg "letter_line" = some (.ref a.letter_line)
  F_command_text : Fun K "command_text" "command_text" s_command_text a.command_text a.fd_command_text
  b_command_text : Binds K a.fd_command_text ["command"] []
  mg_command_text : mg "command_text" = some (.ref a.command_text)
  F_event_line : Fun K "event_line" "event_line" s_event_line a.event_line a.fd_event_line
  b_event_line : Binds K a.fd_event_line ["event"] []
  mg_event_line : mg "event_line" = some (.ref a.event_line)
  F_l_changed : Fun K "_law_changed" "_law_changed" s_l_changed a.l_changed a.fd_l_changed
  b_l_changed : Binds K a.fd_l_changed ["_law_line_here", "_law_way"] []
  mg_l_changed : mg "_law_changed" = some (.ref a.l_changed)
  F_l_is_integer : Fun K "_law_is_integer" "_law_is_integer" s_l_is_integer a.l_is_integer a.fd_l_is_integer
  b_l_is_integer : Binds K a.fd_l_is_integer ["_law_actual"] []
  mg_l_is_integer : mg "_law_is_integer" = some (.ref a.l_is_integer)
  F_l_reads : Fun K "_law_reads" "_law_reads" s_l_reads a.l_reads a.fd_l_reads
  b_l_reads : Binds K a.fd_l_reads ["_law_line_here", "_law_at"] []
  mg_l_reads : mg "_law_reads" = some (.ref a.l_reads)
  F_law : Fun K "law" "law" s_law a.law a.fd_law
  b_law : Binds K a.fd_law ["_law_script"] []
  mg_law : mg "law" = some (.ref a.law)
  n_abs : mg "abs" = none
  n_all : mg "all" = none
  n_bool : mg "bool" = none
  n_int : mg "int" = none
  n_isinstance : mg "isinstance" = none
  n_len : mg "len" = none
  n_range : mg "range" = none
  n_str : mg "str" = none
  n_super : mg "super" = none
  n_tuple : mg "tuple" = none
  n_zip : mg "zip" = none
  k_SHAPES : ∃ d, mg "SHAPES" = some (.ref d) ∧ DLZ.KD K w d [("p", .str "pqr"), ("w", .str "wx"), ("d", .str "dz"), ("k", .str "kbv")]
  k_LONGEST_commands : ∃ t, mg "LONGEST_commands" = some (.int 60 t)
  k_CODE : ∃ t, mg "CODE" = some (.str "acefghijlmnostuy0123456789" t)
  k_LETTERS : ∃ t, mg "LETTERS" = some (.str "abcdefghijklmnopqrstuvwxyz0123456789" t)
  k_LONGEST_wire : ∃ t, mg "LONGEST_wire" = some (.int 60 t)
  k_KINDS : ∃ d, mg "KINDS" = some (.ref d) ∧ DLZ.KD K w d [("deliver", .int 2), ("timeout", .int 1), ("assist", .int 2), ("crash", .int 1)]
  g_BadCommand : mg "BadCommand" = some (.ref a.E_BadCommand)
  g_BadLine : mg "BadLine" = some (.ref a.E_BadLine)
  g_BadScript : mg "BadScript" = some (.ref a.E_BadScript)
  g_TribunalError : mg "TribunalError" = some (.ref a.E_TribunalError)
  em_BadLine_BadLine : PySem.W.exmOne K (.ref a.E_BadLine) (.ref a.E_BadLine) = some true
  em_BadScript_BadScript : PySem.W.exmOne K (.ref a.E_BadScript) (.ref a.E_BadScript) = some true
  em_BadScript_TribunalError : PySem.W.exmOne K (.ref a.E_BadScript) (.ref a.E_TribunalError) = some true
  ec_BadScript : ExcC K a.E_BadScript
  kta_0 : PySem.W.kitAny K (.ref a.E_BadScript) [.ref a.E_BadCommand, .ref a.E_BadLine] = some false
  kt_BadScript_BadScript : PySem.W.kitOne K (.ref a.E_BadScript) (.ref a.E_BadScript) = some true
  su_BadLine : DLX.SupT P K a.E_BadLine a.I_BadLine a.fd_E_BadLine s_E_BadLine "BadLine.__init__" "at" "at"
  bi_BadLine : Binds K a.fd_E_BadLine ["self", "at"] []
  su_BadScript : DLX.SupT P K a.E_BadScript a.I_BadScript a.fd_E_BadScript s_E_BadScript "BadScript.__init__" "at" "at"
  bi_BadScript : Binds K a.fd_E_BadScript ["self", "at"] []
variable {P : Program} {w : World} {K : PySem.W.Frag} {mg : Str → Option Value} {base : Heap} {a : Ad}

theorem ok_E_BadLine (T : Txt P w K mg a) : FnOk P w K mg base CX0 1 a.I_BadLine a.fd_E_BadLine ["self", "at"] (DLX.spSup a.E_BadLine "at") := DLX.sup_ok (st := s_E_BadLine) T.su_BadLine rfl ⟨rfl, rfl, rfl, by decide, rfl, rfl, rfl, rfl, by decide +kernel, by decide, by decide, by decide +kernel⟩ T.n_super rfl rfl fun L f cda cc => ⟨⟨_, rfl⟩, rfl, rfl, rfl⟩
theorem ok_E_BadScript (T : Txt P w K mg a) : FnOk P w K mg base CX0 1 a.I_BadScript a.fd_E_BadScript ["self", "at"] (DLX.spSup a.E_BadScript "at") := DLX.sup_ok (st := s_E_BadScript) T.su_BadScript rfl ⟨rfl, rfl, rfl, by decide, rfl, rfl, rfl, rfl, by decide +kernel, by decide, by decide, by decide +kernel⟩ T.n_super rfl rfl fun L f cda cc => ⟨⟨_, rfl⟩, rfl, rfl, rfl⟩
theorem okH_E_BadScript (T : Txt P w K mg a) : L2H.FnH P w K mg base CX0 1 a.I_BadScript a.fd_E_BadScript ["self", "at"] (DLX.spSup a.E_BadScript "at") := DLX.sup_okH (st := s_E_BadScript) T.su_BadScript rfl ⟨rfl, rfl, rfl, by decide, rfl, rfl, rfl, rfl, by decide +kernel, by decide, by decide, by decide +kernel⟩ T.n_super rfl rfl fun L f cda cc => ⟨⟨_, rfl⟩, rfl, rfl, rfl⟩
theorem sc_l_cell : FnScope ["_law_script", "_law_k"] ["_law_script", "_law_k"] (defScope s_l_cell) := ⟨rfl, rfl, rfl, by decide +kernel, rfl, by decide +kernel, by decide +kernel⟩
def sp_l_cell : VSp := fun ds m Q _ => ∃ (ns : List Int) (k : Nat), ds = [.fz (ns.map D.int), .int k] ∧ Q (.int (cell ns k)) m

theorem ok_l_cell (T : Txt P w K mg a) : FnOk P w K mg base CX0 1 a.l_cell a.fd_l_cell ["_law_script", "_law_k"] (lowSp K 2 sp_l_cell) := by
  refine ufun T.F_l_cell sc_l_cell fun cdv A outer s H E B hr => ⟨_, let nd := sc_l_cell.nd; (uss_cons (us_if (ut_cmp uo_lt (ue_var 1) (ue_callB (ub_len) (by rfl) T.n_len bt_len (ua_cons (ue_var 0) ua_nil)) rfl) (uss_one (us_ret (ue_ix (ue_var 0) (ue_var 1)))) uss_nil)
    (uss_one (us_ret ue_int))), ?_⟩
  intro ds m Q PX hl h
  clear hl hr B E H s outer cdv A T
  obtain ⟨ns, k, rfl, q⟩ := h
  walk_at "g"
  · exact q
  · have hk : ns.length ≤ k := by simpa using hb
    exact fin_d q (by rw [cell, List.getD_eq_getElem?_getD, List.getElem?_eq_none (by omega)]; rfl)
theorem sc_number_of : FnScope ["word"] ["word"] (defScope s_number_of) := ⟨rfl, rfl, rfl, by decide +kernel, rfl, by decide +kernel, by decide +kernel⟩
def sp_number_of : VSp := fun ds m Q _ => ∃ w : Str, ds = [.str w] ∧ w.length ≤ 1000000 ∧ Q (oiD (numP w)) m

theorem ok_number_of (T : Txt P w K mg a) : FnOk P w K mg base CX0 1 a.number_of a.fd_number_of ["word"] (lowSp K 1 sp_number_of) := by
  refine ufun T.F_number_of sc_number_of fun cdv A outer s H E B hr => ⟨_, let nd := sc_number_of.nd; (uss_cons (us_if (UW.ut (uw_or (ut_cmp uo_gt (ue_callB (ub_len) (by rfl) T.n_len bt_len (ua_cons (ue_var 0) ua_nil)) ue_int rfl) (uw_or (ut_not (ut_tru (ue_bm0 PySem.F.plainAttrs_str PySem.F.slot_str_isascii PySem.F.type_str_isascii um_isascii (ue_var 0)))) (uw_or (ut_not (ut_tru (ue_bm0 PySem.F.plainAttrs_str PySem.F.slot_str_isdigit PySem.F.type_str_isdigit um_isdigit (ue_var 0)))) (uw_or1 (UW.ut (uw_and (ut_cmp (uo_eq (u64 hr)) (ue_ix (ue_var 0) ue_int) ue_str rfl) (uw_and1 (ut_cmp (uo_ne (u64 hr)) (ue_var 0) ue_str rfl))))))))) (uss_one (us_ret ue_non)) uss_nil)
    (uss_one (us_ret (ue_callTy (ub_intS) (by rfl) T.n_int bt_int (ua_cons (ue_var 0) ua_nil))))), ?_⟩
  intro ds m Q PX hl h
  clear hl hr B E H s outer cdv A T
  obtain ⟨w, rfl, hw, q⟩ := h
  have hl := str_len w
  cases hc : w.cps.toList with
  | nil =>
    have e := str_nil hc
    subst e
    have e1 : numP (Str.ofString "") = none := by decide +kernel
    have e2 : Txt.isdigit (Str.ofString "") = false := by decide +kernel
    rw [e1] at q
    walk_at "g"
    all_goals first
      | exact q
      | (exfalso
         have hx : Txt.isdigit (Str.ofString "") = true := by assumption
         rw [e2] at hx
         cases hx
         done)
  | cons c cs =>
    have hat : atI w.cps.toList 0 = some c := by rw [hc]; exact atI0
    cases hN : isNum w with
    | true =>
      have e1 : numP w = some (numV w) := if_pos hN
      have ha := num_ascii hN
      have hd := num_digit hN
      have hz := num_zero hc hN
      obtain ⟨hi, h9⟩ := isNum_int hN
      rw [e1] at q
      replace q : Q (.int (numV w)) m := q
      walk_at "g"
      all_goals first
        | exact ⟨_, hi, by omega, q⟩
        | exact q
        | (exfalso; clear q; omega; done)
        | (exfalso
           have hx : Txt.isascii w = false := by assumption
           rw [ha] at hx
           cases hx
           done)
        | (exfalso
           have hx : Txt.isdigit w = false := by assumption
           rw [hd] at hx
           cases hx
           done)
        | (exfalso; exact absurd (hz (by assumption)) (by assumption))
    | false =>
      have e1 : numP w = none := if_neg (by rw [hN]; exact Bool.false_ne_true)
      rw [e1] at q
      replace q : Q .non m := q
      walk_at "g"
      all_goals first
        | exact q
        | (exfalso
           have hx : isNum w = true := isNum_of hc (by omega) (by assumption) (by assumption) (fun k => by first | assumption | exact absurd k (by assumption))
           rw [hN] at hx
           cases hx
           done)
theorem sc_number_wire : FnScope ["words", "at", "number"] ["words", "at"] (defScope s_number_wire) := ⟨rfl, rfl, rfl, by decide +kernel, rfl, by decide +kernel, by decide +kernel⟩
def sp_number_wire (a : Ad) : VSp := fun ds m Q PX => ∃ (ws : List Str) (i : Nat), ds = [.lst (ws.map .str), .int i] ∧ (∀ w ∈ ws, w.length ≤ 1000000) ∧ (match atP ws i with | some n => Q (.int n) m | none => PX a.E_BadLine ["at"] [.int i] m)

theorem ok_number_wire (T : Txt P w K mg a) : FnOk P w K mg base (L2N.CX P w) 3 a.number_wire a.fd_number_wire ["words", "at"] (lowSp K 2 (sp_number_wire a)) := by
  refine ufunX T.F_number_wire sc_number_wire fun cdv A outer s H E B PX hr W => ⟨_, let nd := sc_number_wire.nd; (uss_cons (us_set (i := 2) nd ue_non)
    (uss_cons (us_if (ut_cmp uo_lt (ue_var 1) (ue_callB (ub_len) (by rfl) T.n_len bt_len (ua_cons (ue_var 0) ua_nil)) rfl) (uss_one (us_set (i := 2) nd (ue_call (ok_number_of T) (hr.mono (by decide)) (by rfl) T.mg_number_of T.F_number_of.kp T.b_number_of pass0 Wsh.no (ua_cons (ue_ix (ue_var 0) (ue_var 1)) ua_nil)))) uss_nil)
    (uss_cons (us_if (ut_cmp uo_is (ue_var 2) ue_non rfl) (uss_one (us_raiseA (pn := "at") (atn := "at") rfl (L2N.takes_of rfl rfl rfl rfl) W.f T.su_BadLine.oex T.su_BadLine.ic T.su_BadLine.ti (ok_E_BadLine T) (hr.mono (by decide)) T.bi_BadLine pass0 (by exact rfl) T.g_BadLine (ue_var 1))) uss_nil)
    (uss_one (us_ret (ue_var 2)))))), ?_⟩
  intro ds m Q hl h
  clear hl W hr B E H s outer cdv A T
  obtain ⟨ws, i, rfl, hw, q⟩ := h
  cases hi : ws[i]? with
  | none =>
    have e : atP ws i = none := by unfold atP; rw [hi]; rfl
    have hl : ws.length ≤ i := List.getElem?_eq_none_iff.mp hi
    rw [e] at q
    replace q : PX a.E_BadLine ["at"] [.int i] m := q
    walk_at "g"
    all_goals first
      | exact q
      | (exfalso; clear q; omega)
  | some w =>
    have e : atP ws i = numP w := by unfold atP; rw [hi]; rfl
    have hl : i < ws.length := (List.getElem?_eq_some_iff.mp hi).1
    have hwl := hw w (List.mem_of_getElem? hi)
    have hat := atW hi
    rw [e] at q
    cases hn : numP w with
    | none =>
      rw [hn] at q
      replace q : PX a.E_BadLine ["at"] [.int i] m := q
      walk_at "g"
      all_goals first
        | exact q
        | (exfalso; clear q; omega; done)
        | exact absurd hn (by assumption)
    | some n =>
      rw [hn] at q
      replace q : Q (.int n) m := q
      walk_at "g"
      all_goals first
        | (rw [hn]; exact q)
        | (exfalso; clear q; omega; done)
        | (exfalso
           have hx : numP w = none := by assumption
           rw [hn] at hx
           cases hx
           done)
theorem sc_is_name : FnScope ["word", "char"] ["word"] (defScope s_is_name) := ⟨rfl, rfl, rfl, by decide +kernel, rfl, by decide +kernel, by decide +kernel⟩
def sp_is_name : VSp := fun ds m Q _ => ∃ w : Str, ds = [.str w] ∧ w.length ≤ 1000000 ∧ Q (.bl (isName w)) m

theorem ok_is_name (T : Txt P w K mg a) : FnOk P w K mg base CX0 1 a.is_name a.fd_is_name ["word"] (lowSp K 1 sp_is_name) := by
  refine ufun T.F_is_name sc_is_name fun cdv A outer s H E B hr => ⟨_, let nd := sc_is_name.nd; (uss_one (us_ret (ue_and (ue_chain uo_lt uo_le ue_int (ue_callB (ub_len) (by rfl) T.n_len bt_len (ua_cons (ue_var 0) ua_nil)) (ue_gint T.k_LONGEST_wire (by rfl))) (ue_and (ue_bm0 PySem.F.plainAttrs_str PySem.F.slot_str_islower PySem.F.type_str_islower um_islower (ue_ix (ue_var 0) ue_int)) (ue_one (ue_callB (ub_all rfl) (by rfl) T.n_all bt_all (ua_cons (ue_lc (g := (.one 1)) rfl nd (ui_str (ue_var 0)) (blkOk_by (N := ["word", "char"]) (sc := defScope s_is_name) (own := [("char", 1)]) (by decide +kernel)) (fun _ _ _ _ _ => (pgn 1 nd)) (fun _ _ _ _ _ => uts_nil) (fun _ _ _ _ _ => (ue_cmp (uo_in (u65 hr)) (ue_var 1) (ue_gstr T.k_LETTERS (by rfl)) rfl)) (by decide)) ua_nil))))))), ?_⟩
  intro ds m Q PX hl h
  clear hl hr B E H s outer cdv A T
  obtain ⟨w, rfl, hw, q⟩ := h
  have hl := str_len w
  cases hc : w.cps.toList with
  | nil =>
    have e := str_nil hc
    subst e
    have e1 : isName (Str.ofString "") = false := by decide +kernel
    rw [e1] at q
    walk_at "g"
    all_goals first
      | exact q
      | (exfalso
         have hx : 0 < (Str.ofString "").length := by assumption
         exact absurd hx (by decide)
         done)
  | cons c cs =>
    have hat : atI w.cps.toList 0 = some c := by rw [hc]; exact atI0
    have hat' : w.cps.toList.length = cs.length + 1 := by rw [hc, List.length_cons]
    have hN := isName_cons hc
    walk_at "g"
    · rw [hN, decide_eq_true (show cs.length ≤ 59 by omega), Bool.true_and] at q
      refine lc_all (fun c : Nat => D.str ⟨#[c]⟩) (fun c => .bl (isLow c || isDig c)) w.cps.toList (by simp only [sizeLine]; omega) ?_ ?_
      · intro x hx acc R hs hR
        refine ⟨_, by walk_at "t", ?_⟩
        have e : decide (x ∈ (Str.ofString "abcdefghijklmnopqrstuvwxyz0123456789").cps.toList) = (isLow x || isDig x) := by
          rw [Bool.eq_iff_iff, decide_eq_true_iff, Array.mem_toList_iff]
          exact mem_lets
        walk_at "g"
        rw [e]
        exact hR
      · walk_at "g"
        refine ⟨w.cps.toList.map fun c => isLow c || isDig c, by rw [List.map_map]; rfl, fin_bl q ?_⟩
        rw [List.all_map]
        show _ = w.cps.toList.all fun c => isLow c || isDig c
        cases k : w.cps.toList.all fun c => isLow c || isDig c with
        | false => rw [Bool.and_false]
        | true =>
          have h1 := List.all_eq_true.mp k c (by rw [hc]; simp)
          rw [← lower_one (lets_lt h1), hb]
          rfl
    · refine fin_bl q ?_
      rw [hN]
      cases k : w.cps.toList.all fun c => isLow c || isDig c with
      | false => rw [Bool.and_false]
      | true =>
        have h1 := List.all_eq_true.mp k c (by rw [hc]; simp)
        rw [← lower_one (lets_lt h1), hb]
        simp
    · refine fin_bl q ?_
      rw [hN, decide_eq_false (show ¬cs.length ≤ 59 by omega)]
      rfl
    · exfalso
      omega
theorem sc__block : FnScope ["words", "at", "free"] ["words", "at", "free"] (defScope s__block) := ⟨rfl, rfl, rfl, by decide +kernel, rfl, by decide +kernel, by decide +kernel⟩
def sp__block (a : Ad) : VSp := fun ds m Q PX => ∃ (ws : List Str) (i : Nat) (free : Bool), ds = [.lst (ws.map .str), .int i, .bl free] ∧ (∀ w ∈ ws, w.length ≤ 1000000) ∧ (match blockP ws i free with | some b => Q (obD b) m | none => PX a.E_BadLine ["at"] [.int i] m)

theorem ok__block (T : Txt P w K mg a) : FnOk P w K mg base (L2N.CX P w) 3 a._block a.fd__block ["words", "at", "free"] (lowSp K 3 (sp__block a)) := by
  refine ufunX T.F__block sc__block fun cdv A outer s H E B PX hr W => ⟨_, let nd := sc__block.nd; (uss_cons (us_if (UW.ut (uw_and (ut_cmp uo_lt (ue_var 1) (ue_callB (ub_len) (by rfl) T.n_len bt_len (ua_cons (ue_var 0) ua_nil)) rfl) (uw_and (ut_tru (ue_var 2)) (uw_and1 (ut_cmp (uo_eq (u64 hr)) (ue_ix (ue_var 0) (ue_var 1)) ue_str rfl))))) (uss_one (us_ret ue_non)) uss_nil)
    (uss_cons (us_if (UW.ut (uw_or (ut_cmp uo_ge (ue_var 1) (ue_callB (ub_len) (by rfl) T.n_len bt_len (ua_cons (ue_var 0) ua_nil)) rfl) (uw_or1 (ut_not (ut_tru (ue_call (ok_is_name T) (hr.mono (by decide)) (by rfl) T.mg_is_name T.F_is_name.kp T.b_is_name pass0 Wsh.no (ua_cons (ue_ix (ue_var 0) (ue_var 1)) ua_nil))))))) (uss_one (us_raiseA (pn := "at") (atn := "at") rfl (L2N.takes_of rfl rfl rfl rfl) W.f T.su_BadLine.oex T.su_BadLine.ic T.su_BadLine.ti (ok_E_BadLine T) (hr.mono (by decide)) T.bi_BadLine pass0 (by exact rfl) T.g_BadLine (ue_var 1))) uss_nil)
    (uss_one (us_ret (ue_ix (ue_var 0) (ue_var 1)))))), ?_⟩
  intro ds m Q hl h
  clear hl W hr B E H s outer cdv A T
  obtain ⟨ws, i, free, rfl, hw, q⟩ := h
  unfold blockP at q
  cases hi : ws[i]? with
  | none =>
    have hl : ws.length ≤ i := List.getElem?_eq_none_iff.mp hi
    rw [hi] at q
    replace q : PX a.E_BadLine ["at"] [.int i] m := q
    walk_at "g"
    all_goals first
      | exact q
      | (exfalso; clear q; omega)
  | some w =>
    have hl : i < ws.length := (List.getElem?_eq_some_iff.mp hi).1
    have hwl := hw w (List.mem_of_getElem? hi)
    have hat := atW hi
    rw [hi] at q
    dsimp only at q
    by_cases hf : free = true ∧ w = Str.ofString "-"
    · rw [if_pos hf] at q
      replace q : Q .non m := q
      obtain ⟨rfl, rfl⟩ := hf
      walk_at "g"
      all_goals first
        | exact q
        | (exfalso; clear q; omega; done)
        | (exfalso; exact absurd rfl (by assumption))
    · rw [if_neg hf] at q
      by_cases hn : isName w = true
      · rw [if_pos hn] at q
        replace q : Q (.str w) m := q
        walk_at "g"
        all_goals first
          | exact q
          | (exfalso; clear q; omega; done)
          | (exfalso; exact hf ⟨by assumption, by assumption⟩; done)
          | (exfalso
             have hx : isName w = false := by assumption
             rw [hn] at hx
             cases hx
             done)
          | (exfalso; exact hn (by assumption))
      · rw [if_neg hn] at q
        replace q : PX a.E_BadLine ["at"] [.int i] m := q
        walk_at "g"
        all_goals first
          | exact q
          | (exfalso; clear q; omega; done)
          | (exfalso; exact hf ⟨by assumption, by assumption⟩; done)
          | (exfalso
             have hx : isName w = false := by assumption
             rw [hn] at hx
             cases hx
             done)
          | (exfalso; exact hn (by assumption))
theorem sc__lean : FnScope ["words", "at", "turn", "lean"] ["words", "at", "turn"] (defScope s__lean) := ⟨rfl, rfl, rfl, by decide +kernel, rfl, by decide +kernel, by decide +kernel⟩
def sp__lean (a : Ad) : VSp := fun ds m Q PX => ∃ (ws : List Str) (i : Nat) (t : Int), ds = [.lst (ws.map .str), .int i, .int t] ∧ (∀ w ∈ ws, w.length ≤ 1000000) ∧ (match leanP ws i t with | some b => Q (oiD b) m | none => PX a.E_BadLine ["at"] [.int i] m)

theorem ok__lean (T : Txt P w K mg a) : FnOk P w K mg base (L2N.CX P w) 4 a._lean a.fd__lean ["words", "at", "turn"] (lowSp K 3 (sp__lean a)) := by
  refine ufunX T.F__lean sc__lean fun cdv A outer s H E B PX hr W => ⟨_, let nd := sc__lean.nd; (uss_cons (us_if (UW.ut (uw_and (ut_cmp uo_lt (ue_var 1) (ue_callB (ub_len) (by rfl) T.n_len bt_len (ua_cons (ue_var 0) ua_nil)) rfl) (uw_and1 (ut_cmp (uo_eq (u64 hr)) (ue_ix (ue_var 0) (ue_var 1)) ue_str rfl)))) (uss_one (us_ret ue_non)) uss_nil)
    (uss_cons (us_set (i := 3) nd (ue_call (ok_number_wire T) (hr.mono (by decide)) (by rfl) T.mg_number_wire T.F_number_wire.kp T.b_number_wire passX W (ua_cons (ue_var 0) (ua_cons (ue_var 1) ua_nil))))
    (uss_cons (us_if (ut_cmp uo_ge (ue_var 3) (ue_var 2) rfl) (uss_one (us_raiseA (pn := "at") (atn := "at") rfl (L2N.takes_of rfl rfl rfl rfl) W.f T.su_BadLine.oex T.su_BadLine.ic T.su_BadLine.ti (ok_E_BadLine T) (hr.mono (by decide)) T.bi_BadLine pass0 (by exact rfl) T.g_BadLine (ue_var 1))) uss_nil)
    (uss_one (us_ret (ue_var 3)))))), ?_⟩
  intro ds m Q hl h
  clear hl W hr B E H s outer cdv A T
  obtain ⟨ws, i, t, rfl, hw, q⟩ := h
  unfold leanP at q
  cases hi : ws[i]? with
  | none =>
    have hl : ws.length ≤ i := List.getElem?_eq_none_iff.mp hi
    have ha : atP ws i = none := by unfold atP; rw [hi]; rfl
    rw [hi] at q
    replace q : PX a.E_BadLine ["at"] [.int i] m := q
    walk_at "g"
    all_goals first
      | (exfalso; clear q; omega; done)
      | (rw [ha]; exact q)
  | some w =>
    have hl : i < ws.length := (List.getElem?_eq_some_iff.mp hi).1
    have hwl := hw w (List.mem_of_getElem? hi)
    have hat := atW hi
    have ha : atP ws i = numP w := by unfold atP; rw [hi]; rfl
    rw [hi] at q
    dsimp only at q
    by_cases hd : w = Str.ofString "-"
    · rw [if_pos hd] at q
      replace q : Q .non m := q
      walk_at "g"
      all_goals first
        | exact q
        | (exfalso; clear q; omega; done)
        | (exfalso; exact absurd hd (by assumption))
    · rw [if_neg hd] at q
      walk_at "g"
      · exact absurd (by assumption) hd
      · rw [ha]
        cases hn : numP w with
        | none =>
          rw [hn] at q
          exact q
        | some n =>
          rw [hn] at q
          dsimp only at q
          walk_at "g"
          · rw [if_neg (by omega)] at q
            exact q
          · rw [if_pos (by omega)] at q
            exact q
      · exfalso
        clear q
        omega
theorem sc_read_letter : FnScope ["line", "words", "sender", "kind", "height", "turn", "block", "statement"] ["line"] (defScope s_read_letter) := ⟨rfl, rfl, rfl, by decide +kernel, rfl, by decide +kernel, by decide +kernel⟩
def sp_read_letter (a : Ad) : VSp := fun ds m Q PX => ∃ z : Str, ds = [.str z] ∧ z.length ≤ 800000 ∧ (match readP (wordsL z) with | .ok l => Q l.d m | .error i => PX a.E_BadLine ["at"] [.int i] m)

theorem ok_read_letter (T : Txt P w K mg a) : FnOk P w K mg base (L2N.CX P w) 5 a.read_letter a.fd_read_letter ["line"] (lowSp K 1 (sp_read_letter a)) := by
  refine ufunX T.F_read_letter sc_read_letter fun cdv A outer s H E B PX hr W => ⟨_, let nd := sc_read_letter.nd; (uss_cons (us_set (i := 1) nd (ue_bm PySem.F.plainAttrs_str PySem.F.slot_str_split PySem.F.type_str_split um_split (ue_var 0) (ua_cons ue_str ua_nil)))
    (uss_cons (us_set (i := 2) nd (ue_call (ok_number_wire T) (hr.mono (by decide)) (by rfl) T.mg_number_wire T.F_number_wire.kp T.b_number_wire passX W (ua_cons (ue_var 1) (ua_cons ue_int ua_nil))))
    (uss_cons (us_set (i := 3) nd ue_str)
    (uss_cons (us_if (ut_cmp uo_gt (ue_callB (ub_len) (by rfl) T.n_len bt_len (ua_cons (ue_var 1) ua_nil)) ue_int rfl) (uss_one (us_set (i := 3) nd (ue_ix (ue_var 1) ue_int))) uss_nil)
    (uss_cons (us_if (ut_cmp (uo_notIn (u65 hr)) (ue_var 3) (ue_tup (ua_cons ue_str (ua_cons ue_str (ua_cons ue_str ua_nil)))) rfl) (uss_one (us_raiseA (pn := "at") (atn := "at") rfl (L2N.takes_of rfl rfl rfl rfl) W.f T.su_BadLine.oex T.su_BadLine.ic T.su_BadLine.ti (ok_E_BadLine T) (hr.mono (by decide)) T.bi_BadLine pass0 (by exact rfl) T.g_BadLine ue_int)) uss_nil)
    (uss_cons (us_set (i := 4) nd (ue_call (ok_number_wire T) (hr.mono (by decide)) (by rfl) T.mg_number_wire T.F_number_wire.kp T.b_number_wire passX W (ua_cons (ue_var 1) (ua_cons ue_int ua_nil))))
    (uss_cons (us_set (i := 5) nd (ue_call (ok_number_wire T) (hr.mono (by decide)) (by rfl) T.mg_number_wire T.F_number_wire.kp T.b_number_wire passX W (ua_cons (ue_var 1) (ua_cons ue_int ua_nil))))
    (uss_cons (us_set (i := 6) nd (ue_call (ok__block T) (hr.mono (by decide)) (by rfl) T.mg__block T.F__block.kp T.b__block passX W (ua_cons (ue_var 1) (ua_cons ue_int (ua_cons (ue_cmp (uo_ne (u64 hr)) (ue_var 3) ue_str rfl) ua_nil)))))
    (uss_cons (us_set (i := 7) nd (ue_tup (ua_cons (ue_var 3) (ua_cons (ue_var 4) (ua_cons (ue_var 5) (ua_cons (ue_var 6) ua_nil))))))
    (uss_cons (us_if (ut_cmp (uo_eq (u64 hr)) (ue_var 3) ue_str rfl) (uss_one (us_set (i := 7) nd (ue_op uo_add (ue_var 7) (ue_tup (ua_cons (ue_call (ok__lean T) (hr.mono (by decide)) (by rfl) T.mg__lean T.F__lean.kp T.b__lean passX W (ua_cons (ue_var 1) (ua_cons ue_int (ua_cons (ue_var 5) ua_nil)))) ua_nil))))) uss_nil)
    (uss_cons (us_if (ut_cmp uo_gt (ue_callB (ub_len) (by rfl) T.n_len bt_len (ua_cons (ue_var 1) ua_nil)) (ue_op uo_add (ue_callB (ub_len) (by rfl) T.n_len bt_len (ua_cons (ue_var 7) ua_nil)) ue_int) rfl) (uss_one (us_raiseA (pn := "at") (atn := "at") rfl (L2N.takes_of rfl rfl rfl rfl) W.f T.su_BadLine.oex T.su_BadLine.ic T.su_BadLine.ti (ok_E_BadLine T) (hr.mono (by decide)) T.bi_BadLine pass0 (by exact rfl) T.g_BadLine (ue_op uo_add (ue_callB (ub_len) (by rfl) T.n_len bt_len (ua_cons (ue_var 7) ua_nil)) ue_int))) uss_nil)
    (uss_one (us_ret (ue_tup (ua_cons (ue_var 2) (ua_cons (ue_var 7) ua_nil)))))))))))))))), ?_⟩
  intro ds m Q hl h
  clear hl W hr B E H s outer cdv A T
  obtain ⟨z, rfl, hz, q⟩ := h
  have hw : ∀ w ∈ wordsL z, w.length ≤ 1000000 := fun w h => Nat.le_trans (words_mem h).1 (by omega)
  have hlen := words_len z
  walk_at "g"
  rw [show Txt.split z (Str.ofString " ") = wordsL z from rfl]
  generalize wordsL z = ws at q hw hlen ⊢
  unfold readP at q
  cases h0 : atP ws 0 with
  | none =>
    rw [h0] at q
    exact q
  | some who =>
    rw [h0] at q
    dsimp only at q
    cases h1 : ws[1]? with
    | none =>
      have hl1 : ws.length ≤ 1 := List.getElem?_eq_none_iff.mp h1
      have e : ws.getD 1 "" = "" := by rw [List.getD_eq_getElem?_getD, h1]; rfl
      rw [e, if_pos (by decide +kernel)] at q
      replace q : PX a.E_BadLine ["at"] [.int 1] m := q
      have hk : din (.str "") [.str "proposal", .str "prevote", .str "precommit"] = false := (din_kind "").trans (by decide +kernel)
      walk_at "g"
      all_goals first
        | exact q
        | (exfalso; clear q; omega)
    | some k =>
      have hl1 : 1 < ws.length := (List.getElem?_eq_some_iff.mp h1).1
      have e : ws.getD 1 "" = k := by rw [List.getD_eq_getElem?_getD, h1]; rfl
      have hat : atI (ws.map D.str) 1 = some (.str k) := atW h1
      have hk := din_kind k
      rw [e] at q
      walk_at "g"
      rotate_left 2
      · exfalso; clear q; omega
      · exfalso; clear q; omega
      · rw [if_pos hb] at q
        exact q
      rw [if_neg (by rw [hb]; simp)] at q
      cases h2 : atP ws 2 with
      | none =>
        rw [h2] at q
        exact q
      | some h =>
        rw [h2] at q
        dsimp only at q
        walk_at "g"
        cases h3 : atP ws 3 with
        | none =>
          rw [h3] at q
          exact q
        | some t =>
          rw [h3] at q
          dsimp only at q
          walk_at "g"
          rw [show nb true (decide (k = Str.ofString "proposal")) = decide (k ≠ Str.ofString "proposal") by simp [nb]]
          cases h4 : blockP ws 4 (decide (k ≠ Str.ofString "proposal")) with
          | none =>
            rw [h4] at q
            exact q
          | some b =>
            rw [h4] at q
            dsimp only at q
            have hkb : k = "proposal" ∨ k = "prevote" ∨ k = "precommit" := of_decide_eq_true hb
            walk_at "g"
            · have hp : k = Str.ofString "prevote" := by assumption
              rw [if_pos hp] at q
              cases h5 : leanP ws 5 t with
              | none =>
                rw [h5] at q
                exact q
              | some l =>
                rw [h5] at q
                dsimp only at q
                subst hp
                walk_at "g"
                refine ⟨by simp, by simp [sizeLine], ?_⟩
                walk_at "g"
                · rw [if_pos (by omega)] at q
                  exact q
                · rw [if_neg (by omega)] at q
                  exact q
            · have hp : ¬k = Str.ofString "prevote" := by assumption
              rw [if_neg hp, if_pos (by omega)] at q
              exact q
            · have hp : ¬k = Str.ofString "prevote" := by assumption
              rw [if_neg hp, if_neg (by omega)] at q
              rcases hkb with rfl | rfl | rfl
              · exact q
              · exact absurd rfl hp
              · exact q
theorem sc__digits : FnScope ["text", "at"] ["text", "at"] (defScope s__digits) := ⟨rfl, rfl, rfl, by decide +kernel, rfl, by decide +kernel, by decide +kernel⟩
def sp__digits : VSp := fun ds m Q _ => ∃ (z : Str) (i : Nat), ds = [.str z, .int i] ∧ z.length ≤ 1000000 ∧ Q (.int ((i + ((z.cps.toList.drop i).takeWhile isDig).length : Nat) : Int)) m

theorem ok__digits (T : Txt P w K mg a) : FnOk P w K mg base CX0 1 a._digits a.fd__digits ["text", "at"] (lowSp K 2 sp__digits) := by
  refine ufun T.F__digits sc__digits fun cdv A outer s H E B hr => ⟨_, let nd := sc__digits.nd; (uss_cons (us_while PassesOwn.never (UW.ut (uw_and (ut_cmp uo_lt (ue_var 1) (ue_callB (ub_len) (by rfl) T.n_len bt_len (ua_cons (ue_var 0) ua_nil)) rfl) (uw_and1 (ut_cmp (uo_in (u65 hr)) (ue_ix (ue_var 0) (ue_var 1)) ue_str rfl)))) (uss_one (us_set (i := 1) nd (ue_op uo_add (ue_var 1) ue_int))))
    (uss_one (us_ret (ue_var 1)))), ?_⟩
  intro ds m Q PX hl h
  clear hl hr B E H s outer cdv A T
  obtain ⟨z, i, rfl, hz, q⟩ := h
  have hl := str_len z
  refine ⟨fun n ρ m' => ∃ j : Nat, n = z.length - j ∧ m' = m ∧ ρ = [some (.str z), some (.int j)] ∧ j + ((z.cps.toList.drop j).takeWhile isDig).length = i + ((z.cps.toList.drop i).takeWhile isDig).length, ⟨_, i, rfl, rfl, rfl, rfl⟩, ?_⟩
  rintro n ρ m' ⟨j, rfl, rfl, rfl, hj⟩
  by_cases hlt : j < z.length
  · obtain ⟨c, hc⟩ : ∃ c, z.cps.toList[j]? = some c := ⟨_, List.getElem?_eq_getElem (by omega)⟩
    have hat : atI z.cps.toList (j : Int) = some c := atI_nat hc
    have hdr : z.cps.toList.drop j = c :: z.cps.toList.drop (j + 1) := by
      rw [List.drop_eq_getElem_cons (by omega)]
      rw [List.getElem?_eq_getElem (by omega)] at hc
      rw [Option.some.inj hc]
    have hmem : (c ∈ (Str.ofString "0123456789").cps.toList) ↔ isDig c = true := mem_digs
    walk_at "g"
    · have hd : isDig c = true := hmem.mp (by first | assumption | exact Array.mem_toList_iff.mpr (by assumption))
      refine ⟨z.length - (j + 1), by omega, j + 1, rfl, rfl, rfl, ?_⟩
      rw [hdr, List.takeWhile_cons, if_pos hd, List.length_cons] at hj
      omega
    · have hd : ¬isDig c = true := fun k => absurd (hmem.mpr k) (by first | assumption | (rw [Array.mem_toList_iff]; assumption))
      rw [hdr, List.takeWhile_cons, if_neg hd] at hj
      rw [show ((j : Nat) : Int) = ((i + ((z.cps.toList.drop i).takeWhile isDig).length : Nat) : Int) by rw [← hj]; simp]
      exact q
    · exfalso
      clear q
      omega
  · walk_at "g"
    · exfalso
      clear q
      omega
    · rw [List.drop_eq_nil_of_le (by omega)] at hj
      rw [show ((j : Nat) : Int) = ((i + ((z.cps.toList.drop i).takeWhile isDig).length : Nat) : Int) by rw [← hj]; simp]
      exact q
theorem sc_number_commands : FnScope ["word"] ["word"] (defScope s_number_commands) := ⟨rfl, rfl, rfl, by decide +kernel, rfl, by decide +kernel, by decide +kernel⟩
-- IF def _number(word):
def sp_number_commands : VSp := fun ds m Q _ => ∃ w : Str, ds = [.str w] ∧ w.length ≤ 1000000 ∧ Q (oiD (numC w.cps.toList)) m
theorem num6 (w : Str) : numC w.cps.toList = if w.length ≤ 6 then numP w else none := by
  unfold numC
  rw [str_len]

theorem ok_number_commands (T : Txt P w K mg a) : FnOk P w K mg base CX0 1 a.number_commands a.fd_number_commands ["word"] (lowSp K 1 sp_number_commands) := by
  refine ufun T.F_number_commands sc_number_commands fun cdv A outer s H E B hr => ⟨_, let nd := sc_number_commands.nd; (uss_cons (us_if (UW.ut (uw_or (ut_not (ut_chain uo_lt uo_le ue_int (ue_callB (ub_len) (by rfl) T.n_len bt_len (ua_cons (ue_var 0) ua_nil)) ue_int)) (uw_or (ut_not (ut_tru (ue_bm0 PySem.F.plainAttrs_str PySem.F.slot_str_isascii PySem.F.type_str_isascii um_isascii (ue_var 0)))) (uw_or (ut_not (ut_tru (ue_bm0 PySem.F.plainAttrs_str PySem.F.slot_str_isdigit PySem.F.type_str_isdigit um_isdigit (ue_var 0)))) (uw_or1 (UW.ut (uw_and (ut_cmp (uo_eq (u64 hr)) (ue_ix (ue_var 0) ue_int) ue_str rfl) (uw_and1 (ut_cmp (uo_ne (u64 hr)) (ue_var 0) ue_str rfl))))))))) (uss_one (us_ret ue_non)) uss_nil)
    (uss_one (us_ret (ue_callTy (ub_intS) (by rfl) T.n_int bt_int (ua_cons (ue_var 0) ua_nil))))), ?_⟩
  intro ds m Q PX hl h
  clear hl hr B E H s outer cdv A T
  obtain ⟨w, rfl, hw, q⟩ := h
  have hl := str_len w
  rw [num6] at q
  cases hc : w.cps.toList with
  | nil =>
    have e := str_nil hc
    subst e
    have e1 : numP (Str.ofString "") = none := by decide +kernel
    have e2 : Txt.isdigit (Str.ofString "") = false := by decide +kernel
    rw [e1, if_pos (by decide)] at q
    walk_at "g"
    all_goals first
      | exact q
      | (exfalso
         have hx : Txt.isdigit (Str.ofString "") = true := by assumption
         rw [e2] at hx
         cases hx
         done)
      | (exfalso
         have hx : (Str.ofString "").length ≤ 6 := by decide
         have hy : 0 < (Str.ofString "").length := by assumption
         exact absurd hy (by decide))
  | cons c cs =>
    have hat : atI w.cps.toList 0 = some c := by rw [hc]; exact atI0
    have h0 : 0 < w.length := by rw [hl, hc]; simp
    by_cases h6 : w.length ≤ 6
    · rw [if_pos h6] at q
      cases hN : isNum w with
      | true =>
        have e1 : numP w = some (numV w) := if_pos hN
        have ha := num_ascii hN
        have hd := num_digit hN
        have hz := num_zero hc hN
        obtain ⟨hi, h9⟩ := isNum_int hN
        rw [e1] at q
        replace q : Q (.int (numV w)) m := q
        walk_at "g"
        all_goals first
          | exact ⟨_, hi, by omega, q⟩
          | exact q
          | (exfalso; clear q; omega; done)
          | (exfalso
             have hx : Txt.isascii w = false := by assumption
             rw [ha] at hx
             cases hx
             done)
          | (exfalso
             have hx : Txt.isdigit w = false := by assumption
             rw [hd] at hx
             cases hx
             done)
          | (exfalso; exact absurd (hz (by assumption)) (by assumption))
      | false =>
        have e1 : numP w = none := if_neg (by rw [hN]; exact Bool.false_ne_true)
        rw [e1] at q
        replace q : Q .non m := q
        walk_at "g"
        all_goals first
          | exact q
          | (exfalso; clear q; omega; done)
          | (exfalso
             have hx : isNum w = true := isNum_of hc (by omega) (by assumption) (by assumption) (fun k => by first | assumption | exact absurd k (by assumption))
             rw [hN] at hx
             cases hx
             done)
    · rw [if_neg h6] at q
      replace q : Q .non m := q
      walk_at "g"
      all_goals first
        | exact q
        | (exfalso; clear q; omega; done)
theorem sc__take : FnScope ["text", "at", "shape", "parts", "letter", "end", "number"] ["text", "at"] (defScope s__take) := ⟨rfl, rfl, rfl, by decide +kernel, rfl, by decide +kernel, by decide +kernel⟩
def takeD (z : Str) (i : Nat) : D := match takeG (z.cps.toList.drop i) with
  | none => .non
  | some (ds, r) => .tup [.tup ds, .int ((z.length - r.length : Nat) : Int)]
def sp__take : VSp := fun ds m Q _ => ∃ (z : Str) (i : Nat), ds = [.str z, .int i] ∧ z.length ≤ 1000000 ∧ i < z.length ∧ Q (takeD z i) m

theorem ok__take (T : Txt P w K mg a) : FnOk P w K mg base CX0 2 a._take a.fd__take ["text", "at"] (lowSp K 2 sp__take) := by
  refine ufun T.F__take sc__take fun cdv A outer s H E B hr => ⟨_, let nd := sc__take.nd; (uss_cons (us_set (i := 2) nd (ue_kget T.k_SHAPES (by rfl) (ue_ix (ue_var 0) (ue_var 1)) ue_str (by exact ⟨rfl, rfl, rfl, rfl⟩)))
    (uss_cons (us_set (i := 3) nd (ue_lstM (ua_cons (ue_ix (ue_var 0) (ue_var 1)) ua_nil)))
    (uss_cons (us_for (g := (.one 4)) PassesOwn.never rfl (ui_str (ue_var 2)) (pgn 4 nd)
    (uss_one (us_if (ut_cmp (uo_eq (u64 hr)) (ue_var 4) ue_str rfl) (uss_cons (us_set (i := 5) nd (ue_op uo_add (ue_var 1) ue_int))
    (uss_cut (us_while PassesOwn.never (UW.ut (uw_and (ut_cmp uo_lt (ue_var 5) (ue_callB (ub_len) (by rfl) T.n_len bt_len (ua_cons (ue_var 0) ua_nil)) rfl) (uw_and1 (ut_cmp (uo_in (u65 hr)) (ue_ix (ue_var 0) (ue_var 5)) (ue_gstr T.k_CODE (by rfl)) rfl)))) (uss_one (us_set (i := 5) nd (ue_op uo_add (ue_var 5) ue_int))))
    (uss_cons (us_if (UW.ut (uw_or (ut_cmp (uo_ne (u64 hr)) (ue_slice (ue_var 0) (up_some (ue_var 1)) (up_some (ue_op uo_add (ue_var 1) ue_int))) ue_str rfl) (uw_or1 (ut_cmp (uo_ne (u64 hr)) (ue_slice (ue_var 0) (up_some (ue_var 5)) (up_some (ue_op uo_add (ue_var 5) ue_int))) ue_str rfl)))) (uss_one (us_ret (ue_gc ue_non))) uss_nil)
    (uss_cons (us_expr (ue_bm PySem.F.plainAttrs_list PySem.F.slot_list_append PySem.F.type_list_append um_append (ue_var 3) (ua_cons (ue_slice (ue_var 0) (up_some (ue_op uo_add (ue_var 1) ue_int)) (up_some (ue_var 5))) ua_nil)))
    (uss_one (us_set (i := 1) nd (ue_op uo_add (ue_var 5) ue_int))))))) (uss_cons (us_set (i := 5) nd (ue_call (ok__digits T) (hr.mono (by decide)) (by rfl) T.mg__digits T.F__digits.kp T.b__digits pass0 Wsh.no (ua_cons (ue_var 0) (ua_cons (ue_op uo_add (ue_var 1) ue_int) ua_nil))))
    (uss_cons (us_set (i := 6) nd (ue_call (ok_number_commands T) (hr.mono (by decide)) (by rfl) T.mg_number_commands T.F_number_commands.kp T.b_number_commands pass0 Wsh.no (ua_cons (ue_slice (ue_var 0) (up_some (ue_op uo_add (ue_var 1) ue_int)) (up_some (ue_var 5))) ua_nil)))
    (uss_cons (us_if (UW.ut (uw_or (ut_cmp (uo_ne (u64 hr)) (ue_slice (ue_var 0) (up_some (ue_var 1)) (up_some (ue_op uo_add (ue_var 1) ue_int))) (ue_var 4) rfl) (uw_or1 (ut_cmp uo_is (ue_var 6) ue_non rfl)))) (uss_one (us_ret (ue_gc ue_non))) uss_nil)
    (uss_cons (us_expr (ue_bm PySem.F.plainAttrs_list PySem.F.slot_list_append PySem.F.type_list_append um_append (ue_var 3) (ua_cons (ue_var 6) ua_nil)))
    (uss_one (us_set (i := 1) nd (ue_var 5))))))))))
    (uss_cons (us_if (ut_not (ut_tru (ue_var 2))) (uss_one (us_ret (ue_gc ue_non))) uss_nil)
    (uss_one (us_ret (ue_gc (ue_tup (ua_cons (ue_callTy (ub_tuple) (by rfl) T.n_tuple bt_tuple (ua_cons (ue_var 3) ua_nil)) (ua_cons (ue_var 1) ua_nil)))))))))), ?_⟩
  intro ds m Q PX hl h
  clear hl hr B E H s outer cdv A T
  obtain ⟨z, i, rfl, hz, hi, q⟩ := h
  have hl := str_len z
  obtain ⟨c, hc⟩ : ∃ c, z.cps.toList[i]? = some c := ⟨_, List.getElem?_eq_getElem (by omega)⟩
  have hat : atI z.cps.toList (i : Int) = some c := atI_nat hc
  have hdr : z.cps.toList.drop i = c :: z.cps.toList.drop (i + 1) := by
    rw [List.drop_eq_getElem_cons (by omega)]
    rw [List.getElem?_eq_getElem (by omega)] at hc
    rw [Option.some.inj hc]
  unfold takeD at q
  rw [hdr] at q
  walk_at "g"
  rw [show (List.lookup (⟨#[c]⟩ : Str) [(Str.ofString "p", D.str (Str.ofString "pqr")), (Str.ofString "w", D.str (Str.ofString "wx")), (Str.ofString "d", D.str (Str.ofString "dz")), (Str.ofString "k", D.str (Str.ofString "kbv"))]).getD (D.str (Str.ofString "")) = .str ⟨(shapeL c).toArray⟩ from shape_of c]
  dsimp only
  have hsg : signs ⟨(shapeL c).toArray⟩ = (shapeL c).map fun c => D.str ⟨#[c]⟩ := rfl
  rw [hsg]
  have hsh : (⟨(shapeL c).toArray⟩ : Str).length ≤ 1000000 := by
    rw [str_len]
    show (shapeL c).length ≤ _
    unfold shapeL
    split
    · decide
    split
    · decide
    split
    · decide
    split <;> decide
  obtain ⟨pk, e⟩ : ∃ x, x = p := ⟨_, rfl⟩
  subst e
  refine for_pre (fun c : Nat => D.str ⟨#[c]⟩) (fun pre ρ m' => ∃ (ps : List D) (j : Nat) (o4 o5 o6 : Option D), m' = mup m pk (.lst (.str ⟨#[c]⟩ :: ps)) ∧ j ≤ z.length ∧ ps.length ≤ pre.length ∧ fieldsP (shapeL c) (z.cps.toList.drop i) = (fieldsP ((shapeL c).drop pre.length) (z.cps.toList.drop j)).map (fun q => (ps ++ q.1, q.2)) ∧
    ρ = [some (.str z), some (.int j), some (.str ⟨(shapeL c).toArray⟩), some (.adr pk), o4, o5, o6]) (shapeL c) ⟨[], i, _, _, _, rfl, by omega, by simp, by simp, rfl⟩ (fun _ _ _ _ => trivial) ?_ ?_
  · rintro pre x post ρ m' hpp ⟨ps, j, o4, o5, o6, rfl, hj, hpl, hf, rfl⟩
    refine ⟨_, by walk_at "t", ?_⟩
    have hds : (shapeL c).drop pre.length = x :: post := by rw [hpp]; simp
    have hds2 : (shapeL c).drop (pre ++ [x]).length = post := by rw [hpp]; simp
    rw [hds] at hf
    have hzl : (Str.ofString "z").cps.toList = [122] := by decide +kernel
    have hshl : (shapeL c).length ≤ 3 := by
      unfold shapeL
      split
      · decide
      split
      · decide
      split
      · decide
      split <;> decide
    have hps9 : (D.str ⟨#[c]⟩ :: ps).length < sizeLine := by
      have : pre.length ≤ (shapeL c).length := by rw [hpp]; simp
      rw [sizeLine_eq, List.length_cons]
      omega
    have hcl : ∀ lo hi, (cutS z lo hi).length ≤ 1000000 := fun lo hi => Nat.le_trans (cut_len z lo hi) hz
    have none_of : fieldF x (z.cps.toList.drop j) = none → Q .non m := fun h => by
      rw [fields_none h, hdr] at hf
      rw [takeG_cons, hf] at q
      by_cases hs : shapeL c = []
      · rw [if_pos hs] at q
        exact q
      · rw [if_neg hs] at q
        exact q
    by_cases hx : x = 122
    · subst hx
      have hxz : (⟨#[122]⟩ : Str) = Str.ofString "z" := by kernel_rfl
      walk_at "g"
      · refine Exists.intro (fun ρ m' => Iv (m' = mup m pk (.lst (.str ⟨#[c]⟩ :: ps)) ∧ ρ = [some (.str z), some (.int j), some (.str ⟨(shapeL c).toArray⟩), some (.adr pk), some (.str ⟨#[122]⟩), some (.int (endOf isCode z.cps.toList j : Nat)), o6])) (And.intro (Iv.mk ?_) ?_)
        · walk_at "w"
          refine ⟨fun n ρ m' => ∃ e : Nat, n = z.length + 1 - e ∧ m' = mup m pk (.lst (.str ⟨#[c]⟩ :: ps)) ∧ ρ = [some (.str z), some (.int j), some (.str ⟨(shapeL c).toArray⟩), some (.adr pk), some (.str ⟨#[122]⟩), some (.int e), o6] ∧ j < e ∧ e + ((z.cps.toList.drop e).takeWhile isCode).length = endOf isCode z.cps.toList j, ⟨_, j + 1, rfl, rfl, rfl, Nat.lt_succ_self j, rfl⟩, ?_⟩
          rintro n ρ m' ⟨e, rfl, rfl, rfl, hje, he⟩
          by_cases hlt : e < z.length
          · obtain ⟨y, hy⟩ : ∃ y, z.cps.toList[e]? = some y := ⟨_, List.getElem?_eq_getElem (by omega)⟩
            have hat2 : atI z.cps.toList (e : Int) = some y := atI_nat hy
            have hdr2 : z.cps.toList.drop e = y :: z.cps.toList.drop (e + 1) := by
              rw [List.drop_eq_getElem_cons (by omega)]
              rw [List.getElem?_eq_getElem (by omega)] at hy
              rw [Option.some.inj hy]
            have hmem : (y ∈ (Str.ofString "acefghijlmnostuy0123456789").cps.toList) ↔ isCode y = true := mem_code
            walk_at "g"
            · have hd : isCode y = true := hmem.mp (by first | assumption | exact Array.mem_toList_iff.mpr (by assumption))
              rw [hdr2, List.takeWhile_cons, if_pos hd, List.length_cons] at he
              exact ⟨z.length + 1 - (e + 1), by omega, e + 1, rfl, rfl, rfl, by omega, by omega⟩
            · have hd : ¬isCode y = true := fun k => absurd (hmem.mpr k) (by first | assumption | (rw [Array.mem_toList_iff]; assumption))
              rw [hdr2, List.takeWhile_cons, if_neg hd] at he
              have e1 : e = endOf isCode z.cps.toList j := he
              rw [← e1]
              exact .mk ⟨rfl, rfl⟩
            · exfalso
              clear q
              omega
          · walk_at "g"
            · exfalso
              clear q
              omega
            · rw [List.drop_eq_nil_of_le (by omega)] at he
              have e1 : e = endOf isCode z.cps.toList j := he
              rw [← e1]
              exact .mk ⟨rfl, rfl⟩
        intro ρ m' hN
        obtain ⟨rfl, rfl⟩ := hN.out
        have hn := none_of
        walk_at "g"
        · refine hn (fld_code_no fun k => ?_)
          exact absurd ((cut_is hzl).mpr k.1) (by assumption)
        · refine hn (fld_code_no fun k => ?_)
          exact absurd ((cut_is hzl).mpr k.2) (by assumption)
        · obtain ⟨r1, k1⟩ := (cut_is (z := z) (j := j) hzl).mp (by assumption)
          obtain ⟨r2, k2⟩ := (cut_is (z := z) (j := endOf isCode z.cps.toList j) hzl).mp (by assumption)
          rw [fields_cons (fld_code k1 k2), Option.map_map] at hf
          have hlt := (drop_lt k2).1
          rw [cut_end, List.cons_append]
          refine .mk ⟨_, endOf isCode z.cps.toList j + 1, _, _, _, rfl, by omega, by rw [List.length_append, List.length_append]; simp; omega, ?_, rfl⟩
          rw [hf, hds2]
          congr 1
          funext q
          simp
      all_goals (exfalso; exact absurd hxz (by assumption))
    · have hxz : ¬(⟨#[x]⟩ : Str) = Str.ofString "z" := fun e => hx ((one_eq hzl).mp e)
      walk_at "g"
      · exfalso
        exact absurd (by assumption) hxz
      refine ⟨hcl _ _, ?_⟩
      rw [show j + 1 + (List.takeWhile isDig (List.drop (j + 1) z.cps.toList)).length = endOf isDig z.cps.toList j from rfl, cut_end]
      dsimp only
      have hn := none_of
      have hk : ∀ {y : Str}, y = ⟨#[x]⟩ → (cutS z (some (j : Int)) (some ((j : Int) + 1)) = y ↔ ∃ r, z.cps.toList.drop j = x :: r) := fun e => by
        subst e
        exact cut_is rfl
      walk_at "g"
      · exact hn (fld_num_no hx fun k => absurd ((hk rfl).mpr k) (by assumption))
      · refine hn (fld_num_no hx fun k => ?_)
        have hnn : isN (oiD (numC ((z.cps.toList.drop (j + 1)).takeWhile isDig))) = true := by first | assumption | (rw [isN_oi]; exact decide_eq_true (by assumption))
        rw [isN_oi] at hnn
        exact of_decide_eq_true hnn
      · obtain ⟨r1, k1⟩ := (hk rfl).mp (by assumption)
        have hnn : isN (oiD (numC ((z.cps.toList.drop (j + 1)).takeWhile isDig))) = false := by first | assumption | (rw [isN_oi]; exact decide_eq_false (by assumption))
        rw [isN_oi] at hnn
        cases hv : numC ((z.cps.toList.drop (j + 1)).takeWhile isDig) with
        | none => exact absurd hv (of_decide_eq_false hnn)
        | some n =>
          rw [fields_cons (fld_num hx k1 hv), Option.map_map] at hf
          rw [List.cons_append]
          refine .mk ⟨_, endOf isDig z.cps.toList j, _, _, _, rfl, Nat.le_trans (endOf_le (drop_lt k1).1) (by omega), by rw [List.length_append, List.length_append]; simp; omega, ?_, rfl⟩
          rw [hf, hds2]
          congr 1
          funext q
          simp [oiD]
  · rintro ρ m' ⟨ps, j, o4, o5, o6, rfl, hj, hpl, hf, rfl⟩
    rw [List.drop_length] at hf
    rw [hdr] at hf
    rw [takeG_cons, hf] at q
    have hlr : z.length - (z.cps.toList.drop j).length = j := by rw [List.length_drop]; omega
    have hemp : (⟨(shapeL c).toArray⟩ : Str).length = (shapeL c).length := str_len _
    walk_at "g"
    · have h0 : shapeL c = [] := List.length_eq_zero_iff.mp (by rw [← hemp]; assumption)
      rw [if_pos h0] at q
      exact q
    · have h0 : ¬shapeL c = [] := fun k => absurd (show (⟨(shapeL c).toArray⟩ : Str).length = 0 by rw [hemp, k]; rfl) (by assumption)
      rw [if_neg h0] at q
      have q : Q (.tup [.tup (.str ⟨#[c]⟩ :: (ps ++ [])), .int ((z.length - (z.cps.toList.drop j).length : Nat) : Int)]) m := q
      rw [hlr, List.append_nil] at q
      exact q
theorem sc_commands_of : FnScope ["block", "commands", "at", "taken"] ["block"] (defScope s_commands_of) := ⟨rfl, rfl, rfl, by decide +kernel, rfl, by decide +kernel, by decide +kernel⟩
theorem takeD_none {z : Str} {j : Nat} (h : takeC (z.cps.toList.drop j) = none) : takeD z j = .non := by
  unfold takeD
  rw [takeG_eq, h]
  rfl
theorem takeD_some {z : Str} {j : Nat} {c : Cmd} {r : List Nat} (h : takeC (z.cps.toList.drop j) = some (c, r)) : takeD z j = .tup [c.t, .int ((z.length - r.length : Nat) : Int)] := by
  unfold takeD
  rw [takeG_eq, h]
  rfl
def sp_commands_of : VSp := fun ds m Q _ => ∃ z : Str, ds = [.str z] ∧ z.length ≤ 1000000 ∧ Q (.lst ((comsP z.cps.toList).map Cmd.t)) m

theorem ok_commands_of (T : Txt P w K mg a) : FnOk P w K mg base CX0 3 a.commands_of a.fd_commands_of ["block"] (lowSp K 1 sp_commands_of) := by
  refine ufun T.F_commands_of sc_commands_of fun cdv A outer s H E B hr => ⟨_, let nd := sc_commands_of.nd; (uss_cons (us_set (i := 1) nd (ue_lstM ua_nil))
    (uss_cons (us_set (i := 2) nd ue_int)
    (uss_cons (us_while PassesOwn.never (ut_cmp uo_lt (ue_var 2) (ue_callB (ub_len) (by rfl) T.n_len bt_len (ua_cons (ue_var 0) ua_nil)) rfl) (uss_cut (us_set (i := 3) nd (ue_call (ok__take T) (hr.mono (by decide)) (by rfl) T.mg__take T.F__take.kp T.b__take pass0 Wsh.no (ua_cons (ue_var 0) (ua_cons (ue_var 2) ua_nil))))
    (uss_cons (us_if (ut_cmp uo_is (ue_var 3) ue_non rfl) (uss_one (us_ret (ue_gc (ue_lst ua_nil)))) uss_nil)
    (uss_cons (us_expr (ue_bm PySem.F.plainAttrs_list PySem.F.slot_list_append PySem.F.type_list_append um_append (ue_var 1) (ua_cons (ue_ix (ue_var 3) ue_int) ua_nil)))
    (uss_one (us_set (i := 2) nd (ue_ix (ue_var 3) ue_int)))))))
    (uss_one (us_ret (ue_gc (ue_frz (ue_var 1)))))))), ?_⟩
  intro ds m Q PX hl h
  clear hl hr B E H s outer cdv A T
  obtain ⟨z, rfl, hz, q⟩ := h
  have hl := str_len z
  unfold comsP at q
  walk_at "g"
  obtain ⟨pk, e⟩ : ∃ x, x = p := ⟨_, rfl⟩
  subst e
  refine ⟨fun n ρ m' => Iv (∃ (j : Nat) (cs : List Cmd) (o3 : Option D), n = z.length - j ∧ j ≤ z.length ∧ cs.length ≤ j ∧ m' = mup m pk (.lst (cs.map Cmd.t)) ∧ comsO z.cps.toList = (comsO (z.cps.toList.drop j)).map (fun ds => cs ++ ds) ∧ ρ = [some (.str z), some (.adr pk), some (.int j), o3]), ⟨_, .mk ⟨0, [], _, rfl, Nat.zero_le _, Nat.le_refl _, rfl, by simp, rfl⟩⟩, ?_⟩
  intro n ρ m' hI
  obtain ⟨j, cs, o3, rfl, hj, hcl, rfl, hc, rfl⟩ := hI.out
  by_cases hlt : j < z.length
  · obtain ⟨x, r, hdr⟩ : ∃ x r, z.cps.toList.drop j = x :: r := ⟨_, _, List.drop_eq_getElem_cons (by omega)⟩
    walk_at "g"
    · refine Exists.intro (fun ρ m' => Iv (m' = mup m pk (.lst (cs.map Cmd.t)) ∧ ρ = [some (.str z), some (.adr pk), some (.int j), some (takeD z j)])) (And.intro (Iv.mk ?_) ?_)
      · walk_at "g"
        exact .mk ⟨rfl, rfl⟩
      intro ρ m' hN
      obtain ⟨rfl, rfl⟩ := hN.out
      cases hT : takeC (z.cps.toList.drop j) with
      | none =>
        rw [takeD_none hT]
        rw [hdr] at hT hc
        rw [comsO_none hT] at hc
        rw [hc] at q
        have q : Q (.lst []) m := q
        walk_at "g"
        exact q
      | some w =>
        obtain ⟨c, r'⟩ := w
        rw [takeD_some hT]
        obtain ⟨e1, _⟩ := takeC_some hT
        have hlt2 := takeC_lt hT
        have hd2 : z.cps.toList.drop (z.length - r'.length) = r' := by
          have h2 : z.cps.toList = (z.cps.toList.take j ++ c.txt) ++ r' := by rw [List.append_assoc, ← e1, List.take_append_drop]
          have h3 : (z.cps.toList.take j ++ c.txt).length = z.length - r'.length := by
            have := congrArg List.length h2
            rw [List.length_append] at this
            omega
          have h4 : ((z.cps.toList.take j ++ c.txt) ++ r').drop (z.cps.toList.take j ++ c.txt).length = r' := List.drop_left
          rw [h3, ← h2] at h4
          exact h4
        rw [List.length_drop] at hlt2
        have hrl : r'.length ≤ z.length := by omega
        rw [comsO_step hT, Option.map_map] at hc
        walk_at "g"
        rw [show List.map Cmd.t cs ++ [c.t] = (cs ++ [c]).map Cmd.t by rw [List.map_append]; rfl]
        refine .mk ⟨z.length - r'.length, cs ++ [c], _, by omega, by omega, by rw [List.length_append]; simp; omega, rfl, ?_, rfl⟩
        rw [hc, hd2]
        congr 1
        funext q
        simp
    · exfalso
      clear q
      omega
  · walk_at "g"
    · exfalso
      clear q
      omega
    · rw [List.drop_eq_nil_of_le (by omega), comsO_nil] at hc
      rw [hc] at q
      have q : Q (.lst ((cs ++ []).map Cmd.t)) m := q
      rw [List.append_nil] at q
      exact q
theorem sc__numbers : FnScope ["words", "at", "numbers", "word"] ["words", "at"] (defScope s__numbers) := ⟨rfl, rfl, rfl, by decide +kernel, rfl, by decide +kernel, by decide +kernel⟩
def sp__numbers (a : Ad) : VSp := fun ds m Q PX => ∃ (ws : List Str) (i : Int), ds = [.lst (ws.map .str), .int i] ∧ ws.length ≤ 100000 ∧ (∀ w ∈ ws, w.length ≤ 1000000) ∧ (match numsP ws with | some ns => Q (.lst (ns.map .int)) m | none => PX a.E_BadScript ["at"] [.int i] m)

theorem ok__numbers (T : Txt P w K mg a) : FnOk P w K mg base (L2N.CX P w) 3 a._numbers a.fd__numbers ["words", "at"] (lowSp K 2 (sp__numbers a)) := by
  refine ufunX T.F__numbers sc__numbers fun cdv A outer s H E B PX hr W => ⟨_, let nd := sc__numbers.nd; (uss_cons (us_setLc (i := 2) (g := (.one 3)) rfl nd rfl rfl (sw_true rfl rfl rfl (by decide +kernel)) (ui_list (ue_var 0)) (blkOk_by (N := ["words", "at", "numbers", "word"]) (sc := defScope s__numbers) (own := [("word", 3)]) (by decide +kernel)) (fun _ _ _ _ _ => (pgn 3 nd)) (fun _ _ _ _ _ => uts_nil) (fun _ _ _ _ _ => (ue_call (ok_number_of T) (hr.mono (by decide)) (by rfl) T.mg_number_of T.F_number_of.kp T.b_number_of pass0 Wsh.no (ua_cons (ue_var 3) ua_nil))) (by decide))
    (uss_cons (us_if (ut_cmp (uo_in (u65 hr)) ue_non (ue_var 2) rfl) (uss_one (us_raiseA (pn := "at") (atn := "at") rfl (L2N.takes_of rfl rfl rfl rfl) W.f T.su_BadScript.oex T.su_BadScript.ic T.su_BadScript.ti (ok_E_BadScript T) (hr.mono (by decide)) T.bi_BadScript pass0 (by exact rfl) T.g_BadScript (ue_var 1))) uss_nil)
    (uss_one (us_ret (ue_var 2))))), ?_⟩
  intro ds m Q hl h
  clear hl W hr B E H s outer cdv A T
  obtain ⟨ws, i, rfl, hn, hw, h⟩ := h
  walk_at "g"
  refine lc_all D.str (fun w : Str => oiD (numP w)) ws (by rw [sizeLine_eq]; omega) ?_ ?_
  · intro w hwm acc R hl hR
    have hwl := hw w hwm
    refine ⟨_, by walk_at "t", ?_⟩
    walk_at "g"
    exact hR
  walk_at "g"
  have hN : din .non (ws.map fun w => oiD (numP w)) = (numsP ws).isNone := by
    clear h hn hw
    induction ws with
    | nil => rfl
    | cons w ws ih =>
      unfold din at ih ⊢
      rw [List.map_cons, List.any_cons, ih]
      conv => rhs; unfold numsP
      cases numP w with
      | none => rfl
      | some n => cases numsP ws <;> rfl
  have hf : (D.lst (ws.map fun w => oiD (numP w))).fit = true := fit_of 0 (by decide) _ fun d hd => by
    obtain ⟨w, _, rfl⟩ := List.mem_map.mp hd
    exact ⟨oiD_dat _, by rw [oiD_dep]; exact Nat.le_refl _⟩
  refine InG.lst rfl (by decide) hf hN ?_
  cases hs : numsP ws with
  | none =>
    rw [hs] at h
    walk_at "g"
    exact h
  | some ns =>
    rw [hs] at h
    have e : (ws.map fun w => oiD (numP w)) = ns.map D.int := by
      clear h hn hw hN hf
      induction ws generalizing ns with
      | nil => cases hs; rfl
      | cons w ws ih =>
        unfold numsP at hs
        cases hw : numP w with
        | none => rw [hw] at hs; cases hs
        | some n =>
          rw [hw] at hs
          dsimp only at hs
          cases hx : numsP ws with
          | none => rw [hx] at hs; cases hs
          | some xs =>
            rw [hx] at hs
            cases hs
            rw [List.map_cons, List.map_cons, ih _ hx, hw]
            rfl
    walk_at "g"
    rw [e]
    exact h
theorem sc_read_event : FnScope ["line", "at", "words", "commands"] ["line", "at"] (defScope s_read_event) := ⟨rfl, rfl, rfl, by decide +kernel, rfl, by decide +kernel, by decide +kernel⟩
def sp_read_event (a : Ad) : VSp := fun ds m Q PX => ∃ (z : Str) (i : Int), ds = [.str z, .int i] ∧ z.length ≤ 10000 ∧ (match readV z with | some e => Q e.d m | none => PX a.E_BadScript ["at"] [.int i] m)

theorem ok_read_event (T : Txt P w K mg a) : FnOk P w K mg base (L2.CX P w) 6 a.read_event a.fd_read_event ["line", "at"] (lowSp K 2 (sp_read_event a)) := by
  refine ufunL T.F_read_event sc_read_event fun cdv A outer s H E B PX hr W => ⟨_, let nd := sc_read_event.nd; (uss_cons (us_set (i := 2) nd (ue_bm PySem.F.plainAttrs_str PySem.F.slot_str_split PySem.F.type_str_split um_split (ue_var 0) (ua_cons ue_str ua_nil)))
    (uss_cons (us_if (ut_cmp (uo_eq (u64 hr)) (ue_ix (ue_var 2) ue_int) ue_str rfl) (uss_one (us_tryO (C0 := a.E_BadLine) (PXo := fun _ => PX) rfl rfl ⟨rfl, by decide, .inl T.g_BadLine⟩ (L2H.passesAt_of rfl) takesL W.f T.em_BadLine_BadLine (fun B PXF WX pn xe tk wh => (uss_one (us_ret (ue_tup (ua_cons ue_str (ua_cons (ue_callX (ok_read_letter T) (hr.mono (by decide)) (by rfl) T.mg_read_letter T.F_read_letter.kp T.b_read_letter tk wh (ua_cons (ue_slice (ue_var 0) (up_some ue_int) up_none) ua_nil)) ua_nil))))))
      (fun B ax oe pn tk2 wo hot => (uss_one (us_raiseS (pn := "at") (atn := "at") hot tk2 wo T.su_BadScript.oex T.su_BadScript.ic T.su_BadScript.ti (okH_E_BadScript T) (roomH_suite (hr.mono (by decide))) T.bi_BadScript pass0 (by exact rfl) T.g_BadScript (ue_var 1)))))) uss_nil)
    (uss_cons (us_if (ut_cmp (uo_eq (u64 hr)) (ue_ix (ue_var 2) ue_int) ue_str rfl) (uss_cons (us_set (i := 3) nd (ue_lst ua_nil))
    (uss_cons (us_if (ut_cmp (uo_eq (u64 hr)) (ue_callB (ub_len) (by rfl) T.n_len bt_len (ua_cons (ue_var 2) ua_nil)) ue_int rfl) (uss_one (us_set (i := 3) nd (ue_call (ok_commands_of T) (hr.mono (by decide)) (by rfl) T.mg_commands_of T.F_commands_of.kp T.b_commands_of pass0 Wsh.no (ua_cons (ue_ix (ue_var 2) ue_int) ua_nil)))) uss_nil)
    (uss_cons (us_if (UW.ut (uw_or (ut_cmp (uo_ne (u64 hr)) (ue_callB (ub_len) (by rfl) T.n_len bt_len (ua_cons (ue_var 3) ua_nil)) ue_int rfl) (uw_or1 (ut_cmp uo_gt (ue_callB (ub_len) (by rfl) T.n_len bt_len (ua_cons (ue_ix (ue_var 2) ue_int) ua_nil)) (ue_gint T.k_LONGEST_commands (by rfl)) rfl)))) (uss_one (us_raiseA (pn := "at") (atn := "at") rfl (DLW.takesN takesL) W.f T.su_BadScript.oex T.su_BadScript.ic T.su_BadScript.ti (ok_E_BadScript T) (hr.mono (by decide)) T.bi_BadScript pass0 (by exact rfl) T.g_BadScript (ue_var 1))) uss_nil)
    (uss_one (us_ret (ue_tup (ua_cons ue_str (ua_cons (ue_ix (ue_call (ok__numbers T) (hr.mono (by decide)) (by rfl) T.mg__numbers T.F__numbers.kp T.b__numbers DL.passNL W (ua_cons (ue_slice (ue_var 2) (up_some ue_int) (up_some ue_int)) (ua_cons (ue_var 1) ua_nil))) ue_int) (ua_cons (ue_ix (ue_var 3) ue_int) ua_nil))))))))) uss_nil)
    (uss_cons (us_if (UW.ut (uw_or (ut_kno T.k_KINDS (by rfl) (ue_ix (ue_var 2) ue_int)) (uw_or1 (ut_cmp (uo_ne (u64 hr)) (ue_callB (ub_len) (by rfl) T.n_len bt_len (ua_cons (ue_var 2) ua_nil)) (ue_op uo_add ue_int (ue_kix T.k_KINDS (by rfl) (ue_ix (ue_var 2) ue_int))) rfl)))) (uss_one (us_raiseA (pn := "at") (atn := "at") rfl (DLW.takesN takesL) W.f T.su_BadScript.oex T.su_BadScript.ic T.su_BadScript.ti (ok_E_BadScript T) (hr.mono (by decide)) T.bi_BadScript pass0 (by exact rfl) T.g_BadScript (ue_var 1))) uss_nil)
    (uss_one (us_ret (ue_callTy (ub_tuple) (by rfl) T.n_tuple bt_tuple (ua_cons (ue_op uo_add (ue_lst (ua_cons (ue_ix (ue_var 2) ue_int) ua_nil)) (ue_call (ok__numbers T) (hr.mono (by decide)) (by rfl) T.mg__numbers T.F__numbers.kp T.b__numbers DL.passNL W (ua_cons (ue_slice (ue_var 2) (up_some ue_int) up_none) (ua_cons (ue_var 1) ua_nil)))) ua_nil)))))))), ?_⟩
  intro ds m Q hl h
  clear hl W hr B E H s outer cdv A T
  obtain ⟨z, i, rfl, hz, h⟩ := h
  obtain ⟨w0, wr, e⟩ := List.exists_cons_of_ne_nil (words_ne z)
  have e2 : Txt.split z (Str.ofString " ") = w0 :: wr := e
  have hwl : ∀ w ∈ w0 :: wr, w.length ≤ 10000 := fun w hw => by rw [← e] at hw; have := (words_mem hw).1; omega
  have hwn : (w0 :: wr).length ≤ 10002 := by rw [← e]; have := words_len z; omega
  have hw0 := hwl w0 (by simp)
  have hg0 : (w0 :: wr).getD 0 "" = w0 := rfl
  unfold readV at h
  rw [e, hg0] at h
  have hz7 : (cutS z (some 7) none).length ≤ 10000 := Nat.le_trans (cut_len z (some 7) none) hz
  walk_at "g"
  rw [e2]
  walk_at "g"
  · rw [if_pos hb] at h
    cases hr : readP (wordsL (cutS z (some 7) none)) with
    | ok l =>
      rw [hr] at h
      walk_at "g"
      exact h
    | error j =>
      rw [hr] at h
      refine ⟨rfl, ?_⟩
      walk_at "g"
      exact h
  · rw [if_neg (by assumption), if_pos (by assumption)] at h
    match wr, hb with
    | [u, b], _ =>
      dsimp only at h
      have hu := hwl u (by simp)
      have hb2 := hwl b (by simp)
      walk_at "g"
      · have hc : ∀ c, comsP b.cps.toList ≠ [c] := fun c hc => by
          have hq : ¬((comsP b.cps.toList).length : Int) = 1 := by assumption
          rw [hc] at hq
          exact hq rfl
        cases hcs : comsP b.cps.toList with
        | nil => rw [hcs] at h; exact h
        | cons c cs =>
          cases cs with
          | nil => exact absurd hcs (hc c)
          | cons c2 cs => rw [hcs] at h; exact h
      · obtain ⟨c, hc⟩ : ∃ c, comsP b.cps.toList = [c] := List.length_eq_one_iff.mp (by omega)
        rw [hc] at h
        dsimp only at h
        rw [if_pos (by omega)] at h
        exact h
      · obtain ⟨c, hc⟩ : ∃ c, comsP b.cps.toList = [c] := List.length_eq_one_iff.mp (by omega)
        rw [hc] at h ⊢
        dsimp only at h
        rw [if_neg (by omega)] at h
        refine ⟨[u], i, rfl, by simp, fun w hw => by rw [List.mem_singleton.mp hw]; omega, ?_⟩
        cases hn : numP u with
        | none =>
          rw [hn] at h
          have e3 : numsP [u] = none := by unfold numsP; rw [hn]
          rw [e3]
          exact h
        | some n =>
          rw [hn] at h
          have e3 : numsP [u] = some [n] := by unfold numsP; rw [hn]; rfl
          rw [e3]
          walk_at "g"
          exact h
  · rw [if_neg (by assumption), if_pos (by assumption)] at h
    match wr, h with
    | [], h => exact h
    | [a], h => exact h
    | [a, b], h => contradiction
    | a :: b :: c :: r, h => exact h
  · rw [if_neg (by assumption), if_neg (by assumption)] at h
    have hk : kindN w0 = none := by
      unfold kindN
      simp_all
    rw [hk] at h
    exact h
  · rw [if_neg (by assumption), if_neg (by assumption)] at h
    have fin : ∀ k n : Nat, kindN w0 = some k → 1 + k = n → (wr.length + 1 = n → numsP wr = none → PX a.E_BadScript ["at"] [.int i] m) ∧ (∀ ns, wr.length + 1 = n → numsP wr = some ns → Q (.tup (.str w0 :: ns.map .int)) m) ∧ (¬wr.length + 1 = n → PX a.E_BadScript ["at"] [.int i] m) := fun k n hk hn => by
      rw [hk] at h
      dsimp only at h
      refine ⟨fun h1 h2 => ?_, fun ns h1 h2 => ?_, fun h1 => ?_⟩
      · rw [if_pos (by rw [List.length_cons]; omega), show (w0 :: wr).drop 1 = wr from rfl, h2] at h
        exact h
      · rw [if_pos (by rw [List.length_cons]; omega), show (w0 :: wr).drop 1 = wr from rfl, h2] at h
        exact h
      · rw [if_neg (by rw [List.length_cons]; omega)] at h
        exact h
    have hcd : cutD ((w0 :: wr).map D.str) (some 1) none = wr.map D.str := cut_drop (f := D.str) (w0 :: wr) 1
    rcases hb with rfl | rfl | rfl | rfl
    all_goals (first
      | obtain ⟨f1, f2, f3⟩ := fin 2 3 rfl rfl
      | obtain ⟨f1, f2, f3⟩ := fin 1 2 rfl rfl)
    all_goals walk_at "g"
    all_goals first
      | exact f3 (by omega)
      | (rw [hcd]
         refine ⟨wr, i, rfl, by simp only [List.length_cons] at hwn; omega, fun w hw => by have := hwl w (List.mem_cons_of_mem _ hw); omega, ?_⟩
         cases hn : numsP wr with
         | none => exact f1 (by omega) hn
         | some ns =>
           have f4 := f2 ns (by omega) hn
           have hnl := congrArg List.length (numsP_back hn).1
           rw [List.length_map] at hnl
           have hnl2 : (ns.map D.int).length ≤ 3 := by rw [List.length_map]; omega
           walk_at "g"
           exact f4)
theorem sc_l_long : FnScope ["_law_size", "_law_at", "_law_line_here", "_law_event_here"] ["_law_size", "_law_at"] (defScope s_l_long) := ⟨rfl, rfl, rfl, by decide +kernel, rfl, by decide +kernel, by decide +kernel⟩
theorem ones_ok (n : Nat) : okCode (repS (Str.ofString "1") n) := fun x hx => by
  have := repS_mem hx
  rw [show (Str.ofString "1").cps.toList = [49] by decide +kernel] at this
  rw [List.mem_singleton.mp this]
  decide
theorem long_eq (s : Str) : Str.ofString "submit 3 d0z" ++ s ++ Str.ofString "z" = lineV (.sub 3 (.d 0 s)) := by
  rw [← sub_eq, str_d]
  refine str_ext ?_
  show TL.tl _ = TL.tl _
  simp only [TL.tl_append, List.append_assoc]
  rw [show TL.tl (Str.ofString "submit 3 d0z") = TL.tl (Str.ofString "submit ") ++ (TL.tl (Str.ofString (toString (3 : Int))) ++ (TL.tl (Str.ofString " ") ++ (TL.tl (Str.ofString "d") ++ (TL.tl (Str.ofString (toString (0 : Int))) ++ TL.tl (Str.ofString "z"))))) by decide +kernel]
  simp only [List.append_assoc]
theorem long_len (n : Nat) : (Cmd.d 0 (repS (Str.ofString "1") n)).str.length = 4 + n := by
  rw [str_d]
  simp only [PySem.Str.length_append]
  rw [repS_len, show (Str.ofString "d").length = 1 by decide +kernel, show (Str.ofString "z").length = 1 by decide +kernel, show (Str.ofString (toString (0 : Int))).length = 1 by decide +kernel, show (Str.ofString "1").length = 1 by decide +kernel]
  omega
def sp_l_long (a : Ad) : VSp := fun ds m Q _ => ∃ (n : Nat) (i : Int), ds = [.int n, .int i] ∧ 2 ≤ n ∧ n ≤ 100 ∧ Q (.bl true) m

theorem ok_l_long (T : Txt P w K mg a) : FnOk P w K mg base CX0 7 a.l_long a.fd_l_long ["_law_size", "_law_at"] (lowSp K 2 (sp_l_long a)) := by
  refine ufun T.F_l_long sc_l_long fun cdv A outer s H E B hr => ⟨_, let nd := sc_l_long.nd; (uss_cons (us_set (i := 2) nd (ue_op uo_add (ue_op uo_add ue_str (ue_op uo_mulS ue_str (ue_var 0))) ue_str))
    (uss_cons (us_tryOL (C0 := a.E_BadScript) rfl rfl ⟨rfl, by decide, .inl T.g_BadScript⟩ T.em_BadScript_BadScript (fun B PXF WX pn xe tk wh => (uss_one (us_set (i := 3) nd (ue_callXL (ok_read_event T) (hr.mono (by decide)) (by rfl) T.mg_read_event T.F_read_event.kp T.b_read_event tk wh (ua_cons (ue_var 2) (ua_cons (ue_var 1) ua_nil))))))
      (fun B ax oe pn => (uss_one (us_ret (ue_cmp uo_gt (ue_var 0) ue_int rfl)))))
    (uss_one (us_ret (ue_and (ue_cmp uo_le (ue_var 0) ue_int rfl) (ue_one (ue_cmp (uo_eq (u64 hr)) (ue_var 3) (ue_tup (ua_cons ue_str (ua_cons ue_int (ua_cons (ue_tup (ua_cons ue_str (ua_cons ue_int (ua_cons (ue_op uo_mulS ue_str (ue_var 0)) ua_nil)))) ua_nil)))) rfl))))))), ?_⟩
  intro ds m Q PX hl h
  clear hl hr B E H s outer cdv A T
  obtain ⟨n, i, rfl, h1, h2, q⟩ := h
  have l1 : (Str.ofString "1").length = 1 := by decide +kernel
  have l2 : (Str.ofString "submit 3 d0z").length = 12 := by decide +kernel
  have l3 : (Str.ofString "z").length = 1 := by decide +kernel
  have hrl := repS_len (a := Str.ofString "1") (n := (n : Int))
  have e : Str.ofString "submit 3 d0z" ++ repS (Str.ofString "1") n ++ Str.ofString "z" = lineV (.sub 3 (.d 0 (repS (Str.ofString "1") n))) := long_eq _
  have hok : okC (.d 0 (repS (Str.ofString "1") n)) := ⟨⟨by decide, by decide⟩, ones_ok n⟩
  have hr := sub_read (i := 3) (by decide) (by decide) hok
  have hl := long_len n
  have hso : PyData.strOk (repS (Str.ofString "1") n) = true := strOk_of fun x hx => by
    have := ones_ok n x hx
    have := repS_mem hx
    rw [show (Str.ofString "1").cps.toList = [49] by decide +kernel] at this
    rw [List.mem_singleton.mp this]
    decide
  have hrl2 : (repS (Str.ofString "1") n).length ≤ 100 := by rw [hrl, l1]; omega
  generalize hs : repS (Str.ofString "1") (n : Int) = s at *
  walk_at "g"
  rw [hs]
  walk_at "g"
  rw [e, hr, hl]
  have hft : (D.tup [.str "submit", .int 3, .tup [.str "d", .int 0, .str s]]).fit = true := by
    have h3 : PyData.strOk (Str.ofString "submit") = true := by decide +kernel
    have h4 : PyData.strOk (Str.ofString "d") = true := by decide +kernel
    simp [D.fit, D.dat, D.dats, D.dep, D.deps, hso, h3, h4]
  have hdq := deq_refl _ (fit_dat hft)
  by_cases h60 : 60 < 4 + n
  · rw [if_pos h60]
    refine ⟨rfl, ?_⟩
    walk_at "g"
    exact fin_bl q (decide_eq_true (by omega)).symm
  · rw [if_neg h60]
    simp only [Ev.d, Cmd.t, Cmd.ds]
    walk_at "g"
    · rw [hs]
      exact EqG.dt rfl rfl hft hft hdq q
    · exfalso
      omega
theorem sc_l_statement : FnScope ["_law_digit", "_law_height", "_law_block", "_law_turn", "_law_lean"] ["_law_digit", "_law_height"] (defScope s_l_statement) := ⟨rfl, rfl, rfl, by decide +kernel, rfl, by decide +kernel, by decide +kernel⟩
def sp_l_statement : VSp := fun ds m Q _ => ∃ (g h : Int), ds = [.int g, .int h] ∧ Q (stm g h).d m

theorem ok_l_statement (T : Txt P w K mg a) : FnOk P w K mg base CX0 1 a.l_statement a.fd_l_statement ["_law_digit", "_law_height"] (lowSp K 2 sp_l_statement) := by
  refine ufun T.F_l_statement sc_l_statement fun cdv A outer s H E B hr => ⟨_, let nd := sc_l_statement.nd; (uss_cons (us_set (i := 2) nd (ue_ix (ue_tup (ua_cons ue_str (ua_cons ue_str (ua_cons ue_str (ua_cons ue_str (ua_cons ue_non ua_nil)))))) (ue_op uo_mod (ue_callTy (ub_int) (by rfl) T.n_int bt_int (ua_cons (ue_var 0) ua_nil)) ue_int)))
    (uss_cons (us_set (i := 3) nd (ue_op uo_mod (ue_op uo_fdiv (ue_var 0) ue_int) ue_int))
    (uss_cons (us_if (ut_cmp (uo_eq (u64 hr)) (ue_op uo_mod (ue_op uo_fdiv (ue_var 0) ue_int) ue_int) ue_int rfl) (uss_one (us_ret (ue_tup (ua_cons ue_str (ua_cons (ue_var 1) (ua_cons (ue_var 3) (ua_cons (ue_var 2) ua_nil))))))) uss_nil)
    (uss_cons (us_set (i := 4) nd ue_non)
    (uss_cons (us_if (UW.ut (uw_and (ut_cmp uo_isNot (ue_var 2) ue_non rfl) (uw_and (ut_cmp uo_gt (ue_var 3) ue_int rfl) (uw_and1 (ut_cmp (uo_eq (u64 hr)) (ue_op uo_mod (ue_op uo_fdiv (ue_var 0) ue_int) ue_int) ue_int rfl))))) (uss_one (us_set (i := 4) nd (ue_op uo_mod (ue_op uo_fdiv (ue_var 0) ue_int) (ue_var 3)))) uss_nil)
    (uss_one (us_ret (ue_tup (ua_cons ue_str (ua_cons (ue_var 1) (ua_cons (ue_var 3) (ua_cons (ue_var 2) (ua_cons (ue_var 4) ua_nil))))))))))))), ?_⟩
  intro ds m Q PX hl h
  clear hl hr B E H s outer cdv A T
  obtain ⟨g, h, rfl, q⟩ := h
  walk_at "g"
  refine .tup rfl rfl ((atI_mod (d := .non) (by decide) rfl).trans (congrArg some menuB_d)) ?_
  unfold stm at q
  generalize menuB (g % 5).toNat = b at q ⊢
  cases b
  all_goals walk_at "g"
  all_goals (try (refine ⟨(by omega : (0 : Int) < g / 5 % 4), ?_⟩; walk_at "g"))
  all_goals (refine DL.fin_d q ?_; clear q)
  all_goals simp_all [Stm.d, oiD]
  all_goals (first | done | (split <;> simp_all <;> omega))
theorem sc_l_row : FnScope ["_law_cell_here", "_law_count", "_law_size", "_law_state", "_law_row_here", "_law_k"] ["_law_cell_here", "_law_count", "_law_size"] (defScope s_l_row) := ⟨rfl, rfl, rfl, by decide +kernel, rfl, by decide +kernel, by decide +kernel⟩
def sp_l_row : VSp := fun ds m Q _ => ∃ (c : Int) (n : Nat) (z : Int), ds = [.int c, .int n, .int z] ∧ 0 < z ∧ z < 1073741824 ∧ n ≤ 1000 ∧ Q (.lst ((row c n z).map .int)) m

theorem ok_l_row (T : Txt P w K mg a) : FnOk P w K mg base CX0 1 a.l_row a.fd_l_row ["_law_cell_here", "_law_count", "_law_size"] (lowSp K 3 sp_l_row) := by
  refine ufun T.F_l_row sc_l_row fun cdv A outer s H E B hr => ⟨_, let nd := sc_l_row.nd; (uss_cons (us_set (i := 3) nd (ue_var 0))
    (uss_cons (us_set (i := 4) nd (ue_lstM ua_nil))
    (uss_cons (us_for (g := (.one 5)) PassesOwn.never rfl (ui_range1 (by rfl) T.n_range (ua_cons (ue_var 1) ua_nil)) (pgn 5 nd)
    (uss_one (us_if (ut_cmp uo_ge (ue_var 0) (ue_op uo_pow ue_int ue_int) rfl) (uss_cons (us_expr (ue_bm PySem.F.plainAttrs_list PySem.F.slot_list_append PySem.F.type_list_append um_append (ue_var 4) (ua_cons (ue_op uo_mod (ue_callTy (ub_int) (by rfl) T.n_int bt_int (ua_cons (ue_var 3) ua_nil)) (ue_var 2)) ua_nil)))
    (uss_one (us_set (i := 3) nd (ue_op uo_fdiv (ue_var 3) (ue_var 2))))) (uss_cons (us_set (i := 3) nd (ue_op uo_mod (ue_callTy (ub_int) (by rfl) T.n_int bt_int (ua_cons (ue_op uo_add (ue_op uo_mul (ue_var 3) ue_int) ue_int) ua_nil)) ue_int))
    (uss_one (us_expr (ue_bm PySem.F.plainAttrs_list PySem.F.slot_list_append PySem.F.type_list_append um_append (ue_var 4) (ua_cons (ue_op uo_mod (ue_op uo_mod (ue_callTy (ub_int) (by rfl) T.n_int bt_int (ua_cons (ue_op uo_add (ue_op uo_mul (ue_var 3) ue_int) (ue_op uo_mul (ue_var 5) ue_int)) ua_nil)) ue_int) (ue_var 2)) ua_nil))))))))
    (uss_one (us_ret (ue_gc (ue_frz (ue_var 4)))))))), ?_⟩
  intro ds m Q PX hl h
  clear hl hr B E H s outer cdv A T
  obtain ⟨c, n, z, rfl, hz, hz2, hn, q⟩ := h
  walk_at "g"
  rw [Int.toNat_natCast]
  refine for_ix (fun i ρ m' => i ≤ n ∧ ∃ (s : Int) (acc : List Int) (o : Option D), ρ = [some (.int c), some (.int n), some (.int z), some (.int s), some (.adr p), o] ∧ m' = mup m p (.lst (acc.map .int)) ∧ acc.length = i ∧ acc ++ rowI c (n - i) i s z = row c n z) _ ⟨by omega, c, [], none, rfl, rfl, rfl, rfl⟩ (fun _ _ _ _ => trivial) ?_ ?_
  · rintro i x ρ m' hx ⟨hi, s, acc, o, rfl, rfl, hl, ha⟩
    obtain ⟨rfl, hi2⟩ := irng_get hx
    rw [show n - i = (n - (i + 1)) + 1 by omega, rowI] at ha
    refine ⟨_, by walk_at "t", ?_⟩
    walk_at "g"
    all_goals simp only [Int.zero_add]
    · rw [if_pos hb] at ha
      refine .mk ⟨by omega, _, acc ++ [s % z], _, rfl, by rw [List.map_append]; rfl, by simp; omega, ?_⟩
      rw [← ha, List.append_assoc]
      rfl
    · rw [if_neg (by omega)] at ha
      refine .mk ⟨by omega, _, acc ++ [((s * 48271 + 12345) % 2147483647 * 69621 + i * 7919) % 2147483647 % z], _, rfl, by rw [List.map_append]; rfl, by simp; omega, ?_⟩
      rw [← ha, List.append_assoc]
      rfl
  · rintro ρ m' ⟨hi, s, acc, o, rfl, rfl, hl, ha⟩
    walk_at "g"
    rw [irng_len, Nat.sub_self, rowI, List.append_nil] at ha
    rw [ha]
    exact q
theorem sc_l_code : FnScope ["_law_cell_here", "_law_signs", "_law_digits", "_law_digit"] ["_law_cell_here"] (defScope s_l_code) := ⟨rfl, rfl, rfl, by decide +kernel, rfl, by decide +kernel, by decide +kernel⟩
def signsK : Str := "0123456789gginasmtcehlujfyo"
def codeP (c : Int) : Str := ⟨((row (c / 13) (c % 13).toNat 27).map fun d => (signsK.cps.toList.getD d.toNat 0)).toArray⟩
def sp_l_code : VSp := fun ds m Q _ => ∃ c : Int, ds = [.int c] ∧ 0 ≤ c ∧ Q (.str (codeP c)) m

theorem ok_l_code (T : Txt P w K mg a) : FnOk P w K mg base CX0 2 a.l_code a.fd_l_code ["_law_cell_here"] (lowSp K 1 sp_l_code) := by
  refine ufun T.F_l_code sc_l_code fun cdv A outer s H E B hr => ⟨_, let nd := sc_l_code.nd; (uss_cons (us_set (i := 1) nd ue_str)
    (uss_cons (us_set (i := 2) nd (ue_call (ok_l_row T) (hr.mono (by decide)) (by rfl) T.mg_l_row T.F_l_row.kp T.b_l_row pass0 Wsh.no (ua_cons (ue_op uo_fdiv (ue_var 0) ue_int) (ua_cons (ue_op uo_mod (ue_callTy (ub_int) (by rfl) T.n_int bt_int (ua_cons (ue_var 0) ua_nil)) ue_int) (ua_cons ue_int ua_nil)))))
    (uss_one (us_ret (ue_bm PySem.F.plainAttrs_str PySem.F.slot_str_join PySem.F.type_str_join um_join ue_str (ua_cons (ue_lc (g := (.one 3)) rfl nd (ui_list (ue_var 2)) (blkOk_by (N := ["_law_cell_here", "_law_signs", "_law_digits", "_law_digit"]) (sc := defScope s_l_code) (own := [("_law_digit", 3)]) (by decide +kernel)) (fun _ _ _ _ _ => (pgn 3 nd)) (fun _ _ _ _ _ => uts_nil) (fun _ _ _ _ _ => (ue_ix (ue_var 1) (ue_var 3))) (by decide)) ua_nil)))))), ?_⟩
  intro ds m Q PX hl h
  clear hl hr B E H s outer cdv A T
  obtain ⟨c, rfl, hc, q⟩ := h
  walk_at "g"
  have hrl : (row (c / 13) (c % 13).toNat 27).length ≤ 13 := by rw [row_len]; omega
  have hrr : ∀ d ∈ row (c / 13) (c % 13).toNat 27, 0 ≤ d ∧ d < 27 := fun d hd => row_rng (by decide) hd
  unfold codeP at q
  generalize row (c / 13) (c % 13).toNat 27 = ds at q hrl hrr ⊢
  refine lc_all D.int (fun d : Int => D.str ⟨#[signsK.cps.toList.getD d.toNat 0]⟩) ds (by rw [sizeLine_eq]; omega) ?_ ?_
  · intro d hd acc R hs hR
    obtain ⟨h0, h1⟩ := hrr d hd
    have h26 : (Str.ofString "0123456789gginasmtcehlujfyo").cps.toList.length = 27 := by decide +kernel
    have hat : atI (Str.ofString "0123456789gginasmtcehlujfyo").cps.toList d = some (signsK.cps.toList.getD d.toNat 0) := by
      obtain ⟨k, rfl⟩ := Int.eq_ofNat_of_zero_le h0
      refine atI_nat ?_
      show _ = some ((Str.ofString "0123456789gginasmtcehlujfyo").cps.toList.getD k 0)
      rw [List.getD_eq_getElem?_getD, List.getElem?_eq_getElem (by omega)]
      rfl
    have hln : (Str.ofString "0123456789gginasmtcehlujfyo").length ≤ 100 := by decide +kernel
    refine ⟨_, by walk_at "t", ?_⟩
    walk_at "g"
    exact hR
  · walk_at "g"
    refine ⟨(ds.map fun d => signsK.cps.toList.getD d.toNat 0).map fun c => (⟨#[c]⟩ : Str), by rw [List.map_map, List.map_map]; rfl, ?_, ?_⟩
    · have he : (Str.ofString "").length = 0 := by decide +kernel
      have hs : (((ds.map fun d => signsK.cps.toList.getD d.toNat 0).map fun c => (⟨#[c]⟩ : Str)).map Str.length).sum ≤ ((ds.map fun d => signsK.cps.toList.getD d.toNat 0).map fun c => (⟨#[c]⟩ : Str)).length * 1 := sum_len fun w hw => by
        obtain ⟨c, _, rfl⟩ := List.mem_map.mp hw
        exact Nat.le_refl _
      rw [he]
      simp only [List.length_map] at hs ⊢
      omega
    · rw [join_signs]
      exact q
theorem sc_l_number : FnScope ["_law_cell_here"] ["_law_cell_here"] (defScope s_l_number) := ⟨rfl, rfl, rfl, by decide +kernel, rfl, by decide +kernel, by decide +kernel⟩
-- IF % 1000000
def numberC (c : Int) : Int := if c % 3 = 0 then c / 3 % 6 else if c % 3 = 1 then c / 3 % 1000 else c / 3 % 1000000
theorem numberC_ok {c : Int} (h : 0 ≤ c) : okNum (numberC c) := by
  unfold numberC okNum
  split
  · omega
  split <;> omega
def sp_l_number : VSp := fun ds m Q _ => ∃ c : Int, ds = [.int c] ∧ Q (.int (numberC c)) m

theorem ok_l_number (T : Txt P w K mg a) : FnOk P w K mg base CX0 1 a.l_number a.fd_l_number ["_law_cell_here"] (lowSp K 1 sp_l_number) := by
  refine ufun T.F_l_number sc_l_number fun cdv A outer s H E B hr => ⟨_, let nd := sc_l_number.nd; (uss_cons (us_if (ut_cmp (uo_eq (u64 hr)) (ue_op uo_mod (ue_callTy (ub_int) (by rfl) T.n_int bt_int (ua_cons (ue_var 0) ua_nil)) ue_int) ue_int rfl) (uss_one (us_ret (ue_op uo_mod (ue_op uo_fdiv (ue_var 0) ue_int) ue_int))) uss_nil)
    (uss_cons (us_if (ut_cmp (uo_eq (u64 hr)) (ue_op uo_mod (ue_callTy (ub_int) (by rfl) T.n_int bt_int (ua_cons (ue_var 0) ua_nil)) ue_int) ue_int rfl) (uss_one (us_ret (ue_op uo_mod (ue_op uo_fdiv (ue_var 0) ue_int) ue_int))) uss_nil)
    (uss_one (us_ret (ue_op uo_mod (ue_op uo_fdiv (ue_var 0) ue_int) ue_int))))), ?_⟩
  intro ds m Q PX hl h
  clear hl hr B E H s outer cdv A T
  obtain ⟨c, rfl, q⟩ := h
  unfold numberC at q
  walk_at "g"
  · rw [if_pos (by assumption)] at q
    exact q
  · rw [if_neg (by omega), if_pos (by assumption)] at q
    exact q
  · rw [if_neg (by omega), if_neg (by omega)] at q
    exact q
theorem sc_l_command : FnScope ["_law_cell_here", "_law_more"] ["_law_cell_here", "_law_more"] (defScope s_l_command) := ⟨rfl, rfl, rfl, by decide +kernel, rfl, by decide +kernel, by decide +kernel⟩
def drawC (c e : Int) : Cmd := if c % 5 = 0 then .w (c / 5 % 6) (1 + e % 9) else if c % 5 = 1 then .d (c / 5 % 6) (codeP e) else if c % 5 = 2 then .k (c / 5 % 6) (c / 30 % 6) (numberC e) else .p (c / 5 % 6) (c / 30 % 6) (numberC e)
def sp_l_command : VSp := fun ds m Q _ => ∃ c e : Int, ds = [.int c, .int e] ∧ 0 ≤ c ∧ 0 ≤ e ∧ Q (drawC c e).t m
theorem intL_len {n : Int} (h : okNum n) : (intL n).length ≤ 6 := by
  obtain ⟨k, rfl⟩ := Int.eq_ofNat_of_zero_le h.1
  rw [intL_nat]
  exact TL.numL_len (by decide) (by have := h.2; omega)
theorem codeP_ok (c : Int) : okCode (codeP c) ∧ (codeP c).length ≤ 12 := by
  constructor
  · intro x hx
    have hx : x ∈ (row (c / 13) (c % 13).toNat 27).map fun d => (signsK.cps.toList.getD d.toNat 0) := hx
    obtain ⟨d, hd, rfl⟩ := List.mem_map.mp hx
    obtain ⟨h0, h1⟩ := row_rng (by decide) hd
    have h27 : signsK.cps.toList.length = 27 := by decide +kernel
    have hall : ∀ y ∈ signsK.cps.toList, isCode y = true := by decide +kernel
    refine hall _ ?_
    rw [List.getD_eq_getElem?_getD, List.getElem?_eq_getElem (by omega)]
    exact List.getElem_mem _
  · rw [str_len]
    show ((row (c / 13) (c % 13).toNat 27).map fun d => (signsK.cps.toList.getD d.toNat 0)).length ≤ 12
    rw [List.length_map, row_len]
    omega
theorem drawC_ok {c e : Int} (hc : 0 ≤ c) (he : 0 ≤ e) : okC (drawC c e) ∧ (drawC c e).str.length ≤ 60 ∧ smallC (drawC c e) := by
  have n1 : okNum (c / 5 % 6) := ⟨by omega, by omega⟩
  have n2 : okNum (c / 30 % 6) := ⟨by omega, by omega⟩
  have n3 : okNum (1 + e % 9) := ⟨by omega, by omega⟩
  have n4 := numberC_ok he
  obtain ⟨k1, k2⟩ := codeP_ok e
  have l1 := intL_len n1
  have l2 := intL_len n2
  have l3 := intL_len n3
  have l4 := intL_len n4
  have hl : ∀ c : Cmd, c.str.length = c.txt.length := fun c => str_len _
  rw [hl]
  unfold drawC
  split
  · refine ⟨⟨n1, n3⟩, ?_, small_ok n1, small_ok n3⟩
    simp only [Cmd.txt, List.length_cons, List.length_append]
    omega
  split
  · refine ⟨⟨n1, k1⟩, ?_, small_ok n1, by omega⟩
    rw [str_len] at k2
    simp only [Cmd.txt, List.length_cons, List.length_append, List.length_nil]
    omega
  split
  · refine ⟨⟨n1, n2, n4⟩, ?_, small_ok n1, small_ok n2, small_ok n4⟩
    simp only [Cmd.txt, List.length_cons, List.length_append]
    omega
  · refine ⟨⟨n1, n2, n4⟩, ?_, small_ok n1, small_ok n2, small_ok n4⟩
    simp only [Cmd.txt, List.length_cons, List.length_append]
    omega

theorem ok_l_command (T : Txt P w K mg a) : FnOk P w K mg base CX0 3 a.l_command a.fd_l_command ["_law_cell_here", "_law_more"] (lowSp K 2 sp_l_command) := by
  refine ufun T.F_l_command sc_l_command fun cdv A outer s H E B hr => ⟨_, let nd := sc_l_command.nd; (uss_cons (us_if (ut_cmp (uo_eq (u64 hr)) (ue_op uo_mod (ue_callTy (ub_int) (by rfl) T.n_int bt_int (ua_cons (ue_var 0) ua_nil)) ue_int) ue_int rfl) (uss_one (us_ret (ue_tup (ua_cons ue_str (ua_cons (ue_op uo_mod (ue_op uo_fdiv (ue_var 0) ue_int) ue_int) (ua_cons (ue_op uo_add ue_int (ue_op uo_mod (ue_callTy (ub_int) (by rfl) T.n_int bt_int (ua_cons (ue_var 1) ua_nil)) ue_int)) ua_nil)))))) uss_nil)
    (uss_cons (us_if (ut_cmp (uo_eq (u64 hr)) (ue_op uo_mod (ue_callTy (ub_int) (by rfl) T.n_int bt_int (ua_cons (ue_var 0) ua_nil)) ue_int) ue_int rfl) (uss_one (us_ret (ue_tup (ua_cons ue_str (ua_cons (ue_op uo_mod (ue_op uo_fdiv (ue_var 0) ue_int) ue_int) (ua_cons (ue_call (ok_l_code T) (hr.mono (by decide)) (by rfl) T.mg_l_code T.F_l_code.kp T.b_l_code pass0 Wsh.no (ua_cons (ue_var 1) ua_nil)) ua_nil)))))) uss_nil)
    (uss_cons (us_if (ut_cmp (uo_eq (u64 hr)) (ue_op uo_mod (ue_callTy (ub_int) (by rfl) T.n_int bt_int (ua_cons (ue_var 0) ua_nil)) ue_int) ue_int rfl) (uss_one (us_ret (ue_tup (ua_cons ue_str (ua_cons (ue_op uo_mod (ue_op uo_fdiv (ue_var 0) ue_int) ue_int) (ua_cons (ue_op uo_mod (ue_op uo_fdiv (ue_var 0) ue_int) ue_int) (ua_cons (ue_call (ok_l_number T) (hr.mono (by decide)) (by rfl) T.mg_l_number T.F_l_number.kp T.b_l_number pass0 Wsh.no (ua_cons (ue_var 1) ua_nil)) ua_nil))))))) uss_nil)
    (uss_one (us_ret (ue_tup (ua_cons ue_str (ua_cons (ue_op uo_mod (ue_op uo_fdiv (ue_var 0) ue_int) ue_int) (ua_cons (ue_op uo_mod (ue_op uo_fdiv (ue_var 0) ue_int) ue_int) (ua_cons (ue_call (ok_l_number T) (hr.mono (by decide)) (by rfl) T.mg_l_number T.F_l_number.kp T.b_l_number pass0 Wsh.no (ua_cons (ue_var 1) ua_nil)) ua_nil)))))))))), ?_⟩
  intro ds m Q PX hl h
  clear hl hr B E H s outer cdv A T
  obtain ⟨c, e, rfl, hc, he, q⟩ := h
  unfold drawC at q
  walk_at "g"
  · rw [if_pos (by assumption)] at q
    exact q
  · rw [if_neg (by omega), if_pos (by assumption)] at q
    exact q
  · rw [if_neg (by omega), if_neg (by omega), if_pos (by assumption)] at q
    exact q
  · rw [if_neg (by omega), if_neg (by omega), if_neg (by omega)] at q
    exact q
theorem sc_l_event : FnScope ["_law_cell_here", "_law_more", "_law_last", "_law_big"] ["_law_cell_here", "_law_more", "_law_last"] (defScope s_l_event) := ⟨rfl, rfl, rfl, by decide +kernel, rfl, by decide +kernel, by decide +kernel⟩
def evP (c e f : Int) : Ev :=
  let big := if e % 4 = 1 then e % 1000000000 else e % 1000
  if c % 6 = 0 then .num "deliver" [big, f % 20] else if c % 6 = 1 then .num "timeout" [big] else if c % 6 = 2 then .inj ⟨big, stm f (c / 6 % 9)⟩
  else if c % 6 = 3 then .sub big (drawC (c / 6) f) else if c % 6 = 4 then .num "assist" [big, f % 20] else .num "crash" [big]
theorem evP_good {c e f : Int} (hc : 0 ≤ c) (he : 0 ≤ e) (hf : 0 ≤ f) : EvGood (evP c e f) := by
  have hb : 0 ≤ (if e % 4 = 1 then e % 1000000000 else e % 1000) ∧ (if e % 4 = 1 then e % 1000000000 else e % 1000) < 1000000000 := by split <;> omega
  have h20 : 0 ≤ f % 20 ∧ f % 20 < 1000000000 := by omega
  unfold evP
  generalize (if e % 4 = 1 then e % 1000000000 else e % 1000) = big at hb
  dsimp only
  split
  · refine ⟨(show kindN (Str.ofString "deliver") = some 2 by decide +kernel), fun n hn => ?_⟩
    simp only [List.mem_cons, List.not_mem_nil, or_false] at hn
    rcases hn with rfl | rfl
    · exact hb
    · exact h20
  · split
    · refine ⟨(show kindN (Str.ofString "timeout") = some 1 by decide +kernel), fun n hn => ?_⟩
      rw [List.mem_singleton.mp hn]
      exact hb
    · split
      · exact stm_good' f (c / 6 % 9) hb.1 hb.2 (by omega) (by omega)
      · split
        · obtain ⟨h1, h2, h3⟩ := drawC_ok (c := c / 6) (e := f) (by omega) hf
          exact ⟨hb, h1, h3, h2⟩
        · split
          · refine ⟨(show kindN (Str.ofString "assist") = some 2 by decide +kernel), fun n hn => ?_⟩
            simp only [List.mem_cons, List.not_mem_nil, or_false] at hn
            rcases hn with rfl | rfl
            · exact hb
            · exact h20
          · refine ⟨(show kindN (Str.ofString "crash") = some 1 by decide +kernel), fun n hn => ?_⟩
            rw [List.mem_singleton.mp hn]
            exact hb
def sp_l_event : VSp := fun ds m Q _ => ∃ c e f : Int, ds = [.int c, .int e, .int f] ∧ 0 ≤ c ∧ 0 ≤ e ∧ 0 ≤ f ∧ Q (evP c e f).d m

theorem ok_l_event (T : Txt P w K mg a) : FnOk P w K mg base CX0 4 a.l_event a.fd_l_event ["_law_cell_here", "_law_more", "_law_last"] (lowSp K 3 sp_l_event) := by
  refine ufun T.F_l_event sc_l_event fun cdv A outer s H E B hr => ⟨_, let nd := sc_l_event.nd; (uss_cons (us_set (i := 3) nd (ue_op uo_mod (ue_callTy (ub_int) (by rfl) T.n_int bt_int (ua_cons (ue_var 1) ua_nil)) ue_int))
    (uss_cons (us_if (ut_cmp (uo_eq (u64 hr)) (ue_op uo_mod (ue_callTy (ub_int) (by rfl) T.n_int bt_int (ua_cons (ue_var 1) ua_nil)) ue_int) ue_int rfl) (uss_one (us_set (i := 3) nd (ue_op uo_mod (ue_callTy (ub_int) (by rfl) T.n_int bt_int (ua_cons (ue_var 1) ua_nil)) (ue_op uo_pow ue_int ue_int)))) uss_nil)
    (uss_cons (us_if (ut_cmp (uo_eq (u64 hr)) (ue_op uo_mod (ue_callTy (ub_int) (by rfl) T.n_int bt_int (ua_cons (ue_var 0) ua_nil)) ue_int) ue_int rfl) (uss_one (us_ret (ue_tup (ua_cons ue_str (ua_cons (ue_var 3) (ua_cons (ue_op uo_mod (ue_callTy (ub_int) (by rfl) T.n_int bt_int (ua_cons (ue_var 2) ua_nil)) ue_int) ua_nil)))))) uss_nil)
    (uss_cons (us_if (ut_cmp (uo_eq (u64 hr)) (ue_op uo_mod (ue_callTy (ub_int) (by rfl) T.n_int bt_int (ua_cons (ue_var 0) ua_nil)) ue_int) ue_int rfl) (uss_one (us_ret (ue_tup (ua_cons ue_str (ua_cons (ue_var 3) ua_nil))))) uss_nil)
    (uss_cons (us_if (ut_cmp (uo_eq (u64 hr)) (ue_op uo_mod (ue_callTy (ub_int) (by rfl) T.n_int bt_int (ua_cons (ue_var 0) ua_nil)) ue_int) ue_int rfl) (uss_one (us_ret (ue_tup (ua_cons ue_str (ua_cons (ue_tup (ua_cons (ue_var 3) (ua_cons (ue_call (ok_l_statement T) (hr.mono (by decide)) (by rfl) T.mg_l_statement T.F_l_statement.kp T.b_l_statement pass0 Wsh.no (ua_cons (ue_var 2) (ua_cons (ue_op uo_mod (ue_op uo_fdiv (ue_var 0) ue_int) ue_int) ua_nil))) ua_nil))) ua_nil))))) uss_nil)
    (uss_cons (us_if (ut_cmp (uo_eq (u64 hr)) (ue_op uo_mod (ue_callTy (ub_int) (by rfl) T.n_int bt_int (ua_cons (ue_var 0) ua_nil)) ue_int) ue_int rfl) (uss_one (us_ret (ue_tup (ua_cons ue_str (ua_cons (ue_var 3) (ua_cons (ue_call (ok_l_command T) (hr.mono (by decide)) (by rfl) T.mg_l_command T.F_l_command.kp T.b_l_command pass0 Wsh.no (ua_cons (ue_op uo_fdiv (ue_var 0) ue_int) (ua_cons (ue_var 2) ua_nil))) ua_nil)))))) uss_nil)
    (uss_cons (us_if (ut_cmp (uo_eq (u64 hr)) (ue_op uo_mod (ue_callTy (ub_int) (by rfl) T.n_int bt_int (ua_cons (ue_var 0) ua_nil)) ue_int) ue_int rfl) (uss_one (us_ret (ue_tup (ua_cons ue_str (ua_cons (ue_var 3) (ua_cons (ue_op uo_mod (ue_callTy (ub_int) (by rfl) T.n_int bt_int (ua_cons (ue_var 2) ua_nil)) ue_int) ua_nil)))))) uss_nil)
    (uss_one (us_ret (ue_tup (ua_cons ue_str (ua_cons (ue_var 3) ua_nil)))))))))))), ?_⟩
  intro ds m Q PX hl h
  clear hl hr B E H s outer cdv A T
  obtain ⟨c, e, f, rfl, hc, he, hf, q⟩ := h
  walk_at "g"
  all_goals (
    try rw [show (10 : Int) ^ Int.toNat 9 = 1000000000 by decide]
    unfold evP at q
    simp only [*, if_true, if_false, reduceIte] at q
    exact q)
theorem sc_l_text : FnScope ["_law_command_here"] ["_law_command_here"] (defScope s_l_text) := ⟨rfl, rfl, rfl, by decide +kernel, rfl, by decide +kernel, by decide +kernel⟩
def sp_l_text : VSp := fun ds m Q _ => ∃ c : Cmd, ds = [c.t] ∧ smallC c ∧ Q (.str c.str) m

theorem ok_l_text (T : Txt P w K mg a) : FnOk P w K mg base CX0 1 a.l_text a.fd_l_text ["_law_command_here"] (lowSp K 1 sp_l_text) := by
  refine ufun T.F_l_text sc_l_text fun cdv A outer s H E B hr => ⟨_, let nd := sc_l_text.nd; (uss_cons (us_if (ut_cmp (uo_eq (u64 hr)) (ue_ix (ue_var 0) ue_int) ue_str rfl) (uss_one (us_ret (ue_op uo_add (ue_op uo_add (ue_op uo_add (ue_op uo_add (ue_op uo_add ue_str (ue_callTy (ub_str) (by rfl) T.n_str bt_str (ua_cons (ue_ix (ue_var 0) ue_int) ua_nil))) ue_str) (ue_callTy (ub_str) (by rfl) T.n_str bt_str (ua_cons (ue_ix (ue_var 0) ue_int) ua_nil))) ue_str) (ue_callTy (ub_str) (by rfl) T.n_str bt_str (ua_cons (ue_ix (ue_var 0) ue_int) ua_nil))))) uss_nil)
    (uss_cons (us_if (ut_cmp (uo_eq (u64 hr)) (ue_ix (ue_var 0) ue_int) ue_str rfl) (uss_one (us_ret (ue_op uo_add (ue_op uo_add (ue_op uo_add ue_str (ue_callTy (ub_str) (by rfl) T.n_str bt_str (ua_cons (ue_ix (ue_var 0) ue_int) ua_nil))) ue_str) (ue_callTy (ub_str) (by rfl) T.n_str bt_str (ua_cons (ue_ix (ue_var 0) ue_int) ua_nil))))) uss_nil)
    (uss_cons (us_if (ut_cmp (uo_eq (u64 hr)) (ue_ix (ue_var 0) ue_int) ue_str rfl) (uss_one (us_ret (ue_op uo_add (ue_op uo_add (ue_op uo_add (ue_op uo_add (ue_op uo_add ue_str (ue_callTy (ub_str) (by rfl) T.n_str bt_str (ua_cons (ue_ix (ue_var 0) ue_int) ua_nil))) ue_str) (ue_callTy (ub_str) (by rfl) T.n_str bt_str (ua_cons (ue_ix (ue_var 0) ue_int) ua_nil))) ue_str) (ue_callTy (ub_str) (by rfl) T.n_str bt_str (ua_cons (ue_ix (ue_var 0) ue_int) ua_nil))))) uss_nil)
    (uss_one (us_ret (ue_op uo_add (ue_op uo_add (ue_op uo_add (ue_op uo_add ue_str (ue_callTy (ub_str) (by rfl) T.n_str bt_str (ua_cons (ue_ix (ue_var 0) ue_int) ua_nil))) ue_str) (ue_ix (ue_var 0) ue_int)) ue_str)))))), ?_⟩
  intro ds m Q PX hl h
  clear hl hr B E H s outer cdv A T
  obtain ⟨c, rfl, hs, q⟩ := h
  obtain ⟨lp, lq, lr, lw, lx, ld, lz, lk, lb, lv⟩ := letter_len
  cases c with
  | p a b n =>
    obtain ⟨h1, h2, h3⟩ := hs
    have a1 := small_log h1
    have a2 := small_log h2
    have a3 := small_log h3
    have b1 := int_len a1
    have b2 := int_len a2
    have b3 := int_len a3
    rw [str_p] at q
    walk_at "g"
    exact q
  | w a n =>
    obtain ⟨h1, h2⟩ := hs
    have a1 := small_log h1
    have a2 := small_log h2
    have b1 := int_len a1
    have b2 := int_len a2
    rw [str_w] at q
    walk_at "g"
    exact q
  | d a s =>
    obtain ⟨h1, h2⟩ := hs
    have a1 := small_log h1
    have b1 := int_len a1
    rw [str_d] at q
    walk_at "g"
    exact q
  | k a b n =>
    obtain ⟨h1, h2, h3⟩ := hs
    have a1 := small_log h1
    have a2 := small_log h2
    have a3 := small_log h3
    have b1 := int_len a1
    have b2 := int_len a2
    have b3 := int_len a3
    rw [str_k] at q
    walk_at "g"
    exact q
theorem sc_l_line : FnScope ["_law_event_here", "_law_words", "_law_parts", "_law_part"] ["_law_event_here"] (defScope s_l_line) := ⟨rfl, rfl, rfl, by decide +kernel, rfl, by decide +kernel, by decide +kernel⟩
def Ev.k : Ev → Str
  | .inj _ => Str.ofString "inject"
  | .sub _ _ => Str.ofString "submit"
  | .num k _ => k
def Ev.parts : Ev → List D
  | .inj l => .int l.who :: l.st.parts
  | .sub i c => [.int i, .str c.str]
  | .num _ ns => ns.map .int
theorem ev_ws (e : Ev) : e.ws = e.k :: e.parts.map partS := by
  cases e with
  | inj l => rfl
  | sub i c => rfl
  | num k ns =>
    show k :: _ = k :: _
    rw [show (Ev.num k ns).parts = ns.map D.int from rfl, List.map_map]
    rfl
theorem oneIx (d : D) (ds : List D) (h : ds ≠ []) : ¬(HT.sIx (d :: ds).length 0 (some 1) = 0 ∧ HT.sIx (d :: ds).length (d :: ds).length none = (d :: ds).length) := fun h => by
  have h1 := h.1
  rw [show HT.sIx (d :: ds).length 0 (some 1) = min 1 (d :: ds).length from HT.sIx_nat _ 0 1, List.length_cons] at h1
  omega
def sp_l_line : VSp := fun ds m Q _ => ∃ e : Ev, ds = [e.d] ∧ EvOk e ∧ Q (.str (lineV e)) m

theorem ok_l_line (T : Txt P w K mg a) : FnOk P w K mg base CX0 2 a.l_line a.fd_l_line ["_law_event_here"] (lowSp K 1 sp_l_line) := by
  refine ufun T.F_l_line sc_l_line fun cdv A outer s H E B hr => ⟨_, let nd := sc_l_line.nd; (uss_cons (us_set (i := 1) nd (ue_lstM (ua_cons (ue_ix (ue_var 0) ue_int) ua_nil)))
    (uss_cons (us_set (i := 2) nd (ue_slice (ue_var 0) (up_some ue_int) up_none))
    (uss_cons (us_if (ut_cmp (uo_eq (u64 hr)) (ue_ix (ue_var 0) ue_int) ue_str rfl) (uss_one (us_set (i := 2) nd (ue_op uo_add (ue_tup (ua_cons (ue_ix (ue_ix (ue_var 0) ue_int) ue_int) ua_nil)) (ue_ix (ue_ix (ue_var 0) ue_int) ue_int)))) uss_nil)
    (uss_cut (us_if (ut_cmp (uo_eq (u64 hr)) (ue_ix (ue_var 0) ue_int) ue_str rfl) (uss_one (us_set (i := 2) nd (ue_tup (ua_cons (ue_ix (ue_var 0) ue_int) (ua_cons (ue_call (ok_l_text T) (hr.mono (by decide)) (by rfl) T.mg_l_text T.F_l_text.kp T.b_l_text pass0 Wsh.no (ua_cons (ue_ix (ue_var 0) ue_int) ua_nil)) ua_nil))))) uss_nil)
    (uss_cons (us_for (g := (.one 3)) PassesOwn.never rfl (ui_tup (ue_var 2)) (pgn 3 nd)
    (uss_one (us_if (ut_cmp uo_is (ue_var 3) ue_non rfl) (uss_one (us_expr (ue_bm PySem.F.plainAttrs_list PySem.F.slot_list_append PySem.F.type_list_append um_append (ue_var 1) (ua_cons ue_str ua_nil)))) (uss_one (us_expr (ue_bm PySem.F.plainAttrs_list PySem.F.slot_list_append PySem.F.type_list_append um_append (ue_var 1) (ua_cons (ue_callTy (ub_str) (by rfl) T.n_str bt_str (ua_cons (ue_var 3) ua_nil)) ua_nil)))))))
    (uss_one (us_ret (ue_gc (ue_bm PySem.F.plainAttrs_str PySem.F.slot_str_join PySem.F.type_str_join um_join ue_str (ua_cons (ue_var 1) ua_nil)))))))))), ?_⟩
  intro ds m Q PX hl h
  clear hl hr B E H s outer cdv A T
  obtain ⟨e, rfl, he, q⟩ := h
  have hpl : e.parts.length ≤ 6 := by
    cases e with
    | inj l => obtain ⟨w, s⟩ := l; cases s <;> simp [Ev.parts, Stm.parts]
    | sub i c => simp [Ev.parts]
    | num k ns => have := kind_le he.1; simp [Ev.parts]; omega
  have hkl : e.k.length ≤ 12000 := by
    cases e with
    | inj l => show (Str.ofString "inject").length ≤ 12000; decide +kernel
    | sub i c => show (Str.ofString "submit").length ≤ 12000; decide +kernel
    | num k ns => have := kind_len he.1; exact Nat.le_trans this (by decide)
  have hpo : ∀ d ∈ e.parts, partOk d ∧ (partS d).length ≤ 12000 := by
    have hi : ∀ i : Int, 0 ≤ i → i < 1000000000 → partOk (.int i) ∧ (partS (.int i)).length ≤ 12000 := fun i h0 h1 => by
      have := log_small (i := i) (by omega) (by omega)
      exact ⟨this, Nat.le_trans (int_len this) (by decide)⟩
    cases e with
    | inj l =>
      intro d hd
      rcases List.mem_cons.mp hd with rfl | hd
      · exact hi _ he.w0 he.w1
      · obtain ⟨h1, _, h3⟩ := wordsP_len he
        exact ⟨h3 d hd, Nat.le_trans (h1 (partS d) (List.mem_cons_of_mem _ (List.mem_map_of_mem hd))) (by decide)⟩
    | sub i c =>
      intro d hd
      simp only [Ev.parts, List.mem_cons, List.not_mem_nil, or_false] at hd
      rcases hd with rfl | rfl
      · exact hi i he.1.1 he.1.2
      · exact ⟨trivial, Nat.le_trans (smallC_len he.2.2) (by decide)⟩
    | num k ns =>
      intro d hd
      obtain ⟨n, hn, rfl⟩ := List.mem_map.mp hd
      exact hi n (he.2 n hn).1 (he.2 n hn).2
  cases e with
  | inj l =>
    have hcd := cut_tail (D.str "inject") [.tup [.int l.who, .tup l.st.parts]]
    have hix := oneIx (D.str "inject") [.tup [.int l.who, .tup l.st.parts]] (by simp)
    have q1 : ¬Str.ofString "inject" = Str.ofString "submit" := by decide +kernel
    have hp5 : l.st.parts.length ≤ 5 := by have : (D.int l.who :: l.st.parts).length ≤ 6 := hpl; simp at this; omega
    simp only [Ev.d, Let.d, Stm.d_parts]
    walk_at "g"
    obtain ⟨pw, e0⟩ : ∃ z, z = p := ⟨_, rfl⟩
    subst e0
    have hpw := hp
    clear hp
    rw [hcd]
    walk_at "g"
    refine And.intro (by simp) ?_
    walk_at "g"
    refine Exists.intro (fun ρ m' => Iv (m' = mup m pw (.lst [.str (Str.ofString "inject")]) ∧ ρ = [some (D.tup [.str "inject", .tup [.int l.who, .tup l.st.parts]]), some (.adr pw), some (.tup (Ev.inj l).parts), none])) (And.intro (Iv.mk ?_) ?_)
    · walk_at "g"
      all_goals first
        | exact .mk ⟨rfl, rfl⟩
        | contradiction
        | trace_state
    rintro ρ m' hI
    obtain ⟨rfl, rfl⟩ := hI.out
    clear hI
    walk_at "g"
    rw [← List.map_id (Ev.inj l).parts]
    refine for_pre id (fun pre ρ m' => m' = mup m pw (.lst (((Str.ofString "inject") :: pre.map partS).map D.str)) ∧ ∃ o, ρ = [some (D.tup [.str "inject", .tup [.int l.who, .tup l.st.parts]]), some (.adr pw), some (.tup ((Ev.inj l).parts.map id)), o]) (Ev.inj l).parts ⟨rfl, _, rfl⟩ (fun _ _ _ _ => trivial) ?_ ?_
    · rintro pre d post ρ m' hpp ⟨rfl, o, rfl⟩
      have hpd := hpo d (by rw [hpp]; simp)
      have hpd1 := hpd.1
      have hpre : pre.length ≤ 6 := by rw [hpp] at hpl; simp at hpl; omega
      refine ⟨_, by walk_at "t", ?_⟩
      cases d
      all_goals first | exact hpd.1.elim | skip
      all_goals walk_at "g"
      all_goals exact .mk ⟨by simp [partS], _, rfl⟩
    · rintro ρ m' ⟨rfl, o, rfl⟩
      walk_at "g"
      refine ⟨?_, ?_⟩
      · rw [show (Str.ofString " ").length = 1 by decide +kernel]
        have hsum := sum_len (ws := (Str.ofString "inject") :: (Ev.inj l).parts.map partS) (n := 12000) fun w hw => by
          rcases List.mem_cons.mp hw with rfl | hw
          · exact hkl
          · obtain ⟨d, hd, rfl⟩ := List.mem_map.mp hw
            exact (hpo d hd).2
        rw [List.length_cons, List.length_map] at *
        omega
      · walk_at "g"
        unfold lineV at q
        rw [ev_ws] at q
  
        exact q
  | sub i c =>
    have hcd := cut_tail (D.str "submit") [.int i, c.t]
    have hix := oneIx (D.str "submit") [.int i, c.t] (by simp)
    have q1 : ¬Str.ofString "submit" = Str.ofString "inject" := by decide +kernel
    have hsc := he.2.2
    simp only [Ev.d]
    walk_at "g"
    · exact absurd hb q1
    obtain ⟨pw, e0⟩ : ∃ z, z = p := ⟨_, rfl⟩
    subst e0
    have hpw := hp
    clear hp
    try rw [hcd]
    try walk_at "g"
    refine Exists.intro (fun ρ m' => Iv (m' = mup m pw (.lst [.str (Str.ofString "submit")]) ∧ ρ = [some (D.tup [.str "submit", .int i, c.t]), some (.adr pw), some (.tup (Ev.sub i c).parts), none])) (And.intro (Iv.mk ?_) ?_)
    · walk_at "g"
      all_goals first
        | exact .mk ⟨rfl, rfl⟩
        | contradiction
        | trace_state
    rintro ρ m' hI
    obtain ⟨rfl, rfl⟩ := hI.out
    clear hI
    walk_at "g"
    rw [← List.map_id (Ev.sub i c).parts]
    refine for_pre id (fun pre ρ m' => m' = mup m pw (.lst (((Str.ofString "submit") :: pre.map partS).map D.str)) ∧ ∃ o, ρ = [some (D.tup [.str "submit", .int i, c.t]), some (.adr pw), some (.tup ((Ev.sub i c).parts.map id)), o]) (Ev.sub i c).parts ⟨rfl, _, rfl⟩ (fun _ _ _ _ => trivial) ?_ ?_
    · rintro pre d post ρ m' hpp ⟨rfl, o, rfl⟩
      have hpd := hpo d (by rw [hpp]; simp)
      have hpd1 := hpd.1
      have hpre : pre.length ≤ 6 := by rw [hpp] at hpl; simp at hpl; omega
      refine ⟨_, by walk_at "t", ?_⟩
      cases d
      all_goals first | exact hpd.1.elim | skip
      all_goals walk_at "g"
      all_goals exact .mk ⟨by simp [partS], _, rfl⟩
    · rintro ρ m' ⟨rfl, o, rfl⟩
      walk_at "g"
      refine ⟨?_, ?_⟩
      · rw [show (Str.ofString " ").length = 1 by decide +kernel]
        have hsum := sum_len (ws := (Str.ofString "submit") :: (Ev.sub i c).parts.map partS) (n := 12000) fun w hw => by
          rcases List.mem_cons.mp hw with rfl | hw
          · exact hkl
          · obtain ⟨d, hd, rfl⟩ := List.mem_map.mp hw
            exact (hpo d hd).2
        rw [List.length_cons, List.length_map] at *
        omega
      · walk_at "g"
        unfold lineV at q
        rw [ev_ws] at q
  
        exact q
  | num k ns =>
    have hcd := cut_tail (D.str k) (ns.map D.int)
    have hix := oneIx (D.str k) (ns.map D.int) (by
      intro h
      have h2 := he.1
      rw [List.map_eq_nil_iff.mp h] at h2
      revert h2
      unfold kindN
      repeat' split
      all_goals (intro h3; cases h3))
    obtain ⟨q1, q2, _⟩ := kind_not he.1
    simp only [Ev.d]
    walk_at "g"
    · exact absurd hb q1
    obtain ⟨pw, e0⟩ : ∃ z, z = p := ⟨_, rfl⟩
    subst e0
    have hpw := hp
    clear hp
    try rw [hcd]
    try walk_at "g"
    refine Exists.intro (fun ρ m' => Iv (m' = mup m pw (.lst [.str k]) ∧ ρ = [some (D.tup (.str k :: ns.map .int)), some (.adr pw), some (.tup (Ev.num k ns).parts), none])) (And.intro (Iv.mk ?_) ?_)
    · walk_at "g"
      all_goals first
        | exact .mk ⟨rfl, rfl⟩
        | contradiction
        | trace_state
    rintro ρ m' hI
    obtain ⟨rfl, rfl⟩ := hI.out
    clear hI
    walk_at "g"
    rw [← List.map_id (Ev.num k ns).parts]
    refine for_pre id (fun pre ρ m' => m' = mup m pw (.lst ((k :: pre.map partS).map D.str)) ∧ ∃ o, ρ = [some (D.tup (.str k :: ns.map .int)), some (.adr pw), some (.tup ((Ev.num k ns).parts.map id)), o]) (Ev.num k ns).parts ⟨rfl, _, rfl⟩ (fun _ _ _ _ => trivial) ?_ ?_
    · rintro pre d post ρ m' hpp ⟨rfl, o, rfl⟩
      have hpd := hpo d (by rw [hpp]; simp)
      have hpd1 := hpd.1
      have hpre : pre.length ≤ 6 := by rw [hpp] at hpl; simp at hpl; omega
      refine ⟨_, by walk_at "t", ?_⟩
      cases d
      all_goals first | exact hpd.1.elim | skip
      all_goals walk_at "g"
      all_goals exact .mk ⟨by simp [partS], _, rfl⟩
    · rintro ρ m' ⟨rfl, o, rfl⟩
      walk_at "g"
      refine ⟨?_, ?_⟩
      · rw [show (Str.ofString " ").length = 1 by decide +kernel]
        have hsum := sum_len (ws := k :: (Ev.num k ns).parts.map partS) (n := 12000) fun w hw => by
          rcases List.mem_cons.mp hw with rfl | hw
          · exact hkl
          · obtain ⟨d, hd, rfl⟩ := List.mem_map.mp hw
            exact (hpo d hd).2
        rw [List.length_cons, List.length_map] at *
        omega
      · walk_at "g"
        unfold lineV at q
        rw [ev_ws] at q
  
        exact q
theorem sc__part : FnScope ["value"] ["value"] (defScope s__part) := ⟨rfl, rfl, rfl, by decide +kernel, rfl, by decide +kernel, by decide +kernel⟩
def sp__part : VSp := fun ds m Q _ => ∃ d, ds = [d] ∧ partOk d ∧ Q (.str (partS d)) m

theorem ok__part (T : Txt P w K mg a) : FnOk P w K mg base CX0 1 a._part a.fd__part ["value"] (lowSp K 1 sp__part) := by
  refine ufun T.F__part sc__part fun cdv A outer s H E B hr => ⟨_, let nd := sc__part.nd; (uss_cons (us_if (ut_cmp uo_is (ue_var 0) ue_non rfl) (uss_one (us_ret ue_str)) uss_nil)
    (uss_one (us_ret (ue_callTy (ub_str) (by rfl) T.n_str bt_str (ua_cons (ue_var 0) ua_nil))))), ?_⟩
  intro ds m Q PX hl h
  clear hl hr B E H s outer cdv A T
  obtain ⟨d, rfl, hd, q⟩ := h
  cases d
  all_goals first | exact hd.elim | skip
  all_goals walk_at "g"
  all_goals first | exact q | (refine ⟨hd, q⟩) | (exfalso; cases hb; done) | trace_state
theorem sc_letter_line : FnScope ["letter", "sender", "statement", "part"] ["letter"] (defScope s_letter_line) := ⟨rfl, rfl, rfl, by decide +kernel, rfl, by decide +kernel, by decide +kernel⟩
def sp_letter_line : VSp := fun ds m Q _ => ∃ (who : Int) (s : Stm), ds = [.tup [.int who, s.d]] ∧ SmallL who s 1000 ∧ Q (.str (lineP who s)) m

theorem ok_letter_line (T : Txt P w K mg a) : FnOk P w K mg base CX0 2 a.letter_line a.fd_letter_line ["letter"] (lowSp K 1 sp_letter_line) := by
  refine ufun T.F_letter_line sc_letter_line fun cdv A outer s H E B hr => ⟨_, let nd := sc_letter_line.nd; (uss_cons (us_asg (g := (.many [1, 2])) (pg_tup rfl (pgs_cons (pgn 1 nd) (pgs_cons (pgn 2 nd) pgs_nil))) (ue_var 0))
    (uss_one (us_ret (ue_bm PySem.F.plainAttrs_str PySem.F.slot_str_join PySem.F.type_str_join um_join ue_str (ua_cons (ue_op uo_add (ue_lst (ua_cons (ue_callTy (ub_str) (by rfl) T.n_str bt_str (ua_cons (ue_var 1) ua_nil)) ua_nil)) (ue_lc (g := (.one 3)) rfl nd (ui_tup (ue_var 2)) (blkOk_by (N := ["letter", "sender", "statement", "part"]) (sc := defScope s_letter_line) (own := [("part", 3)]) (by decide +kernel)) (fun _ _ _ _ _ => (pgn 3 nd)) (fun _ _ _ _ _ => uts_nil) (fun _ _ _ _ _ => (ue_call (ok__part T) (hr.mono (by decide)) (by rfl) T.mg__part T.F__part.kp T.b__part pass0 Wsh.no (ua_cons (ue_var 3) ua_nil))) (by decide))) ua_nil))))), ?_⟩
  intro ds m Q PX hl h
  clear hl hr B E H s outer cdv A T
  obtain ⟨who, s, rfl, hs, q⟩ := h
  obtain ⟨hw, hl, hp⟩ := wordsP_len hs
  have hlog := log_small (i := who) (by have := hs.w0; omega) (by have := hs.w1; omega)
  have hsum := sum_len hw
  rw [Stm.d_parts]
  unfold lineP at q
  unfold wordsP at q hw hl hsum
  generalize s.parts = ps at q hw hl hsum hp ⊢
  walk_at "g"
  have hpl : ps.length ≤ 5 := by simpa using hl
  rw [← List.map_id ps] at hp ⊢
  refine lc_all id (fun d => .str (partS d)) ps (by simp [sizeLine]; omega) ?_ ?_
  · intro d hd acc R hs hR
    have hpd := hp d (by rw [List.map_id]; exact hd)
    refine ⟨_, by walk_at "t", ?_⟩
    walk_at "g"
    exact hR
  · rw [show ps.map (fun d => D.str (partS d)) = (ps.map partS).map D.str by rw [List.map_map]; rfl]
    walk_at "g"
    have e1 : (Str.ofString " ").length = 1 := by decide +kernel
    refine ⟨toString who :: ps.map partS, rfl, ?_, q⟩
    rw [e1]
    have := Nat.mul_le_mul_right (1000 + 9) hl
    omega
theorem sc_command_text : FnScope ["command", "shape", "letter", "part"] ["command"] (defScope s_command_text) := ⟨rfl, rfl, rfl, by decide +kernel, rfl, by decide +kernel, by decide +kernel⟩
def sp_command_text : VSp := fun ds m Q _ => ∃ c : Cmd, ds = [c.t] ∧ smallC c ∧ Q (.str c.str) m
theorem signs_p : signs (Str.ofString "pqr") = [.str (Str.ofString "p"), .str (Str.ofString "q"), .str (Str.ofString "r")] := by kernel_rfl
theorem signs_w : signs (Str.ofString "wx") = [.str (Str.ofString "w"), .str (Str.ofString "x")] := by kernel_rfl
theorem signs_k : signs (Str.ofString "kbv") = [.str (Str.ofString "k"), .str (Str.ofString "b"), .str (Str.ofString "v")] := by kernel_rfl
theorem zip_p (a b n : Int) : zipD (signs (Str.ofString "pqr")) (cutD (Cmd.p a b n).ds (some 1) none) = [.tup [.str (Str.ofString "p"), .int a], .tup [.str (Str.ofString "q"), .int b], .tup [.str (Str.ofString "r"), .int n]] := by rw [signs_p]; rfl
theorem zip_w (a n : Int) : zipD (signs (Str.ofString "wx")) (cutD (Cmd.w a n).ds (some 1) none) = [.tup [.str (Str.ofString "w"), .int a], .tup [.str (Str.ofString "x"), .int n]] := by rw [signs_w]; rfl
theorem zip_k (a b n : Int) : zipD (signs (Str.ofString "kbv")) (cutD (Cmd.k a b n).ds (some 1) none) = [.tup [.str (Str.ofString "k"), .int a], .tup [.str (Str.ofString "b"), .int b], .tup [.str (Str.ofString "v"), .int n]] := by rw [signs_k]; rfl
theorem cutp (a b n : Int) : ¬(HT.sIx (Cmd.p a b n).ds.length 0 (some 1) = 0 ∧ HT.sIx (Cmd.p a b n).ds.length (Cmd.p a b n).ds.length none = (Cmd.p a b n).ds.length) := fun h => absurd h.1 (by show ¬(1 : Nat) = 0; decide)
theorem cutw (a n : Int) : ¬(HT.sIx (Cmd.w a n).ds.length 0 (some 1) = 0 ∧ HT.sIx (Cmd.w a n).ds.length (Cmd.w a n).ds.length none = (Cmd.w a n).ds.length) := fun h => absurd h.1 (by show ¬(1 : Nat) = 0; decide)
theorem cutk (a b n : Int) : ¬(HT.sIx (Cmd.k a b n).ds.length 0 (some 1) = 0 ∧ HT.sIx (Cmd.k a b n).ds.length (Cmd.k a b n).ds.length none = (Cmd.k a b n).ds.length) := fun h => absurd h.1 (by show ¬(1 : Nat) = 0; decide)
theorem join_p (a b n : Int) : Txt.join (Str.ofString "") [Str.ofString "p" ++ toString a, Str.ofString "q" ++ toString b, Str.ofString "r" ++ toString n] = Str.ofString "p" ++ toString a ++ Str.ofString "q" ++ toString b ++ Str.ofString "r" ++ toString n := str_ext (by
  have he : TL.tl (Str.ofString "") = [] := by decide +kernel
  show TL.tl _ = TL.tl _
  rw [TL.join_eq, TL.tl_join, he]
  simp [TL.joinL, TL.tl_append])
theorem join_w (a n : Int) : Txt.join (Str.ofString "") [Str.ofString "w" ++ toString a, Str.ofString "x" ++ toString n] = Str.ofString "w" ++ toString a ++ Str.ofString "x" ++ toString n := str_ext (by
  have he : TL.tl (Str.ofString "") = [] := by decide +kernel
  show TL.tl _ = TL.tl _
  rw [TL.join_eq, TL.tl_join, he]
  simp [TL.joinL, TL.tl_append])
theorem join_k (a b n : Int) : Txt.join (Str.ofString "") [Str.ofString "k" ++ toString a, Str.ofString "b" ++ toString b, Str.ofString "v" ++ toString n] = Str.ofString "k" ++ toString a ++ Str.ofString "b" ++ toString b ++ Str.ofString "v" ++ toString n := str_ext (by
  have he : TL.tl (Str.ofString "") = [] := by decide +kernel
  show TL.tl _ = TL.tl _
  rw [TL.join_eq, TL.tl_join, he]
  simp [TL.joinL, TL.tl_append])

theorem ok_command_text (T : Txt P w K mg a) : FnOk P w K mg base CX0 1 a.command_text a.fd_command_text ["command"] (lowSp K 1 sp_command_text) := by
  refine ufun T.F_command_text sc_command_text fun cdv A outer s H E B hr => ⟨_, let nd := sc_command_text.nd; (uss_cons (us_if (ut_cmp (uo_eq (u64 hr)) (ue_ix (ue_var 0) ue_int) ue_str rfl) (uss_one (us_ret (ue_joined (.cons ue_str (.cons (ue_fmt (ue_ix (ue_var 0) ue_int)) (.cons ue_str (.cons (ue_fmt (ue_ix (ue_var 0) ue_int)) (.cons ue_str .nil)))))))) uss_nil)
    (uss_cons (us_set (i := 1) nd (ue_kix T.k_SHAPES (by rfl) (ue_ix (ue_var 0) ue_int)))
    (uss_one (us_ret (ue_bm PySem.F.plainAttrs_str PySem.F.slot_str_join PySem.F.type_str_join um_join ue_str (ua_cons (ue_lc (g := (.many [2, 3])) rfl nd (ui_zipS (by rfl) T.n_zip (ua_cons (ue_var 1) (ua_cons (ue_slice (ue_var 0) (up_some ue_int) up_none) ua_nil))) (blkOk_by (N := ["command", "shape", "letter", "part"]) (sc := defScope s_command_text) (own := [("letter", 2), ("part", 3)]) (by decide +kernel)) (fun _ _ _ _ _ => (pg_tup rfl (pgs_cons (pgn 2 nd) (pgs_cons (pgn 3 nd) pgs_nil)))) (fun _ _ _ _ _ => uts_nil) (fun _ _ _ _ _ => (ue_op uo_add (ue_var 2) (ue_callTy (ub_str) (by rfl) T.n_str bt_str (ua_cons (ue_var 3) ua_nil)))) (by decide)) ua_nil)))))), ?_⟩
  intro ds m Q PX hl h
  clear hl hr B E H s outer cdv A T
  obtain ⟨c, rfl, hs, q⟩ := h
  obtain ⟨lp, lq, lr, lw, lx, ld, lz, lk, lb, lv⟩ := letter_len
  cases c with
  | p a b n =>
    obtain ⟨h1, h2, h3⟩ := hs
    have a1 := small_log h1
    have a2 := small_log h2
    have a3 := small_log h3
    have b1 := int_len a1
    have b2 := int_len a2
    have b3 := int_len a3
    rw [str_p] at q
    walk_at "g"
    refine ⟨cutp _ _ _, ?_⟩
    walk_at "g"
    rw [zip_p]
    refine .mk ?_
    walk_at "g"
    refine ⟨[Str.ofString "p" ++ toString a, Str.ofString "q" ++ toString b, Str.ofString "r" ++ toString n], rfl, ?_, ?_⟩
    · have he : (Str.ofString "").length = 0 := by decide +kernel
      simp only [List.map_cons, List.map_nil, List.sum_cons, List.sum_nil, List.length_cons, List.length_nil, PySem.Str.length_append, he]
      omega
    · rw [show Txt.join (Str.ofString "") [Str.ofString "p" ++ toString a, Str.ofString "q" ++ toString b, Str.ofString "r" ++ toString n] = _ from join_p ..]
      exact q
  | w a n =>
    obtain ⟨h1, h2⟩ := hs
    have a1 := small_log h1
    have a2 := small_log h2
    have b1 := int_len a1
    have b2 := int_len a2
    rw [str_w] at q
    walk_at "g"
    refine ⟨cutw _ _, ?_⟩
    walk_at "g"
    rw [zip_w]
    refine .mk ?_
    walk_at "g"
    refine ⟨[Str.ofString "w" ++ toString a, Str.ofString "x" ++ toString n], rfl, ?_, ?_⟩
    · have he : (Str.ofString "").length = 0 := by decide +kernel
      simp only [List.map_cons, List.map_nil, List.sum_cons, List.sum_nil, List.length_cons, List.length_nil, PySem.Str.length_append, he]
      omega
    · rw [show Txt.join (Str.ofString "") [Str.ofString "w" ++ toString a, Str.ofString "x" ++ toString n] = _ from join_w ..]
      exact q
  | d a s =>
    obtain ⟨h1, h2⟩ := hs
    have a1 := small_log h1
    have b1 := int_len a1
    rw [str_d] at q
    walk_at "g"
    exact q
  | k a b n =>
    obtain ⟨h1, h2, h3⟩ := hs
    have a1 := small_log h1
    have a2 := small_log h2
    have a3 := small_log h3
    have b1 := int_len a1
    have b2 := int_len a2
    have b3 := int_len a3
    rw [str_k] at q
    walk_at "g"
    refine ⟨cutk _ _ _, ?_⟩
    walk_at "g"
    rw [zip_k]
    refine .mk ?_
    walk_at "g"
    refine ⟨[Str.ofString "k" ++ toString a, Str.ofString "b" ++ toString b, Str.ofString "v" ++ toString n], rfl, ?_, ?_⟩
    · have he : (Str.ofString "").length = 0 := by decide +kernel
      simp only [List.map_cons, List.map_nil, List.sum_cons, List.sum_nil, List.length_cons, List.length_nil, PySem.Str.length_append, he]
      omega
    · rw [show Txt.join (Str.ofString "") [Str.ofString "k" ++ toString a, Str.ofString "b" ++ toString b, Str.ofString "v" ++ toString n] = _ from join_k ..]
      exact q
theorem sc_event_line : FnScope ["event", "part"] ["event"] (defScope s_event_line) := ⟨rfl, rfl, rfl, by decide +kernel, rfl, by decide +kernel, by decide +kernel⟩
def sp_event_line : VSp := fun ds m Q _ => ∃ e : Ev, ds = [e.d] ∧ EvOk e ∧ Q (.str (lineV e)) m

theorem ok_event_line (T : Txt P w K mg a) : FnOk P w K mg base CX0 3 a.event_line a.fd_event_line ["event"] (lowSp K 1 sp_event_line) := by
  refine ufun T.F_event_line sc_event_line fun cdv A outer s H E B hr => ⟨_, let nd := sc_event_line.nd; (uss_cons (us_if (ut_cmp (uo_eq (u64 hr)) (ue_ix (ue_var 0) ue_int) ue_str rfl) (uss_one (us_ret (ue_op uo_add ue_str (ue_call (ok_letter_line T) (hr.mono (by decide)) (by rfl) T.mg_letter_line T.F_letter_line.kp T.b_letter_line pass0 Wsh.no (ua_cons (ue_ix (ue_var 0) ue_int) ua_nil))))) uss_nil)
    (uss_cons (us_if (ut_cmp (uo_eq (u64 hr)) (ue_ix (ue_var 0) ue_int) ue_str rfl) (uss_one (us_ret (ue_joined (.cons ue_str (.cons (ue_fmt (ue_ix (ue_var 0) ue_int)) (.cons ue_str (.cons (ue_fmt (ue_call (ok_command_text T) (hr.mono (by decide)) (by rfl) T.mg_command_text T.F_command_text.kp T.b_command_text pass0 Wsh.no (ua_cons (ue_ix (ue_var 0) ue_int) ua_nil))) .nil))))))) uss_nil)
    (uss_one (us_ret (ue_bm PySem.F.plainAttrs_str PySem.F.slot_str_join PySem.F.type_str_join um_join ue_str (ua_cons (ue_op uo_add (ue_lst (ua_cons (ue_ix (ue_var 0) ue_int) ua_nil)) (ue_lc (g := (.one 1)) rfl nd (ui_tup (ue_slice (ue_var 0) (up_some ue_int) up_none)) (blkOk_by (N := ["event", "part"]) (sc := defScope s_event_line) (own := [("part", 1)]) (by decide +kernel)) (fun _ _ _ _ _ => (pgn 1 nd)) (fun _ _ _ _ _ => uts_nil) (fun _ _ _ _ _ => (ue_callTy (ub_str) (by rfl) T.n_str bt_str (ua_cons (ue_var 1) ua_nil))) (by decide))) ua_nil)))))), ?_⟩
  intro ds m Q PX hl h
  clear hl hr B E H s outer cdv A T
  obtain ⟨e, rfl, he, q⟩ := h
  cases e with
  | inj l =>
    simp only [Ev.d, Let.d]
    have sm := SmallL.more' he
    have hll := line_len60 he
    have e1 : Str.ofString "inject " ++ lineP l.who l.st = lineV (.inj l) := inj_eq l
    have e7 : (Str.ofString "inject ").length = 7 := by decide +kernel
    walk_at "g"
    rw [e1]
    exact q
  | sub i c =>
    simp only [Ev.d]
    obtain ⟨⟨i0, i1⟩, hc, hs⟩ := he
    have hlog := log_small (i := i) (by omega) (by omega)
    have hil := int_len hlog
    have hcl := smallC_len hs
    have e7 : (Str.ofString "submit ").length = 7 := by decide +kernel
    have e1 : (Str.ofString " ").length = 1 := by decide +kernel
    have e2 : Str.ofString "submit " ++ Str.ofString (toString i) ++ Str.ofString " " ++ c.str = lineV (.sub i c) := sub_eq i c
    walk_at "g"
    · exact absurd hb (by decide +kernel)
    · rw [e2]
      exact q
  | num k ns =>
    simp only [Ev.d]
    obtain ⟨hk, hns⟩ := he
    have hsx : ¬(HT.sIx (D.str k :: ns.map D.int).length 0 (some 1) = 0 ∧ HT.sIx (D.str k :: ns.map D.int).length (D.str k :: ns.map D.int).length none = (D.str k :: ns.map D.int).length) := fun h => by
      have h1 := h.1
      rw [show HT.sIx (D.str k :: ns.map D.int).length 0 (some 1) = min 1 (D.str k :: ns.map D.int).length from HT.sIx_nat _ 0 1, List.length_cons] at h1
      omega
    have hnl : (ns.map D.int).length ≤ 2 := by rw [List.length_map]; exact kind_le hk
    have hk1 : k ≠ Str.ofString "inject" := fun e => by rw [e] at hk; cases hk
    have hk2 : k ≠ Str.ofString "submit" := fun e => by rw [e] at hk; cases hk
    have hcd : cutD (D.str k :: ns.map D.int) (some 1) none = ns.map D.int := cut_tail _ _
    have hks : k.length ≤ 10 := kind_len hk
    have hn2 : ns.length ≤ 2 := by rw [List.length_map] at hnl; exact hnl
    walk_at "g"
    · exact absurd hb hk1
    · exact absurd hb hk2
    rw [hcd]
    refine lc_all D.int (fun n : Int => D.str (Str.ofString (toString n))) ns (by rw [sizeLine_eq]; omega) ?_ ?_
    · intro n hnm acc R hl hR
      have hlog := log_small (i := n) (by have := hns n hnm; omega) (by have := hns n hnm; omega)
      refine ⟨_, by walk_at "t", ?_⟩
      walk_at "g"
      exact hR
    have hml : (ns.map fun n : Int => D.str (Str.ofString (toString n))).length ≤ 2 := by rw [List.length_map]; exact hn2
    walk_at "g"
    refine ⟨k :: ns.map fun n => (toString n : Str), ?_, ?_, q⟩
    · rw [List.map_cons, List.map_map]
      rfl
    · have hs := sum_len (ws := ns.map fun n => (toString n : Str)) (n := 1921) fun w hw => by
        obtain ⟨n, hnm, rfl⟩ := List.mem_map.mp hw
        exact int_len (log_small (by have := hns n hnm; omega) (by have := hns n hnm; omega))
      rw [show (Str.ofString " ").length = 1 by decide +kernel, List.map_cons, List.sum_cons, List.length_cons]
      rw [List.length_map] at *
      omega
theorem sc_l_changed : FnScope ["_law_line_here", "_law_way", "_law_words", "_law_at"] ["_law_line_here", "_law_way"] (defScope s_l_changed) := ⟨rfl, rfl, rfl, by decide +kernel, rfl, by decide +kernel, by decide +kernel⟩
def cutW (xs : List Str) (lo hi : Option Int) : List Str := (xs.drop (HT.sIx xs.length 0 lo)).take (HT.sIx xs.length xs.length hi - HT.sIx xs.length 0 lo)
theorem cut_strs (xs : List Str) (lo hi : Option Int) : cutD (xs.map D.str) lo hi = (cutW xs lo hi).map D.str := by
  unfold cutD cutW
  rw [List.length_map, ← List.map_drop, ← List.map_take]
theorem cutW_len (xs : List Str) (lo hi : Option Int) : (cutW xs lo hi).length ≤ xs.length := by
  unfold cutW
  rw [List.length_take, List.length_drop]
  omega
theorem cutW_mem {xs : List Str} {lo hi : Option Int} {x : Str} (h : x ∈ cutW xs lo hi) : x ∈ xs := List.mem_of_mem_drop (List.mem_of_mem_take h)
theorem join_fine {ys : List Str} (h : ∀ y ∈ ys, y.length ≤ 561 ∧ PyData.strOk y = true) (hc : ys.length ≤ 17) : (ys.map Str.length).sum + ys.length * (Str.ofString " ").length ≤ 16777216 ∧ (Txt.join " " ys).length ≤ 10000 ∧ PyData.strOk (Txt.join " " ys) = true := by
  have h1 := sum_len fun y hy => (h y hy).1
  have h2 := Nat.mul_le_mul_right 561 hc
  have e1 : (Str.ofString " ").length = 1 := by decide +kernel
  have h3 := joinV_len " " ys
  rw [e1] at h3 ⊢
  rw [TL.join_eq]
  refine ⟨by omega, by omega, ?_⟩
  rw [← TL.join_eq]
  exact strOk_join (by decide +kernel) fun a ha => (h a ha).2
def sp_l_changed : VSp := fun ds m Q _ => ∃ (z : Str) (y : Int), ds = [.str z, .int y] ∧ z.length ≤ 500 ∧ (wordsL z).length ≤ 8 ∧ PyData.strOk z = true ∧ 0 ≤ y ∧ (∀ w : Str, w.length ≤ 10000 → PyData.strOk w = true → (y % 5 = 1 → w = z ++ Str.ofString " ") → (y % 5 = 2 → w = Str.ofString " " ++ z) → Q (.str w) m)

theorem ok_l_changed (T : Txt P w K mg a) : FnOk P w K mg base CX0 1 a.l_changed a.fd_l_changed ["_law_line_here", "_law_way"] (lowSp K 2 sp_l_changed) := by
  refine ufun T.F_l_changed sc_l_changed fun cdv A outer s H E B hr => ⟨_, let nd := sc_l_changed.nd; (uss_cons (us_set (i := 2) nd (ue_bm PySem.F.plainAttrs_str PySem.F.slot_str_split PySem.F.type_str_split um_split (ue_var 0) (ua_cons ue_str ua_nil)))
    (uss_cons (us_set (i := 3) nd (ue_op uo_mod (ue_op uo_fdiv (ue_var 1) ue_int) (ue_callB (ub_len) (by rfl) T.n_len bt_len (ua_cons (ue_var 2) ua_nil))))
    (uss_cons (us_if (ut_cmp (uo_eq (u64 hr)) (ue_op uo_mod (ue_callTy (ub_int) (by rfl) T.n_int bt_int (ua_cons (ue_var 1) ua_nil)) ue_int) ue_int rfl) (uss_one (us_ret (ue_bm PySem.F.plainAttrs_str PySem.F.slot_str_join PySem.F.type_str_join um_join ue_str (ua_cons (ue_op uo_add (ue_slice (ue_var 2) up_none (up_some (ue_var 3))) (ue_slice (ue_var 2) (up_some (ue_op uo_add (ue_var 3) ue_int)) up_none)) ua_nil)))) uss_nil)
    (uss_cons (us_if (ut_cmp (uo_eq (u64 hr)) (ue_op uo_mod (ue_callTy (ub_int) (by rfl) T.n_int bt_int (ua_cons (ue_var 1) ua_nil)) ue_int) ue_int rfl) (uss_one (us_ret (ue_op uo_add (ue_var 0) ue_str))) uss_nil)
    (uss_cons (us_if (ut_cmp (uo_eq (u64 hr)) (ue_op uo_mod (ue_callTy (ub_int) (by rfl) T.n_int bt_int (ua_cons (ue_var 1) ua_nil)) ue_int) ue_int rfl) (uss_one (us_ret (ue_op uo_add ue_str (ue_var 0)))) uss_nil)
    (uss_cons (us_if (ut_cmp (uo_eq (u64 hr)) (ue_op uo_mod (ue_callTy (ub_int) (by rfl) T.n_int bt_int (ua_cons (ue_var 1) ua_nil)) ue_int) ue_int rfl) (uss_one (us_ret (ue_bm PySem.F.plainAttrs_str PySem.F.slot_str_join PySem.F.type_str_join um_join ue_str (ua_cons (ue_op uo_add (ue_op uo_add (ue_slice (ue_var 2) up_none (up_some (ue_var 3))) (ue_lst (ua_cons ue_str ua_nil))) (ue_slice (ue_var 2) (up_some (ue_op uo_add (ue_var 3) ue_int)) up_none)) ua_nil)))) uss_nil)
    (uss_one (us_ret (ue_op uo_add (ue_var 0) ue_str))))))))), ?_⟩
  intro ds m Q PX hl h
  clear hl hr B E H s outer cdv A T
  obtain ⟨z, y, rfl, hz, hwn, hok, hy, q⟩ := h
  have hlen := words_len z
  have hw : ∀ w ∈ wordsL z, w.length ≤ 561 ∧ PyData.strOk w = true := fun w hw => by
    obtain ⟨h1, h2⟩ := words_mem hw
    exact ⟨by omega, strOk_of fun c hc => of_strOk hok c (h2 c hc)⟩
  have hpos : 0 < (wordsL z).length := List.length_pos_iff.mpr (words_ne z)
  have l1 : (Str.ofString " ").length = 1 := by decide +kernel
  have l2 : (Str.ofString " 7").length = 2 := by decide +kernel
  walk_at "g"
  rw [show Txt.split z (Str.ofString " ") = wordsL z from rfl]
  generalize wordsL z = ws at *
  refine And.intro (by show (0 : Int) < _; rw [List.length_map]; omega) ?_
  walk_at "g"
  · simp only [cut_strs]
    generalize y / 5 % ((ws.map D.str).length : Int) = i
    have h1 := cutW_len ws none (some i)
    have h2 := cutW_len ws (some (i + 1)) none
    have J := join_fine (ys := cutW ws none (some i) ++ cutW ws (some (i + 1)) none) (fun w h => (List.mem_append.mp h).elim (fun h => hw w (cutW_mem h)) fun h => hw w (cutW_mem h)) (by rw [List.length_append]; omega)
    refine ⟨by simp only [List.length_map, sizeLine]; omega, ?_⟩
    walk_at "g"
    refine ⟨cutW ws none (some i) ++ cutW ws (some (i + 1)) none, by rw [List.map_append]; rfl, J.1, ?_⟩
    walk_at "g"
    exact q _ J.2.1 J.2.2 (fun h => by omega) (fun h => by omega)
  · exact q _ (by rw [PySem.Str.length_append, l1]; omega) (strOk_app hok (by decide +kernel)) (fun _ => rfl) (fun h => by omega)
  · exact q _ (by rw [PySem.Str.length_append, l1]; omega) (strOk_app (by decide +kernel) hok) (fun h => by omega) (fun _ => rfl)
  · simp only [cut_strs]
    generalize y / 5 % ((ws.map D.str).length : Int) = i
    have h1 := cutW_len ws none (some i)
    have h2 := cutW_len ws (some (i + 1)) none
    have h01 : (Str.ofString "01").length ≤ 561 ∧ PyData.strOk (Str.ofString "01") = true := by decide +kernel
    have J := join_fine (ys := (cutW ws none (some i) ++ ([Str.ofString "01"] : List Str)) ++ cutW ws (some (i + 1)) none) (fun w h => (List.mem_append.mp h).elim (fun h => (List.mem_append.mp h).elim (fun h => hw w (cutW_mem h)) fun h => by rw [List.mem_singleton.mp h]; exact h01) fun h => hw w (cutW_mem h)) (by rw [List.length_append, List.length_append, List.length_singleton]; omega)
    refine ⟨by simp [sizeLine]; omega, ?_⟩
    walk_at "g"
    simp only [cut_strs]
    refine ⟨by simp [sizeLine]; omega, ?_⟩
    walk_at "g"
    refine ⟨_, by rw [List.map_append, List.map_append]; rfl, J.1, ?_⟩
    walk_at "g"
    exact q _ J.2.1 J.2.2 (fun h => by omega) (fun h => by omega)
  · exact q _ (by rw [PySem.Str.length_append, l2]; omega) (strOk_app hok (by decide +kernel)) (fun h => by omega) (fun h => by omega)
theorem sc_l_is_integer : FnScope ["_law_actual"] ["_law_actual"] (defScope s_l_is_integer) := ⟨rfl, rfl, rfl, by decide +kernel, rfl, by decide +kernel, by decide +kernel⟩
def sp_l_is_integer : VSp := fun ds m Q _ => ∃ i : Int, ds = [.int i] ∧ Q (.bl true) m

theorem ok_l_is_integer (T : Txt P w K mg a) : FnOk P w K mg base CX0 1 a.l_is_integer a.fd_l_is_integer ["_law_actual"] (lowSp K 1 sp_l_is_integer) := by
  refine ufun T.F_l_is_integer sc_l_is_integer fun cdv A outer s H E B hr => ⟨_, let nd := sc_l_is_integer.nd; (uss_one (us_ret (ue_and (ue_isinst (t := "int") (by rfl) T.n_isinstance bt_isinstance (ue_var 0) (by rfl) T.n_int bt_int) (ue_one (ue_not (ue_isinst (t := "bool") (by rfl) T.n_isinstance bt_isinstance (ue_var 0) (by rfl) T.n_bool bt_bool)))))), ?_⟩
  intro ds m Q PX hl h
  clear hl hr B E H s outer cdv A T
  obtain ⟨i, rfl, q⟩ := h
  walk_at "g"
  all_goals exact q
theorem okW_l_is_integer (T : Txt P w K mg a) : DLW.FnW P w K mg base CX0 1 a.l_is_integer a.fd_l_is_integer ["_law_actual"] (lowSp K 1 sp_l_is_integer) := by
  refine ufunW T.F_l_is_integer sc_l_is_integer fun cdv A outer s H E B p hr => ⟨_, let nd := sc_l_is_integer.nd; (uss_one (us_ret (ue_and (ue_isinst (t := "int") (by rfl) T.n_isinstance bt_isinstance (ue_var 0) (by rfl) T.n_int bt_int) (ue_one (ue_not (ue_isinst (t := "bool") (by rfl) T.n_isinstance bt_isinstance (ue_var 0) (by rfl) T.n_bool bt_bool)))))), ?_⟩
  intro ds m Q PX hl h
  clear hl hr p B E H s outer cdv A T
  obtain ⟨i, rfl, q⟩ := h
  walk_at "g"
  all_goals exact q
theorem sc_l_reads : FnScope ["_law_line_here", "_law_at", "_law_event_here", "e"] ["_law_line_here", "_law_at"] (defScope s_l_reads) := ⟨rfl, rfl, rfl, by decide +kernel, rfl, by decide +kernel, by decide +kernel⟩
def sp_l_reads (a : Ad) : VSp := fun ds m Q _ => ∃ (z : Str) (i : Int), ds = [.str z, .int i] ∧ z.length ≤ 10000 ∧ PyData.strOk z = true ∧ Q (.bl true) m

theorem ok_l_reads (T : Txt P w K mg a) : FnOk P w K mg base CX0 7 a.l_reads a.fd_l_reads ["_law_line_here", "_law_at"] (lowSp K 2 (sp_l_reads a)) := by
  refine ufun T.F_l_reads sc_l_reads fun cdv A outer s H E B hr => ⟨_, let nd := sc_l_reads.nd; (uss_cons (us_tryAL (i := 3) (C0 := a.E_BadScript) (atn := "at") rfl rfl nd rfl rfl ⟨rfl, by decide, .inl T.g_TribunalError⟩ T.em_BadScript_TribunalError (fun B PXF WX pn xe tk wh => (uss_one (us_set (i := 2) nd (ue_callXL (ok_read_event T) (hr.mono (by decide)) (by rfl) T.mg_read_event T.F_read_event.kp T.b_read_event tk wh (ua_cons (ue_var 0) (ua_cons (ue_var 1) ua_nil))))))
      (fun B ax oe pn dd dv hz hv hx hh => (uss_cons (us_if (ut_tru (ue_isAT (Cs := [a.E_BadCommand, a.E_BadLine]) T.ec_BadScript hz hv hx.p T.kta_0 (by rfl) T.n_isinstance bt_isinstance (ue_var 3) (ue_tup (ua_cons (ue_cls (by rfl) T.g_BadCommand) (ua_cons (ue_cls (by rfl) T.g_BadLine) ua_nil))))) (uss_one (us_ret ue_bl)) uss_nil)
    (uss_one (us_ret (ue_and (ue_isA T.ec_BadScript hz hv hx.p T.kt_BadScript_BadScript (by rfl) T.n_isinstance bt_isinstance (ue_var 3) (ue_cls (by rfl) T.g_BadScript)) (ue_and (ue_callW (okW_l_is_integer T) (roomH_suite (hr.mono (by decide))) hh (by rfl) T.mg_l_is_integer T.F_l_is_integer.kp T.b_l_is_integer (ua_cons (ue_xf ⟨T.ec_BadScript.hg, T.ec_BadScript.hk, T.ec_BadScript.hs, T.ec_BadScript.hd⟩ T.su_BadScript.nat hz hv hx (ue_var 3)) ua_nil)) (ue_one (ue_cmp (uo_eq (u64s hr)) (ue_xf ⟨T.ec_BadScript.hg, T.ec_BadScript.hk, T.ec_BadScript.hs, T.ec_BadScript.hd⟩ T.su_BadScript.nat hz hv hx (ue_var 3)) (ue_var 1) rfl)))))))))
    (uss_one (us_ret (ue_cmp (uo_eq (u64 hr)) (ue_call (ok_event_line T) (hr.mono (by decide)) (by rfl) T.mg_event_line T.F_event_line.kp T.b_event_line pass0 Wsh.no (ua_cons (ue_var 2) ua_nil)) (ue_var 0) rfl)))), ?_⟩
  intro ds m Q PX hl h
  clear hl hr B E H s outer cdv A T
  obtain ⟨z, i, rfl, hz, hok, q⟩ := h
  walk_at "g"
  cases hr : readV z with
  | none =>
    walk_at "g"
    refine ⟨_, rfl, rfl, fun ax hax => ?_⟩
    walk_at "g"
    rw [decide_eq_true rfl]
    exact q
  | some e =>
    obtain ⟨h1, h2⟩ := readV_some hr
    have hll : z.length ≤ 10000 := hz
    walk_at "g"
    rw [decide_eq_true h1]
    exact q
theorem sc_law : FnScope ["_law_script", "_law_k", "_law_cells", "_law_event_here", "_law_line_here", "_law_changed_here", "_law_at"] ["_law_script"] (defScope s_law) := ⟨rfl, rfl, rfl, by decide +kernel, rfl, by decide +kernel, by decide +kernel⟩
abbrev sp_law : VSp := spLawD

theorem ok_law (T : Txt P w K mg a) : FnOk P w K mg base CX0 8 a.law a.fd_law ["_law_script"] (lowSp K 1 sp_law) := by
  refine ufun T.F_law sc_law fun cdv A outer s H E B hr => ⟨_, let nd := sc_law.nd; (uss_cons (us_for (g := (.one 1)) PassesOwn.never rfl (ui_range1 (by rfl) T.n_range (ua_cons (ue_op uo_fdiv (ue_op uo_add (ue_callB (ub_len) (by rfl) T.n_len bt_len (ua_cons (ue_var 0) ua_nil)) ue_int) ue_int) ua_nil)) (pgn 1 nd)
    (uss_cons (us_setLc (i := 2) (g := (.one 6)) rfl nd rfl rfl (sw_true rfl rfl rfl (by decide +kernel)) (ui_range1 (by rfl) T.n_range (ua_cons ue_int ua_nil)) (blkOk_by (N := ["_law_script", "_law_k", "_law_cells", "_law_event_here", "_law_line_here", "_law_changed_here", "_law_at"]) (sc := defScope s_law) (own := [("_law_at", 6)]) (by decide +kernel)) (fun _ _ _ _ _ => (pgn 6 nd)) (fun _ _ _ _ _ => uts_nil) (fun _ _ _ _ _ => (ue_callB (ub_abs) (by rfl) T.n_abs bt_abs (ua_cons (ue_call (ok_l_cell T) (hr.mono (by decide)) (by rfl) T.mg_l_cell T.F_l_cell.kp T.b_l_cell pass0 Wsh.no (ua_cons (ue_var 0) (ua_cons (ue_op uo_add (ue_op uo_mul ue_int (ue_var 1)) (ue_var 6)) ua_nil))) ua_nil))) (by decide))
    (uss_cons (us_if (ut_not (ut_tru (ue_call (ok_l_long T) (hr.mono (by decide)) (by rfl) T.mg_l_long T.F_l_long.kp T.b_l_long pass0 Wsh.no (ua_cons (ue_op uo_sub (ue_op uo_add ue_int (ue_op uo_mod (ue_callTy (ub_int) (by rfl) T.n_int bt_int (ua_cons (ue_ix (ue_var 2) ue_int) ua_nil)) ue_int)) (ue_op uo_mul (ue_op uo_mod (ue_op uo_fdiv (ue_callTy (ub_int) (by rfl) T.n_int bt_int (ua_cons (ue_ix (ue_var 2) ue_int) ua_nil)) ue_int) ue_int) ue_int)) (ua_cons (ue_var 1) ua_nil))))) (uss_one (us_ret ue_bl)) uss_nil)
    (uss_cons (us_set (i := 3) nd (ue_call (ok_l_event T) (hr.mono (by decide)) (by rfl) T.mg_l_event T.F_l_event.kp T.b_l_event pass0 Wsh.no (ua_cons (ue_ix (ue_var 2) ue_int) (ua_cons (ue_ix (ue_var 2) ue_int) (ua_cons (ue_ix (ue_var 2) ue_int) ua_nil)))))
    (uss_cons (us_set (i := 4) nd (ue_call (ok_l_line T) (hr.mono (by decide)) (by rfl) T.mg_l_line T.F_l_line.kp T.b_l_line pass0 Wsh.no (ua_cons (ue_var 3) ua_nil)))
    (uss_cons (us_if (UW.ut (uw_or (ut_cmp (uo_ne (u64 hr)) (ue_call (ok_event_line T) (hr.mono (by decide)) (by rfl) T.mg_event_line T.F_event_line.kp T.b_event_line pass0 Wsh.no (ua_cons (ue_var 3) ua_nil)) (ue_var 4) rfl) (uw_or1 (ut_cmp (uo_ne (u64 hr)) (ue_call (ok_read_event T) (hr.mono (by decide)) (by rfl) T.mg_read_event T.F_read_event.kp T.b_read_event passL0 Wsh.no (ua_cons (ue_var 4) (ua_cons (ue_var 1) ua_nil))) (ue_var 3) rfl)))) (uss_one (us_ret ue_bl)) uss_nil)
    (uss_cons (us_set (i := 5) nd (ue_call (ok_l_changed T) (hr.mono (by decide)) (by rfl) T.mg_l_changed T.F_l_changed.kp T.b_l_changed pass0 Wsh.no (ua_cons (ue_var 4) (ua_cons (ue_op uo_fdiv (ue_ix (ue_var 2) ue_int) ue_int) ua_nil))))
    (uss_cons (us_if (ut_not (ut_tru (ue_call (ok_l_reads T) (hr.mono (by decide)) (by rfl) T.mg_l_reads T.F_l_reads.kp T.b_l_reads pass0 Wsh.no (ua_cons (ue_var 5) (ua_cons (ue_var 1) ua_nil))))) (uss_one (us_ret ue_bl)) uss_nil)
    (uss_one (us_if (ut_cmp (uo_in (u65 hr)) (ue_op uo_mod (ue_op uo_fdiv (ue_ix (ue_var 2) ue_int) ue_int) ue_int) (ue_tup (ua_cons ue_int (ua_cons ue_int (ua_cons ue_int ua_nil)))) rfl) (uss_cons (us_tryOL (C0 := a.E_BadScript) rfl rfl ⟨rfl, by decide, .inl T.g_BadScript⟩ T.em_BadScript_BadScript (fun B PXF WX pn xe tk wh => (uss_one (us_expr (ue_callXL (ok_read_event T) (hr.mono (by decide)) (by rfl) T.mg_read_event T.F_read_event.kp T.b_read_event tk wh (ua_cons (ue_var 5) (ua_cons (ue_var 1) ua_nil))))))
      (fun B ax oe pn => (uss_one us_continue)))
    (uss_one (us_if (ut_cmp uo_lt (ue_op uo_mod (ue_op uo_fdiv (ue_ix (ue_var 2) ue_int) ue_int) ue_int) ue_int rfl) (uss_one (us_ret ue_bl)) uss_nil))) uss_nil))))))))))
    (uss_one (us_ret ue_bl))), ?_⟩
  intro ds m Q PX hl h
  clear hl hr B E H s outer cdv A T
  obtain ⟨ns, rfl, hn, rfl, q⟩ := h
  walk_at "g"
  refine for_ix (fun i ρ m' => m' = (fun _ => none) ∧ ∃ o1 o2 o3 o4 o5 o6 : Option D, ρ = [some (.fz (ns.map D.int)), o1, o2, o3, o4, o5, o6]) _ ⟨rfl, _, _, _, _, _, _, rfl⟩ (fun _ _ _ _ => trivial) ?_ ?_
  · rintro i x ρ m' hx ⟨rfl, o1, o2, o3, o4, o5, o6, rfl⟩
    obtain ⟨rfl, hil⟩ := irng_get hx
    refine ⟨_, by walk_at "t", ?_⟩
    simp only [Int.zero_add]
    walk_at "g"
    refine lc_all (fun j : Nat => D.int j) (fun j => .int (absI (cell ns (3 * i + j)))) [0, 1, 2] (by simp [sizeLine]) ?_ ?_
    · intro j hj acc R hl hR
      have hj3 : j < 3 := by simp at hj; omega
      clear hj
      refine ⟨_, by walk_at "t", ?_⟩
      walk_at "g"
      exact hR
    have a0 : 0 ≤ absI (cell ns (3 * i)) := absI_nn _
    have a1 : 0 ≤ absI (cell ns (3 * i + 1)) := absI_nn _
    have a2 : 0 ≤ absI (cell ns (3 * i + 2)) := absI_nn _
    simp only [List.map_cons, List.map_nil, Nat.add_zero]
    generalize absI (cell ns (3 * i)) = c0 at *
    generalize absI (cell ns (3 * i + 1)) = c1 at *
    generalize absI (cell ns (3 * i + 2)) = c2 at *
    walk_at "g"
    have hg := evP_good (c := c0) (e := c1) (f := c2) a0 a1 a2
    generalize evP c0 c1 c2 = e at hg ⊢
    obtain ⟨hl, hok, hwn⟩ := good_line hg
    have hll : (lineV e).length ≤ 10000 := by omega
    have hr := good_read hg
    have hf := good_fit hg
    have hq := deq_refl _ (fit_dat hf)
    have hbk := back_none hg
    have hfr := front_none (lineV e)
    refine ⟨hg.ok, ?_⟩
    walk_at "g"
    refine ⟨hg.ok, ?_⟩
    walk_at "g"
    rw [hr]
    walk_at "g"
    refine EqG.dt (by cases e <;> rfl) (by cases e <;> rfl) hf hf hq ?_
    have a7 : 0 ≤ c2 / 7 := by omega
    walk_at "g"
    intro k2
    rename_i w _
    have k1 : c2 / 7 % 5 = 1 → w = lineV e ++ Str.ofString " " := by assumption
    walk_at "g"
    all_goals first
      | exact .mk ⟨rfl, _, _, _, _, _, _, rfl⟩
      | skip
    cases hrw : readV w with
    | none =>
      walk_at "g"
      exact .mk ⟨rfl, _, _, _, _, _, _, rfl⟩
    | some e2 =>
      walk_at "g"
      · exfalso
        have hdi : din (.int (c2 / 7 % 5)) [.int 1, .int 2, .int 4] = true := by assumption
        have hm : c2 / 7 % 5 = 1 ∨ c2 / 7 % 5 = 2 := by
          have h0 : 0 ≤ c2 / 7 % 5 := by omega
          have h3 : c2 / 7 % 5 < 3 := by omega
          generalize c2 / 7 % 5 = y at hdi h0 h3
          rcases (by omega : y = 0 ∨ y = 1 ∨ y = 2) with rfl | rfl | rfl
          · exact absurd hdi (by decide)
          · exact .inl rfl
          · exact .inr rfl
        rcases hm with h | h
        · rw [k1 h, hbk] at hrw; cases hrw
        · rw [k2 h, hfr] at hrw; cases hrw
      · exact .mk ⟨rfl, _, _, _, _, _, _, rfl⟩
  · rintro ρ m' ⟨rfl, o1, o2, o3, o4, o5, o6, rfl⟩
    walk_at "g"
    exact q _

theorem all_mk {l : PySem.W.OpenLaw} {w : World} {K : PySem.W.Frag} {h : Heap} {mg : Str → Option Value} {fa : Addr} {f1 : Addr} {od1 an1 : Option Addr} {sl1 : Array (Option Value)} {oc1 kV1 dc1 pm1 cd1 ct1 : Value} {f2 : Addr} {od2 an2 : Option Addr} {sl2 : Array (Option Value)} {oc2 kV2 dc2 pm2 cd2 ct2 : Value} {f3 : Addr} {od3 an3 : Option Addr} {sl3 : Array (Option Value)} {oc3 kV3 dc3 pm3 cd3 ct3 : Value} {f4 : Addr} {od4 an4 : Option Addr} {sl4 : Array (Option Value)} {oc4 kV4 dc4 pm4 cd4 ct4 : Value} {f5 : Addr} {od5 an5 : Option Addr} {sl5 : Array (Option Value)} {oc5 kV5 dc5 pm5 cd5 ct5 : Value} {f6 : Addr} {od6 an6 : Option Addr} {sl6 : Array (Option Value)} {oc6 kV6 dc6 pm6 cd6 ct6 : Value} {f7 : Addr} {od7 an7 : Option Addr} {sl7 : Array (Option Value)} {oc7 kV7 dc7 pm7 cd7 ct7 : Value} {f8 : Addr} {od8 an8 : Option Addr} {sl8 : Array (Option Value)} {oc8 kV8 dc8 pm8 cd8 ct8 : Value} {f9 : Addr} {od9 an9 : Option Addr} {sl9 : Array (Option Value)} {oc9 kV9 dc9 pm9 cd9 ct9 : Value} {f10 : Addr} {od10 an10 : Option Addr} {sl10 : Array (Option Value)} {oc10 kV10 dc10 pm10 cd10 ct10 : Value} {f11 : Addr} {od11 an11 : Option Addr} {sl11 : Array (Option Value)} {oc11 kV11 dc11 pm11 cd11 ct11 : Value} {f12 : Addr} {od12 an12 : Option Addr} {sl12 : Array (Option Value)} {oc12 kV12 dc12 pm12 cd12 ct12 : Value} {f13 : Addr} {od13 an13 : Option Addr} {sl13 : Array (Option Value)} {oc13 kV13 dc13 pm13 cd13 ct13 : Value} {f14 : Addr} {od14 an14 : Option Addr} {sl14 : Array (Option Value)} {oc14 kV14 dc14 pm14 cd14 ct14 : Value} {f15 : Addr} {od15 an15 : Option Addr} {sl15 : Array (Option Value)} {oc15 kV15 dc15 pm15 cd15 ct15 : Value} {f16 : Addr} {od16 an16 : Option Addr} {sl16 : Array (Option Value)} {oc16 kV16 dc16 pm16 cd16 ct16 : Value} {f17 : Addr} {od17 an17 : Option Addr} {sl17 : Array (Option Value)} {oc17 kV17 dc17 pm17 cd17 ct17 : Value} {f18 : Addr} {od18 an18 : Option Addr} {sl18 : Array (Option Value)} {oc18 kV18 dc18 pm18 cd18 ct18 : Value} {f19 : Addr} {od19 an19 : Option Addr} {sl19 : Array (Option Value)} {oc19 kV19 dc19 pm19 cd19 ct19 : Value} {f20 : Addr} {od20 an20 : Option Addr} {sl20 : Array (Option Value)} {oc20 kV20 dc20 pm20 cd20 ct20 : Value} {f21 : Addr} {od21 an21 : Option Addr} {sl21 : Array (Option Value)} {oc21 kV21 dc21 pm21 cd21 ct21 : Value} {f22 : Addr} {od22 an22 : Option Addr} {sl22 : Array (Option Value)} {oc22 kV22 dc22 pm22 cd22 ct22 : Value} {f23 : Addr} {od23 an23 : Option Addr} {sl23 : Array (Option Value)} {oc23 kV23 dc23 pm23 cd23 ct23 : Value} {f24 : Addr} {od24 an24 : Option Addr} {sl24 : Array (Option Value)} {oc24 kV24 dc24 pm24 cd24 ct24 : Value} {f25 : Addr} {od25 an25 : Option Addr} {sl25 : Array (Option Value)} {oc25 kV25 dc25 pm25 cd25 ct25 : Value} {f26 : Addr} {od26 an26 : Option Addr} {sl26 : Array (Option Value)} {oc26 kV26 dc26 pm26 cd26 ct26 : Value} {f27 : Addr} {od27 an27 : Option Addr} {sl27 : Array (Option Value)} {oc27 kV27 dc27 pm27 cd27 ct27 : Value} {f28 : Addr} {od28 an28 : Option Addr} {sl28 : Array (Option Value)} {oc28 kV28 dc28 pm28 cd28 ct28 : Value} {f29 : Addr} {od29 an29 : Option Addr} {sl29 : Array (Option Value)} {oc29 kV29 dc29 pm29 cd29 ct29 : Value} {f30 : Addr} {od30 an30 : Option Addr} {sl30 : Array (Option Value)} {oc30 kV30 dc30 pm30 cd30 ct30 : Value} {E_BadCommand : Addr} {E_BadLine : Addr} {E_BadScript : Addr} {E_TribunalError : Addr} {I_BadLine cdI_BadLine ccI_BadLine n2_BadLine : Addr} {ocI_BadLine kVI_BadLine dcI_BadLine pmI_BadLine ctI_BadLine clI_BadLine cpI_BadLine : Value} {odI_BadLine anI_BadLine cldI_BadLine cddI_BadLine n9_BadLine : Option Addr} {slI_BadLine cslI_BadLine ccsI_BadLine : Array (Option Value)} {vsI_BadLine : Array Value} {fiI_BadLine n0_BadLine n1_BadLine : Str} {tfI_BadLine : Tok} {n3_BadLine bm_BadLine n6_BadLine : List Value} {n5_BadLine : List Str} {n7_BadLine : Bool} {n8_BadLine : Option Bool} {m0_BadLine m1_BadLine m2_BadLine m3_BadLine m5_BadLine : Option Value} {I_BadScript cdI_BadScript ccI_BadScript n2_BadScript : Addr} {ocI_BadScript kVI_BadScript dcI_BadScript pmI_BadScript ctI_BadScript clI_BadScript cpI_BadScript : Value} {odI_BadScript anI_BadScript cldI_BadScript cddI_BadScript n9_BadScript : Option Addr} {slI_BadScript cslI_BadScript ccsI_BadScript : Array (Option Value)} {vsI_BadScript : Array Value} {fiI_BadScript n0_BadScript n1_BadScript : Str} {tfI_BadScript : Tok} {n3_BadScript bm_BadScript n6_BadScript : List Value} {n5_BadScript : List Str} {n7_BadScript : Bool} {n8_BadScript : Option Bool} {m0_BadScript m1_BadScript m2_BadScript m3_BadScript m5_BadScript : Option Value} {dk_SHAPES : Addr} {tg_LONGEST_commands : Tok} {tg_CODE : Tok} {tg_LETTERS : Tok} {tg_LONGEST_wire : Tok} {dk_KINDS : Addr} (X : K.In h) (G : h.Ns mainGlobals mg) (hfa : mg "law" = some (.ref fa))
    (nc_KINDS : PySem.W.nsIn K mainGlobals "KINDS" = some (some (.ref dk_KINDS)))
    (nc_SHAPES : PySem.W.nsIn K mainGlobals "SHAPES" = some (some (.ref dk_SHAPES)))
    (ag_TribunalError : PySem.W.nsIn K mainGlobals "TribunalError" = some (some (.ref E_TribunalError)))
    (ag_BadScript : PySem.W.nsIn K mainGlobals "BadScript" = some (some (.ref E_BadScript)))
    (ag_BadLine : PySem.W.nsIn K mainGlobals "BadLine" = some (some (.ref E_BadLine)))
    (ag_BadCommand : PySem.W.nsIn K mainGlobals "BadCommand" = some (some (.ref E_BadCommand)))
    (a1 : PySem.W.nsIn K mainGlobals "_law_cell" = some (some (.ref f1)))
    (l1 : K.lookup f1 = some ⟨oc1, od1, .func (PySem.W.fnOf "_law_cell" "_law_cell" (defArgs s_l_cell) (defBody s_l_cell) (defScope s_l_cell) .none kV1 dc1 pm1 an1 cd1 ct1), sl1⟩)
    (c1 : PySem.W.codeIn K cd1 "_law_cell" = true)
    (k1 : PySem.W.keepIn K (.ref f1) = true)
    (a2 : PySem.W.nsIn K mainGlobals "number_of" = some (some (.ref f2)))
    (l2 : K.lookup f2 = some ⟨oc2, od2, .func (PySem.W.fnOf "number_of" "number_of" (defArgs s_number_of) (defBody s_number_of) (defScope s_number_of) .none kV2 dc2 pm2 an2 cd2 ct2), sl2⟩)
    (c2 : PySem.W.codeIn K cd2 "number_of" = true)
    (k2 : PySem.W.keepIn K (.ref f2) = true)
    (a3 : PySem.W.nsIn K mainGlobals "number_wire" = some (some (.ref f3)))
    (l3 : K.lookup f3 = some ⟨oc3, od3, .func (PySem.W.fnOf "_number" "_number" (defArgs s_number_wire) (defBody s_number_wire) (defScope s_number_wire) .none kV3 dc3 pm3 an3 cd3 ct3), sl3⟩)
    (c3 : PySem.W.codeIn K cd3 "_number" = true)
    (k3 : PySem.W.keepIn K (.ref f3) = true)
    (a4 : PySem.W.nsIn K mainGlobals "is_name" = some (some (.ref f4)))
    (l4 : K.lookup f4 = some ⟨oc4, od4, .func (PySem.W.fnOf "is_name" "is_name" (defArgs s_is_name) (defBody s_is_name) (defScope s_is_name) .none kV4 dc4 pm4 an4 cd4 ct4), sl4⟩)
    (c4 : PySem.W.codeIn K cd4 "is_name" = true)
    (k4 : PySem.W.keepIn K (.ref f4) = true)
    (a5 : PySem.W.nsIn K mainGlobals "_block" = some (some (.ref f5)))
    (l5 : K.lookup f5 = some ⟨oc5, od5, .func (PySem.W.fnOf "_block" "_block" (defArgs s__block) (defBody s__block) (defScope s__block) .none kV5 dc5 pm5 an5 cd5 ct5), sl5⟩)
    (c5 : PySem.W.codeIn K cd5 "_block" = true)
    (k5 : PySem.W.keepIn K (.ref f5) = true)
    (a6 : PySem.W.nsIn K mainGlobals "_lean" = some (some (.ref f6)))
    (l6 : K.lookup f6 = some ⟨oc6, od6, .func (PySem.W.fnOf "_lean" "_lean" (defArgs s__lean) (defBody s__lean) (defScope s__lean) .none kV6 dc6 pm6 an6 cd6 ct6), sl6⟩)
    (c6 : PySem.W.codeIn K cd6 "_lean" = true)
    (k6 : PySem.W.keepIn K (.ref f6) = true)
    (a7 : PySem.W.nsIn K mainGlobals "read_letter" = some (some (.ref f7)))
    (l7 : K.lookup f7 = some ⟨oc7, od7, .func (PySem.W.fnOf "read_letter" "read_letter" (defArgs s_read_letter) (defBody s_read_letter) (defScope s_read_letter) .none kV7 dc7 pm7 an7 cd7 ct7), sl7⟩)
    (c7 : PySem.W.codeIn K cd7 "read_letter" = true)
    (k7 : PySem.W.keepIn K (.ref f7) = true)
    (a8 : PySem.W.nsIn K mainGlobals "_digits" = some (some (.ref f8)))
    (l8 : K.lookup f8 = some ⟨oc8, od8, .func (PySem.W.fnOf "_digits" "_digits" (defArgs s__digits) (defBody s__digits) (defScope s__digits) .none kV8 dc8 pm8 an8 cd8 ct8), sl8⟩)
    (c8 : PySem.W.codeIn K cd8 "_digits" = true)
    (k8 : PySem.W.keepIn K (.ref f8) = true)
    (a9 : PySem.W.nsIn K mainGlobals "number_commands" = some (some (.ref f9)))
    (l9 : K.lookup f9 = some ⟨oc9, od9, .func (PySem.W.fnOf "_number" "_number" (defArgs s_number_commands) (defBody s_number_commands) (defScope s_number_commands) .none kV9 dc9 pm9 an9 cd9 ct9), sl9⟩)
    (c9 : PySem.W.codeIn K cd9 "_number" = true)
    (k9 : PySem.W.keepIn K (.ref f9) = true)
    (a10 : PySem.W.nsIn K mainGlobals "_take" = some (some (.ref f10)))
    (l10 : K.lookup f10 = some ⟨oc10, od10, .func (PySem.W.fnOf "_take" "_take" (defArgs s__take) (defBody s__take) (defScope s__take) .none kV10 dc10 pm10 an10 cd10 ct10), sl10⟩)
    (c10 : PySem.W.codeIn K cd10 "_take" = true)
    (k10 : PySem.W.keepIn K (.ref f10) = true)
    (a11 : PySem.W.nsIn K mainGlobals "commands_of" = some (some (.ref f11)))
    (l11 : K.lookup f11 = some ⟨oc11, od11, .func (PySem.W.fnOf "commands_of" "commands_of" (defArgs s_commands_of) (defBody s_commands_of) (defScope s_commands_of) .none kV11 dc11 pm11 an11 cd11 ct11), sl11⟩)
    (c11 : PySem.W.codeIn K cd11 "commands_of" = true)
    (k11 : PySem.W.keepIn K (.ref f11) = true)
    (a12 : PySem.W.nsIn K mainGlobals "_numbers" = some (some (.ref f12)))
    (l12 : K.lookup f12 = some ⟨oc12, od12, .func (PySem.W.fnOf "_numbers" "_numbers" (defArgs s__numbers) (defBody s__numbers) (defScope s__numbers) .none kV12 dc12 pm12 an12 cd12 ct12), sl12⟩)
    (c12 : PySem.W.codeIn K cd12 "_numbers" = true)
    (k12 : PySem.W.keepIn K (.ref f12) = true)
    (a13 : PySem.W.nsIn K mainGlobals "read_event" = some (some (.ref f13)))
    (l13 : K.lookup f13 = some ⟨oc13, od13, .func (PySem.W.fnOf "read_event" "read_event" (defArgs s_read_event) (defBody s_read_event) (defScope s_read_event) .none kV13 dc13 pm13 an13 cd13 ct13), sl13⟩)
    (c13 : PySem.W.codeIn K cd13 "read_event" = true)
    (k13 : PySem.W.keepIn K (.ref f13) = true)
    (a14 : PySem.W.nsIn K mainGlobals "_law_long" = some (some (.ref f14)))
    (l14 : K.lookup f14 = some ⟨oc14, od14, .func (PySem.W.fnOf "_law_long" "_law_long" (defArgs s_l_long) (defBody s_l_long) (defScope s_l_long) .none kV14 dc14 pm14 an14 cd14 ct14), sl14⟩)
    (c14 : PySem.W.codeIn K cd14 "_law_long" = true)
    (k14 : PySem.W.keepIn K (.ref f14) = true)
    (a15 : PySem.W.nsIn K mainGlobals "_law_statement" = some (some (.ref f15)))
    (l15 : K.lookup f15 = some ⟨oc15, od15, .func (PySem.W.fnOf "_law_statement" "_law_statement" (defArgs s_l_statement) (defBody s_l_statement) (defScope s_l_statement) .none kV15 dc15 pm15 an15 cd15 ct15), sl15⟩)
    (c15 : PySem.W.codeIn K cd15 "_law_statement" = true)
    (k15 : PySem.W.keepIn K (.ref f15) = true)
    (a16 : PySem.W.nsIn K mainGlobals "_law_row" = some (some (.ref f16)))
    (l16 : K.lookup f16 = some ⟨oc16, od16, .func (PySem.W.fnOf "_law_row" "_law_row" (defArgs s_l_row) (defBody s_l_row) (defScope s_l_row) .none kV16 dc16 pm16 an16 cd16 ct16), sl16⟩)
    (c16 : PySem.W.codeIn K cd16 "_law_row" = true)
    (k16 : PySem.W.keepIn K (.ref f16) = true)
    (a17 : PySem.W.nsIn K mainGlobals "_law_code" = some (some (.ref f17)))
    (l17 : K.lookup f17 = some ⟨oc17, od17, .func (PySem.W.fnOf "_law_code" "_law_code" (defArgs s_l_code) (defBody s_l_code) (defScope s_l_code) .none kV17 dc17 pm17 an17 cd17 ct17), sl17⟩)
    (c17 : PySem.W.codeIn K cd17 "_law_code" = true)
    (k17 : PySem.W.keepIn K (.ref f17) = true)
    (a18 : PySem.W.nsIn K mainGlobals "_law_number" = some (some (.ref f18)))
    (l18 : K.lookup f18 = some ⟨oc18, od18, .func (PySem.W.fnOf "_law_number" "_law_number" (defArgs s_l_number) (defBody s_l_number) (defScope s_l_number) .none kV18 dc18 pm18 an18 cd18 ct18), sl18⟩)
    (c18 : PySem.W.codeIn K cd18 "_law_number" = true)
    (k18 : PySem.W.keepIn K (.ref f18) = true)
    (a19 : PySem.W.nsIn K mainGlobals "_law_command" = some (some (.ref f19)))
    (l19 : K.lookup f19 = some ⟨oc19, od19, .func (PySem.W.fnOf "_law_command" "_law_command" (defArgs s_l_command) (defBody s_l_command) (defScope s_l_command) .none kV19 dc19 pm19 an19 cd19 ct19), sl19⟩)
    (c19 : PySem.W.codeIn K cd19 "_law_command" = true)
    (k19 : PySem.W.keepIn K (.ref f19) = true)
    (a20 : PySem.W.nsIn K mainGlobals "_law_event" = some (some (.ref f20)))
    (l20 : K.lookup f20 = some ⟨oc20, od20, .func (PySem.W.fnOf "_law_event" "_law_event" (defArgs s_l_event) (defBody s_l_event) (defScope s_l_event) .none kV20 dc20 pm20 an20 cd20 ct20), sl20⟩)
    (c20 : PySem.W.codeIn K cd20 "_law_event" = true)
    (k20 : PySem.W.keepIn K (.ref f20) = true)
    (a21 : PySem.W.nsIn K mainGlobals "_law_text" = some (some (.ref f21)))
    (l21 : K.lookup f21 = some ⟨oc21, od21, .func (PySem.W.fnOf "_law_text" "_law_text" (defArgs s_l_text) (defBody s_l_text) (defScope s_l_text) .none kV21 dc21 pm21 an21 cd21 ct21), sl21⟩)
    (c21 : PySem.W.codeIn K cd21 "_law_text" = true)
    (k21 : PySem.W.keepIn K (.ref f21) = true)
    (a22 : PySem.W.nsIn K mainGlobals "_law_line" = some (some (.ref f22)))
    (l22 : K.lookup f22 = some ⟨oc22, od22, .func (PySem.W.fnOf "_law_line" "_law_line" (defArgs s_l_line) (defBody s_l_line) (defScope s_l_line) .none kV22 dc22 pm22 an22 cd22 ct22), sl22⟩)
    (c22 : PySem.W.codeIn K cd22 "_law_line" = true)
    (k22 : PySem.W.keepIn K (.ref f22) = true)
    (a23 : PySem.W.nsIn K mainGlobals "_part" = some (some (.ref f23)))
    (l23 : K.lookup f23 = some ⟨oc23, od23, .func (PySem.W.fnOf "_part" "_part" (defArgs s__part) (defBody s__part) (defScope s__part) .none kV23 dc23 pm23 an23 cd23 ct23), sl23⟩)
    (c23 : PySem.W.codeIn K cd23 "_part" = true)
    (k23 : PySem.W.keepIn K (.ref f23) = true)
    (a24 : PySem.W.nsIn K mainGlobals "letter_line" = some (some (.ref f24)))
    (l24 : K.lookup f24 = some ⟨oc24, od24, .func (PySem.W.fnOf "letter_line" "letter_line" (defArgs s_letter_line) (defBody s_letter_line) (defScope s_letter_line) .none kV24 dc24 pm24 an24 cd24 ct24), sl24⟩)
    (c24 : PySem.W.codeIn K cd24 "letter_line" = true)
    (k24 : PySem.W.keepIn K (.ref f24) = true)
    (a25 : PySem.W.nsIn K mainGlobals "command_text" = some (some (.ref f25)))
    (l25 : K.lookup f25 = some ⟨oc25, od25, .func (PySem.W.fnOf "command_text" "command_text" (defArgs s_command_text) (defBody s_command_text) (defScope s_command_text) .none kV25 dc25 pm25 an25 cd25 ct25), sl25⟩)
    (c25 : PySem.W.codeIn K cd25 "command_text" = true)
    (k25 : PySem.W.keepIn K (.ref f25) = true)
    (a26 : PySem.W.nsIn K mainGlobals "event_line" = some (some (.ref f26)))
    (l26 : K.lookup f26 = some ⟨oc26, od26, .func (PySem.W.fnOf "event_line" "event_line" (defArgs s_event_line) (defBody s_event_line) (defScope s_event_line) .none kV26 dc26 pm26 an26 cd26 ct26), sl26⟩)
    (c26 : PySem.W.codeIn K cd26 "event_line" = true)
    (k26 : PySem.W.keepIn K (.ref f26) = true)
    (a27 : PySem.W.nsIn K mainGlobals "_law_changed" = some (some (.ref f27)))
    (l27 : K.lookup f27 = some ⟨oc27, od27, .func (PySem.W.fnOf "_law_changed" "_law_changed" (defArgs s_l_changed) (defBody s_l_changed) (defScope s_l_changed) .none kV27 dc27 pm27 an27 cd27 ct27), sl27⟩)
    (c27 : PySem.W.codeIn K cd27 "_law_changed" = true)
    (k27 : PySem.W.keepIn K (.ref f27) = true)
    (a28 : PySem.W.nsIn K mainGlobals "_law_is_integer" = some (some (.ref f28)))
    (l28 : K.lookup f28 = some ⟨oc28, od28, .func (PySem.W.fnOf "_law_is_integer" "_law_is_integer" (defArgs s_l_is_integer) (defBody s_l_is_integer) (defScope s_l_is_integer) .none kV28 dc28 pm28 an28 cd28 ct28), sl28⟩)
    (c28 : PySem.W.codeIn K cd28 "_law_is_integer" = true)
    (k28 : PySem.W.keepIn K (.ref f28) = true)
    (a29 : PySem.W.nsIn K mainGlobals "_law_reads" = some (some (.ref f29)))
    (l29 : K.lookup f29 = some ⟨oc29, od29, .func (PySem.W.fnOf "_law_reads" "_law_reads" (defArgs s_l_reads) (defBody s_l_reads) (defScope s_l_reads) .none kV29 dc29 pm29 an29 cd29 ct29), sl29⟩)
    (c29 : PySem.W.codeIn K cd29 "_law_reads" = true)
    (k29 : PySem.W.keepIn K (.ref f29) = true)
    (a30 : PySem.W.nsIn K mainGlobals "law" = some (some (.ref f30)))
    (l30 : K.lookup f30 = some ⟨oc30, od30, .func (PySem.W.fnOf "law" "law" (defArgs s_law) (defBody s_law) (defScope s_law) .none kV30 dc30 pm30 an30 cd30 ct30), sl30⟩)
    (c30 : PySem.W.codeIn K cd30 "law" = true)
    (k30 : PySem.W.keepIn K (.ref f30) = true)
    (em_BadLine_BadLine : PySem.W.exmOne K (.ref E_BadLine) (.ref E_BadLine) = some true)
    (em_BadScript_BadScript : PySem.W.exmOne K (.ref E_BadScript) (.ref E_BadScript) = some true)
    (em_BadScript_TribunalError : PySem.W.exmOne K (.ref E_BadScript) (.ref E_TribunalError) = some true)
    (be_BadScript : PySem.W.subIn K (.ref E_BadScript) (.type "BaseException") = some true)
    (ec1_BadScript : PySem.W.findIn K (.ref E_BadScript) "__getattribute__" = some (some (.builtin "BaseException.__getattribute__")))
    (ec2_BadScript : PySem.W.findIn K (.ref E_BadScript) "__getattr__" = some none)
    (ec4_BadScript : PySem.W.hasDictIn K E_BadScript = true)
    (ec5_BadScript : PySem.W.findIn K (.ref E_BadScript) "__class__" = some (some (.builtin "object.__class__")))
    (ec6_BadScript : PySem.W.specialIn K (.builtin "object.__class__") "__get__" = some (some (.builtin "getset_descriptor.__get__")))
    (ec7_BadScript : PySem.W.takesIn K (.builtin "object.__class__") = some true)
    (ec8_BadScript : PySem.W.mroIn K E_BadScript (.type "object") = some true)
    (kta_0 : PySem.W.kitAny K (.ref E_BadScript) [.ref E_BadCommand, .ref E_BadLine] = some false)
    (kt_BadScript_BadScript : PySem.W.kitOne K (.ref E_BadScript) (.ref E_BadScript) = some true)
    (ic_BadLine : PySem.W.findIn K (.ref E_BadLine) "__init__" = some (some (.ref I_BadLine)))
    (sl_BadLine : K.lookup I_BadLine = some ⟨ocI_BadLine, odI_BadLine, .func (PySem.W.ksFn "__init__" "BadLine.__init__" (defArgs s_E_BadLine) (defBody s_E_BadLine) (defScope s_E_BadLine) .none kVI_BadLine dcI_BadLine pmI_BadLine anI_BadLine (.ref cdI_BadLine) ctI_BadLine ccI_BadLine), slI_BadLine⟩)
    (sc_BadLine : PySem.W.codeIn K (.ref cdI_BadLine) "BadLine.__init__" = true)
    (sx_BadLine : K.lookup ccI_BadLine = some ⟨clI_BadLine, cldI_BadLine, .cell (some (.ref E_BadLine)), cslI_BadLine⟩)
    (so_BadLine : K.lookup cdI_BadLine = some ⟨cpI_BadLine, cddI_BadLine, .fields vsI_BadLine, ccsI_BadLine⟩)
    (sv_BadLine : vsI_BadLine[2]? = some (.str fiI_BadLine tfI_BadLine))
    (sf_BadLine : ((l.prog.main.file : Str) == fiI_BadLine) = true)
    (st_BadLine : (l.prog.main.scope.names.lookup ("super" : Str)).isSome = false)
    (sq_BadLine : PySem.W.nsIn K PySem.cStatics "thirdparty.any" = some none)
    (ss_BadLine : PySem.W.ks_superIn K E_BadLine E_BadLine "__init__" = some (some (.builtin "ValueError.__init__")))
    (sw_BadLine : PySem.W.subIn K (.ref E_BadLine) (.type "ValueError") = some true)
    (sh_BadLine : PySem.W.hasDictIn K E_BadLine = true)
    (sm_BadLine : PySem.W.mroIn K E_BadLine (.ref E_BadLine) = some true)
    (sn_BadLine : PySem.W.findIn K (.ref E_BadLine) "at" = some none)
    (sC_BadLine : K.lookup E_BadLine = some (excClassObj n0_BadLine n1_BadLine E_BadLine n2_BadLine n3_BadLine bm_BadLine true n5_BadLine n6_BadLine n7_BadLine n8_BadLine n9_BadLine m0_BadLine m1_BadLine m2_BadLine m3_BadLine m5_BadLine "ValueError.__new__"))
    (sb_BadLine : PySem.HandSPX.refsVE bm_BadLine = true)
    (sa0_BadLine : PySem.W.findIn K (.ref E_BadLine) "__setattr__" = some (some (.builtin "object.__setattr__")))
    (se_BadLine : PySem.W.subIn K (.ref E_BadLine) (.type "BaseException") = some true)
    (sy_BadLine : PySem.W.typeIn K (.ref E_BadLine) = some (.type "type"))
    (sk_BadLine : PySem.W.keepIn K (.ref E_BadLine) = true)
    (si_BadLine : PySem.W.typeIn K (.ref I_BadLine) = some (.type "function"))
    (ic_BadScript : PySem.W.findIn K (.ref E_BadScript) "__init__" = some (some (.ref I_BadScript)))
    (sl_BadScript : K.lookup I_BadScript = some ⟨ocI_BadScript, odI_BadScript, .func (PySem.W.ksFn "__init__" "BadScript.__init__" (defArgs s_E_BadScript) (defBody s_E_BadScript) (defScope s_E_BadScript) .none kVI_BadScript dcI_BadScript pmI_BadScript anI_BadScript (.ref cdI_BadScript) ctI_BadScript ccI_BadScript), slI_BadScript⟩)
    (sc_BadScript : PySem.W.codeIn K (.ref cdI_BadScript) "BadScript.__init__" = true)
    (sx_BadScript : K.lookup ccI_BadScript = some ⟨clI_BadScript, cldI_BadScript, .cell (some (.ref E_BadScript)), cslI_BadScript⟩)
    (so_BadScript : K.lookup cdI_BadScript = some ⟨cpI_BadScript, cddI_BadScript, .fields vsI_BadScript, ccsI_BadScript⟩)
    (sv_BadScript : vsI_BadScript[2]? = some (.str fiI_BadScript tfI_BadScript))
    (sf_BadScript : ((l.prog.main.file : Str) == fiI_BadScript) = true)
    (st_BadScript : (l.prog.main.scope.names.lookup ("super" : Str)).isSome = false)
    (sq_BadScript : PySem.W.nsIn K PySem.cStatics "thirdparty.any" = some none)
    (ss_BadScript : PySem.W.ks_superIn K E_BadScript E_BadScript "__init__" = some (some (.builtin "ValueError.__init__")))
    (sw_BadScript : PySem.W.subIn K (.ref E_BadScript) (.type "ValueError") = some true)
    (sh_BadScript : PySem.W.hasDictIn K E_BadScript = true)
    (sm_BadScript : PySem.W.mroIn K E_BadScript (.ref E_BadScript) = some true)
    (sn_BadScript : PySem.W.findIn K (.ref E_BadScript) "at" = some none)
    (sC_BadScript : K.lookup E_BadScript = some (excClassObj n0_BadScript n1_BadScript E_BadScript n2_BadScript n3_BadScript bm_BadScript true n5_BadScript n6_BadScript n7_BadScript n8_BadScript n9_BadScript m0_BadScript m1_BadScript m2_BadScript m3_BadScript m5_BadScript "ValueError.__new__"))
    (sb_BadScript : PySem.HandSPX.refsVE bm_BadScript = true)
    (sa0_BadScript : PySem.W.findIn K (.ref E_BadScript) "__setattr__" = some (some (.builtin "object.__setattr__")))
    (se_BadScript : PySem.W.subIn K (.ref E_BadScript) (.type "BaseException") = some true)
    (sy_BadScript : PySem.W.typeIn K (.ref E_BadScript) = some (.type "type"))
    (sk_BadScript : PySem.W.keepIn K (.ref E_BadScript) = true)
    (si_BadScript : PySem.W.typeIn K (.ref I_BadScript) = some (.type "function"))
    (nb_abs : PySem.W.nsIn K mainGlobals "abs" = some none)
    (nb_all : PySem.W.nsIn K mainGlobals "all" = some none)
    (nb_bool : PySem.W.nsIn K mainGlobals "bool" = some none)
    (nb_int : PySem.W.nsIn K mainGlobals "int" = some none)
    (nb_isinstance : PySem.W.nsIn K mainGlobals "isinstance" = some none)
    (nb_len : PySem.W.nsIn K mainGlobals "len" = some none)
    (nb_range : PySem.W.nsIn K mainGlobals "range" = some none)
    (nb_str : PySem.W.nsIn K mainGlobals "str" = some none)
    (nb_super : PySem.W.nsIn K mainGlobals "super" = some none)
    (nb_tuple : PySem.W.nsIn K mainGlobals "tuple" = some none)
    (nb_zip : PySem.W.nsIn K mainGlobals "zip" = some none)
    (dw_SHAPES : He.dicW K dk_SHAPES = some (He.keysIn w.params ["p", "w", "d", "k"]))
    (dv_SHAPES : DLZ.dicV K dk_SHAPES = some (([("p", .str "pqr"), ("w", .str "wx"), ("d", .str "dz"), ("k", .str "kbv")] : List (Str × D)).map some))
    (nc_LONGEST_commands : PySem.W.nsIn K mainGlobals "LONGEST_commands" = some (some (.int (60) tg_LONGEST_commands)))
    (nc_CODE : PySem.W.nsIn K mainGlobals "CODE" = some (some (.str "acefghijlmnostuy0123456789" tg_CODE)))
    (nc_LETTERS : PySem.W.nsIn K mainGlobals "LETTERS" = some (some (.str "abcdefghijklmnopqrstuvwxyz0123456789" tg_LETTERS)))
    (nc_LONGEST_wire : PySem.W.nsIn K mainGlobals "LONGEST_wire" = some (some (.int (60) tg_LONGEST_wire)))
    (dw_KINDS : He.dicW K dk_KINDS = some (He.keysIn w.params ["deliver", "timeout", "assist", "crash"]))
    (dv_KINDS : DLZ.dicV K dk_KINDS = some (([("deliver", .int 2), ("timeout", .int 1), ("assist", .int 2), ("crash", .int 1)] : List (Str × D)).map some)) :
    ∃ fd : FuncData, (∀ (s : Shared) (v : Value), BindsTo s fd ⟨[v], []⟩ [("_law_script", v)]) ∧ ∀ base : Heap, K.In base → base.Ns mainGlobals mg → FnOk l.prog w K mg base CX0 8 fa fd ["_law_script"] (lowSp K 1 spLawD) := by
  have e := hfa.symm.trans (PySem.W.mg_of X G a30)
  cases e
  have F1 := fun_mk (st := s_l_cell) l1 c1 k1
  have b1 := F1.binds (ps := ["_law_script", "_law_k"]) fun _ _ _ _ _ _ us hl => match us, hl with | [_, _], _ => rfl
  have F2 := fun_mk (st := s_number_of) l2 c2 k2
  have b2 := F2.binds (ps := ["word"]) fun _ _ _ _ _ _ us hl => match us, hl with | [_], _ => rfl
  have F3 := fun_mk (st := s_number_wire) l3 c3 k3
  have b3 := F3.binds (ps := ["words", "at"]) fun _ _ _ _ _ _ us hl => match us, hl with | [_, _], _ => rfl
  have F4 := fun_mk (st := s_is_name) l4 c4 k4
  have b4 := F4.binds (ps := ["word"]) fun _ _ _ _ _ _ us hl => match us, hl with | [_], _ => rfl
  have F5 := fun_mk (st := s__block) l5 c5 k5
  have b5 := F5.binds (ps := ["words", "at", "free"]) fun _ _ _ _ _ _ us hl => match us, hl with | [_, _, _], _ => rfl
  have F6 := fun_mk (st := s__lean) l6 c6 k6
  have b6 := F6.binds (ps := ["words", "at", "turn"]) fun _ _ _ _ _ _ us hl => match us, hl with | [_, _, _], _ => rfl
  have F7 := fun_mk (st := s_read_letter) l7 c7 k7
  have b7 := F7.binds (ps := ["line"]) fun _ _ _ _ _ _ us hl => match us, hl with | [_], _ => rfl
  have F8 := fun_mk (st := s__digits) l8 c8 k8
  have b8 := F8.binds (ps := ["text", "at"]) fun _ _ _ _ _ _ us hl => match us, hl with | [_, _], _ => rfl
  have F9 := fun_mk (st := s_number_commands) l9 c9 k9
  have b9 := F9.binds (ps := ["word"]) fun _ _ _ _ _ _ us hl => match us, hl with | [_], _ => rfl
  have F10 := fun_mk (st := s__take) l10 c10 k10
  have b10 := F10.binds (ps := ["text", "at"]) fun _ _ _ _ _ _ us hl => match us, hl with | [_, _], _ => rfl
  have F11 := fun_mk (st := s_commands_of) l11 c11 k11
  have b11 := F11.binds (ps := ["block"]) fun _ _ _ _ _ _ us hl => match us, hl with | [_], _ => rfl
  have F12 := fun_mk (st := s__numbers) l12 c12 k12
  have b12 := F12.binds (ps := ["words", "at"]) fun _ _ _ _ _ _ us hl => match us, hl with | [_, _], _ => rfl
  have F13 := fun_mk (st := s_read_event) l13 c13 k13
  have b13 := F13.binds (ps := ["line", "at"]) fun _ _ _ _ _ _ us hl => match us, hl with | [_, _], _ => rfl
  have F14 := fun_mk (st := s_l_long) l14 c14 k14
  have b14 := F14.binds (ps := ["_law_size", "_law_at"]) fun _ _ _ _ _ _ us hl => match us, hl with | [_, _], _ => rfl
  have F15 := fun_mk (st := s_l_statement) l15 c15 k15
  have b15 := F15.binds (ps := ["_law_digit", "_law_height"]) fun _ _ _ _ _ _ us hl => match us, hl with | [_, _], _ => rfl
  have F16 := fun_mk (st := s_l_row) l16 c16 k16
  have b16 := F16.binds (ps := ["_law_cell_here", "_law_count", "_law_size"]) fun _ _ _ _ _ _ us hl => match us, hl with | [_, _, _], _ => rfl
  have F17 := fun_mk (st := s_l_code) l17 c17 k17
  have b17 := F17.binds (ps := ["_law_cell_here"]) fun _ _ _ _ _ _ us hl => match us, hl with | [_], _ => rfl
  have F18 := fun_mk (st := s_l_number) l18 c18 k18
  have b18 := F18.binds (ps := ["_law_cell_here"]) fun _ _ _ _ _ _ us hl => match us, hl with | [_], _ => rfl
  have F19 := fun_mk (st := s_l_command) l19 c19 k19
  have b19 := F19.binds (ps := ["_law_cell_here", "_law_more"]) fun _ _ _ _ _ _ us hl => match us, hl with | [_, _], _ => rfl
  have F20 := fun_mk (st := s_l_event) l20 c20 k20
  have b20 := F20.binds (ps := ["_law_cell_here", "_law_more", "_law_last"]) fun _ _ _ _ _ _ us hl => match us, hl with | [_, _, _], _ => rfl
  have F21 := fun_mk (st := s_l_text) l21 c21 k21
  have b21 := F21.binds (ps := ["_law_command_here"]) fun _ _ _ _ _ _ us hl => match us, hl with | [_], _ => rfl
  have F22 := fun_mk (st := s_l_line) l22 c22 k22
  have b22 := F22.binds (ps := ["_law_event_here"]) fun _ _ _ _ _ _ us hl => match us, hl with | [_], _ => rfl
  have F23 := fun_mk (st := s__part) l23 c23 k23
  have b23 := F23.binds (ps := ["value"]) fun _ _ _ _ _ _ us hl => match us, hl with | [_], _ => rfl
  have F24 := fun_mk (st := s_letter_line) l24 c24 k24
  have b24 := F24.binds (ps := ["letter"]) fun _ _ _ _ _ _ us hl => match us, hl with | [_], _ => rfl
  have F25 := fun_mk (st := s_command_text) l25 c25 k25
  have b25 := F25.binds (ps := ["command"]) fun _ _ _ _ _ _ us hl => match us, hl with | [_], _ => rfl
  have F26 := fun_mk (st := s_event_line) l26 c26 k26
  have b26 := F26.binds (ps := ["event"]) fun _ _ _ _ _ _ us hl => match us, hl with | [_], _ => rfl
  have F27 := fun_mk (st := s_l_changed) l27 c27 k27
  have b27 := F27.binds (ps := ["_law_line_here", "_law_way"]) fun _ _ _ _ _ _ us hl => match us, hl with | [_, _], _ => rfl
  have F28 := fun_mk (st := s_l_is_integer) l28 c28 k28
  have b28 := F28.binds (ps := ["_law_actual"]) fun _ _ _ _ _ _ us hl => match us, hl with | [_], _ => rfl
  have F29 := fun_mk (st := s_l_reads) l29 c29 k29
  have b29 := F29.binds (ps := ["_law_line_here", "_law_at"]) fun _ _ _ _ _ _ us hl => match us, hl with | [_, _], _ => rfl
  have F30 := fun_mk (st := s_law) l30 c30 k30
  have b30 := F30.binds (ps := ["_law_script"]) fun _ _ _ _ _ _ us hl => match us, hl with | [_], _ => rfl
  have su_BadLine := DLX.sup_mk (P := l.prog) (st := s_E_BadLine) (qual := "BadLine.__init__") (pn := "at") (atn := "at") sl_BadLine sc_BadLine sx_BadLine so_BadLine sv_BadLine sf_BadLine st_BadLine sq_BadLine ss_BadLine sw_BadLine sh_BadLine sm_BadLine sn_BadLine sC_BadLine sb_BadLine sa0_BadLine se_BadLine sy_BadLine sk_BadLine ic_BadLine si_BadLine
  have bi_BadLine := su_BadLine.binds fun _ _ _ _ _ _ _ _ us hl => match us, hl with | [_, _], _ => rfl
  have su_BadScript := DLX.sup_mk (P := l.prog) (st := s_E_BadScript) (qual := "BadScript.__init__") (pn := "at") (atn := "at") sl_BadScript sc_BadScript sx_BadScript so_BadScript sv_BadScript sf_BadScript st_BadScript sq_BadScript ss_BadScript sw_BadScript sh_BadScript sm_BadScript sn_BadScript sC_BadScript sb_BadScript sa0_BadScript se_BadScript sy_BadScript sk_BadScript ic_BadScript si_BadScript
  have bi_BadScript := su_BadScript.binds fun _ _ _ _ _ _ _ _ us hl => match us, hl with | [_, _], _ => rfl
  have T : Txt l.prog w K mg { l_cell := f1, fd_l_cell := _, number_of := f2, fd_number_of := _, number_wire := f3, fd_number_wire := _, is_name := f4, fd_is_name := _, _block := f5, fd__block := _, _lean := f6, fd__lean := _, read_letter := f7, fd_read_letter := _, _digits := f8, fd__digits := _, number_commands := f9, fd_number_commands := _, _take := f10, fd__take := _, commands_of := f11, fd_commands_of := _, _numbers := f12, fd__numbers := _, read_event := f13, fd_read_event := _, l_long := f14, fd_l_long := _, l_statement := f15, fd_l_statement := _, l_row := f16, fd_l_row := _, l_code := f17, fd_l_code := _, l_number := f18, fd_l_number := _, l_command := f19, fd_l_command := _, l_event := f20, fd_l_event := _, l_text := f21, fd_l_text := _, l_line := f22, fd_l_line := _, _part := f23, fd__part := _, letter_line := f24, fd_letter_line := _, command_text := f25, fd_command_text := _, event_line := f26, fd_event_line := _, l_changed := f27, fd_l_changed := _, l_is_integer := f28, fd_l_is_integer := _, l_reads := f29, fd_l_reads := _, law := fa, fd_law := _, E_BadCommand := E_BadCommand, E_BadLine := E_BadLine, E_BadScript := E_BadScript, E_TribunalError := E_TribunalError, I_BadLine := I_BadLine, fd_E_BadLine := _, I_BadScript := I_BadScript, fd_E_BadScript := _ } := { F_l_cell := F1, b_l_cell := b1, mg_l_cell := PySem.W.mg_of X G a1, F_number_of := F2, b_number_of := b2, mg_number_of := PySem.W.mg_of X G a2, F_number_wire := F3, b_number_wire := b3, mg_number_wire := PySem.W.mg_of X G a3, F_is_name := F4, b_is_name := b4, mg_is_name := PySem.W.mg_of X G a4, F__block := F5, b__block := b5, mg__block := PySem.W.mg_of X G a5, F__lean := F6, b__lean := b6, mg__lean := PySem.W.mg_of X G a6, F_read_letter := F7, b_read_letter := b7, mg_read_letter := PySem.W.mg_of X G a7, F__digits := F8, b__digits := b8, mg__digits := PySem.W.mg_of X G a8, F_number_commands := F9, b_number_commands := b9, mg_number_commands := PySem.W.mg_of X G a9, F__take := F10, b__take := b10, mg__take := PySem.W.mg_of X G a10, F_commands_of := F11, b_commands_of := b11, mg_commands_of := PySem.W.mg_of X G a11, F__numbers := F12, b__numbers := b12, mg__numbers := PySem.W.mg_of X G a12, F_read_event := F13, b_read_event := b13, mg_read_event := PySem.W.mg_of X G a13, F_l_long := F14, b_l_long := b14, mg_l_long := PySem.W.mg_of X G a14, F_l_statement := F15, b_l_statement := b15, mg_l_statement := PySem.W.mg_of X G a15, F_l_row := F16, b_l_row := b16, mg_l_row := PySem.W.mg_of X G a16, F_l_code := F17, b_l_code := b17, mg_l_code := PySem.W.mg_of X G a17, F_l_number := F18, b_l_number := b18, mg_l_number := PySem.W.mg_of X G a18, F_l_command := F19, b_l_command := b19, mg_l_command := PySem.W.mg_of X G a19, F_l_event := F20, b_l_event := b20, mg_l_event := PySem.W.mg_of X G a20, F_l_text := F21, b_l_text := b21, mg_l_text := PySem.W.mg_of X G a21, F_l_line := F22, b_l_line := b22, mg_l_line := PySem.W.mg_of X G a22, F__part := F23, b__part := b23, mg__part := PySem.W.mg_of X G a23, F_letter_line := F24, b_letter_line := b24, mg_letter_line := PySem.W.mg_of X G a24, F_command_text := F25, b_command_text := b25, mg_command_text := PySem.W.mg_of X G a25, F_event_line := F26, b_event_line := b26, mg_event_line := PySem.W.mg_of X G a26, F_l_changed := F27, b_l_changed := b27, mg_l_changed := PySem.W.mg_of X G a27, F_l_is_integer := F28, b_l_is_integer := b28, mg_l_is_integer := PySem.W.mg_of X G a28, F_l_reads := F29, b_l_reads := b29, mg_l_reads := PySem.W.mg_of X G a29, F_law := F30, b_law := b30, mg_law := PySem.W.mg_of X G a30, n_abs := PySem.W.mg_none_of X G nb_abs, n_all := PySem.W.mg_none_of X G nb_all, n_bool := PySem.W.mg_none_of X G nb_bool, n_int := PySem.W.mg_none_of X G nb_int, n_isinstance := PySem.W.mg_none_of X G nb_isinstance, n_len := PySem.W.mg_none_of X G nb_len, n_range := PySem.W.mg_none_of X G nb_range, n_str := PySem.W.mg_none_of X G nb_str, n_super := PySem.W.mg_none_of X G nb_super, n_tuple := PySem.W.mg_none_of X G nb_tuple, n_zip := PySem.W.mg_none_of X G nb_zip, k_SHAPES := ⟨_, PySem.W.mg_of X G nc_SHAPES, DLZ.kd_of dw_SHAPES dv_SHAPES⟩, k_LONGEST_commands := ⟨_, PySem.W.mg_of X G nc_LONGEST_commands⟩, k_CODE := ⟨_, PySem.W.mg_of X G nc_CODE⟩, k_LETTERS := ⟨_, PySem.W.mg_of X G nc_LETTERS⟩, k_LONGEST_wire := ⟨_, PySem.W.mg_of X G nc_LONGEST_wire⟩, k_KINDS := ⟨_, PySem.W.mg_of X G nc_KINDS, DLZ.kd_of dw_KINDS dv_KINDS⟩, g_BadCommand := PySem.W.mg_of X G ag_BadCommand, g_BadLine := PySem.W.mg_of X G ag_BadLine, g_BadScript := PySem.W.mg_of X G ag_BadScript, g_TribunalError := PySem.W.mg_of X G ag_TribunalError, em_BadLine_BadLine := em_BadLine_BadLine, em_BadScript_BadScript := em_BadScript_BadScript, em_BadScript_TribunalError := em_BadScript_TribunalError, kta_0 := kta_0, kt_BadScript_BadScript := kt_BadScript_BadScript, su_BadLine := su_BadLine, bi_BadLine := bi_BadLine, su_BadScript := su_BadScript, bi_BadScript := bi_BadScript, ec_BadScript := ⟨ec1_BadScript, ec2_BadScript, be_BadScript, ec4_BadScript, ec5_BadScript, ec6_BadScript, ec7_BadScript, ec8_BadScript⟩ }
  exact ⟨_, fun s v => .of_eq rfl, fun base _ _ => ok_law T⟩
end Toy
open PySem PySem.W PyProof.Rows
set_option maxRecDepth 100000 in
set_option maxHeartbeats 0 in
theorem PySem.Challenge.cw_tribunal_k32_lines_of_events_holds : PySem.Challenge.rw_tribunal_k32_lines_of_events.Holds := by
  w_on; o_law; k_head; (case hw => w_witness2)
  k_fill
  refine DL.walkN (l := PySem.Challenge.rw_tribunal_k32_lines_of_events) (k := 8) (x := "_law_script") rfl rfl ⟨rfl, by decide, by decide⟩ (fun w h Y => PySem.W.kIn_of Y) ?F
  case F =>
    intro w mg fa h KX G hmg
    refine' Toy.all_mk KX G hmg ?nc_KINDS ?nc_SHAPES ?ag_TribunalError ?ag_BadScript ?ag_BadLine ?ag_BadCommand ?a1 ?l1 ?c1 ?k1 ?a2 ?l2 ?c2 ?k2 ?a3 ?l3 ?c3 ?k3 ?a4 ?l4 ?c4 ?k4 ?a5 ?l5 ?c5 ?k5 ?a6 ?l6 ?c6 ?k6 ?a7 ?l7 ?c7 ?k7 ?a8 ?l8 ?c8 ?k8 ?a9 ?l9 ?c9 ?k9 ?a10 ?l10 ?c10 ?k10 ?a11 ?l11 ?c11 ?k11 ?a12 ?l12 ?c12 ?k12 ?a13 ?l13 ?c13 ?k13 ?a14 ?l14 ?c14 ?k14 ?a15 ?l15 ?c15 ?k15 ?a16 ?l16 ?c16 ?k16 ?a17 ?l17 ?c17 ?k17 ?a18 ?l18 ?c18 ?k18 ?a19 ?l19 ?c19 ?k19 ?a20 ?l20 ?c20 ?k20 ?a21 ?l21 ?c21 ?k21 ?a22 ?l22 ?c22 ?k22 ?a23 ?l23 ?c23 ?k23 ?a24 ?l24 ?c24 ?k24 ?a25 ?l25 ?c25 ?k25 ?a26 ?l26 ?c26 ?k26 ?a27 ?l27 ?c27 ?k27 ?a28 ?l28 ?c28 ?k28 ?a29 ?l29 ?c29 ?k29 ?a30 ?l30 ?c30 ?k30 ?em_BadLine_BadLine ?em_BadScript_BadScript ?em_BadScript_TribunalError ?be_BadScript ?ec1_BadScript ?ec2_BadScript ?ec4_BadScript ?ec5_BadScript ?ec6_BadScript ?ec7_BadScript ?ec8_BadScript ?kta_0 ?kt_BadScript_BadScript ?ic_BadLine ?sl_BadLine ?sc_BadLine ?sx_BadLine ?so_BadLine ?sv_BadLine ?sf_BadLine ?st_BadLine ?sq_BadLine ?ss_BadLine ?sw_BadLine ?sh_BadLine ?sm_BadLine ?sn_BadLine ?sC_BadLine ?sb_BadLine ?sa0_BadLine ?se_BadLine ?sy_BadLine ?sk_BadLine ?si_BadLine ?ic_BadScript ?sl_BadScript ?sc_BadScript ?sx_BadScript ?so_BadScript ?sv_BadScript ?sf_BadScript ?st_BadScript ?sq_BadScript ?ss_BadScript ?sw_BadScript ?sh_BadScript ?sm_BadScript ?sn_BadScript ?sC_BadScript ?sb_BadScript ?sa0_BadScript ?se_BadScript ?sy_BadScript ?sk_BadScript ?si_BadScript ?nb_abs ?nb_all ?nb_bool ?nb_int ?nb_isinstance ?nb_len ?nb_range ?nb_str ?nb_super ?nb_tuple ?nb_zip ?dw_SHAPES ?dv_SHAPES ?nc_LONGEST_commands ?nc_CODE ?nc_LETTERS ?nc_LONGEST_wire ?dw_KINDS ?dv_KINDS
    (case nc_KINDS => k_is)
    (case nc_SHAPES => k_is)
    (case ag_TribunalError => k_is)
    (case ag_BadScript => k_is)
    (case ag_BadLine => k_is)
    (case ag_BadCommand => k_is)
    (case a1 => k_is)
    (case l1 => k_is)
    (case c1 => k_is)
    (case k1 => k_is)
    (case a2 => k_is)
    (case l2 => k_is)
    (case c2 => k_is)
    (case k2 => k_is)
    (case a3 => k_is)
    (case l3 => k_is)
    (case c3 => k_is)
    (case k3 => k_is)
    (case a4 => k_is)
    (case l4 => k_is)
    (case c4 => k_is)
    (case k4 => k_is)
    (case a5 => k_is)
    (case l5 => k_is)
    (case c5 => k_is)
    (case k5 => k_is)
    (case a6 => k_is)
    (case l6 => k_is)
    (case c6 => k_is)
    (case k6 => k_is)
    (case a7 => k_is)
    (case l7 => k_is)
    (case c7 => k_is)
    (case k7 => k_is)
    (case a8 => k_is)
    (case l8 => k_is)
    (case c8 => k_is)
    (case k8 => k_is)
    (case a9 => k_is)
    (case l9 => k_is)
    (case c9 => k_is)
    (case k9 => k_is)
    (case a10 => k_is)
    (case l10 => k_is)
    (case c10 => k_is)
    (case k10 => k_is)
    (case a11 => k_is)
    (case l11 => k_is)
    (case c11 => k_is)
    (case k11 => k_is)
    (case a12 => k_is)
    (case l12 => k_is)
    (case c12 => k_is)
    (case k12 => k_is)
    (case a13 => k_is)
    (case l13 => k_is)
    (case c13 => k_is)
    (case k13 => k_is)
    (case a14 => k_is)
    (case l14 => k_is)
    (case c14 => k_is)
    (case k14 => k_is)
    (case a15 => k_is)
    (case l15 => k_is)
    (case c15 => k_is)
    (case k15 => k_is)
    (case a16 => k_is)
    (case l16 => k_is)
    (case c16 => k_is)
    (case k16 => k_is)
    (case a17 => k_is)
    (case l17 => k_is)
    (case c17 => k_is)
    (case k17 => k_is)
    (case a18 => k_is)
    (case l18 => k_is)
    (case c18 => k_is)
    (case k18 => k_is)
    (case a19 => k_is)
    (case l19 => k_is)
    (case c19 => k_is)
    (case k19 => k_is)
    (case a20 => k_is)
    (case l20 => k_is)
    (case c20 => k_is)
    (case k20 => k_is)
    (case a21 => k_is)
    (case l21 => k_is)
    (case c21 => k_is)
    (case k21 => k_is)
    (case a22 => k_is)
    (case l22 => k_is)
    (case c22 => k_is)
    (case k22 => k_is)
    (case a23 => k_is)
    (case l23 => k_is)
    (case c23 => k_is)
    (case k23 => k_is)
    (case a24 => k_is)
    (case l24 => k_is)
    (case c24 => k_is)
    (case k24 => k_is)
    (case a25 => k_is)
    (case l25 => k_is)
    (case c25 => k_is)
    (case k25 => k_is)
    (case a26 => k_is)
    (case l26 => k_is)
    (case c26 => k_is)
    (case k26 => k_is)
    (case a27 => k_is)
    (case l27 => k_is)
    (case c27 => k_is)
    (case k27 => k_is)
    (case a28 => k_is)
    (case l28 => k_is)
    (case c28 => k_is)
    (case k28 => k_is)
    (case a29 => k_is)
    (case l29 => k_is)
    (case c29 => k_is)
    (case k29 => k_is)
    (case a30 => k_is)
    (case l30 => k_is)
    (case c30 => k_is)
    (case k30 => k_is)
    (case em_BadLine_BadLine => kts_exm)
    (case em_BadScript_BadScript => kts_exm)
    (case em_BadScript_TribunalError => kts_exm)
    (case be_BadScript => k_is)
    (case ec1_BadScript => k_is)
    (case ec2_BadScript => k_is)
    (case ec4_BadScript => k_is)
    (case ec5_BadScript => k_is)
    (case ec6_BadScript => k_is)
    (case ec7_BadScript => k_is)
    (case ec8_BadScript => k_is)
    (case kta_0 => kit_is)
    (case kt_BadScript_BadScript => kit_is)
    (case ic_BadLine => k_is)
    (case sl_BadLine => k_is)
    (case sc_BadLine => k_is)
    (case sx_BadLine => k_is)
    (case so_BadLine => k_is)
    (case sv_BadLine => first | rfl | kernel_rfl)
    (case sf_BadLine => first | rfl | kernel_rfl)
    (case st_BadLine => first | rfl | kernel_rfl)
    (case sq_BadLine => k_is)
    (case ss_BadLine => ks_is)
    (case sw_BadLine => k_is)
    (case sh_BadLine => k_is)
    (case sm_BadLine => k_is)
    (case sn_BadLine => k_is)
    (case sC_BadLine => k_is)
    (case sb_BadLine => first | rfl | kernel_rfl)
    (case sa0_BadLine => k_is)
    (case se_BadLine => k_is)
    (case sy_BadLine => k_is)
    (case sk_BadLine => k_is)
    (case si_BadLine => k_is)
    (case ic_BadScript => k_is)
    (case sl_BadScript => k_is)
    (case sc_BadScript => k_is)
    (case sx_BadScript => k_is)
    (case so_BadScript => k_is)
    (case sv_BadScript => first | rfl | kernel_rfl)
    (case sf_BadScript => first | rfl | kernel_rfl)
    (case st_BadScript => first | rfl | kernel_rfl)
    (case sq_BadScript => k_is)
    (case ss_BadScript => ks_is)
    (case sw_BadScript => k_is)
    (case sh_BadScript => k_is)
    (case sm_BadScript => k_is)
    (case sn_BadScript => k_is)
    (case sC_BadScript => k_is)
    (case sb_BadScript => first | rfl | kernel_rfl)
    (case sa0_BadScript => k_is)
    (case se_BadScript => k_is)
    (case sy_BadScript => k_is)
    (case sk_BadScript => k_is)
    (case si_BadScript => k_is)
    (case nb_abs => k_is)
    (case nb_all => k_is)
    (case nb_bool => k_is)
    (case nb_int => k_is)
    (case nb_isinstance => k_is)
    (case nb_len => k_is)
    (case nb_range => k_is)
    (case nb_str => k_is)
    (case nb_super => k_is)
    (case nb_tuple => k_is)
    (case nb_zip => k_is)
    (case dw_SHAPES => first | rfl | kernel_rfl)
    (case dv_SHAPES => first | rfl | kernel_rfl)
    (case nc_LONGEST_commands => k_is)
    (case nc_CODE => k_is)
    (case nc_LETTERS => k_is)
    (case nc_LONGEST_wire => k_is)
    (case dw_KINDS => first | rfl | kernel_rfl)
    (case dv_KINDS => first | rfl | kernel_rfl)
