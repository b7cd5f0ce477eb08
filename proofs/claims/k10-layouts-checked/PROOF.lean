import PyProof.Rows.All
import Wide.All
import OpenK.AllK
import Wide.FinOn
import HandS.Base
import HandS.Call
import HandS.List
import HandS.Words
import HandS.Comp
import HandS.Iter
import HandS.Exc
import HandS.Defaults
import HandS.WordsExc
import HandS.IsInst
import HandS.TupAny
import HandS.Text
import HandS.Dict
import PyProof.Rows.RuleB_pow
import KE.GoesMore
import KE.GoesEnum
import HandS.Ends
import HandS.HeadEnd
import HandS.Head0
import HandS.Head1
import HandS.Head2
import HandS.HeadHook1
import HandS.HeadHook2
import PySem.Challenge.RW_layoutsets_k10_layouts_checked
set_option Elab.async false
set_option linter.all false
set_option maxRecDepth 100000
set_option checkBinderAnnotations false
/-! A layer of values without addresses over HandS: what a def computes is told of data alone; the heap is hidden in Rel and Evo. -/
namespace PL
open PySem PySem.Spec PyProof.Rows L2

/-- data: what a value is, through all its parts -/
inductive D where
  | non | bl (b : Bool) | int (i : Int) | str (x : Str) | ty (n : String) | cls (C : Addr)
  | tup (l : List D) | lst (l : List D)
  | dct (ks : List Key) (l : List D)
  | ins (C : Addr) (ns : List Str) (l : List D)
  | opq

/-- what is settled of the heap: objects that no longer change (f), purses (pu) -/
structure GS where
  f : Hp
  pu : Addr → Prop

mutual
inductive Rp (K : PySem.W.Frag) (G : GS) : V → D → Prop
  | non : Rp K G .non .non
  | bl (b : Bool) : Rp K G (.bl b) (.bl b)
  | int (i : Int) : Rp K G (.int i) (.int i)
  | str (x : Str) : Rp K G (.str x) (.str x)
  | ty (n : String) : Rp K G (.ty n) (.ty n)
  | cls (C : Addr) : Rp K G (.ref C) (.cls C)
  | tup {a : Addr} {xs : List V} {ds : List D} : SqT K G.f a xs → RpAll K G xs ds → Rp K G (.ref a) (.tup ds)
  | lst {a : Addr} {xs : List V} {ds : List D} : SqL K G.f a xs → RpAll K G xs ds → Rp K G (.ref a) (.lst ds)
  | dct {a : Addr} {kvs : List (Key × V)} {ks : List Key} {ds : List D} : Rd G.f a (.dK kvs) → kvs.map (·.1) = ks → RpAll K G (kvs.map (·.2)) ds → Rp K G (.ref a) (.dct ks ds)
  | ins {a C dx : Addr} {fs : List (Str × V)} {ns : List Str} {ds : List D} : G.f a = some (.ins C dx fs) → fs.map (·.1) = ns → RpAll K G (fs.map (·.2)) ds → Rp K G (.ref a) (.ins C ns ds)
  | opq {a : Addr} : G.pu a → Rp K G (.ref a) .opq
inductive RpAll (K : PySem.W.Frag) (G : GS) : List V → List D → Prop
  | nil : RpAll K G [] []
  | cons {v : V} {vs : List V} {d : D} {ds : List D} : Rp K G v d → RpAll K G vs ds → RpAll K G (v :: vs) (d :: ds)
end

section
variable {K : PySem.W.Frag} {G : GS}
theorem RpAll.length : ∀ {vs : List V} {ds : List D}, RpAll K G vs ds → vs.length = ds.length
  | _, _, .nil => rfl
  | _, _, .cons _ h => congrArg (· + 1) h.length
theorem RpAll.get : ∀ {vs : List V} {ds : List D} {i : Nat} {d : D}, RpAll K G vs ds → ds[i]? = some d → ∃ v, vs[i]? = some v ∧ Rp K G v d
  | _, _, _, _, .nil, e => by simp at e
  | _, _, 0, _, .cons r _, e => by simp at e; subst e; exact ⟨_, rfl, r⟩
  | _, _, i + 1, _, .cons _ h, e => by
    obtain ⟨v, h1, h2⟩ := h.get (i := i) (by simpa using e)
    exact ⟨v, by simpa using h1, h2⟩
theorem RpAll.getV : ∀ {vs : List V} {ds : List D} {i : Nat} {v : V}, RpAll K G vs ds → vs[i]? = some v → ∃ d, ds[i]? = some d ∧ Rp K G v d
  | _, _, _, _, .nil, e => by simp at e
  | _, _, 0, _, .cons r _, e => by simp at e; subst e; exact ⟨_, rfl, r⟩
  | _, _, i + 1, _, .cons _ h, e => by
    obtain ⟨v, h1, h2⟩ := h.getV (i := i) (by simpa using e)
    exact ⟨v, by simpa using h1, h2⟩
theorem RpAll.append : ∀ {vs us : List V} {ds es : List D}, RpAll K G vs ds → RpAll K G us es → RpAll K G (vs ++ us) (ds ++ es)
  | _, _, _, _, .nil, k => k
  | _, _, _, _, .cons r h, k => .cons r (h.append k)
theorem RpAll.take : ∀ {vs : List V} {ds : List D} (n : Nat), RpAll K G vs ds → RpAll K G (vs.take n) (ds.take n)
  | _, _, 0, _ => .nil
  | _, _, _ + 1, .nil => .nil
  | _, _, n + 1, .cons r h => .cons r (h.take n)
theorem RpAll.drop : ∀ {vs : List V} {ds : List D} (n : Nat), RpAll K G vs ds → RpAll K G (vs.drop n) (ds.drop n)
  | _, _, 0, r => r
  | _, _, _ + 1, .nil => .nil
  | _, _, n + 1, .cons _ h => h.drop n
theorem RpAll.snoc {vs : List V} {ds : List D} {v : V} {d : D} (h : RpAll K G vs ds) (r : Rp K G v d) : RpAll K G (vs ++ [v]) (ds ++ [d]) := h.append (.cons r .nil)
theorem RpAll.set {v : V} {d : D} (r : Rp K G v d) : ∀ {vs : List V} {ds : List D} (i : Nat), RpAll K G vs ds → RpAll K G (vs.set i v) (ds.set i d)
  | _, _, _, .nil => .nil
  | _, _, 0, .cons _ h => .cons r h
  | _, _, i + 1, .cons q h => .cons q (RpAll.set r i h)
theorem RpAll.ints : ∀ ns : List Int, RpAll K G (ns.map V.int) (ns.map D.int)
  | [] => .nil
  | n :: ns => .cons (.int n) (RpAll.ints ns)
end

theorem Rd.same {H H' : Hp} {a : Addr} {u : HO} (s : Same H H') (r : Rd H a u) : Rd H' a u := r.elim (fun h => .inl (s _ _ h)) fun ⟨o, h⟩ => .inr ⟨o, s _ _ h⟩
theorem SqT.same {K : PySem.W.Frag} {H H' : Hp} {a : Addr} {xs : List V} (s : Same H H') (r : SqT K H a xs) : SqT K H' a xs := r.elim (fun h => .inl (Rd.same s h)) .inr
theorem SqL.same {K : PySem.W.Frag} {H H' : Hp} {a : Addr} {xs : List V} (s : Same H H') (r : SqL K H a xs) : SqL K H' a xs := r.elim (fun h => .inl (Rd.same s h)) .inr

/-- more is settled -/
structure GS.Le (G G' : GS) : Prop where
  f : Same G.f G'.f
  pu : ∀ a, G.pu a → G'.pu a
theorem GS.Le.refl (G : GS) : G.Le G := ⟨Same.refl _, fun _ h => h⟩
theorem GS.Le.trans {G G1 G2 : GS} (a : G.Le G1) (b : G1.Le G2) : G.Le G2 := ⟨a.f.trans b.f, fun _ h => b.pu _ (a.pu _ h)⟩
mutual
theorem Rp.mono {K : PySem.W.Frag} {G G' : GS} (s : G.Le G') : ∀ {d : D} {v : V}, Rp K G v d → Rp K G' v d
  | .non, _, h => by cases h; exact .non
  | .bl _, _, h => by cases h; exact .bl _
  | .int _, _, h => by cases h; exact .int _
  | .str _, _, h => by cases h; exact .str _
  | .ty _, _, h => by cases h; exact .ty _
  | .cls _, _, h => by cases h; exact .cls _
  | .tup ds, _, h => by cases h with | tup h1 h2 => exact .tup (SqT.same s.f h1) (RpAll.mono s h2)
  | .lst ds, _, h => by cases h with | lst h1 h2 => exact .lst (SqL.same s.f h1) (RpAll.mono s h2)
  | .dct ks ds, _, h => by cases h with | dct h1 h2 h3 => exact .dct (Rd.same s.f h1) h2 (RpAll.mono s h3)
  | .ins C ns ds, _, h => by cases h with | ins h1 h2 h3 => exact .ins (s.f _ _ h1) h2 (RpAll.mono s h3)
  | .opq, _, h => by cases h with | opq h => exact .opq (s.pu _ h)
theorem RpAll.mono {K : PySem.W.Frag} {G G' : GS} (s : G.Le G') : ∀ {ds : List D} {vs : List V}, RpAll K G vs ds → RpAll K G' vs ds
  | [], _, h => by cases h; exact .nil
  | d :: ds, _, h => by cases h with | cons h1 h2 => exact .cons (Rp.mono s h1) (RpAll.mono s h2)
end

/-- the counter of draws stays below this -/
def LIM : Nat := 2 ^ 60
/-- a purse behind c draws -/
def PurseV (c : Nat) (o : Option HO) : Prop := ∃ x y z : Int, o = some (.lst [.int x, .int y, .int z]) ∧ 0 ≤ y ∧ y < 2 ^ 31 ∧ 0 ≤ z ∧ z ≤ 1000000 + (c : Int)
theorem PurseV.mono {c c' : Nat} {o : Option HO} (h : PurseV c o) (l : c ≤ c') : PurseV c' o := by
  obtain ⟨x, y, z, e, h1, h2, h3, h4⟩ := h
  exact ⟨x, y, z, e, h1, h2, h3, by omega⟩
theorem PurseV.some {c : Nat} {o : Option HO} (h : PurseV c o) : ∃ u, o = Option.some u := by
  obtain ⟨x, y, z, e, _⟩ := h
  exact ⟨_, e⟩
structure GS.Ok (G : GS) (H : Hp) (c : Nat) : Prop where
  same : Same G.f H
  npu : ∀ a, G.pu a → G.f a = none
  pu : ∀ a, G.pu a → PurseV c (H a)
/-- from one state to a later one -/
structure Evo (G : GS) (H : Hp) (c : Nat) (G' : GS) (H' : Hp) (c' : Nat) : Prop where
  ok : G'.Ok H' c'
  le : G.Le G'
  c : c ≤ c'
  keep : ∀ b o, H b = some o → ¬ G.pu b → H' b = some o
  pus : ∀ b, G.pu b → ∃ o, H' b = some o
  new : ∀ b o, H b = some o → G.f b = none → G'.f b = none
  npu : ∀ b o, H b = some o → G'.pu b → G.pu b
theorem Evo.refl {G : GS} {H : Hp} {c : Nat} (h : G.Ok H c) : Evo G H c G H c := ⟨h, GS.Le.refl _, Nat.le_refl _, fun _ _ e _ => e, fun b hb => (h.pu b hb).some, fun _ _ _ e => e, fun _ _ _ e => e⟩
theorem Evo.trans {G G1 G2 : GS} {H H1 H2 : Hp} {c c1 c2 : Nat} (a : Evo G H c G1 H1 c1) (b : Evo G1 H1 c1 G2 H2 c2) : Evo G H c G2 H2 c2 where
  ok := b.ok
  le := a.le.trans b.le
  c := Nat.le_trans a.c b.c
  keep := fun x o e n => b.keep x o (a.keep x o e n) fun z => n (a.npu x o e z)
  pus := fun x h => b.pus x (a.le.pu x h)
  new := fun x o e n => by
    by_cases h : G.pu x
    · obtain ⟨o', e'⟩ := a.pus x h
      exact b.new x o' e' (a.new x o e n)
    · exact b.new x o (a.keep x o e h) (a.new x o e n)
  npu := fun x o e h => by
    by_cases q : G.pu x
    · exact q
    · exact a.npu x o e (b.npu x o (a.keep x o e q) h)
theorem Evo.same {G G' : GS} {H H' : Hp} {c c' : Nat} (e : Evo G H c G' H' c') : Same G.f H' := e.le.f.trans e.ok.same
theorem GS.Ok.fnone {G : GS} {H : Hp} {c : Nat} (ok : G.Ok H c) {p : Addr} (h : H p = none) : G.f p = none := ok.same.free h
theorem GS.Ok.punone {G : GS} {H : Hp} {c : Nat} (ok : G.Ok H c) {p : Addr} (h : H p = none) : ¬ G.pu p := fun z => by
  obtain ⟨o, e⟩ := (ok.pu p z).some
  rw [h] at e; cases e
/-- a new object that is settled at once -/
theorem Evo.laid {G : GS} {H : Hp} {c : Nat} (ok : G.Ok H c) {p : Addr} (o : HO) (h : H p = none) : Evo G H c { G with f := upd G.f p o } (upd H p o) c where
  ok := ⟨fun b u e => by
      have e : upd G.f p o b = some u := e
      by_cases hb : b = p
      · subst hb; rw [upd_same] at e ⊢; exact e
      · rw [upd_ne hb] at e ⊢; exact ok.same b u e,
    fun b hb => by
      have : b ≠ p := fun z => by subst z; exact ok.punone h hb
      show upd G.f p o b = none
      rw [upd_ne this]; exact ok.npu b hb,
    fun b hb => by
      have : b ≠ p := fun z => by subst z; exact ok.punone h hb
      rw [upd_ne this]; exact ok.pu b hb⟩
  le := ⟨fun b u e => by
      have : b ≠ p := fun z => by subst z; rw [ok.fnone h] at e; cases e
      show upd G.f p o b = some u
      rw [upd_ne this]; exact e, fun _ z => z⟩
  c := Nat.le_refl _
  keep := fun b u e _ => by rw [upd_ne (ne_of_none e h)]; exact e
  pus := fun b hb => by
    have : b ≠ p := fun z => by subst z; exact ok.punone h hb
    rw [upd_ne this]; exact (ok.pu b hb).some
  new := fun b u e n => by
    show upd G.f p o b = none
    rw [upd_ne (ne_of_none e h)]; exact n
  npu := fun _ _ _ z => z
/-- a new object that is not settled yet -/
theorem Evo.laidU {G : GS} {H : Hp} {c : Nat} (ok : G.Ok H c) {p : Addr} (o : HO) (h : H p = none) : Evo G H c G (upd H p o) c where
  ok := ⟨fun b u e => by
      have : b ≠ p := fun z => by subst z; rw [ok.fnone h] at e; cases e
      rw [upd_ne this]; exact ok.same b u e, ok.npu,
    fun b hb => by
      have : b ≠ p := fun z => by subst z; exact ok.punone h hb
      rw [upd_ne this]; exact ok.pu b hb⟩
  le := GS.Le.refl _
  c := Nat.le_refl _
  keep := fun b u e _ => by rw [upd_ne (ne_of_none e h)]; exact e
  pus := fun b hb => by
    have : b ≠ p := fun z => by subst z; exact ok.punone h hb
    rw [upd_ne this]; exact (ok.pu b hb).some
  new := fun b u e n => n
  npu := fun _ _ _ z => z

/-! ### the frame's names -/
inductive Sl where
  | no | fz (d : D) | ol (l : List D)
abbrev DEnv := List Sl
def SlOk (K : PySem.W.Frag) (G : GS) (H0 H : Hp) (s : Sl) (o : Option V) : Prop := match s with
  | .no => True
  | .fz d => ∃ v, o = some v ∧ Rp K G v d
  | .ol ds => ∃ a xs, o = some (.ref a) ∧ G.f a = none ∧ ¬ G.pu a ∧ H0 a = none ∧ H a = some (.lst xs) ∧ RpAll K G xs ds
def Sl.isOl : Sl → Bool
  | .ol _ => true
  | _ => false

/-- the context of a body: HandS's, the entry, what is wanted of an exception -/
structure Ctx where
  X : Cx
  G0 : GS
  H0 : Hp
  c0 : Nat
  E : XK
  ED : Addr → List Str → List D → Nat → Prop

structure Rel (Y : Ctx) (G : GS) (H : Hp) (c : Nat) (ρ : DEnv) (σ : L2.St) : Prop where
  ok : G.Ok H c
  evo : Evo Y.G0 Y.H0 Y.c0 G H c
  len : ρ.length = σ.length
  sl : ∀ (i : Nat) (s : Sl), ρ[i]? = some s → ∃ o, σ[i]? = some o ∧ SlOk Y.X.K G Y.H0 H s o
  sep : ∀ (i j : Nat) (s t : Sl), i ≠ j → ρ[i]? = some s → ρ[j]? = some t → s.isOl = true → t.isOl = true → σ[i]? ≠ σ[j]?
theorem SlOk.evo {K : PySem.W.Frag} {G G' : GS} {H0 H H' : Hp} {c c' : Nat} {s : Sl} {o : Option V} (h : SlOk K G H0 H s o) (e : Evo G H c G' H' c') : SlOk K G' H0 H' s o := by
  cases s with
  | no => trivial
  | fz d => obtain ⟨v, e1, r⟩ := h; exact ⟨v, e1, r.mono e.le⟩
  | ol ds =>
    obtain ⟨a, xs, e1, h1, h2, h3, h4, h5⟩ := h
    exact ⟨a, xs, e1, e.new a _ h4 h1, fun z => h2 (e.npu a _ h4 z), h3, e.keep a _ h4 h2, h5.mono e.le⟩
theorem Rel.evo' {Y : Ctx} {G G' : GS} {H H' : Hp} {c c' : Nat} {ρ : DEnv} {σ : L2.St} (R : Rel Y G H c ρ σ) (e : Evo G H c G' H' c') : Rel Y G' H' c' ρ σ :=
  ⟨e.ok, R.evo.trans e, R.len, fun i s h => let ⟨o, h1, h2⟩ := R.sl i s h; ⟨o, h1, h2.evo e⟩, R.sep⟩

/-! ### the judgements -/
abbrev QD := D → Nat → Prop
abbrev DE := DEnv → Nat → QD → Prop
abbrev DT := DEnv → Nat → (Bool → Nat → Prop) → Prop
abbrev DA := DEnv → Nat → (List D → Nat → Prop) → Prop
structure DEnds where
  nx : DEnv → Nat → Prop
  rt : QD
  bk : DEnv → Nat → Prop := fun _ _ => False
  ct : DEnv → Nat → Prop := fun _ _ => False
abbrev DS := DEnds → DEnv → Nat → Prop

/-- a reading over data is carried by a reading over the heap -/
def SimE (Y : Ctx) (te : TE) (t : DE) : Prop := ∀ G H c ρ σ (Qd : QD) (Q : VK), Rel Y G H c ρ σ → t ρ c Qd →
  (∀ d v G' H' c', Evo G H c G' H' c' → Rp Y.X.K G' v d → Qd d c' → Q v H') → te σ H Q
def SimT (Y : Ctx) (te : TT) (t : DT) : Prop := ∀ G H c ρ σ (Qd : Bool → Nat → Prop) (Q : Bool → Hp → Prop), Rel Y G H c ρ σ → t ρ c Qd →
  (∀ b G' H' c', Evo G H c G' H' c' → Qd b c' → Q b H') → te σ H Q
def SimA (Y : Ctx) (ta : TA) (t : DA) : Prop := ∀ G H c ρ σ (Qd : List D → Nat → Prop) (Q : List V → Hp → Prop), Rel Y G H c ρ σ → t ρ c Qd →
  (∀ ds vs G' H' c', Evo G H c G' H' c' → RpAll Y.X.K G' vs ds → Qd ds c' → Q vs H') → ta σ H Q
structure PD (Y : Ctx) (e : Expr) (te : TE) (t : DE) : Prop where
  p : PE Y.X e te
  s : SimE Y te t
structure PDT (Y : Ctx) (e : Expr) (te : TT) (t : DT) : Prop where
  p : PT Y.X e te
  s : SimT Y te t
structure PDW (Y : Ctx) (e : Expr) (te : TT) (t : DT) : Prop where
  p : PW Y.X e te
  s : SimT Y te t
structure PDA (Y : Ctx) (es : List Expr) (ta : TA) (t : DA) : Prop where
  p : PA Y.X es ta
  s : SimA Y ta t
/-- what is pinned (P) stays -/
structure RelP (Y : Ctx) (P : GS) (G : GS) (H : Hp) (c : Nat) (ρ : DEnv) (σ : L2.St) : Prop where
  r : Rel Y G H c ρ σ
  le : P.Le G
/-- what is wanted of the ends, in both languages -/
structure EndOk (Y : Ctx) (P : GS) (DD : DEnds) (EE : Ends) : Prop where
  nx : ∀ G H c ρ σ, RelP Y P G H c ρ σ → DD.nx ρ c → EE.nx σ H
  rt : ∀ G H c d v, Evo Y.G0 Y.H0 Y.c0 G H c → Rp Y.X.K G v d → DD.rt d c → EE.rt v H
  bk : ∀ G H c ρ σ, RelP Y P G H c ρ σ → DD.bk ρ c → EE.bk σ H
  ct : ∀ G H c ρ σ, RelP Y P G H c ρ σ → DD.ct ρ c → EE.ct σ H
def SimS (Y : Ctx) (ts : TS) (t : DS) : Prop := ∀ P G H c ρ σ DD EE, EndOk Y P DD EE → RelP Y P G H c ρ σ → t DD ρ c → ts EE σ H
structure PDS (Y : Ctx) (st : Stmt) (ts : TS) (t : DS) : Prop where
  p : PS Y.X st ts
  s : SimS Y ts t
structure PDSs (Y : Ctx) (st : List Stmt) (ts : TS) (t : DS) : Prop where
  p : PSs Y.X st ts
  s : SimS Y ts t
end PL

namespace PL
open PySem PySem.Spec PyProof.Rows L2

/-! ### rules by values, brought over to data -/
abbrev RD2 := D → D → Nat → QD → Prop
abbrev RD1 := D → Nat → QD → Prop
abbrev RDn := List D → Nat → QD → Prop
def Br2 (K : PySem.W.Frag) (r : R2) (rd : RD2) : Prop := ∀ G H c x y d e (Qd : QD) (Q : VK), G.Ok H c → Rp K G x d → Rp K G y e → rd d e c Qd →
  (∀ d' v G' H' c', Evo G H c G' H' c' → Rp K G' v d' → Qd d' c' → Q v H') → r x y H Q
def Br1 (K : PySem.W.Frag) (r : V → Hp → VK → Prop) (rd : RD1) : Prop := ∀ G H c x d (Qd : QD) (Q : VK), G.Ok H c → Rp K G x d → rd d c Qd →
  (∀ d' v G' H' c', Evo G H c G' H' c' → Rp K G' v d' → Qd d' c' → Q v H') → r x H Q
def BrN (K : PySem.W.Frag) (r : List V → Hp → VK → Prop) (rd : RDn) : Prop := ∀ G H c xs ds (Qd : QD) (Q : VK), G.Ok H c → RpAll K G xs ds → rd ds c Qd →
  (∀ d' v G' H' c', Evo G H c G' H' c' → Rp K G' v d' → Qd d' c' → Q v H') → r xs H Q
def BrM (K : PySem.W.Frag) (r : V → List V → Hp → VK → Prop) (rd : D → RDn) : Prop := ∀ G H c x d xs ds (Qd : QD) (Q : VK), G.Ok H c → Rp K G x d → RpAll K G xs ds → rd d ds c Qd →
  (∀ d' v G' H' c', Evo G H c G' H' c' → Rp K G' v d' → Qd d' c' → Q v H') → r x xs H Q

section
variable {Y : Ctx} {a b e : Expr} {es : List Expr} {pos : Pos} {ea eb ee : TE} {fa : TA} {ta tb te : DE} {t : DA}

/-! ### names, constants -/
def dVar (i : Nat) (ρ : DEnv) (c : Nat) (Q : QD) : Prop := ∃ d, ρ[i]? = some (.fz d) ∧ Q d c
def dC (d : D) (_ : DEnv) (c : Nat) (Q : QD) : Prop := Q d c
theorem pd_v (i : Nat) {x : Str} {pos : Pos} (hN : Y.X.N[i]? = some x := by rfl) (hv : Vis Y.X.env.scope x := by first | exact Or.inl rfl | exact Or.inr (Or.inl rfl) | exact Or.inr (Or.inr rfl)) (hd : (x == ("__debug__" : Str)) = false := by decide)
    (hcd : (x == ("__classdict__" : Str)) = false := by decide) : PD Y (.Name x pos) (tVar i) (dVar i) := by
  refine ⟨pe_var hN hv hd hcd, fun G H c ρ σ Qd Q R h k => ?_⟩
  obtain ⟨d, e, h⟩ := h
  obtain ⟨o, e1, v, rfl, r⟩ := R.sl i _ e
  exact ⟨v, e1, k d v G H c (Evo.refl R.ok) r h⟩
theorem pd_int {i j pos} : PD Y (.Constant (.int i) j pos) (tC (.int i)) (dC (.int i)) := ⟨pe_int, fun _ _ _ _ _ _ _ R h k => k _ _ _ _ _ (Evo.refl R.ok) (.int _) h⟩
theorem pd_bl {b j pos} : PD Y (.Constant (.bool b) j pos) (tC (.bl b)) (dC (.bl b)) := ⟨pe_bl, fun _ _ _ _ _ _ _ R h k => k _ _ _ _ _ (Evo.refl R.ok) (.bl _) h⟩
theorem pd_non {j pos} : PD Y (.Constant .none j pos) (tC .non) (dC .non) := ⟨pe_non, fun _ _ _ _ _ _ _ R h k => k _ _ _ _ _ (Evo.refl R.ok) .non h⟩
theorem pd_str {x j pos} : PD Y (.Constant (.str x) j pos) (tC (.str x)) (dC (.str x)) := ⟨pe_str, fun _ _ _ _ _ _ _ R h k => k _ _ _ _ _ (Evo.refl R.ok) (.str _) h⟩
/-- a module's name that holds a constant or a class -/
theorem pd_glob {x : Str} {v : V} {d : D} {u : Value} {pos : Pos} (hm : Y.X.mg x = some u) (r : RelV v u) (rp : ∀ G, Rp Y.X.K G v d) (hg : Gl Y.X x := by rfl) (hd : (x == ("__debug__" : Str)) = false := by decide) : PD Y (.Name x pos) (tC v) (dC d) :=
  ⟨pe_glob hg hm r hd, fun _ _ _ _ _ _ _ R h k => k _ _ _ _ _ (Evo.refl R.ok) (rp _) h⟩
/-- a built-in type as a value -/
theorem pd_bty {x : Str} {n : String} {pos : Pos} (hm : Y.X.mg x = none) (hv : bootBuiltins x = some (.type n)) (hg : Gl Y.X x := by rfl) (hn : x ≠ "__name__" := by decide) (hd : (x == ("__debug__" : Str)) = false := by decide) : PD Y (.Name x pos) (tC (.ty n)) (dC (.ty n)) :=
  ⟨pe_bltn hg hm hv (v := .ty n) rfl hn hd, fun _ _ _ _ _ _ _ R h k => k _ _ _ _ _ (Evo.refl R.ok) (.ty _) h⟩

/-! ### operators -/
def dOp (rd : RD2) (ta tb : DE) (ρ : DEnv) (c : Nat) (Q : QD) : Prop := ta ρ c fun x c1 => tb ρ c1 fun y c2 => rd x y c2 Q
def dUn (rd : RD1) (ta : DE) (ρ : DEnv) (c : Nat) (Q : QD) : Prop := ta ρ c fun x c1 => rd x c1 Q
/-- two in a row -/
theorem two {G H c ρ σ} {tea teb : TE} {r : V → V → Hp → Prop} {rd : D → D → Nat → Prop} (R : Rel Y G H c ρ σ)
    (ha : ∀ G H c ρ σ (Qd : QD) (Q : VK), Rel Y G H c ρ σ → ta ρ c Qd → (∀ d v G' H' c', Evo G H c G' H' c' → Rp Y.X.K G' v d → Qd d c' → Q v H') → tea σ H Q)
    (hb : ∀ G H c ρ σ (Qd : QD) (Q : VK), Rel Y G H c ρ σ → tb ρ c Qd → (∀ d v G' H' c', Evo G H c G' H' c' → Rp Y.X.K G' v d → Qd d c' → Q v H') → teb σ H Q)
    (h : ta ρ c fun x c1 => tb ρ c1 fun y c2 => rd x y c2)
    (k : ∀ d e x y G' H' c', Evo G H c G' H' c' → Rp Y.X.K G' x d → Rp Y.X.K G' y e → rd d e c' → r x y H') : tea σ H fun x H1 => teb σ H1 fun y H2 => r x y H2 := by
  refine ha G H c ρ σ _ _ R h fun d v G1 H1 c1 e1 r1 q1 => ?_
  refine hb G1 H1 c1 ρ σ _ _ (R.evo' e1) q1 fun d2 v2 G2 H2 c2 e2 r2 q2 => ?_
  exact k d d2 v v2 G2 H2 c2 (e1.trans e2) (r1.mono e2.le) r2 q2
theorem pd_op {op : Operator} {r : R2} {rd : RD2} (ho : OpR Y.X (binaryOp op) r) (br : Br2 Y.X.K r rd) (ha : PD Y a ea ta) (hb : PD Y b eb tb) : PD Y (.BinOp a op b pos) (tOp r ea eb) (dOp rd ta tb) := by
  obtain ⟨pa, ha⟩ := ha
  obtain ⟨pb, hb⟩ := hb
  refine ⟨pe_op ho pa pb, fun G H c ρ σ Qd Q R h k => ?_⟩
  exact two R ha hb h fun d e x y G' H' c' ev r1 r2 q => br G' H' c' x y d e Qd Q ev.ok r1 r2 q fun d' v G2 H2 c2 e2 r q => k d' v G2 H2 c2 (ev.trans e2) r q
theorem pd_un {op : UnaryOp} {r : V → Hp → VK → Prop} {rd : RD1} (ho : UnR Y.X (unaryOp op) r) (br : Br1 Y.X.K r rd) (ha : PD Y a ea ta) : PD Y (.UnaryOp op a pos) (tUn r ea) (dUn rd ta) := by
  obtain ⟨pa, ha⟩ := ha
  refine ⟨pe_un ho pa, fun G H c ρ σ Qd Q R h k => ?_⟩
  exact ha G H c ρ σ _ _ R h fun d v G1 H1 c1 e1 r1 q1 => br G1 H1 c1 v d Qd Q e1.ok r1 q1 fun d' v G2 H2 c2 e2 r q => k d' v G2 H2 c2 (e1.trans e2) r q
theorem pd_cmp {op : CmpOp} {r : R2} {rd : RD2} (ho : OpR Y.X (compareOp op) r) (br : Br2 Y.X.K r rd) (ha : PD Y a ea ta) (hb : PD Y b eb tb) (hm : behindInMarks op b = false := by first | exact nomark _ | rfl) : PD Y (.Compare a [op] [b] pos) (tOp r ea eb) (dOp rd ta tb) := by
  obtain ⟨pa, ha⟩ := ha
  obtain ⟨pb, hb⟩ := hb
  refine ⟨pe_cmpR ho pa pb hm, fun G H c ρ σ Qd Q R h k => ?_⟩
  exact two R ha hb h fun d e x y G' H' c' ev r1 r2 q => br G' H' c' x y d e Qd Q ev.ok r1 r2 q fun d' v G2 H2 c2 e2 r q => k d' v G2 H2 c2 (ev.trans e2) r q
theorem pd_ix {r : R2} {rd : RD2} (ho : IxR Y.X r) (br : Br2 Y.X.K r rd) (ha : PD Y a ea ta) (hb : PD Y b eb tb) (hs : PlainIx b := by exact fun _ _ => rfl) : PD Y (.Subscript a b pos) (tOp r ea eb) (dOp rd ta tb) := by
  obtain ⟨pa, ha⟩ := ha
  obtain ⟨pb, hb⟩ := hb
  refine ⟨pe_ix ho pa pb hs, fun G H c ρ σ Qd Q R h k => ?_⟩
  exact two R ha hb h fun d e x y G' H' c' ev r1 r2 q => br G' H' c' x y d e Qd Q ev.ok r1 r2 q fun d' v G2 H2 c2 e2 r q => k d' v G2 H2 c2 (ev.trans e2) r q
/-- a chain of two comparisons -/
def dChain (rd rd' : RD2) (ta tb tc : DE) (ρ : DEnv) (c : Nat) (Q : QD) : Prop := ta ρ c fun x c1 => tb ρ c1 fun y c2 => rd x y c2 fun z c3 => ∃ k, z = .bl k ∧ if k = true then tc ρ c3 fun w c4 => rd' y w c4 Q else Q (.bl false) c3
theorem pd_chain {f : Expr} {tf : DE} {ef : TE} {op op' : CmpOp} {r r' : R2} {rd rd' : RD2} (ho : OpR Y.X (compareOp op) r) (br : Br2 Y.X.K r rd) (ho' : OpR Y.X (compareOp op') r') (br' : Br2 Y.X.K r' rd') (ha : PD Y a ea ta) (hb : PD Y b eb tb) (hc : PD Y f ef tf) (hm : lastMarks [op, op'] [b, f] = false := by rfl) :
    PD Y (.Compare a [op, op'] [b, f] pos) (tChain r r' ea eb ef) (dChain rd rd' ta tb tf) := by
  obtain ⟨pa, ha⟩ := ha
  obtain ⟨pb, hb⟩ := hb
  obtain ⟨pc, hc⟩ := hc
  refine ⟨pe_chain ho ho' pa pb pc hm, fun G H c ρ σ Qd Q R h k => ?_⟩
  refine two R ha hb h fun d e x y G1 H1 c1 e1 r1 r2 q => br G1 H1 c1 x y d e _ _ e1.ok r1 r2 q fun d' v G2 H2 c2 e2 r3 q => ?_
  obtain ⟨b, rfl, q⟩ := q
  cases r3
  refine ⟨b, rfl, ?_⟩
  cases b with
  | false => rw [if_neg Bool.false_ne_true] at q ⊢; exact k _ _ G2 H2 c2 (e1.trans e2) (.bl _) q
  | true =>
    rw [if_pos rfl] at q ⊢
    refine hc G2 H2 c2 ρ σ _ _ (R.evo' (e1.trans e2)) q fun d4 v4 G4 H4 c4 e4 r4 q4 => ?_
    exact br' G4 H4 c4 y v4 e d4 Qd Q e4.ok (r2.mono (e2.le.trans e4.le)) r4 q4 fun d' v G5 H5 c5 e5 r q => k d' v G5 H5 c5 ((e1.trans e2).trans (e4.trans e5)) r q

/-! ### arguments, calls of built-ins, displays -/
def dNil (_ : DEnv) (c : Nat) (Q : List D → Nat → Prop) : Prop := Q [] c
def dCons (ta : DE) (tr : DA) (ρ : DEnv) (c : Nat) (Q : List D → Nat → Prop) : Prop := ta ρ c fun x c1 => tr ρ c1 fun xs c2 => Q (x :: xs) c2
theorem pda_nil : PDA Y [] tNil dNil := ⟨pa_nil, fun _ _ _ _ _ _ _ R h k => k _ _ _ _ _ (Evo.refl R.ok) .nil h⟩
theorem pda_cons (ha : PD Y e ee te) (hr : PDA Y es fa t) (hs : starEach (e :: es) Y.X.env = (false, eval e Y.X.env) :: starEach es Y.X.env := by rfl) : PDA Y (e :: es) (tCons ee fa) (dCons te t) := by
  obtain ⟨pa, ha⟩ := ha
  obtain ⟨ps, hr⟩ := hr
  refine ⟨pa_cons pa ps hs, fun G H c ρ σ Qd Q R h k => ?_⟩
  refine ha G H c ρ σ _ _ R h fun d v G1 H1 c1 e1 r1 q1 => ?_
  refine hr G1 H1 c1 ρ σ _ _ (R.evo' e1) q1 fun ds vs G2 H2 c2 e2 r2 q2 => ?_
  exact k _ _ G2 H2 c2 (e1.trans e2) (.cons (r1.mono e2.le) r2) q2
def dCB (rd : RDn) (t : DA) (ρ : DEnv) (c : Nat) (Q : QD) : Prop := t ρ c fun ds c1 => rd ds c1 Q
theorem pd_callB {x : Str} {p : Pos} {id : String} {r : List V → Hp → VK → Prop} {rd : RDn} (hc : CallR Y.X (.builtin id) r) (br : BrN Y.X.K r rd) (hm : Y.X.mg x = none) (hv : bootBuiltins x = some (.builtin id)) (ha : PDA Y (e :: es) fa t) (hg : Gl Y.X x := by rfl) (hn : x ≠ "__name__" := by decide) (hdb : (x == ("__debug__" : Str)) = false := by decide)
    (he : starEach (e :: es) Y.X.env = (false, eval e Y.X.env) :: starEach es Y.X.env := by rfl) (hpl : (backTo pos (starEach es Y.X.env)).any (·.1) = false := by rfl) : PD Y (.Call (.Name x p) (e :: es) [] pos) (tCB r fa) (dCB rd t) := by
  obtain ⟨ps, ha⟩ := ha
  refine ⟨pe_callB hc hg hm hv ps hn hdb he hpl, fun G H c ρ σ Qd Q R h k => ?_⟩
  exact ha G H c ρ σ _ _ R h fun ds vs G1 H1 c1 e1 r1 q1 => br G1 H1 c1 vs ds Qd Q e1.ok r1 q1 fun d' v G2 H2 c2 e2 r q => k d' v G2 H2 c2 (e1.trans e2) r q
theorem pd_callTy {x : Str} {p : Pos} {T : String} {r : List V → Hp → VK → Prop} {rd : RDn} (hc : CallR Y.X (.type T) r) (br : BrN Y.X.K r rd) (hm : Y.X.mg x = none) (hv : bootBuiltins x = some (.type T)) (ha : PDA Y (e :: es) fa t) (hg : Gl Y.X x := by rfl) (hn : x ≠ "__name__" := by decide) (hdb : (x == ("__debug__" : Str)) = false := by decide)
    (he : starEach (e :: es) Y.X.env = (false, eval e Y.X.env) :: starEach es Y.X.env := by rfl) (hpl : (backTo pos (starEach es Y.X.env)).any (·.1) = false := by rfl) : PD Y (.Call (.Name x p) (e :: es) [] pos) (tCB r fa) (dCB rd t) := by
  obtain ⟨ps, ha⟩ := ha
  refine ⟨pe_callTy hc hg hm hv ps hn hdb he hpl, fun G H c ρ σ Qd Q R h k => ?_⟩
  exact ha G H c ρ σ _ _ R h fun ds vs G1 H1 c1 e1 r1 q1 => br G1 H1 c1 vs ds Qd Q e1.ok r1 q1 fun d' v G2 H2 c2 e2 r q => k d' v G2 H2 c2 (e1.trans e2) r q
theorem Rp.newTup {K : PySem.W.Frag} {G : GS} {H : Hp} {c : Nat} {p : Addr} {vs : List V} {ds : List D} (ok : G.Ok H c) (h : H p = none) (r : RpAll K G vs ds) : Rp K { G with f := upd G.f p (.tup vs) } (.ref p) (.tup ds) :=
  .tup (SqT.of upd_same) (r.mono (Evo.laid ok (.tup vs) h).le)
theorem Rp.newLst {K : PySem.W.Frag} {G : GS} {H : Hp} {c : Nat} {p : Addr} {vs : List V} {ds : List D} (ok : G.Ok H c) (h : H p = none) (r : RpAll K G vs ds) : Rp K { G with f := upd G.f p (.lst vs) } (.ref p) (.lst ds) :=
  .lst (SqL.of upd_same) (r.mono (Evo.laid ok (.lst vs) h).le)
def dTup (t : DA) (ρ : DEnv) (c : Nat) (Q : QD) : Prop := t ρ c fun ds c1 => ds.length ≤ sizeLine ∧ Q (.tup ds) c1
def dLst (t : DA) (ρ : DEnv) (c : Nat) (Q : QD) : Prop := t ρ c fun ds c1 => ds.length ≤ sizeLine ∧ Q (.lst ds) c1
theorem pd_tup {x1} (ha : PDA Y es fa t) : PD Y (.Tuple es x1 pos) (tTup fa) (dTup t) := by
  obtain ⟨ps, ha⟩ := ha
  refine ⟨pe_tup ps, fun G H c ρ σ Qd Q R h k => ?_⟩
  refine ha G H c ρ σ _ _ R h fun ds vs G1 H1 c1 e1 r1 q1 => ⟨by rw [r1.length]; exact q1.1, fun p np => ?_⟩
  exact k _ _ _ _ c1 (e1.trans (Evo.laid e1.ok _ np)) (Rp.newTup e1.ok np r1) q1.2
theorem pd_lst (ha : PDA Y es fa t) : PD Y (.List es pos) (tLst fa) (dLst t) := by
  obtain ⟨ps, ha⟩ := ha
  refine ⟨pe_lst ps, fun G H c ρ σ Qd Q R h k => ?_⟩
  refine ha G H c ρ σ _ _ R h fun ds vs G1 H1 c1 e1 r1 q1 => ⟨by rw [r1.length]; exact q1.1, fun p np => ?_⟩
  exact k _ _ _ _ c1 (e1.trans (Evo.laid e1.ok _ np)) (Rp.newLst e1.ok np r1) q1.2

/-! ### tests -/
/-- a value that is True or False -/
def dB (t : DE) (ρ : DEnv) (c : Nat) (Q : Bool → Nat → Prop) : Prop := t ρ c fun x c1 => ∃ b, x = .bl b ∧ Q b c1
theorem pdt_val (ha : PD Y e ee te) (he : ∀ whole, isTrue e Y.X.env whole = (do let v ← whole; standAt e.pos; holding [v] (truthy v)) := by intro _; rfl) : PDT Y e (tB ee) (dB te) := by
  obtain ⟨pa, ha⟩ := ha
  refine ⟨pt_val pa he, fun G H c ρ σ Qd Q R h k => ?_⟩
  refine ha G H c ρ σ _ _ R h fun d v G1 H1 c1 e1 r1 q1 => ?_
  obtain ⟨b, rfl, q1⟩ := q1
  cases r1
  exact ⟨b, rfl, k b G1 H1 c1 e1 q1⟩
theorem pdt_cmp {op : CmpOp} {r : R2} {rd : RD2} (ho : OpR Y.X (compareOp op) r) (br : Br2 Y.X.K r rd) (ha : PD Y a ea ta) (hb : PD Y b eb tb) (hm : behindInMarks op b = false := by first | exact nomark _ | rfl) : PDT Y (.Compare a [op] [b] pos) (tTest (tOp r ea eb)) (dB (dOp rd ta tb)) := by
  obtain ⟨pa, ha⟩ := ha
  obtain ⟨pb, hb⟩ := hb
  refine ⟨pt_cmpR ho pa pb hm, fun G H c ρ σ Qd Q R h k => ?_⟩
  refine two R ha hb h fun d e x y G' H' c' ev r1 r2 q => br G' H' c' x y d e _ _ ev.ok r1 r2 q fun d' v G2 H2 c2 e2 r q => ?_
  obtain ⟨b, rfl, q⟩ := q
  cases r
  exact ⟨b, rfl, k b G2 H2 c2 (ev.trans e2) q⟩
def dtAnd (t u : DT) (ρ : DEnv) (c : Nat) (Q : Bool → Nat → Prop) : Prop := t ρ c fun b c1 => if b = true then u ρ c1 Q else Q false c1
def dtOr (t u : DT) (ρ : DEnv) (c : Nat) (Q : Bool → Nat → Prop) : Prop := t ρ c fun b c1 => if b = true then Q true c1 else u ρ c1 Q
def dtNot (t : DT) (ρ : DEnv) (c : Nat) (Q : Bool → Nat → Prop) : Prop := t ρ c fun b c1 => Q (!b) c1
variable {tA tB : DT} {eA eB : TT} {rest : List Expr}
theorem pdw_and1 (ha : PDT Y a eA tA) : PDW Y (.BoolOp .And [a] pos) eA tA := by
  obtain ⟨pa, ha⟩ := ha
  exact ⟨pw_and1 pa, ha⟩
theorem pdw_or1 (ha : PDT Y a eA tA) : PDW Y (.BoolOp .Or [a] pos) eA tA := by
  obtain ⟨pa, ha⟩ := ha
  exact ⟨pw_or1 pa, ha⟩
theorem pdw_and (ha : PDT Y a eA tA) (hb : PDW Y (.BoolOp .And (b :: rest) pos) eB tB) : PDW Y (.BoolOp .And (a :: b :: rest) pos) (tAnd eA eB) (dtAnd tA tB) := by
  obtain ⟨pa, ha⟩ := ha
  obtain ⟨pb, hb⟩ := hb
  refine ⟨pw_and pa pb, fun G H c ρ σ Qd Q R h k => ?_⟩
  refine ha G H c ρ σ _ _ R h fun b G1 H1 c1 e1 q1 => ?_
  cases b with
  | true => rw [if_pos rfl] at q1 ⊢; exact hb G1 H1 c1 ρ σ _ _ (R.evo' e1) q1 fun b G2 H2 c2 e2 q2 => k b G2 H2 c2 (e1.trans e2) q2
  | false => rw [if_neg Bool.false_ne_true] at q1 ⊢; exact k _ G1 H1 c1 e1 q1
theorem pdw_or (ha : PDT Y a eA tA) (hb : PDW Y (.BoolOp .Or (b :: rest) pos) eB tB) : PDW Y (.BoolOp .Or (a :: b :: rest) pos) (tOr eA eB) (dtOr tA tB) := by
  obtain ⟨pa, ha⟩ := ha
  obtain ⟨pb, hb⟩ := hb
  refine ⟨pw_or pa pb, fun G H c ρ σ Qd Q R h k => ?_⟩
  refine ha G H c ρ σ _ _ R h fun b G1 H1 c1 e1 q1 => ?_
  cases b with
  | true => rw [if_pos rfl] at q1 ⊢; exact k _ G1 H1 c1 e1 q1
  | false => rw [if_neg Bool.false_ne_true] at q1 ⊢; exact hb G1 H1 c1 ρ σ _ _ (R.evo' e1) q1 fun b G2 H2 c2 e2 q2 => k b G2 H2 c2 (e1.trans e2) q2
theorem pdw_pt (h : PDW Y e eA tA) : PDT Y e eA tA := by
  obtain ⟨p, h⟩ := h
  exact ⟨p.pt, h⟩
theorem pdt_not (ha : PDT Y a eA tA) : PDT Y (.UnaryOp .Not a pos) (tNot eA) (dtNot tA) := by
  obtain ⟨pa, ha⟩ := ha
  exact ⟨pt_not pa, fun G H c ρ σ Qd Q R h k => ha G H c ρ σ _ _ R h fun b G1 H1 c1 e1 q1 => k _ G1 H1 c1 e1 q1⟩
/-- .. as values that are True or False -/
def dAndV (ta tb : DE) (ρ : DEnv) (c : Nat) (Q : QD) : Prop := ta ρ c fun x c1 => ∃ b, x = .bl b ∧ if b = true then tb ρ c1 Q else Q (.bl false) c1
def dOrV (ta tb : DE) (ρ : DEnv) (c : Nat) (Q : QD) : Prop := ta ρ c fun x c1 => ∃ b, x = .bl b ∧ if b = true then Q (.bl true) c1 else tb ρ c1 Q
def dNotV (ta : DE) (ρ : DEnv) (c : Nat) (Q : QD) : Prop := ta ρ c fun x c1 => ∃ b, x = .bl b ∧ Q (.bl (!b)) c1
theorem pd_one {op} (h : PD Y a ea ta) : PD Y (.BoolOp op [a] pos) ea ta := by
  obtain ⟨p, h⟩ := h
  exact ⟨pe_one p, h⟩
theorem pd_and (ha : PD Y a ea ta) (hb : PD Y (.BoolOp .And (b :: rest) pos) eb tb) : PD Y (.BoolOp .And (a :: b :: rest) pos) (tAndV ea eb) (dAndV ta tb) := by
  obtain ⟨pa, ha⟩ := ha
  obtain ⟨pb, hb⟩ := hb
  refine ⟨pe_and pa pb, fun G H c ρ σ Qd Q R h k => ?_⟩
  refine ha G H c ρ σ _ _ R h fun d v G1 H1 c1 e1 r1 q1 => ?_
  obtain ⟨b, rfl, q1⟩ := q1
  cases r1
  refine ⟨b, rfl, ?_⟩
  cases b with
  | true => rw [if_pos rfl] at q1 ⊢; exact hb G1 H1 c1 ρ σ _ _ (R.evo' e1) q1 fun d v G2 H2 c2 e2 r2 q2 => k d v G2 H2 c2 (e1.trans e2) r2 q2
  | false => rw [if_neg Bool.false_ne_true] at q1 ⊢; exact k _ _ G1 H1 c1 e1 (.bl _) q1
theorem pd_or (ha : PD Y a ea ta) (hb : PD Y (.BoolOp .Or (b :: rest) pos) eb tb) : PD Y (.BoolOp .Or (a :: b :: rest) pos) (tOrV ea eb) (dOrV ta tb) := by
  obtain ⟨pa, ha⟩ := ha
  obtain ⟨pb, hb⟩ := hb
  refine ⟨pe_or pa pb, fun G H c ρ σ Qd Q R h k => ?_⟩
  refine ha G H c ρ σ _ _ R h fun d v G1 H1 c1 e1 r1 q1 => ?_
  obtain ⟨b, rfl, q1⟩ := q1
  cases r1
  refine ⟨b, rfl, ?_⟩
  cases b with
  | false => rw [if_neg Bool.false_ne_true] at q1 ⊢; exact hb G1 H1 c1 ρ σ _ _ (R.evo' e1) q1 fun d v G2 H2 c2 e2 r2 q2 => k d v G2 H2 c2 (e1.trans e2) r2 q2
  | true => rw [if_pos rfl] at q1 ⊢; exact k _ _ G1 H1 c1 e1 (.bl _) q1
theorem pd_not (ha : PD Y a ea ta) : PD Y (.UnaryOp .Not a pos) (tNotV ea) (dNotV ta) := by
  obtain ⟨pa, ha⟩ := ha
  refine ⟨pe_not pa, fun G H c ρ σ Qd Q R h k => ?_⟩
  refine ha G H c ρ σ _ _ R h fun d v G1 H1 c1 e1 r1 q1 => ?_
  obtain ⟨b, rfl, q1⟩ := q1
  cases r1
  exact ⟨b, rfl, k _ _ G1 H1 c1 e1 (.bl _) q1⟩
def dIf (t : DT) (ta tb : DE) (ρ : DEnv) (c : Nat) (Q : QD) : Prop := t ρ c fun b c1 => if b = true then ta ρ c1 Q else tb ρ c1 Q
theorem pd_ifExp {f : Expr} (hc : PDT Y f eA tA) (ha : PD Y a ea ta) (hb : PD Y b eb tb) : PD Y (.IfExp f a b pos) (tIf eA ea eb) (dIf tA ta tb) := by
  obtain ⟨pc, hc⟩ := hc
  obtain ⟨pa, ha⟩ := ha
  obtain ⟨pb, hb⟩ := hb
  refine ⟨pe_ifExp pc pa pb, fun G H c ρ σ Qd Q R h k => ?_⟩
  refine hc G H c ρ σ _ _ R h fun b G1 H1 c1 e1 q1 => ?_
  cases b with
  | true => rw [if_pos rfl] at q1 ⊢; exact ha G1 H1 c1 ρ σ _ _ (R.evo' e1) q1 fun d v G2 H2 c2 e2 r2 q2 => k d v G2 H2 c2 (e1.trans e2) r2 q2
  | false => rw [if_neg Bool.false_ne_true] at q1 ⊢; exact hb G1 H1 c1 ρ σ _ _ (R.evo' e1) q1 fun d v G2 H2 c2 e2 r2 q2 => k d v G2 H2 c2 (e1.trans e2) r2 q2
end
end PL

namespace PL
open PySem PySem.Spec PyProof.Rows L2

/-! ### slots -/
theorem getElem?_set_cases {α : Type} {l : List α} {i j : Nat} {a x : α} (h : (l.set i a)[j]? = some x) : (j = i ∧ x = a ∧ i < l.length) ∨ (j ≠ i ∧ l[j]? = some x) := by
  by_cases e : i = j
  · subst e
    by_cases q : i < l.length
    · rw [List.getElem?_set_self q] at h
      exact .inl ⟨rfl, (Option.some.inj h).symm, q⟩
    · rw [List.getElem?_eq_none (by simpa using q)] at h; cases h
  · rw [List.getElem?_set_ne e] at h
    exact .inr ⟨fun z => e z.symm, h⟩
section
variable {Y : Ctx} {P G : GS} {H : Hp} {c : Nat} {ρ : DEnv} {σ : L2.St}
theorem Rel.set_sl {s : Sl} {o : Option V} {i : Nat} (R : Rel Y G H c ρ σ) (r : SlOk Y.X.K G Y.H0 H s o) (hs : s.isOl = true → ∀ j, j ≠ i → (∃ t, ρ[j]? = some t ∧ t.isOl = true) → σ[j]? ≠ some o) : Rel Y G H c (ρ.set i s) (σ.set i o) := by
  refine ⟨R.ok, R.evo, by simp [R.len], fun j t e => ?_, fun j k t u ne e1 e2 h1 h2 => ?_⟩
  · rcases getElem?_set_cases e with ⟨rfl, rfl, hl⟩ | ⟨ne, e⟩
    · exact ⟨o, List.getElem?_set_self (by rw [← R.len]; exact hl), r⟩
    · obtain ⟨o', e1, r1⟩ := R.sl j t e
      exact ⟨o', by rw [List.getElem?_set_ne (Ne.symm ne)]; exact e1, r1⟩
  · rcases getElem?_set_cases e1 with ⟨rfl, rfl, hl⟩ | ⟨ne1, f1⟩
    · rcases getElem?_set_cases e2 with ⟨rfl, _, _⟩ | ⟨ne2, f2⟩
      · exact absurd rfl ne
      · rw [List.getElem?_set_self (by rw [← R.len]; exact hl), List.getElem?_set_ne (Ne.symm ne2)]
        exact fun z => hs h1 k ne2 ⟨u, f2, h2⟩ z.symm
    · rcases getElem?_set_cases e2 with ⟨rfl, rfl, hl⟩ | ⟨ne2, f2⟩
      · rw [List.getElem?_set_self (by rw [← R.len]; exact hl), List.getElem?_set_ne (Ne.symm ne1)]
        exact hs h2 j ne1 ⟨t, f1, h1⟩
      · rw [List.getElem?_set_ne (Ne.symm ne1), List.getElem?_set_ne (Ne.symm ne2)]
        exact R.sep j k t u ne f1 f2 h1 h2
theorem Rel.set_fz {d : D} {v : V} (R : Rel Y G H c ρ σ) (r : Rp Y.X.K G v d) (i : Nat) : Rel Y G H c (ρ.set i (.fz d)) (σ.set i (some v)) :=
  R.set_sl ⟨v, rfl, r⟩ fun z => nomatch z
theorem Rel.set_no (R : Rel Y G H c ρ σ) (i : Nat) (o : Option V) : Rel Y G H c (ρ.set i .no) (σ.set i o) :=
  R.set_sl trivial fun z => nomatch z
theorem RelP.evo {G' : GS} {H' : Hp} {c' : Nat} (R : RelP Y P G H c ρ σ) (e : Evo G H c G' H' c') : RelP Y P G' H' c' ρ σ := ⟨R.r.evo' e, R.le.trans e.le⟩
theorem Evo.freeze {G' : GS} {H' : Hp} {c' : Nat} {a : Addr} {o : HO} (e : Evo G H c G' H' c') (h0 : H a = none) (hf : G'.f a = none) (hp : ¬ G'.pu a) (h : H' a = some o) : Evo G H c { G' with f := upd G'.f a o } H' c' where
  ok := ⟨fun b u q => by
      have q : upd G'.f a o b = some u := q
      by_cases hb : b = a
      · subst hb; rw [upd_same] at q; cases q; exact h
      · rw [upd_ne hb] at q; exact e.ok.same b u q,
    fun b hb => by
      have : b ≠ a := fun z => hp (z ▸ hb)
      show upd G'.f a o b = none
      rw [upd_ne this]; exact e.ok.npu b hb, e.ok.pu⟩
  le := e.le.trans ⟨fun b u q => by
    have : b ≠ a := fun z => by subst z; rw [hf] at q; cases q
    show upd G'.f a o b = some u
    rw [upd_ne this]; exact q, fun _ z => z⟩
  c := e.c
  keep := e.keep
  pus := e.pus
  new := fun b u q n => by
    show upd G'.f a o b = none
    rw [upd_ne (ne_of_none q h0)]; exact e.new b u q n
  npu := e.npu
/-- the list of slot i is settled -/
theorem RelP.freeze {ds : List D} {i : Nat} (R : RelP Y P G H c ρ σ) (hi : ρ[i]? = some (.ol ds)) : ∃ G', RelP Y P G' H c (ρ.set i (.fz (.lst ds))) σ := by
  obtain ⟨o, e1, a, xs, rfl, h1, h2, h3, h4, h5⟩ := R.r.sl i _ hi
  have le : G.Le { G with f := upd G.f a (.lst xs) } := ⟨fun b u q => by
    have : b ≠ a := fun z => by subst z; rw [h1] at q; cases q
    show upd G.f a _ b = some u
    rw [upd_ne this]; exact q, fun _ z => z⟩
  refine ⟨{ G with f := upd G.f a (.lst xs) }, ⟨?_, R.r.evo.freeze h3 h1 h2 h4, by simp [R.r.len], fun j s e => ?_, fun j k s t ne e2 e3 q1 q2 => ?_⟩, R.le.trans le⟩
  · exact (R.r.evo.freeze h3 h1 h2 h4).ok
  · rcases getElem?_set_cases e with ⟨rfl, rfl, _⟩ | ⟨ne, e⟩
    · exact ⟨_, e1, .ref a, rfl, .lst (SqL.of upd_same) (h5.mono le)⟩
    · obtain ⟨o', e2, r⟩ := R.r.sl j s e
      refine ⟨o', e2, ?_⟩
      cases s with
      | no => trivial
      | fz d => obtain ⟨v, q, r⟩ := r; exact ⟨v, q, r.mono le⟩
      | ol es =>
        obtain ⟨b, ys, rfl, g1, g2, g3, g4, g5⟩ := r
        have nab : b ≠ a := fun z => by
          subst z
          exact R.r.sep i j _ _ (Ne.symm ne) hi e rfl rfl (e1.trans e2.symm)
        exact ⟨b, ys, rfl, by show upd G.f a _ b = none; rw [upd_ne nab]; exact g1, g2, g3, g4, g5.mono le⟩
  · rcases getElem?_set_cases e2 with ⟨rfl, rfl, _⟩ | ⟨ne2, e2⟩
    · cases q1
    · rcases getElem?_set_cases e3 with ⟨rfl, rfl, _⟩ | ⟨ne3, e3⟩
      · cases q2
      · exact R.r.sep j k s t ne e2 e3 q1 q2
end

/-! ### statements -/
section
variable {Y : Ctx} {a b e f : Expr} {st : Stmt} {rest body orelse : List Stmt} {pos : Pos} {ea eb ee : TE} {ta tb te : DE} {tA : DT} {eA : TT} {s1 s2 : TS} {t u : DS}
def sNext (DD : DEnds) (ρ : DEnv) (c : Nat) : Prop := DD.nx ρ c
def sSeq (t u : DS) (DD : DEnds) (ρ : DEnv) (c : Nat) : Prop := t { DD with nx := u DD } ρ c
theorem pss_nil' : PDSs Y [] tNext sNext := ⟨pss_nil, fun _ _ _ _ _ _ _ _ K R h => K.nx _ _ _ _ _ R h⟩
theorem pds_cons (h1 : PDS Y st s1 t) (h2 : PDSs Y rest s2 u) : PDSs Y (st :: rest) (tSeq s1 s2) (sSeq t u) :=
  ⟨pss_cons h1.p h2.p, fun P G H c ρ σ DD EE K R h => h1.s P G H c ρ σ { DD with nx := u DD } { EE with nx := s2 EE } ⟨fun G H c ρ σ R h => h2.s P G H c ρ σ DD EE K R h, K.rt, K.bk, K.ct⟩ R h⟩
theorem pds_one (h1 : PDS Y st s1 t) : PDSs Y [st] s1 t := ⟨pss_one h1.p, h1.s⟩
def sRet (te : DE) (DD : DEnds) (ρ : DEnv) (c : Nat) : Prop := te ρ c DD.rt
theorem pds_ret (h : PD Y e ee te) : PDS Y (.Return (some e) pos) (tRet ee) (sRet te) :=
  ⟨ps_ret h.p, fun P G H c ρ σ DD EE K R q => h.s G H c ρ σ _ _ R.r q fun d v G' H' c' ev r q => K.rt G' H' c' d v (R.r.evo.trans ev) r q⟩
def sRetN (DD : DEnds) (_ : DEnv) (c : Nat) : Prop := DD.rt .non c
theorem pds_retN : PDS Y (.Return none pos) tRetN sRetN := ⟨ps_retN, fun P G H c ρ σ DD EE K R q => K.rt G H c .non .non R.r.evo .non q⟩
def sBreak (DD : DEnds) (ρ : DEnv) (c : Nat) : Prop := DD.bk ρ c
def sCont (DD : DEnds) (ρ : DEnv) (c : Nat) : Prop := DD.ct ρ c
theorem pds_pass : PDS Y (.Pass pos) tNext sNext := ⟨ps_pass, fun _ _ _ _ _ _ _ _ K R h => K.nx _ _ _ _ _ R h⟩
theorem pds_break : PDS Y (.Break pos) tBreak sBreak := ⟨ps_break, fun _ _ _ _ _ _ _ _ K R h => K.bk _ _ _ _ _ R h⟩
theorem pds_cont : PDS Y (.Continue pos) tCont sCont := ⟨ps_continue, fun _ _ _ _ _ _ _ _ K R h => K.ct _ _ _ _ _ R h⟩
def sIf (tc : DT) (t u : DS) (DD : DEnds) (ρ : DEnv) (c : Nat) : Prop := tc ρ c fun b c1 => if b = true then t DD ρ c1 else u DD ρ c1
theorem pds_if (hc : PDT Y f eA tA) (ha : PDSs Y body s1 t) (hb : PDSs Y orelse s2 u) : PDS Y (.If f body orelse pos) (tIfS eA s1 s2) (sIf tA t u) :=
  ⟨ps_if hc.p ha.p hb.p, fun P G H c ρ σ DD EE K R q => hc.s G H c ρ σ _ _ R.r q fun b G1 H1 c1 ev q => by
    cases b with
    | true => rw [if_pos rfl] at q ⊢; exact ha.s P G1 H1 c1 ρ σ DD EE K (R.evo ev) q
    | false => rw [if_neg Bool.false_ne_true] at q ⊢; exact hb.s P G1 H1 c1 ρ σ DD EE K (R.evo ev) q⟩
def sDrop (te : DE) (DD : DEnds) (ρ : DEnv) (c : Nat) : Prop := te ρ c fun _ c1 => DD.nx ρ c1
theorem pds_expr (h : PD Y e ee te) (hs : swapsWith e none pos.line Y.X.env = pure false := by rfl) : PDS Y (.Expr e pos) (tDrop ee) (sDrop te) :=
  ⟨ps_expr h.p hs, fun P G H c ρ σ DD EE K R q => h.s G H c ρ σ _ _ R.r q fun d v G' H' c' ev r q => K.nx G' H' c' ρ σ (R.evo ev) q⟩
def sSet (i : Nat) (te : DE) (DD : DEnds) (ρ : DEnv) (c : Nat) : Prop := te ρ c fun d c1 => DD.nx (ρ.set i (.fz d)) c1
theorem pds_set (i : Nat) {x : Str} {pos' : Pos} (hN : Y.X.N.Nodup) (h : PD Y e ee te) (hi : Y.X.N[i]? = some x := by rfl) (hx : Loc Y.X.env.scope x := by first | exact Or.inl rfl | exact Or.inr rfl) (hs : swapsWith e (some (.Name x pos')) pos.line Y.X.env = pure false := by rfl)
    (hf : Y.X.fn x = true ∨ Y.X.env.scope.names.lookup x = some .local := by first | exact .inl rfl | exact .inr rfl) : PDS Y (.Assign [.Name x pos'] e pos) (tAsg ee (gName i)) (sSet i te) :=
  ⟨ps_set hN hi hx h.p hs hf, fun P G H c ρ σ DD EE K R q => h.s G H c ρ σ _ _ R.r q fun d v G' H' c' ev r q => K.nx G' H' c' _ _ ⟨(R.r.evo' ev).set_fz r i, R.le.trans ev.le⟩ q⟩
/-- x op= e -/
def sAug (i : Nat) (te : DE) (rd : RD2) (DD : DEnds) (ρ : DEnv) (c : Nat) : Prop := ∃ x, ρ[i]? = some (.fz x) ∧ te ρ c fun y c1 => rd x y c1 fun z c2 => DD.nx (ρ.set i (.fz z)) c2
theorem pds_aug (i : Nat) {x : Str} {op : Operator} {r : R2} {rd : RD2} {pos' : Pos} (hN : Y.X.N.Nodup) (ho : OpR Y.X (inplaceOp op) r) (br : Br2 Y.X.K r rd) (h : PD Y e ee te) (hi : Y.X.N[i]? = some x := by rfl) (hx : Loc Y.X.env.scope x := by first | exact Or.inl rfl | exact Or.inr rfl)
    (hf : Y.X.fn x = true ∨ Y.X.env.scope.names.lookup x = some .local := by first | exact .inl rfl | exact .inr rfl) : PDS Y (.AugAssign (.Name x pos') op e pos) (tAug i ee r) (sAug i te rd) :=
  ⟨ps_aug hN hi hx h.p ho hf, fun P G H c ρ σ DD EE K R q => by
    obtain ⟨x, e1, q⟩ := q
    obtain ⟨o, e2, v, rfl, rv⟩ := R.r.sl i _ e1
    refine ⟨v, e2, h.s G H c ρ σ _ _ R.r q fun d y G1 H1 c1 ev r1 q1 => ?_⟩
    refine br G1 H1 c1 v y x d _ _ ev.ok (rv.mono ev.le) r1 q1 fun z w G2 H2 c2 ev2 r2 q2 => ?_
    exact K.nx G2 H2 c2 _ _ ⟨(R.r.evo' (ev.trans ev2)).set_fz r2 i, R.le.trans (ev.trans ev2).le⟩ q2⟩
/-- ahead of a block, a list of the frame's own is settled -/
def sFreeze (i : Nat) (t : DS) (DD : DEnds) (ρ : DEnv) (c : Nat) : Prop := ∃ ds, ρ[i]? = some (.ol ds) ∧ t DD (ρ.set i (.fz (.lst ds))) c
theorem pds_freeze (i : Nat) (h : PDSs Y rest s1 t) : PDSs Y rest s1 (sFreeze i t) := ⟨h.p, fun P G H c ρ σ DD EE K R q => by
  obtain ⟨ds, e, q⟩ := q
  obtain ⟨G', R'⟩ := R.freeze e
  exact h.s P G' H c _ σ DD EE K R' q⟩
def sNever (_ : DEnds) (_ : DEnv) (_ : Nat) : Prop := False
theorem pds_never : PDS Y st tNever sNever := ⟨ps_never, fun _ _ _ _ _ _ _ _ _ _ h => h.elim⟩
def sWhile (tc : DT) (tb : DS) (DD : DEnds) (ρ : DEnv) (c : Nat) : Prop := ∃ I : Nat → DEnv → Nat → Prop, (∃ m, I m ρ c) ∧ ∀ m ρ c, I m ρ c →
  tc ρ c fun b c1 => if b = true then tb { DD with nx := fun ρ' c' => ∃ m', m' < m ∧ I m' ρ' c', ct := fun ρ' c' => ∃ m', m' < m ∧ I m' ρ' c', bk := DD.nx } ρ c1 else DD.nx ρ c1
theorem pds_while (hp : PassesOwn (model Y.X.prog Y.X.w) Y.X.A Y.X.env Y.X.xe) (hc : PDT Y f eA tA) (hb : PDSs Y body s1 t) : PDS Y (.While f body [] pos) (tWhile eA s1) (sWhile tA t) :=
  ⟨ps_while hp hc.p hb.p, fun P G H c ρ σ DD EE K R q => by
    obtain ⟨I, ⟨m0, i0⟩, step⟩ := q
    refine ⟨fun m σ H => ∃ G c ρ, RelP Y P G H c ρ σ ∧ I m ρ c, ⟨m0, G, c, ρ, R, i0⟩, ?_⟩
    rintro m σ H ⟨G, c, ρ, R, im⟩
    refine hc.s G H c ρ σ _ _ R.r (step m ρ c im) fun b G1 H1 c1 ev q => ?_
    cases b with
    | false => rw [if_neg Bool.false_ne_true] at q ⊢; exact K.nx G1 H1 c1 ρ σ (R.evo ev) q
    | true =>
      rw [if_pos rfl] at q ⊢
      refine ⟨fun σ' H' => ∃ m', m' < m ∧ ∃ G c ρ, RelP Y P G H' c ρ σ' ∧ I m' ρ c, fun σ' H' ⟨m', l, z⟩ => ⟨m', l, z⟩, ?_⟩
      refine hb.s P G1 H1 c1 ρ σ _ _ ?_ (R.evo ev) q
      exact ⟨fun G H c ρ σ R ⟨m', l, z⟩ => ⟨m', l, G, c, ρ, R, z⟩, K.rt, K.nx, fun G H c ρ σ R ⟨m', l, z⟩ => ⟨m', l, G, c, ρ, R, z⟩⟩⟩
end

/-! ### targets -/
abbrev DG := D → DEnv → Nat → (DEnv → Nat → Prop) → Prop
abbrev DGs := List D → DEnv → Nat → (DEnv → Nat → Prop) → Prop
/-- the slots that are not in vs are left as they were -/
def Off (vs : List Nat) (σ σ' : L2.St) : Prop := ∀ ws : List Nat, (∀ i, i ∈ vs → i ∈ ws) → wipe σ' ws = wipe σ ws
theorem wipe_set {σ : L2.St} {i : Nat} {o : Option V} : ∀ {ws : List Nat}, i ∈ ws → wipe (σ.set i o) ws = wipe σ ws
  | [], h => by cases h
  | w :: ws, h => by
    have key : ∀ ws : List Nat, i ∈ ws ∨ wipe (σ.set i o) ws = (wipe σ ws).set i o := by
      intro ws
      induction ws with
      | nil => exact .inr rfl
      | cons w ws ih =>
        by_cases e : i = w
        · exact .inl (e ▸ List.mem_cons_self)
        · rcases ih with h | h
          · exact .inl (List.mem_cons_of_mem _ h)
          · refine .inr ?_
            show (wipe (σ.set i o) ws).set w none = ((wipe σ ws).set w none).set i o
            rw [h, List.set_comm _ _ e]
    show (wipe (σ.set i o) ws).set w none = (wipe σ ws).set w none
    by_cases hm : i ∈ ws
    · rw [wipe_set hm]
    · have e : i = w := by
        rcases List.mem_cons.mp h with e | e
        · exact e
        · exact absurd e hm
      rcases key ws with h | h
      · exact absurd h hm
      · rw [h, e, List.set_set]
def SimG (Y : Ctx) (gg : TG) (g : DG) (vs : List Nat) : Prop := ∀ G H c ρ σ d v (Qd : DEnv → Nat → Prop) (Q : L2.St → Hp → Prop), Rel Y G H c ρ σ → Rp Y.X.K G v d → g d ρ c Qd →
  (∀ ρ' σ', Rel Y G H c ρ' σ' → Off vs σ σ' → Qd ρ' c → Q σ' H) → gg v σ H Q
structure PDG (Y : Ctx) (tg : Expr) (gg : TG) (g : DG) (vs : List Nat) : Prop where
  p : PG Y.X tg gg
  s : SimG Y gg g vs
def SimGs (Y : Ctx) (gg : TGs) (g : DGs) (vs : List Nat) : Prop := ∀ G H c ρ σ ds xs (Qd : DEnv → Nat → Prop) (Q : L2.St → Hp → Prop), Rel Y G H c ρ σ → RpAll Y.X.K G xs ds → g ds ρ c Qd →
  (∀ ρ' σ', Rel Y G H c ρ' σ' → Off vs σ σ' → Qd ρ' c → Q σ' H) → gg xs σ H Q
structure PDGs (Y : Ctx) (tgs : List Expr) (gg : TGs) (g : DGs) (vs : List Nat) : Prop where
  p : PGs Y.X tgs gg
  s : SimGs Y gg g vs
def kName (i : Nat) (d : D) (ρ : DEnv) (c : Nat) (Q : DEnv → Nat → Prop) : Prop := Q (ρ.set i (.fz d)) c
def kNil (ds : List D) (ρ : DEnv) (c : Nat) (Q : DEnv → Nat → Prop) : Prop := ds = [] ∧ Q ρ c
def kCons (g : DG) (r : DGs) (ds : List D) (ρ : DEnv) (c : Nat) (Q : DEnv → Nat → Prop) : Prop := ∃ d es, ds = d :: es ∧ g d ρ c fun ρ' c' => r es ρ' c' Q
def kTup (n : Nat) (g : DGs) (d : D) (ρ : DEnv) (c : Nat) (Q : DEnv → Nat → Prop) : Prop := ∃ ds, d = .tup ds ∧ ds.length = n ∧ g ds ρ c Q
section
variable {Y : Ctx} {pos : Pos} {e : Expr} {es : List Expr} {gg : TG} {g : DG} {ggs : TGs} {gs : DGs} {vs ws : List Nat} {ee : TE} {te : DE}
theorem pdg_name (i : Nat) {x : Str} (hN : Y.X.N.Nodup) (hi : Y.X.N[i]? = some x := by rfl) (hx : Loc Y.X.env.scope x := by first | exact Or.inl rfl | exact Or.inr rfl) (hf : Y.X.fn x = true ∨ Y.X.env.scope.names.lookup x = some .local := by first | exact .inl rfl | exact .inr rfl) : PDG Y (.Name x pos) (gName i) (kName i) [i] :=
  ⟨pg_name hN hi hx hf, fun G H c ρ σ d v Qd Q R r h k => k _ _ (R.set_fz r i) (fun ws hw => wipe_set (hw i List.mem_cons_self)) h⟩
theorem pdg_nil : PDGs Y [] gNil kNil [] := ⟨pgs_nil, fun G H c ρ σ ds xs Qd Q R r h k => by
  obtain ⟨rfl, h⟩ := h
  cases r
  exact ⟨rfl, k _ _ R (fun _ _ => rfl) h⟩⟩
theorem pdg_cons (h1 : PDG Y e gg g vs) (h2 : PDGs Y es ggs gs ws) (hs : (assignEach (e :: es) Y.X.env).map (·.2) = assign e Y.X.env :: (assignEach es Y.X.env).map (·.2) := by rfl) : PDGs Y (e :: es) (gCons gg ggs) (kCons g gs) (vs ++ ws) :=
  ⟨pgs_cons h1.p h2.p hs, fun G H c ρ σ ds xs Qd Q R r h k => by
    obtain ⟨d, es, rfl, h⟩ := h
    cases r with
    | cons r1 r2 =>
      refine ⟨_, _, rfl, h1.s G H c ρ σ d _ _ _ R r1 h fun ρ1 σ1 R1 o1 q1 => h2.s G H c ρ1 σ1 es _ _ _ R1 r2 q1 fun ρ2 σ2 R2 o2 q2 => k ρ2 σ2 R2 (fun l hl => ?_) q2⟩
      rw [o2 l fun i hi => hl i (List.mem_append_right _ hi), o1 l fun i hi => hl i (List.mem_append_left _ hi)]⟩
theorem pdg_tup {k n : Nat} (hc : Y.X.calm = true) (h : PDGs Y es ggs gs vs) (hn : (assignEach es Y.X.env).length = n := by rfl) (hst : (assignEach es Y.X.env).findIdx? (·.1) = none := by rfl) : PDG Y (.Tuple es k pos) (gTup Y.X.K n ggs) (kTup n gs) vs :=
  ⟨pg_tup hc h.p hn hst, fun G H c ρ σ d v Qd Q R r hw k => by
    obtain ⟨ds, rfl, hl, hw⟩ := hw
    cases r with
    | tup h1 h2 =>
      exact ⟨_, _, rfl, SqT.same R.ok.same h1, by rw [h2.length]; exact hl, h.s G H c ρ σ ds _ _ _ R h2 hw k⟩⟩
/-- target = e -/
def sAsg (te : DE) (g : DG) (DD : DEnds) (ρ : DEnv) (c : Nat) : Prop := te ρ c fun d c1 => g d ρ c1 DD.nx
theorem pds_asg {tg : Expr} (h : PD Y e ee te) (hg : PDG Y tg gg g vs) (hs : swapsWithSole [tg] e pos.line Y.X.env = pure false := by rfl) (hw : swappedStores [tg] e Y.X.env = pure none := by rfl)
    (h1 : (assignEach [tg] Y.X.env).map (·.2) = [assign tg Y.X.env] := by rfl) : PDS Y (.Assign [tg] e pos) (tAsg ee gg) (sAsg te g) :=
  ⟨ps_asg h.p hg.p hs hw h1, fun P G H c ρ σ DD EE K R q => h.s G H c ρ σ _ _ R.r q fun d v G' H' c' ev r q =>
    hg.s G' H' c' ρ σ d v _ _ (R.r.evo' ev) r q fun ρ' σ' R' _ q' => K.nx G' H' c' ρ' σ' ⟨R', R.le.trans ev.le⟩ q'⟩
end

/-! ### what is walked -/
/-- the walk J gives the items L, from G on -/
def WalkD (K : PySem.W.Frag) (J : It) (L : List D) (G0 : GS) : Prop := ∀ G H c, G0.Le G → G.Ok H c →
  (∀ i d, L[i]? = some d → J.go i H ∧ ∀ x H', J.yld i H x H' → ∃ G', Evo G H c G' H' c ∧ Rp K G' x d) ∧ J.stop L.length H
abbrev DI := DEnv → Nat → (List D → Nat → Prop) → Prop
def SimI (Y : Ctx) (wi : TI) (ti : DI) : Prop := ∀ G H c ρ σ (Qd : List D → Nat → Prop) (R : It → Hp → Prop), Rel Y G H c ρ σ → ti ρ c Qd →
  (∀ L J G1 H1 c1, Evo G H c G1 H1 c1 → WalkD Y.X.K J L G1 → Qd L c1 → R J H1) → wi σ H R
structure PDI (Y : Ctx) (tg iter : Expr) (wi : TI) (ti : DI) : Prop where
  p : PI Y.X tg iter wi
  s : SimI Y wi ti
section
variable {Y : Ctx} {pos : Pos} {e tg : Expr} {ee : TE} {te : DE}
theorem walkD_list {K : PySem.W.Frag} {a : Addr} {xs : List V} {ds : List D} {G0 : GS} (h : SqL K G0.f a xs) (r : RpAll K G0 xs ds) : WalkD K (Itl K a) ds G0 := by
  intro G H c le ok
  have hq : SqL K H a xs := SqL.same (le.f.trans ok.same) h
  refine ⟨fun i d hd => ?_, ⟨xs, hq, by rw [r.length]; exact Nat.le_refl _⟩⟩
  obtain ⟨v, hv, rv⟩ := r.get hd
  refine ⟨⟨xs, v, hq, hv⟩, fun x H' y => ?_⟩
  obtain ⟨rfl, y⟩ := y
  have e := y xs hq
  rw [hv] at e
  cases e
  exact ⟨G, Evo.refl ok, rv.mono le⟩
end
end PL

namespace PL
open PySem PySem.Spec PyProof.Rows L2

theorem walkD_tup {K : PySem.W.Frag} {a : Addr} {xs : List V} {ds : List D} {G0 : GS} (h : SqT K G0.f a xs) (r : RpAll K G0 xs ds) : WalkD K (Itt K a) ds G0 := by
  intro G H c le ok
  have hq : SqT K H a xs := SqT.same (le.f.trans ok.same) h
  refine ⟨fun i d hd => ?_, ⟨xs, hq, by rw [r.length]; exact Nat.le_refl _⟩⟩
  obtain ⟨v, hv, rv⟩ := r.get hd
  refine ⟨⟨xs, v, hq, hv⟩, fun x H' y => ?_⟩
  obtain ⟨rfl, y⟩ := y
  have e := y xs hq
  rw [hv] at e
  cases e
  exact ⟨G, Evo.refl ok, rv.mono le⟩
/-- the signs of a text, each a text -/
def signs (x : Str) : List D := x.cps.toList.map fun c => D.str ⟨#[c]⟩
theorem signs_get {x : Str} {i : Nat} {d : D} (h : (signs x)[i]? = some d) : ∃ c, x.cps[i]? = some c ∧ d = .str ⟨#[c]⟩ := by
  unfold signs at h
  rw [List.getElem?_map] at h
  cases e : x.cps.toList[i]? with
  | none => rw [e] at h; cases h
  | some c => rw [e] at h; cases h; exact ⟨c, by simpa using e, rfl⟩
theorem walkD_str {K : PySem.W.Frag} (x : Str) (G0 : GS) : WalkD K (Its x) (signs x) G0 := by
  intro G H c le ok
  have hl : (signs x).length = x.cps.size := by simp [signs]
  refine ⟨fun i d hd => ?_, by show x.cps.size ≤ _; omega⟩
  obtain ⟨k, hk, rfl⟩ := signs_get hd
  have hi : i < x.cps.size := (Array.getElem?_eq_some_iff.mp hk).1
  refine ⟨hi, fun v H' y => ?_⟩
  obtain ⟨rfl, k', hk', rfl⟩ := y
  rw [hk] at hk'
  cases hk'
  exact ⟨G, Evo.refl ok, .str _⟩
/-- lo, lo + 1, .. (n of them) -/
def upInts (lo : Int) (n : Nat) : List D := (List.range n).map fun i => D.int (lo + (i : Nat))
theorem upInts_get {lo : Int} {n i : Nat} {d : D} (h : (upInts lo n)[i]? = some d) : i < n ∧ d = .int (lo + (i : Nat)) := by
  unfold upInts at h
  rw [List.getElem?_map] at h
  by_cases e : i < n
  · rw [List.getElem?_range e] at h
    cases h
    exact ⟨e, rfl⟩
  · rw [List.getElem?_eq_none (by simpa using e)] at h; cases h
theorem upInts_length (lo : Int) (n : Nat) : (upInts lo n).length = n := by simp [upInts]
theorem walkD_range {K : PySem.W.Frag} (lo : Int) (n : Nat) (G0 : GS) : WalkD K (Itr lo n) (upInts lo n) G0 := by
  intro G H c le ok
  refine ⟨fun i d hd => ?_, by show n ≤ _; rw [upInts_length]; exact Nat.le_refl _⟩
  obtain ⟨hi, rfl⟩ := upInts_get hd
  refine ⟨hi, fun v H' y => ?_⟩
  obtain ⟨rfl, rfl⟩ := y
  exact ⟨G, Evo.refl ok, .int _⟩
/-- with their places -/
def numbered (k : Nat) : List D → List D
  | [] => []
  | d :: ds => .tup [.int (k : Nat), d] :: numbered (k + 1) ds
theorem numbered_length : ∀ (k : Nat) (ds : List D), (numbered k ds).length = ds.length
  | _, [] => rfl
  | k, d :: ds => congrArg (· + 1) (numbered_length (k + 1) ds)
theorem numbered_get : ∀ {k : Nat} {ds : List D} {i : Nat} {d : D}, (numbered k ds)[i]? = some d → ∃ e, ds[i]? = some e ∧ d = .tup [.int ((k + i : Nat) : Int), e]
  | k, [], i, d, h => by simp [numbered] at h
  | k, e :: ds, 0, d, h => by
    refine ⟨e, rfl, ?_⟩
    simp [numbered] at h
    exact h.symm
  | k, e :: ds, i + 1, d, h => by
    have h : (numbered (k + 1) ds)[i]? = some d := by simpa [numbered] using h
    obtain ⟨f, h1, h2⟩ := numbered_get h
    refine ⟨f, by simpa using h1, ?_⟩
    rw [h2, show k + 1 + i = k + (i + 1) by omega]
theorem walkD_enum {K : PySem.W.Frag} {J : It} {xs : List V} {ds : List D} {G0 : GS} (r : RpAll K G0 xs ds)
    (hg : ∀ i x G H, G0.Le G → Same G.f H → xs[i]? = some x → J.go i H) (hs : ∀ G H, G0.Le G → Same G.f H → J.stop xs.length H)
    (hy : ∀ i v G H H', G0.Le G → Same G.f H → J.yld i H v H' → ∃ T x, v = .ref T ∧ H T = none ∧ H' = upd H T (.tup [.int (i : Nat), x]) ∧ xs[i]? = some x) : WalkD K J (numbered 0 ds) G0 := by
  intro G H c le ok
  refine ⟨fun i d hd => ?_, by rw [numbered_length, ← r.length]; exact hs G H le ok.same⟩
  obtain ⟨e, he, rfl⟩ := numbered_get hd
  obtain ⟨x, hx, rx⟩ := r.get he
  refine ⟨hg i x G H le ok.same hx, fun v H' y => ?_⟩
  obtain ⟨T, x', rfl, hT, rfl, hx'⟩ := hy i v G H H' le ok.same y
  rw [hx] at hx'
  cases hx'
  refine ⟨_, Evo.laid ok _ hT, ?_⟩
  rw [Nat.zero_add]
  exact Rp.newTup ok hT (.cons (.int _) (.cons (rx.mono le) .nil))

section
variable {Y : Ctx} {pos : Pos} {e tg : Expr} {es : List Expr} {ee : TE} {te : DE} {fa : TA} {t : DA} {wi : TI} {ti : DI}
/-- what is walked by itself: a list, a tuple, a text -/
def iAny (K : PySem.W.Frag) (tl : TE) : TI := fun σ H R => tl σ H fun x H1 =>
  (∃ a, x = .ref a ∧ (∃ xs, SqL K H1 a xs) ∧ R (Itl K a) H1) ∨ (∃ a, x = .ref a ∧ (∃ xs, SqT K H1 a xs) ∧ R (Itt K a) H1) ∨ ∃ z, x = .str z ∧ R (Its z) H1
theorem pi_any {X : Cx} {l : Expr} {tl : TE} (hl : PE X l tl) : PI X tg l (iAny X.K tl) := by
  refine ⟨fun pins s σ H R I h => thn (hl.run pins s σ H _ I h) fun v s1 ⟨x, H1, I1, r1, q1⟩ => ?_⟩
  have one : ∀ {b : Addr} {it : Addr}, b ∈ [it] → b = it := fun h => by simpa using h
  rcases q1 with ⟨a, rfl, ⟨xs, hq⟩, q⟩ | ⟨a, rfl, ⟨xs, hq⟩, q⟩ | ⟨z, rfl, q⟩
  · cases r1
    obtain ⟨its, rv, p, hz⟩ := I1.list hq
    exact wpAny_pyIter_list p.isList ⟨s1.heap.objs.size, _, _, _, H1, rfl, I1.kept (t' := s1.toks) fun b o e => Heap.get?_push_of_some _ e, turn_list a _, ⟨_, Heap.get?_push_size _ rfl, rfl, rfl⟩, fun b hb => by
      rw [one hb]; exact I1.fpOk (Nat.le_refl _) (I1.hok.fresh (Nat.le_refl _)), q⟩
  · cases r1
    obtain ⟨its, rv, p, hz⟩ := I1.tuple hq
    exact wpAny_pyIter_tuple (show s1.heap.IsTuple a its.toArray from p) ⟨s1.heap.objs.size, _, _, _, H1, rfl, I1.kept (t' := s1.toks) fun b o e => Heap.get?_push_of_some _ e, turn_tuple a _, ⟨_, Heap.get?_push_size _ rfl, rfl, rfl⟩, fun b hb => by
      rw [one hb]; exact I1.fpOk (Nat.le_refl _) (I1.hok.fresh (Nat.le_refl _)), q⟩
  · obtain ⟨tk, rfl⟩ := r1
    refine wpAny_pyIter_strU ⟨s1.heap.objs.size, _, _, _, H1, rfl, I1.kept (t' := s1.toks) fun b o e => Heap.get?_push_of_some _ e, turn_str (s1.heap.objs.size) z tk (strIterType z) ?_, ⟨_, Heap.get?_push_size _ rfl, rfl, rfl⟩, fun b hb => by
      rw [one hb]; exact I1.fpOk (Nat.le_refl _) (I1.hok.fresh (Nat.le_refl _)), q⟩
    unfold strIterType
    split
    · exact .inl rfl
    · exact .inr rfl
/-- the items of a value that is walked -/
def items : D → Option (List D)
  | .lst l => some l
  | .tup l => some l
  | .str x => some (signs x)
  | _ => none
def diAny (te : DE) (ρ : DEnv) (c : Nat) (Q : List D → Nat → Prop) : Prop := te ρ c fun d c1 => ∃ L, items d = some L ∧ Q L c1
theorem pdi_any (h : PD Y e ee te) : PDI Y tg e (iAny Y.X.K ee) (diAny te) := by
  refine ⟨pi_any h.p, fun G H c ρ σ Qd R Rl q k => ?_⟩
  refine h.s G H c ρ σ _ _ Rl q fun d v G1 H1 c1 ev r q => ?_
  obtain ⟨L, e, q⟩ := q
  cases r with
  | lst h1 h2 => cases e; exact .inl ⟨_, rfl, ⟨_, SqL.same ev.ok.same h1⟩, k _ _ G1 H1 c1 ev (walkD_list h1 h2) q⟩
  | tup h1 h2 => cases e; exact .inr (.inl ⟨_, rfl, ⟨_, SqT.same ev.ok.same h1⟩, k _ _ G1 H1 c1 ev (walkD_tup h1 h2) q⟩)
  | str x => cases e; exact .inr (.inr ⟨_, rfl, k _ _ G1 H1 c1 ev (walkD_str x G1) q⟩)
  | _ => cases e
def diRng1 (t : DA) (ρ : DEnv) (c : Nat) (Q : List D → Nat → Prop) : Prop := t ρ c fun ds c1 => ∃ j : Int, ds = [.int j] ∧ -(2 ^ 62) ≤ j ∧ j < 2 ^ 62 ∧ Q (upInts 0 j.toNat) c1
theorem pdi_range1 {a : Expr} {p : Pos} (hm : Y.X.mg "range" = none) (ha : PDA Y [a] fa t) (hg : Gl Y.X "range" := by rfl) (hs : starEach [a] Y.X.env = [(false, eval a Y.X.env)] := by rfl) :
    PDI Y tg (.Call (.Name "range" p) [a] [] pos) (iRng1 fa) (diRng1 t) := by
  refine ⟨pi_range1 hg hm ha.p hs, fun G H c ρ σ Qd R Rl q k => ?_⟩
  refine ha.s G H c ρ σ _ _ Rl q fun ds vs G1 H1 c1 ev r q => ?_
  obtain ⟨j, rfl, h1, h2, q⟩ := q
  cases r with
  | cons r rr => cases rr; cases r; exact ⟨j, rfl, h1, h2, k _ _ G1 H1 c1 ev (walkD_range 0 _ G1) q⟩
def diRng2 (t : DA) (ρ : DEnv) (c : Nat) (Q : List D → Nat → Prop) : Prop := t ρ c fun ds c1 => ∃ i j : Int, ds = [.int i, .int j] ∧ (-(2 ^ 62) ≤ i ∧ i < 2 ^ 62 ∧ -(2 ^ 62) ≤ j ∧ j < 2 ^ 62) ∧ Q (upInts i (j - i).toNat) c1
theorem pdi_range2 {a b : Expr} {p : Pos} (hm : Y.X.mg "range" = none) (ha : PDA Y [a, b] fa t) (hg : Gl Y.X "range" := by rfl) (hs : starEach [a, b] Y.X.env = [(false, eval a Y.X.env), (false, eval b Y.X.env)] := by rfl)
    (hs2 : starEach [b] Y.X.env = [(false, eval b Y.X.env)] := by rfl) : PDI Y tg (.Call (.Name "range" p) [a, b] [] pos) (iRng2 fa) (diRng2 t) := by
  refine ⟨pi_range2 hg hm ha.p hs hs2, fun G H c ρ σ Qd R Rl q k => ?_⟩
  refine ha.s G H c ρ σ _ _ Rl q fun ds vs G1 H1 c1 ev r q => ?_
  obtain ⟨i, j, rfl, hb, q⟩ := q
  cases r with
  | cons r rr =>
    cases rr with
    | cons r' rr => cases rr; cases r; cases r'; exact ⟨i, j, rfl, hb, k _ _ G1 H1 c1 ev (walkD_range i _ G1) q⟩

/-! ### for -/
def ForB (g : DG) (tb : DS) (DD : DEnds) (ρ : DEnv) (L : List D) (c1 : Nat) : Prop := ∃ I : Nat → DEnv → Nat → Prop, I 0 ρ c1 ∧
  (∀ k x ρ c, L[k]? = some x → I k ρ c → g x ρ c fun ρ' c' => tb { DD with nx := I (k + 1), ct := I (k + 1), bk := DD.nx } ρ' c') ∧ ∀ ρ c, I L.length ρ c → DD.nx ρ c
def sFor (ti : DI) (g : DG) (tb : DS) (DD : DEnds) (ρ : DEnv) (c : Nat) : Prop := ti ρ c fun L c1 => ForB g tb DD ρ L c1
theorem pds_for {body : List Stmt} {gg : TG} {g : DG} {vs : List Nat} {ts : TS} {tb : DS} (hp : PassesOwn (model Y.X.prog Y.X.w) Y.X.A Y.X.env Y.X.xe) (hc : Y.X.calm = true) (hi : PDI Y tg e wi ti) (hg : PDG Y tg gg g vs) (hb : PDSs Y body ts tb)
    (hs : ∀ x, foldedSetIterable e Y.X.env x = pure x := by intro _; rfl) : PDS Y (.For tg e body [] pos) (tFor wi gg ts) (sFor ti g tb) := by
  refine ⟨ps_for hp hc hi.p hg.p hb.p hs, fun P G H c ρ σ DD EE K R q => ?_⟩
  refine hi.s G H c ρ σ _ _ R.r q fun L J G1 H1 c1 ev wk q => ?_
  obtain ⟨I, i0, step, fin⟩ := q
  refine ⟨fun i m σ H => m = L.length - i ∧ i ≤ L.length ∧ ∃ G c ρ, RelP Y G1 G H c ρ σ ∧ I i ρ c, ⟨_, rfl, Nat.zero_le _, G1, c1, ρ, ⟨R.r.evo' ev, GS.Le.refl _⟩, i0⟩, ?_⟩
  rintro i m σ H ⟨rfl, hi, G, c, ρ, R1, ii⟩
  obtain ⟨wgo, wst⟩ := wk G H c R1.le R1.r.ok
  by_cases hlt : i < L.length
  · refine .inr ⟨(wgo i L[i] (by simp [hlt])).1, fun σ' H' => ∃ G c ρ, RelP Y G1 G H' c ρ σ' ∧ I (i + 1) ρ c, fun σ' H' z => ⟨L.length - (i + 1), by omega, rfl, hlt, z⟩, fun x H' y => ?_⟩
    obtain ⟨G', e', r'⟩ := (wgo i L[i] (by simp [hlt])).2 x H' y
    have R2 := R1.evo e'
    refine hg.s G' H' c ρ σ L[i] x _ _ R2.r r' (step i _ ρ c (by simp [hlt]) ii) fun ρ2 σ2 R3 _ q2 => ?_
    refine hb.s G1 G' H' c ρ2 σ2 _ _ ?_ ⟨R3, R2.le⟩ q2
    exact ⟨fun G H c ρ σ R z => ⟨G, c, ρ, R, z⟩, K.rt, fun G H c ρ σ R' z => K.nx G H c ρ σ ⟨R'.r, (GS.Le.trans R.le ev.le).trans R'.le⟩ z, fun G H c ρ σ R z => ⟨G, c, ρ, R, z⟩⟩
  · have e : i = L.length := by omega
    subst e
    exact .inl ⟨wst, K.nx G H c ρ σ ⟨R1.r, GS.Le.trans (GS.Le.trans R.le ev.le) R1.le⟩ (fin ρ c ii)⟩
end
end PL

namespace PL
open PySem PySem.Spec PyProof.Rows L2

/-! ### lists of the frame's own -/
section
variable {Y : Ctx} {P G G1 : GS} {H H1 : Hp} {c c1 : Nat} {ρ : DEnv} {σ : L2.St}
theorem Rel.dropLast {s : Sl} {o : Option V} (R : Rel Y G H c (ρ ++ [s]) (σ ++ [o])) : Rel Y G H c ρ σ := by
  have hl : ρ.length = σ.length := by have := R.len; simpa using this
  have up : ∀ {i : Nat} {t : Sl}, ρ[i]? = some t → (ρ ++ [s])[i]? = some t ∧ (σ ++ [o])[i]? = σ[i]? := fun {i t} e => by
    have hi : i < ρ.length := (List.getElem?_eq_some_iff.mp e).1
    exact ⟨by rw [List.getElem?_append_left hi]; exact e, by rw [List.getElem?_append_left (by omega)]⟩
  refine ⟨R.ok, R.evo, hl, fun i t e => ?_, fun i j t u ne e1 e2 h1 h2 => ?_⟩
  · obtain ⟨a, b⟩ := up e
    rw [← b]
    exact R.sl i t a
  · obtain ⟨a1, b1⟩ := up e1
    obtain ⟨a2, b2⟩ := up e2
    rw [← b1, ← b2]
    exact R.sep i j t u ne a1 a2 h1 h2
/-- what a list of the frame's own holds is changed -/
theorem Rel.put {i : Nat} {a : Addr} {xs : List V} {ds es : List D} (R : Rel Y G H c ρ σ) (hi : ρ[i]? = some (.ol ds)) (hs : σ[i]? = some (some (.ref a))) (r : RpAll Y.X.K G xs es) :
    Rel Y G (upd H a (.lst xs)) c (ρ.set i (.ol es)) σ := by
  obtain ⟨o, e1, b, ys, rfl, h1, h2, h3, h4, h5⟩ := R.sl i _ hi
  rw [hs] at e1
  cases e1
  have nf : ∀ b u, G.f b = some u → b ≠ a := fun b u e z => by subst z; rw [h1] at e; cases e
  have np : ∀ b, G.pu b → b ≠ a := fun b e z => h2 (z ▸ e)
  have n0 : ∀ b u, Y.H0 b = some u → b ≠ a := fun b u e z => by subst z; rw [h3] at e; cases e
  have ok : G.Ok (upd H a (.lst xs)) c := ⟨fun b u e => by rw [upd_ne (nf b u e)]; exact R.ok.same b u e, R.ok.npu, fun b hb => by rw [upd_ne (np b hb)]; exact R.ok.pu b hb⟩
  refine ⟨ok, ⟨ok, R.evo.le, R.evo.c, fun b u e n => by rw [upd_ne (n0 b u e)]; exact R.evo.keep b u e n, fun b hb => by rw [upd_ne (np b (R.evo.le.pu b hb))]; exact R.evo.pus b hb, R.evo.new, R.evo.npu⟩, by simp [R.len], fun j s e => ?_, fun j k s t ne e1 e2 q1 q2 => ?_⟩
  · rcases getElem?_set_cases e with ⟨rfl, rfl, _⟩ | ⟨ne, e⟩
    · exact ⟨_, hs, a, xs, rfl, h1, h2, h3, upd_same, r⟩
    · obtain ⟨o', e2, q⟩ := R.sl j s e
      refine ⟨o', e2, ?_⟩
      cases s with
      | no => trivial
      | fz d => exact q
      | ol fs =>
        obtain ⟨b, zs, rfl, g1, g2, g3, g4, g5⟩ := q
        have nb : b ≠ a := fun z => by
          subst z
          exact R.sep i j _ _ (Ne.symm ne) hi e rfl rfl (hs.trans e2.symm)
        exact ⟨b, zs, rfl, g1, g2, g3, by rw [upd_ne nb]; exact g4, g5⟩
  · have back : ∀ {j : Nat} {s : Sl}, (ρ.set i (.ol es))[j]? = some s → s.isOl = true → ∃ s', ρ[j]? = some s' ∧ s'.isOl = true := fun {j s} e q => by
      rcases getElem?_set_cases e with ⟨rfl, rfl, _⟩ | ⟨_, e⟩
      · exact ⟨_, hi, rfl⟩
      · exact ⟨_, e, q⟩
    obtain ⟨s', f1, w1⟩ := back e1 q1
    obtain ⟨t', f2, w2⟩ := back e2 q2
    exact R.sep j k s' t' ne f1 f2 w1 w2
theorem Rel.snoc_ol {a : Addr} (R : Rel Y G H c ρ σ) (h : H a = none) : Rel Y G (upd H a (.lst [])) c (ρ ++ [.ol []]) (σ ++ [some (.ref a)]) := by
  have ev : Evo G H c G (upd H a (.lst [])) c := Evo.laidU R.ok _ h
  have R1 := R.evo' ev
  have h0 : Y.H0 a = none := by
    cases q : Y.H0 a with
    | none => rfl
    | some u =>
      by_cases hp : Y.G0.pu a
      · obtain ⟨o, e⟩ := R.evo.pus a hp
        rw [h] at e; cases e
      · have e := R.evo.keep a u q hp
        rw [h] at e; cases e
  have key : ∀ {j : Nat} {s : Sl}, (ρ ++ [Sl.ol []])[j]? = some s → (ρ[j]? = some s ∧ (σ ++ [some (.ref a)])[j]? = σ[j]?) ∨ (s = .ol [] ∧ j = ρ.length ∧ (σ ++ [some (V.ref a)])[j]? = some (some (.ref a))) := fun {j s} e => by
    by_cases hj : j < ρ.length
    · rw [List.getElem?_append_left hj] at e
      exact .inl ⟨e, List.getElem?_append_left (by rw [← R.len]; exact hj)⟩
    · have hl : j < (ρ ++ [Sl.ol []]).length := (List.getElem?_eq_some_iff.mp e).1
      have ej : j = ρ.length := by simp at hl; omega
      subst ej
      rw [List.getElem?_append_right (Nat.le_refl _)] at e
      simp at e
      refine .inr ⟨e.symm, rfl, ?_⟩
      rw [List.getElem?_append_right (by rw [R.len]; exact Nat.le_refl _), R.len]
      simp
  have noa : ∀ (j : Nat) (s : Sl), ρ[j]? = some s → s.isOl = true → σ[j]? ≠ some (some (V.ref a)) := fun j s e q z => by
    obtain ⟨o, e1, r⟩ := R.sl j s e
    rw [z] at e1
    cases e1
    cases s with
    | no => cases q
    | fz d => cases q
    | ol ds =>
      obtain ⟨b, ys, eb, g1, g2, g3, g4, g5⟩ := r
      cases eb
      rw [h] at g4; cases g4
  refine ⟨R1.ok, R1.evo, by simp [R.len], fun j s e => ?_, fun j k s t ne e1 e2 q1 q2 => ?_⟩
  · rcases key e with ⟨e, q⟩ | ⟨rfl, _, q⟩
    · obtain ⟨o, e1, r⟩ := R1.sl j s e
      exact ⟨o, by rw [q]; exact e1, r⟩
    · exact ⟨_, q, a, [], rfl, R.ok.fnone h, R.ok.punone h, h0, upd_same, .nil⟩
  · rcases key e1 with ⟨f1, w1⟩ | ⟨rfl, j1, w1⟩
    · rcases key e2 with ⟨f2, w2⟩ | ⟨rfl, j2, w2⟩
      · rw [w1, w2]; exact R.sep j k s t ne f1 f2 q1 q2
      · rw [w1, w2]; exact noa j s f1 q1
    · rcases key e2 with ⟨f2, w2⟩ | ⟨rfl, j2, w2⟩
      · rw [w1, w2]; exact fun z => noa k t f2 q2 z.symm
      · exact absurd (j1.trans j2.symm) ne
theorem Evo.mut {a : Addr} {o : HO} (e : Evo G1 H1 c1 G H c) (h0 : H1 a = none) (hf : G.f a = none) (hp : ¬ G.pu a) : Evo G1 H1 c1 G (upd H a o) c where
  ok := ⟨fun b u q => by
      have : b ≠ a := fun z => by subst z; rw [hf] at q; cases q
      rw [upd_ne this]; exact e.ok.same b u q, e.ok.npu, fun b hb => by
      have : b ≠ a := fun z => hp (z ▸ hb)
      rw [upd_ne this]; exact e.ok.pu b hb⟩
  le := e.le
  c := e.c
  keep := fun b u q n => by rw [upd_ne (ne_of_none q h0)]; exact e.keep b u q n
  pus := fun b hb => by
    have : b ≠ a := fun z => hp (z ▸ e.le.pu b hb)
    rw [upd_ne this]; exact e.pus b hb
  new := e.new
  npu := e.npu
def wipeD (ρ : DEnv) : List Nat → DEnv
  | [] => ρ
  | v :: vs => (wipeD ρ vs).set v .no
theorem Rel.wipe (R : Rel Y G H c ρ σ) : ∀ vs : List Nat, Rel Y G H c (wipeD ρ vs) (L2.wipe σ vs)
  | [] => R
  | v :: vs => (R.wipe vs).set_no v none
theorem wipe_wipe (σ : L2.St) : ∀ (vs ws : List Nat), (∀ i, i ∈ vs → i ∈ ws) → L2.wipe (L2.wipe σ vs) ws = L2.wipe σ ws
  | [], _, _ => rfl
  | v :: vs, ws, h => by
    show L2.wipe ((L2.wipe σ vs).set v none) ws = _
    rw [wipe_set (h v List.mem_cons_self)]
    exact wipe_wipe σ vs ws fun i hi => h i (List.mem_cons_of_mem _ hi)
end

/-! ### comprehensions -/
def Ctx.blk (Y : Ctx) (s : Shared) (H : Hp) (scope : Scope) (cenv : Env) (fp : List Addr) : Ctx := { Y with X := Y.X.blk s H scope cenv fp, E := E0, ED := fun _ _ _ _ => False }
theorem Rel.toBlk {Y : Ctx} {G : GS} {H : Hp} {c : Nat} {ρ : DEnv} {σ : L2.St} {s : Shared} {H' : Hp} {scope : Scope} {cenv : Env} {fp : List Addr} (R : Rel Y G H c ρ σ) : Rel (Y.blk s H' scope cenv fp) G H c ρ σ := ⟨R.ok, R.evo, R.len, R.sl, R.sep⟩
theorem Rel.ofBlk {Y : Ctx} {G : GS} {H : Hp} {c : Nat} {ρ : DEnv} {σ : L2.St} {s : Shared} {H' : Hp} {scope : Scope} {cenv : Env} {fp : List Addr} (R : Rel (Y.blk s H' scope cenv fp) G H c ρ σ) : Rel Y G H c ρ σ := ⟨R.ok, R.evo, R.len, R.sl, R.sep⟩
structure PDTs (Y : Ctx) (ifs : List Expr) (te : TT) (t : DT) : Prop where
  p : PTs Y.X ifs te
  s : SimT Y te t
def dtYes (_ : DEnv) (c : Nat) (Q : Bool → Nat → Prop) : Prop := Q true c
theorem pdts_nil {Y : Ctx} : PDTs Y [] tYes dtYes := ⟨pts_nil, fun G H c ρ σ Qd Q R h k => k true G H c (Evo.refl R.ok) h⟩
theorem pdts_one {Y : Ctx} {e : Expr} {eA : TT} {tA : DT} (h : PDT Y e eA tA) : PDTs Y [e] eA tA := ⟨pts_one h.p, h.s⟩
/-- the items L gone through -/
def LcB (g : DG) (tt : DT) (te : DE) (vs : List Nat) (ρ : DEnv) (L : List D) (c1 : Nat) (Q : QD) : Prop := ∃ I : Nat → List D → Nat → Prop, I 0 [] c1 ∧
  (∀ k x acc c, L[k]? = some x → I k acc c → g x (wipeD ρ vs) c fun ρ2 c2 => tt ρ2 c2 fun b c3 => if b = true then te ρ2 c3 fun y c4 => acc.length < sizeLine ∧ I (k + 1) (acc ++ [y]) c4 else I (k + 1) acc c3) ∧ ∀ acc c, I L.length acc c → Q (.lst acc) c
def dLc (ti : DI) (g : DG) (tt : DT) (te : DE) (vs : List Nat) (ρ : DEnv) (c : Nat) (Q : QD) : Prop := ti ρ c fun L c1 => LcB g tt te vs ρ L c1 Q
section
variable {Y : Ctx} {iter tg elt : Expr} {ifs : List Expr} {wi : TI} {ti : DI} {gg : TG} {g : DG} {vs : List Nat} {eA : TT} {tA : DT} {ee : TE} {te : DE} {scope : Scope} {own : List (Str × Nat)} {pos spos : Pos}
/-- what a comprehension's parts are, in every block -/
structure Blk (Y : Ctx) (tg elt : Expr) (ifs : List Expr) (scope : Scope) (gg : TG) (g : DG) (eA : TT) (tA : DT) (ee : TE) (te : DE) (vs : List Nat) : Prop where
  g : ∀ (s : Shared) (H : Hp) (C : Addr) (cl : List (Str × Addr)) (fp : List Addr), PDG (Y.blk s H scope (compEnvC scope cl C Y.X.env) fp) tg gg g vs
  t : ∀ (s : Shared) (H : Hp) (C : Addr) (cl : List (Str × Addr)) (fp : List Addr), PDTs (Y.blk s H scope (compEnvC scope cl C Y.X.env) fp) ifs eA tA
  e : ∀ (s : Shared) (H : Hp) (C : Addr) (cl : List (Str × Addr)) (fp : List Addr), PD (Y.blk s H scope (compEnvC scope cl C Y.X.env) fp) elt ee te
theorem lc_sim (hi : SimI Y wi ti) (b : Blk Y tg elt ifs scope gg g eA tA ee te (own.map (·.2))) : SimE Y (tLc wi gg eA ee (own.map (·.2))) (dLc ti g tA te (own.map (·.2))) := by
  intro G H c ρ σ Qd Q R q k
  have sg := (b.g Y.X.s_0 Y.X.H_0 0 [] []).s
  have st := (b.t Y.X.s_0 Y.X.H_0 0 [] []).s
  have se := (b.e Y.X.s_0 Y.X.H_0 0 [] []).s
  generalize own.map (·.2) = vs at *
  refine hi G H c ρ σ _ _ R q fun L J G1 H1 c1 ev wk q a ha => ?_
  obtain ⟨I, i0, step, fin⟩ := q
  have R1 := ((R.evo' ev).wipe vs).snoc_ol ha
  refine ⟨fun i m H => m = L.length - i ∧ i ≤ L.length ∧ ∃ G c acc, Rel Y G H c (wipeD ρ vs ++ [.ol acc]) (L2.wipe σ vs ++ [some (.ref a)]) ∧ Evo G1 H1 c1 G H c ∧ I i acc c,
    ⟨_, rfl, Nat.zero_le _, G1, c1, [], R1, Evo.laidU ev.ok _ ha, i0⟩, ?_⟩
  rintro i m H ⟨rfl, hil, G, c, acc, R2, e2, ii⟩
  obtain ⟨wgo, wst⟩ := wk G H c e2.le e2.ok
  have at_ : ∀ {ds : List D} {G H c}, Rel Y G H c (wipeD ρ vs ++ [.ol ds]) (L2.wipe σ vs ++ [some (.ref a)]) → G.f a = none ∧ ¬ G.pu a ∧ ∃ xs, H a = some (.lst xs) ∧ RpAll Y.X.K G xs ds := fun {ds G H c} R => by
    have hl : (wipeD ρ vs).length = (L2.wipe σ vs).length := by have := R.len; simpa using this
    obtain ⟨o, e1, b, ys, rfl, h1, h2, h3, h4, h5⟩ := R.sl (wipeD ρ vs).length (.ol ds) (by simp)
    have : (L2.wipe σ vs ++ [some (V.ref a)])[(wipeD ρ vs).length]? = some (some (.ref a)) := by rw [hl]; simp
    rw [this] at e1
    cases e1
    exact ⟨h1, h2, ys, h4, h5⟩
  by_cases hlt : i < L.length
  · have hx : L[i]? = some L[i] := by simp [hlt]
    refine .inr ⟨(wgo i L[i] hx).1, fun H' => ∃ G c acc, Rel Y G H' c (wipeD ρ vs ++ [.ol acc]) (L2.wipe σ vs ++ [some (.ref a)]) ∧ Evo G1 H1 c1 G H' c ∧ I (i + 1) acc c, fun H' z => ⟨L.length - (i + 1), by omega, rfl, hlt, z⟩, fun x H' y => ?_⟩
    obtain ⟨G', e', r'⟩ := (wgo i L[i] hx).2 x H' y
    have R3 := R2.evo' e'
    refine sg G' H' c _ _ L[i] x _ _ R3.dropLast.toBlk r' (step i _ acc c hx ii) fun ρ2 σ2 R4 off q2 => ⟨?_, ?_⟩
    · rw [off vs fun _ h => h, wipe_wipe σ vs vs fun _ h => h]
    · refine st G' H' c ρ2 σ2 _ _ R4 q2 fun bb G5 H5 c5 e5 q5 => ?_
      have R5 := R3.evo' e5
      cases bb with
      | false =>
        rw [if_neg Bool.false_ne_true] at q5 ⊢
        exact ⟨G5, c5, acc, R5, (e2.trans e').trans e5, q5⟩
      | true =>
        rw [if_pos rfl] at q5 ⊢
        refine se G5 H5 c5 ρ2 σ2 _ _ (R4.evo' e5) q5 fun d v G6 H6 c6 e6 r6 q6 => ?_
        have R6 := R5.evo' e6
        obtain ⟨hf, hp, xs, hx, rx⟩ := at_ R6
        obtain ⟨hlen, q6⟩ := q6
        refine ⟨xs, hx, by rw [rx.length]; exact hlen, G6, c6, acc ++ [d], ?_, (((e2.trans e').trans e5).trans e6).mut ha hf hp, q6⟩
        have R7 := R6.put (ds := acc) (i := (wipeD ρ vs).length) (a := a) (by simp) (by
          have hl : (wipeD ρ vs).length = (L2.wipe σ vs).length := by have := R6.len; simpa using this
          rw [hl]; simp) (rx.snoc r6)
        have e7 : (wipeD ρ vs ++ [Sl.ol acc]).set (wipeD ρ vs).length (.ol (acc ++ [d])) = wipeD ρ vs ++ [.ol (acc ++ [d])] := by
          rw [List.set_append_right _ _ (Nat.le_refl _)]; simp
        rw [e7] at R7
        exact R7
  · have e : i = L.length := by omega
    subst e
    obtain ⟨hf, hp, xs, hx, rx⟩ := at_ R2
    refine .inl ⟨wst, ?_⟩
    have e3 := e2.freeze ha hf hp hx
    have le : G.Le { G with f := upd G.f a (.lst xs) } := ⟨fun b u q => by
      have : b ≠ a := fun z => by subst z; rw [hf] at q; cases q
      show upd G.f a _ b = some u
      rw [upd_ne this]; exact q, fun _ z => z⟩
    exact k (.lst acc) (.ref a) _ _ c (ev.trans e3) (.lst (SqL.of upd_same) (rx.mono le)) (fin acc c ii)
theorem pd_lc (hc : Y.X.calm = true) (hN : Y.X.N.Nodup) (hi : PDI Y tg iter wi ti) (ok : BlkOk Y.X.N Y.X.env.scope scope own) (b : Blk Y tg elt ifs scope gg g eA tA ee te (own.map (·.2)))
    (hs : ∀ x, foldedSetIterable iter Y.X.env x = pure x := by intro _; rfl) : PD Y (.ListComp elt [⟨tg, iter, ifs, 0⟩] scope pos) (tLc wi gg eA ee (own.map (·.2))) (dLc ti g tA te (own.map (·.2))) :=
  ⟨pe_lc hc hN hi.p ok (fun s H C cl fp => (b.g s H C cl fp).p) (fun s H C cl fp => (b.t s H C cl fp).p) (fun s H C cl fp => (b.e s H C cl fp).p) hs, lc_sim hi.s b⟩
theorem pds_setLc (i : Nat) {y : Str} {py : Pos} (hc : Y.X.calm = true) (hN : Y.X.N.Nodup) (hi : PDI Y tg iter wi ti) (ok : BlkOk Y.X.N Y.X.env.scope scope own) (b : Blk Y tg elt ifs scope gg g eA tA ee te (own.map (·.2)))
    (hsw : swapsWith (.ListComp elt [⟨tg, iter, ifs, 0⟩] scope pos) (some (.Name y py)) spos.line Y.X.env = pure true) (hy : Y.X.N[i]? = some y := by rfl) (hyl : Y.X.env.scope.names.lookup y = some .local := by rfl)
    (hs : ∀ x, foldedSetIterable iter Y.X.env x = pure x := by intro _; rfl) : PDS Y (.Assign [.Name y py] (.ListComp elt [⟨tg, iter, ifs, 0⟩] scope pos) spos) (tAsg (tLc wi gg eA ee (own.map (·.2))) (gName i)) (sSet i (dLc ti g tA te (own.map (·.2)))) :=
  ⟨ps_setLc hc hN hy hyl hsw hi.p ok (fun s H C cl fp => (b.g s H C cl fp).p) (fun s H C cl fp => (b.t s H C cl fp).p) (fun s H C cl fp => (b.e s H C cl fp).p) hs, fun P G H c ρ σ DD EE K R q =>
    lc_sim hi.s b G H c ρ σ _ _ R.r q fun d v G' H' c' ev r q => K.nx G' H' c' _ _ ⟨(R.r.evo' ev).set_fz r i, R.le.trans ev.le⟩ q⟩
end
end PL

namespace PL
open PySem PySem.Spec PyProof.Rows L2

/-! ### defs -/
/-- an exception by its class, its fields -/
abbrev EDt := Addr → List Str → List D → Nat → Prop
/-- what a def promises of data: arguments, counter, the wanted end, the wanted exception -/
abbrev SpD := List D → Nat → QD → EDt → Prop
def RpE (K : PySem.W.Frag) (G : GS) (dx : Option Addr) (ns : List Str) (ds : List D) : Prop :=
  (ns = [] ∧ ds = [] ∧ dx = none) ∨ ∃ d fs, dx = some d ∧ G.f d = some (.xd fs) ∧ fs.map (·.1) = ns ∧ RpAll K G (fs.map (·.2)) ds
def spOf (K : PySem.W.Frag) (sp : SpD) : Sp := fun vs H Q E => ∃ G c ds Qd ED, G.Ok H c ∧ RpAll K G vs ds ∧ sp ds c Qd ED ∧
  (∀ d v G' H' c', Evo G H c G' H' c' → Rp K G' v d → Qd d c' → Q v H') ∧
  ∀ C ns es dx G' H' c', Evo G H c G' H' c' → RpE K G' dx ns es → ED C ns es c' → E (.ref C) dx H'
/-- what a body's context gives -/
structure Ctx.Good (Y : Ctx) (k : Nat) : Prop where
  pass : Passes (L2.CX Y.X.prog Y.X.w) Y.X Y.E
  err : ∀ C ns es dx G' H' c', Evo Y.G0 Y.H0 Y.c0 G' H' c' → RpE Y.X.K G' dx ns es → Y.ED C ns es c' → Y.E (.ref C) dx H'
  room : Room k Y.X.A
  calm : Y.X.calm = true
theorem Ctx.Good.blk {Y : Ctx} {k : Nat} (g : Y.Good k) (s : Shared) (H : Hp) (scope : Scope) (cenv : Env) (fp : List Addr) : (Y.blk s H scope cenv fp).Good k :=
  ⟨passL, fun _ _ _ _ _ _ _ _ _ z => z.elim, g.room, g.calm⟩
theorem Ctx.Good.mono {Y : Ctx} {j k : Nat} (g : Y.Good k) (h : j ≤ k) : Y.Good j := ⟨g.pass, g.err, g.room.mono h, g.calm⟩
def startD (N : List Str) (ds : List D) : DEnv := ds.map .fz ++ List.replicate (N.length - ds.length) .no
theorem rel_start {Y : Ctx} {N : List Str} {vs : List V} {ds : List D} (ok : Y.G0.Ok Y.H0 Y.c0) (r : RpAll Y.X.K Y.G0 vs ds) : Rel Y Y.G0 Y.H0 Y.c0 (startD N ds) (L2.start N vs) := by
  have hl := r.length
  have key : ∀ {i : Nat} {s : Sl}, (startD N ds)[i]? = some s → s = .no ∨ ∃ d, s = .fz d ∧ ds[i]? = some d := fun {i s} e => by
    unfold startD at e
    by_cases hi : i < ds.length
    · rw [List.getElem?_append_left (by simpa using hi), List.getElem?_map] at e
      obtain ⟨d, hd⟩ : ∃ d, ds[i]? = some d := ⟨ds[i], by simp [hi]⟩
      rw [hd] at e
      exact .inr ⟨d, (Option.some.inj e).symm, hd⟩
    · rw [List.getElem?_append_right (by simpa using hi), List.getElem?_replicate] at e
      split at e
      · exact .inl (Option.some.inj e).symm
      · cases e
  have len : (startD N ds).length = (L2.start N vs).length := by simp [startD, L2.start, hl]
  refine ⟨ok, Evo.refl ok, len, fun i s e => ?_, fun i j s t ne e1 e2 h1 h2 => ?_⟩
  · have hi : i < (L2.start N vs).length := by rw [← len]; exact (List.getElem?_eq_some_iff.mp e).1
    rcases key e with rfl | ⟨d, rfl, hd⟩
    · exact ⟨_, List.getElem?_eq_getElem hi, trivial⟩
    · obtain ⟨v, hv, rv⟩ := r.get hd
      refine ⟨some v, ?_, v, rfl, rv⟩
      have : i < vs.length := (List.getElem?_eq_some_iff.mp hv).1
      unfold L2.start
      rw [List.getElem?_append_left (by simpa using this), List.getElem?_map, hv]
      rfl
  · rcases key e1 with rfl | ⟨d, rfl, _⟩
    · cases h1
    · cases h1
section
variable {P : Program} {w : World} {K : PySem.W.Frag} {mg : Str → Option Value} {base : Heap} {x qual : Str} {params : Arguments} {body : List Stmt} {scope : Scope} {dvs : List V} {kws : List (Str × V)} {f : Addr} {fd : FuncData}
/-- a def of the text keeps its promise of data, by its body -/
theorem okD {N ps : List Str} {k : Nat} {sp : SpD} (F : FunD K x qual params body scope dvs kws f fd) (S : FnScope N ps scope) (len : ∀ ds c Q E, sp ds c Q E → ds.length = ps.length)
    (hbody : ∀ (cdv : Value) (A : Around) (outer : List Env) (s : Shared) (H : Hp) (E : XK) (G0 : GS) (c0 : Nat) (ED : EDt), Ctx.Good ⟨cxOf (L2.CX P w) P w K mg base N qual scope f cdv A outer s H E, G0, H, c0, E, ED⟩ k →
      ∃ ts t, PDSs ⟨cxOf (L2.CX P w) P w K mg base N qual scope f cdv A outer s H E, G0, H, c0, E, ED⟩ body ts t ∧ ∀ ds Qd, sp ds c0 Qd ED → t { nx := fun _ c => Qd .non c, rt := Qd } (startD N ds) c0) :
    FnOk P w K mg base (L2.CX P w) (k + 1) f fd ps (spOf K sp) := by
  refine F.ok S (fun vs H Q E h => ?_) fun cdv A outer s H vs Q E hr h => ?_
  · obtain ⟨G, c, ds, Qd, ED, _, r, h, _⟩ := h
    rw [r.length]; exact len _ _ _ _ h
  · obtain ⟨G, c, ds, Qd, ED, ok, r, h, hQ, hE⟩ := h
    obtain ⟨ts, t, hb, ht⟩ := hbody cdv A outer s H E G c ED ⟨passes_call (takes_of rfl rfl rfl rfl) (fun _ _ _ _ z => z), hE, hr, rfl⟩
    refine ⟨ts, hb.p, hb.s G G H c (startD N ds) _ { nx := fun _ c => Qd .non c, rt := Qd } _ ?_ ⟨rel_start (Y := ⟨cxOf (L2.CX P w) P w K mg base N qual scope f cdv A outer s H E, G, H, c, E, ED⟩) ok r, GS.Le.refl _⟩ (ht ds Qd h)⟩
    exact ⟨fun G' H' c' ρ σ R q => hQ _ _ G' H' c' R.r.evo .non q, fun G' H' c' d v e r q => hQ d v G' H' c' e r q, fun _ _ _ _ _ _ z => z.elim, fun _ _ _ _ _ _ z => z.elim⟩
end
/-- a weaker promise of data -/
theorem spOf.imp {K : PySem.W.Frag} {sp sp' : SpD} (h : ∀ ds c Q E, sp' ds c Q E → sp ds c Q E) : ∀ vs H Q E, spOf K sp' vs H Q E → spOf K sp vs H Q E :=
  fun _ _ _ _ ⟨G, c, ds, Qd, ED, ok, r, q, a, b⟩ => ⟨G, c, ds, Qd, ED, ok, r, h _ _ _ _ q, a, b⟩

/-! ### calls -/
section
variable {Y : Ctx} {k : Nat} {f : Addr} {fd : FuncData} {ps : List Str} {sp : SpD} {dvs : List V} {dds : List D} {ds : List Value} {x : Str} {p pos : Pos} {e : Expr} {es : List Expr} {fa : TA} {t : DA}
def dCall (ED : EDt) (sp : SpD) (dds : List D) (t : DA) (ρ : DEnv) (c : Nat) (Q : QD) : Prop := t ρ c fun ds c1 => sp (ds ++ dds) c1 Q ED
theorem call_sim (g : Y.Good k) (hd : ∀ G, RpAll Y.X.K G dvs dds) (ha : SimA Y fa t) : SimE Y (tCall (spOf Y.X.K sp) dvs Y.E fa) (dCall Y.ED sp dds t) := fun G H c ρ σ Qd Q R q kk =>
  ha G H c ρ σ _ _ R q fun ds vs G1 H1 c1 ev r q => ⟨G1, c1, ds ++ dds, Qd, Y.ED, ev.ok, r.append (hd _), q, fun d v G' H' c' e' r' q' => kk d v G' H' c' (ev.trans e') r' q',
    fun C ns es dx G' H' c' e' r' q' => g.err C ns es dx G' H' c' (R.evo.trans (ev.trans e')) r' q'⟩
/-- f(e, ..): dvs (data dds) are the defaults that fill up -/
theorem pd_call (g : Y.Good k) (F : FnOk Y.X.prog Y.X.w Y.X.K Y.X.mg Y.X.base (L2.CX Y.X.prog Y.X.w) k f fd ps (spOf Y.X.K sp)) (hm : Y.X.mg x = some (.ref f)) (hk : PySem.W.keepIn Y.X.K (.ref f) = true) (hb : Binds Y.X.K fd ps ds) (hd : Vals dvs ds) (hdd : ∀ G, RpAll Y.X.K G dvs dds)
    (ha : PDA Y (e :: es) fa t) (hg : Gl Y.X x := by rfl) (hdb : (x == ("__debug__" : Str)) = false := by decide) (he : starEach (e :: es) Y.X.env = (false, eval e Y.X.env) :: starEach es Y.X.env := by rfl) (hpl : (backTo pos (starEach es Y.X.env)).any (·.1) = false := by rfl) :
    PD Y (.Call (.Name x p) (e :: es) [] pos) (tCall (spOf Y.X.K sp) dvs Y.E fa) (dCall Y.ED sp dds t) :=
  ⟨pe_call F g.room hg hm hk hb hd g.pass ha.p hdb he hpl, call_sim g hdd ha.s⟩
theorem pd_call0 (g : Y.Good k) (F : FnOk Y.X.prog Y.X.w Y.X.K Y.X.mg Y.X.base (L2.CX Y.X.prog Y.X.w) k f fd ps (spOf Y.X.K sp)) (hm : Y.X.mg x = some (.ref f)) (hk : PySem.W.keepIn Y.X.K (.ref f) = true) (hb : Binds Y.X.K fd ps ds) (hd : Vals dvs ds) (hdd : ∀ G, RpAll Y.X.K G dvs dds)
    (hg : Gl Y.X x := by rfl) (hdb : (x == ("__debug__" : Str)) = false := by decide) : PD Y (.Call (.Name x p) [] [] pos) (tCall (spOf Y.X.K sp) dvs Y.E tNil) (dCall Y.ED sp dds dNil) :=
  ⟨pe_call0 F g.room hg hm hk hb hd g.pass hdb, call_sim g hdd pda_nil.s⟩
end
end PL

namespace PL
open PySem PySem.Spec PyProof.Rows L2

/-! ### numbers -/
def rdI (C : Int → Int → Prop) (g : Int → Int → D) (x : D) (y : D) (c : Nat) (Q : QD) : Prop := ∃ i j, x = .int i ∧ y = .int j ∧ C i j ∧ Q (g i j) c
def rdI0 (g : Int → Int → D) (x : D) (y : D) (c : Nat) (Q : QD) : Prop := ∃ i j, x = .int i ∧ y = .int j ∧ Q (g i j) c
section
variable {K : PySem.W.Frag}
theorem br_I {C : Int → Int → Prop} {g : Int → Int → V} {gd : Int → Int → D} (h : ∀ G i j, Rp K G (g i j) (gd i j)) : Br2 K (rI C g) (rdI C gd) := fun G H c x y d e Qd Q ok rx ry q k => by
  obtain ⟨i, j, rfl, rfl, hc, q⟩ := q
  cases rx; cases ry
  exact ⟨i, j, rfl, rfl, hc, k _ _ G H c (Evo.refl ok) (h G i j) q⟩
theorem br_I0 {g : Int → Int → V} {gd : Int → Int → D} (h : ∀ G i j, Rp K G (g i j) (gd i j)) : Br2 K (rI0 g) (rdI0 gd) := fun G H c x y d e Qd Q ok rx ry q k => by
  obtain ⟨i, j, rfl, rfl, q⟩ := q
  cases rx; cases ry
  exact ⟨i, j, rfl, rfl, k _ _ G H c (Evo.refl ok) (h G i j) q⟩
theorem br_U {g : Int → V} {gd : Int → D} (h : ∀ G i, Rp K G (g i) (gd i)) : Br1 K (rU g) (fun x c Q => ∃ i, x = .int i ∧ Q (gd i) c) := fun G H c x d Qd Q ok rx q k => by
  obtain ⟨i, rfl, q⟩ := q
  cases rx
  exact ⟨i, rfl, k _ _ G H c (Evo.refl ok) (h G i) q⟩
end
abbrev aAdd : RD2 := rdI0 fun i j => .int (i + j)
abbrev aSub : RD2 := rdI0 fun i j => .int (i - j)
abbrev aMul : RD2 := rdI CMul fun i j => .int (i * j)
abbrev aDiv : RD2 := rdI CDiv fun i j => .int (i / j)
abbrev aMod : RD2 := rdI (fun _ j => 0 < j) fun i j => .int (i % j)
def CPowB (i j : Int) : Prop := 0 ≤ j ∧ (Builtin.Int.intBits i : Int) * j ≤ 2 ^ 27
abbrev aPow : RD2 := rdI CPowB fun i j => .int (i ^ j.toNat)
abbrev aLt : RD2 := rdI0 fun i j => .bl (decide (i < j))
abbrev aLe : RD2 := rdI0 fun i j => .bl (decide (i ≤ j))
abbrev aGt : RD2 := rdI0 fun i j => .bl (decide (j < i))
abbrev aGe : RD2 := rdI0 fun i j => .bl (decide (j ≤ i))
theorem op_powB {X : Cx} : OpR X (binaryOp .Pow) (rI CPowB fun i j => .int (i ^ j.toNat)) := opI fun _ _ _ _ _ _ _ hc q => pow_int hc.1 hc.2 q
section
variable {Y : Ctx} {a b : Expr} {ea eb : TE} {ta tb : DE} {pos : Pos}
theorem pd_add (ha : PD Y a ea ta) (hb : PD Y b eb tb) : PD Y (.BinOp a .Add b pos) (tOp (rI0 fun i j => .int (i + j)) ea eb) (dOp aAdd ta tb) := pd_op op_add (br_I0 fun _ _ _ => .int _) ha hb
theorem pd_sub (ha : PD Y a ea ta) (hb : PD Y b eb tb) : PD Y (.BinOp a .Sub b pos) (tOp (rI0 fun i j => .int (i - j)) ea eb) (dOp aSub ta tb) := pd_op op_sub (br_I0 fun _ _ _ => .int _) ha hb
theorem pd_mul (ha : PD Y a ea ta) (hb : PD Y b eb tb) : PD Y (.BinOp a .Mult b pos) (tOp (rI CMul fun i j => .int (i * j)) ea eb) (dOp aMul ta tb) := pd_op op_mul (br_I fun _ _ _ => .int _) ha hb
theorem pd_fdiv (ha : PD Y a ea ta) (hb : PD Y b eb tb) : PD Y (.BinOp a .FloorDiv b pos) (tOp (rI CDiv fun i j => .int (i / j)) ea eb) (dOp aDiv ta tb) := pd_op op_fdiv (br_I fun _ _ _ => .int _) ha hb
theorem pd_mod (ha : PD Y a ea ta) (hb : PD Y b eb tb) : PD Y (.BinOp a .Mod b pos) (tOp (rI (fun _ j => 0 < j) fun i j => .int (i % j)) ea eb) (dOp aMod ta tb) := pd_op op_mod (br_I fun _ _ _ => .int _) ha hb
theorem pd_pow (ha : PD Y a ea ta) (hb : PD Y b eb tb) : PD Y (.BinOp a .Pow b pos) (tOp (rI CPowB fun i j => .int (i ^ j.toNat)) ea eb) (dOp aPow ta tb) := pd_op op_powB (br_I fun _ _ _ => .int _) ha hb
theorem pd_neg (ha : PD Y a ea ta) : PD Y (.UnaryOp .USub a pos) (tUn (rU fun i => .int (-i)) ea) (dUn (fun x c Q => ∃ i, x = .int i ∧ Q (.int (-i)) c) ta) := pd_un un_neg (br_U fun _ _ => .int _) ha
end
/-- x is None -/
def aIsN (x : D) (y : D) (c : Nat) (Q : QD) : Prop := y = .non ∧ Q (.bl (match x with | .non => true | _ => false)) c
def aNotN (x : D) (y : D) (c : Nat) (Q : QD) : Prop := y = .non ∧ Q (.bl (match x with | .non => false | _ => true)) c
section
variable {Y : Ctx} {a b : Expr} {ea eb : TE} {ta tb : DE} {pos : Pos}
theorem br_isN {K : PySem.W.Frag} : Br2 K (fun x y H Q => y = .non ∧ Q (.bl (decide (x = .non))) H) aIsN := fun G H c x y d e Qd Q ok rx ry q k => by
  obtain ⟨rfl, q⟩ := q
  cases ry
  refine ⟨rfl, k _ _ G H c (Evo.refl ok) ?_ q⟩
  cases rx <;> exact .bl _
theorem br_notN {K : PySem.W.Frag} : Br2 K (fun x y H Q => y = .non ∧ Q (.bl (!decide (x = .non))) H) aNotN := fun G H c x y d e Qd Q ok rx ry q k => by
  obtain ⟨rfl, q⟩ := q
  cases ry
  refine ⟨rfl, k _ _ G H c (Evo.refl ok) ?_ q⟩
  cases rx <;> exact .bl _
end

/-! ### texts -/
/-- a ≤ b, by code points -/
def aLeS (x : D) (y : D) (c : Nat) (Q : QD) : Prop := ∃ i j : Str, x = .str i ∧ y = .str j ∧ Q (.bl (!decide (j.cps.toList < i.cps.toList))) c
/-- what is drawn from a list at a place -/
def aIx (x : D) (y : D) (c : Nat) (Q : QD) : Prop := ∃ i, y = .int i ∧
  ((∃ l d, x = .lst l ∧ atI l i = some d ∧ Q d c) ∨ (∃ l d, x = .tup l ∧ atI l i = some d ∧ Q d c) ∨ ∃ z k, x = .str z ∧ z.length ≤ sizeLine ∧ atI z.cps.toList i = some k ∧ Q (.str ⟨#[k]⟩) c)
section
variable {K : PySem.W.Frag}
theorem RpAll.atI {G : GS} {xs : List V} {ds : List D} {i : Int} {d : D} (r : RpAll K G xs ds) (h : L2.atI ds i = some d) : ∃ v, L2.atI xs i = some v ∧ Rp K G v d := by
  unfold L2.atI at h ⊢
  rw [r.length]
  cases e : ixN ds.length i with
  | none => rw [e] at h; cases h
  | some j =>
    rw [e] at h
    obtain ⟨v, h1, h2⟩ := r.get (i := j) h
    exact ⟨v, h1, h2⟩
theorem br_ix : Br2 K (rIx K) aIx := fun G H c x y d e Qd Q ok rx ry q k => by
  obtain ⟨i, rfl, q⟩ := q
  cases ry
  rcases q with ⟨l, d', rfl, h, q⟩ | ⟨l, d', rfl, h, q⟩ | ⟨z, m, rfl, hz, h, q⟩
  · cases rx with
    | lst h1 h2 =>
      obtain ⟨v, hv, rv⟩ := h2.atI h
      exact .inl ⟨_, _, i, v, rfl, rfl, SqL.same ok.same h1, hv, k _ _ G H c (Evo.refl ok) rv q⟩
  · cases rx with
    | tup h1 h2 =>
      obtain ⟨v, hv, rv⟩ := h2.atI h
      exact .inr (.inl ⟨_, _, i, v, rfl, rfl, SqT.same ok.same h1, hv, k _ _ G H c (Evo.refl ok) rv q⟩)
  · cases rx
    exact .inr (.inr ⟨z, i, m, rfl, rfl, hz, h, k _ _ G H c (Evo.refl ok) (.str _) q⟩)
theorem br_leS : Br2 K (fun x y H Q => ∃ i j, x = .str i ∧ y = .str j ∧ Q (.bl (!decide (j.cps.toList < i.cps.toList))) H) aLeS := fun G H c x y d e Qd Q ok rx ry q k => by
  obtain ⟨i, j, rfl, rfl, q⟩ := q
  cases rx; cases ry
  exact ⟨i, j, rfl, rfl, k _ _ G H c (Evo.refl ok) (.bl _) q⟩
end
section
variable {Y : Ctx} {a b : Expr} {ea eb : TE} {ta tb : DE} {pos : Pos}
theorem pd_item (ha : PD Y a ea ta) (hb : PD Y b eb tb) (hs : PlainIx b := by exact fun _ _ => rfl) : PD Y (.Subscript a b pos) (tOp (rIx Y.X.K) ea eb) (dOp aIx ta tb) := pd_ix ix_seq br_ix ha hb hs
end

/-! ### tuples: +, slices -/
def aCat (x : D) (y : D) (c : Nat) (Q : QD) : Prop := ∃ l m, x = .tup l ∧ y = .tup m ∧ l.length + m.length ≤ sizeLine ∧ Q (.tup (l ++ m)) c
theorem br_cat {K : PySem.W.Frag} : Br2 K (rCatA K) aCat := fun G H c x y d e Qd Q ok rx ry q k => by
  obtain ⟨l, m, rfl, rfl, hz, q⟩ := q
  cases rx with
  | @tup a xs _ h1 h2 =>
    cases ry with
    | @tup b ys _ g1 g2 =>
      refine ⟨a, b, xs, ys, rfl, rfl, SqT.same ok.same h1, SqT.same ok.same g1, by rw [h2.length, g2.length]; exact hz, fun e => ?_, fun _ e => ?_, fun _ _ p np => ?_⟩
      · subst e; cases h2
        exact k _ _ G H c (Evo.refl ok) (.tup g1 g2) q
      · subst e; cases g2
        exact k _ _ G H c (Evo.refl ok) (.tup h1 (by rw [List.append_nil]; exact h2)) q
      · exact k _ _ _ _ c (Evo.laid ok _ np) (Rp.newTup ok np (h2.append g2)) q
/-- the part of a list from lo (or 0) to hi (or the end) -/
def cut {α : Type} (xs : List α) (lo hi : Option Int) : List α := (xs.drop (HT.sIx xs.length 0 lo)).take (HT.sIx xs.length xs.length hi - HT.sIx xs.length 0 lo)
abbrev DO := DEnv → Nat → (Option Int → Nat → Prop) → Prop
structure PDO (Y : Ctx) (e : Option Expr) (te : TO) (t : DO) : Prop where
  p : PO Y.X e te
  s : ∀ G H c ρ σ (Qd : Option Int → Nat → Prop) (Q : Option Int → Hp → Prop), Rel Y G H c ρ σ → t ρ c Qd → (∀ o G' H' c', Evo G H c G' H' c' → Qd o c' → Q o H') → te σ H Q
def dNoPart (_ : DEnv) (c : Nat) (Q : Option Int → Nat → Prop) : Prop := Q none c
def dPart (t : DE) (ρ : DEnv) (c : Nat) (Q : Option Int → Nat → Prop) : Prop := t ρ c fun d c1 => ∃ i, d = .int i ∧ Q (some i) c1
section
variable {Y : Ctx} {e : Expr} {lo hi : Option Expr} {ee : TE} {te : DE} {el eh : TO} {tl th : DO} {pos p2 : Pos}
theorem pdo_none : PDO Y none tNoPart dNoPart := ⟨po_none, fun G H c ρ σ Qd Q R q k => k _ G H c (Evo.refl R.ok) q⟩
theorem pdo_some (h : PD Y e ee te) : PDO Y (some e) (tPart ee) (dPart te) := ⟨po_some h.p, fun G H c ρ σ Qd Q R q k => h.s G H c ρ σ _ _ R q fun d v G1 H1 c1 ev r q => by
  obtain ⟨i, rfl, q⟩ := q
  cases r
  exact ⟨i, rfl, k _ G1 H1 c1 ev q⟩⟩
abbrev RDs := D → Option Int → Option Int → Nat → QD → Prop
def dSl (rd : RDs) (te : DE) (tl th : DO) (ρ : DEnv) (c : Nat) (Q : QD) : Prop := te ρ c fun x c1 => tl ρ c1 fun l c2 => th ρ c2 fun u c3 => rd x l u c3 Q
def BrS (K : PySem.W.Frag) (r : V → Option Int → Option Int → Hp → VK → Prop) (rd : RDs) : Prop := ∀ G H c x d l u (Qd : QD) (Q : VK), G.Ok H c → Rp K G x d → rd d l u c Qd →
  (∀ d' v G' H' c', Evo G H c G' H' c' → Rp K G' v d' → Qd d' c' → Q v H') → r x l u H Q
theorem pd_slice {r : V → Option Int → Option Int → Hp → VK → Prop} {rd : RDs} (hr : SlR Y.X r) (br : BrS Y.X.K r rd) (he : PD Y e ee te) (hl : PDO Y lo el tl) (hu : PDO Y hi eh th) : PD Y (.Subscript e (.Slice lo hi none p2) pos) (tSl r ee el eh) (dSl rd te tl th) :=
  ⟨pe_slice hr he.p hl.p hu.p, fun G H c ρ σ Qd Q R q k => he.s G H c ρ σ _ _ R q fun d v G1 H1 c1 e1 r1 q1 => hl.s G1 H1 c1 ρ σ _ _ (R.evo' e1) q1 fun l G2 H2 c2 e2 q2 =>
    hu.s G2 H2 c2 ρ σ _ _ (R.evo' (e1.trans e2)) q2 fun u G3 H3 c3 e3 q3 => br G3 H3 c3 v d l u Qd Q e3.ok (r1.mono (e2.le.trans e3.le)) q3 fun d' v' G4 H4 c4 e4 r4 q4 => k d' v' G4 H4 c4 ((e1.trans e2).trans (e3.trans e4)) r4 q4⟩
end
/-- a slice of a tuple, a list, a text -/
def aCut (x : D) (lo : Option Int) (hi : Option Int) (c : Nat) (Q : QD) : Prop := (∃ l, x = .tup l ∧ Q (.tup (cut l lo hi)) c) ∨ ∃ l, x = .lst l ∧ Q (.lst (cut l lo hi)) c
def rCut (K : PySem.W.Frag) : V → Option Int → Option Int → Hp → VK → Prop := fun x lo hi H Q => rSlA K x lo hi H Q ∨ rSlL K x lo hi H Q
theorem sl_cut {X : Cx} : SlR X (rCut X.K) := sl_tupA.or sl_list
theorem br_cut {K : PySem.W.Frag} : BrS K (rCut K) aCut := fun G H c x d lo hi Qd Q ok rx q k => by
  rcases q with ⟨l, rfl, q⟩ | ⟨l, rfl, q⟩
  · cases rx with
    | @tup a xs _ h1 h2 =>
      refine .inl ⟨a, xs, rfl, SqT.same ok.same h1, fun e => ?_, fun _ p np => ?_⟩
      · have e2 : cut l lo hi = l := by
          unfold cut
          rw [h2.length] at e
          rw [e.1, e.2, List.drop_zero, Nat.sub_zero, List.take_length]
        exact k _ _ G H c (Evo.refl ok) (by rw [e2]; exact .tup h1 h2) q
      · have r : RpAll K G (cutV xs lo hi) (cut l lo hi) := by
          unfold cutV cut
          rw [h2.length]
          exact (h2.drop _).take _
        exact k _ _ _ _ c (Evo.laid ok _ np) (Rp.newTup ok np r) q
  · cases rx with
    | @lst a xs _ h1 h2 =>
      refine .inr ⟨a, xs, rfl, SqL.same ok.same h1, fun p np => ?_⟩
      have r : RpAll K G (cutV xs lo hi) (cut l lo hi) := by
        unfold cutV cut
        rw [h2.length]
        exact (h2.drop _).take _
      exact k _ _ _ _ c (Evo.laid ok _ np) (Rp.newLst ok np r) q

/-! ### built-ins -/
def bLen (ds : List D) (c : Nat) (Q : QD) : Prop := ∃ d, ds = [d] ∧ ((∃ l, (d = .lst l ∨ d = .tup l) ∧ Q (.int l.length) c) ∨ ∃ z : Str, d = .str z ∧ z.length ≤ sizeLine ∧ Q (.int z.length) c)
def rLen (K : PySem.W.Frag) : List V → Hp → VK → Prop := fun xs H Q => (∃ p ys, xs = [.ref p] ∧ (SqL K H p ys ∨ SqT K H p ys) ∧ Q (.int ys.length) H) ∨ ∃ z, xs = [.str z] ∧ z.length ≤ sizeLine ∧ Q (.int z.length) H
theorem cr_len {X : Cx} : CallR X (.builtin "len") (rLen X.K) := call_len_seq.or call_len_str
theorem br_len {K : PySem.W.Frag} : BrN K (rLen K) bLen := fun G H c xs ds Qd Q ok r q k => by
  obtain ⟨d, rfl, q⟩ := q
  cases r with
  | cons r rr =>
    cases rr
    rcases q with ⟨l, rfl | rfl, q⟩ | ⟨z, rfl, hz, q⟩
    · cases r with
      | @lst a xs _ h1 h2 => exact .inl ⟨a, xs, rfl, .inl (SqL.same ok.same h1), k _ _ G H c (Evo.refl ok) (.int _) (by rw [h2.length]; exact q)⟩
    · cases r with
      | @tup a xs _ h1 h2 => exact .inl ⟨a, xs, rfl, .inr (SqT.same ok.same h1), k _ _ G H c (Evo.refl ok) (.int _) (by rw [h2.length]; exact q)⟩
    · cases r
      exact .inr ⟨z, rfl, hz, k _ _ G H c (Evo.refl ok) (.int _) q⟩
/-- int(x) of an int, of a bool -/
def b2n : Bool → Int
  | true => 1
  | false => 0
def bInt (ds : List D) (c : Nat) (Q : QD) : Prop := (∃ i, ds = [.int i] ∧ Q (.int i) c) ∨ ∃ b, ds = [.bl b] ∧ Q (.int (b2n b)) c
theorem br_int {K : PySem.W.Frag} : BrN K (fun xs H Q => (∃ i, xs = [.int i] ∧ Q (.int i) H) ∨ ∃ k, xs = [.bl k] ∧ Q (.int (if k then 1 else 0)) H) bInt := fun G H c xs ds Qd Q ok r q k => by
  rcases q with ⟨i, rfl, q⟩ | ⟨b, rfl, q⟩
  · cases r with
    | cons r rr => cases rr; cases r; exact .inl ⟨i, rfl, k _ _ G H c (Evo.refl ok) (.int _) q⟩
  · cases r with
    | cons r rr =>
      cases rr; cases r
      refine .inr ⟨b, rfl, k _ _ G H c (Evo.refl ok) ?_ q⟩
      cases b <;> exact .int _
def b2I (f : Int → Int → Int) (ds : List D) (c : Nat) (Q : QD) : Prop := ∃ i j, ds = [.int i, .int j] ∧ Q (.int (f i j)) c
theorem br_2I {K : PySem.W.Frag} {f : Int → Int → Int} : BrN K (fun xs H Q => ∃ i j, xs = [.int i, .int j] ∧ Q (.int (f i j)) H) (b2I f) := fun G H c xs ds Qd Q ok r q k => by
  obtain ⟨i, j, rfl, q⟩ := q
  cases r with
  | cons r rr =>
    cases rr with
    | cons r' rr => cases rr; cases r; cases r'; exact ⟨i, j, rfl, k _ _ G H c (Evo.refl ok) (.int _) q⟩
abbrev bMax2 : RDn := b2I fun i j => if j > i then j else i
abbrev bMin2 : RDn := b2I fun i j => if j < i then j else i
/-- the truth values of a list that holds nothing else -/
def bools : List D → Option (List Bool)
  | [] => some []
  | .bl b :: l => (bools l).map (b :: ·)
  | _ => none
theorem bools_rp {K : PySem.W.Frag} {G : GS} : ∀ {ds : List D} {bs : List Bool} {xs : List V}, bools ds = some bs → RpAll K G xs ds → xs = bs.map V.bl
  | [], bs, xs, e, r => by cases e; cases r; rfl
  | d :: ds, bs, xs, e, r => by
    cases r with
    | cons r rr =>
      cases d with
      | bl b =>
        cases e2 : bools ds with
        | none => simp [bools, e2] at e
        | some cs =>
          simp [bools, e2] at e
          subst e
          cases r
          rw [bools_rp e2 rr]
          rfl
      | _ => cases e
def bAll (ds : List D) (c : Nat) (Q : QD) : Prop := ∃ l bs, ds = [.lst l] ∧ bools l = some bs ∧ Q (.bl (bs.all id)) c
def bAny (ds : List D) (c : Nat) (Q : QD) : Prop := ∃ l bs, ds = [.lst l] ∧ bools l = some bs ∧ Q (.bl (bs.any id)) c
theorem br_all {K : PySem.W.Frag} : BrN K (rAll K) bAll := fun G H c xs ds Qd Q ok r q k => by
  obtain ⟨l, bs, rfl, e, q⟩ := q
  cases r with
  | cons r rr =>
    cases rr
    cases r with
    | @lst a ys _ h1 h2 =>
      have := bools_rp e h2
      subst this
      exact ⟨a, bs, rfl, SqL.same ok.same h1, k _ _ G H c (Evo.refl ok) (.bl _) q⟩
theorem br_any {K : PySem.W.Frag} : BrN K (rAny K) bAny := fun G H c xs ds Qd Q ok r q k => by
  obtain ⟨l, bs, rfl, e, q⟩ := q
  cases r with
  | cons r rr =>
    cases rr
    cases r with
    | @lst a ys _ h1 h2 =>
      have := bools_rp e h2
      subst this
      exact ⟨a, bs, rfl, SqL.same ok.same h1, k _ _ G H c (Evo.refl ok) (.bl _) q⟩
/-- list(x) of a list or a tuple -/
def bList (ds : List D) (c : Nat) (Q : QD) : Prop := ∃ l, (ds = [.lst l] ∨ ds = [.tup l]) ∧ Q (.lst l) c
theorem br_list {K : PySem.W.Frag} : BrN K (fun xs H Q => ∃ p ys, xs = [.ref p] ∧ (SqL K H p ys ∨ SqT K H p ys) ∧ ∀ l, H l = none → Q (.ref l) (upd H l (.lst ys))) bList := fun G H c xs ds Qd Q ok r q k => by
  obtain ⟨l, rfl | rfl, q⟩ := q
  · cases r with
    | cons r rr =>
      cases rr
      cases r with
      | @lst a xs _ h1 h2 => exact ⟨a, xs, rfl, .inl (SqL.same ok.same h1), fun p np => k _ _ _ _ c (Evo.laid ok _ np) (Rp.newLst ok np h2) q⟩
  · cases r with
    | cons r rr =>
      cases rr
      cases r with
      | @tup a xs _ h1 h2 => exact ⟨a, xs, rfl, .inr (SqT.same ok.same h1), fun p np => k _ _ _ _ c (Evo.laid ok _ np) (Rp.newLst ok np h2) q⟩
/-- tuple(x) of a list or a tuple -/
def bTuple (ds : List D) (c : Nat) (Q : QD) : Prop := ∃ l, (ds = [.lst l] ∨ ds = [.tup l]) ∧ Q (.tup l) c
theorem br_tuple {K : PySem.W.Frag} : BrN K (fun xs H Q => ∃ p ys, xs = [.ref p] ∧ ((SqL K H p ys ∧ ∀ l, H l = none → Q (.ref l) (upd H l (.tup ys))) ∨ (SqT K H p ys ∧ Q (.ref p) H))) bTuple := fun G H c xs ds Qd Q ok r q k => by
  obtain ⟨l, rfl | rfl, q⟩ := q
  · cases r with
    | cons r rr =>
      cases rr
      cases r with
      | @lst a xs _ h1 h2 => exact ⟨a, xs, rfl, .inl ⟨SqL.same ok.same h1, fun p np => k _ _ _ _ c (Evo.laid ok _ np) (Rp.newTup ok np h2) q⟩⟩
  · cases r with
    | cons r rr =>
      cases rr
      cases r with
      | @tup a xs _ h1 h2 => exact ⟨a, xs, rfl, .inr ⟨SqT.same ok.same h1, k _ _ G H c (Evo.refl ok) (.tup h1 h2) q⟩⟩
end PL

namespace PL
open PySem PySem.Spec PyProof.Rows L2

/-! ### isinstance, a built-in class -/
def basics : List String := ["int", "str", "bool", "tuple", "list", "dict"]
/-- an own class whose instances are none of the basic kinds -/
structure ICls (K : PySem.W.Frag) (C : Addr) : Prop where
  cl : Cls K C
  ha : PySem.W.findIn K (.ref C) "__class__" = some (some (.builtin "object.__class__"))
  hn : PySem.W.specialIn K (.builtin "object.__class__") "__get__" = some (some (.builtin "getset_descriptor.__get__"))
  ht : PySem.W.takesIn K (.builtin "object.__class__") = some true
  hm : PySem.W.mroIn K C (.type "object") = some true
  no : ∀ T ∈ basics, PySem.W.kitOne K (.ref C) (.type T) = some false
/-- the kind of a value, by name -/
def kind : D → Option String
  | .non => some "NoneType"
  | .bl _ => some "bool"
  | .int _ => some "int"
  | .str _ => some "str"
  | .tup _ => some "tuple"
  | .lst _ => some "list"
  | .dct _ _ => some "dict"
  | _ => none
def isaB (T : String) : D → Bool
  | .bl _ => T == "bool" || T == "int"
  | .int _ => T == "int"
  | .str _ => T == "str"
  | .tup _ => T == "tuple"
  | .lst _ => T == "list"
  | .dct _ _ => T == "dict"
  | _ => false
theorem kind_isa {T : String} (hT : T ∈ basics) : ∀ {d : D} {k : String}, kind d = some k → kitB k T = some (isaB T d) := by
  have h : ∀ k ∈ ["NoneType", "bool", "int", "str", "tuple", "list", "dict"], ∀ T ∈ basics, kitB k T = some (if k == "bool" then (T == "bool" || T == "int") else k == T) := by decide +kernel
  have key : ∀ a b : String, (a == b) = (b == a) := fun a b => by
    by_cases e : a = b
    · subst e; rfl
    · rw [beq_eq_false_iff_ne.mpr e, beq_eq_false_iff_ne.mpr (Ne.symm e)]
  intro d k e
  cases d with
  | non => cases e; rw [h _ (by simp) T hT]; show some ("NoneType" == T) = some false; rcases List.mem_cons.mp hT with rfl | hT; rfl; rcases List.mem_cons.mp hT with rfl | hT; rfl; rcases List.mem_cons.mp hT with rfl | hT; rfl; rcases List.mem_cons.mp hT with rfl | hT; rfl; rcases List.mem_cons.mp hT with rfl | hT; rfl; rcases List.mem_cons.mp hT with rfl | hT; rfl; cases hT
  | bl b => cases e; rw [h _ (by simp) T hT]; rfl
  | int i => cases e; rw [h _ (by simp) T hT]; show some ("int" == T) = some (T == "int"); rw [key]
  | str i => cases e; rw [h _ (by simp) T hT]; show some ("str" == T) = some (T == "str"); rw [key]
  | tup i => cases e; rw [h _ (by simp) T hT]; show some ("tuple" == T) = some (T == "tuple"); rw [key]
  | lst i => cases e; rw [h _ (by simp) T hT]; show some ("list" == T) = some (T == "list"); rw [key]
  | dct i j => cases e; rw [h _ (by simp) T hT]; show some ("dict" == T) = some (T == "dict"); rw [key]
  | _ => cases e
section
variable {K : PySem.W.Frag} {G : GS} {H : Hp} {c : Nat}
theorem tyX_of (ok : G.Ok H c) {x : V} {d : D} {k : String} (r : Rp K G x d) (e : kind d = some k) : TyX K H x (.type k) := by
  cases r with
  | non => cases e; exact .base .non
  | bl b => cases e; exact .base (.bl b)
  | int b => cases e; exact .base (.int b)
  | str b => cases e; exact .base (.str b)
  | tup h1 h2 =>
    cases e
    rcases h1 with (h | ⟨o, h⟩) | ⟨o, its, n, hk, hc, _⟩
    · exact .base (.tup (ok.same _ _ h))
    · exact .fTuple (ok.same _ _ h)
    · exact .kTuple hk hc
  | lst h1 h2 =>
    cases e
    rcases h1 with (h | ⟨o, h⟩) | ⟨o, its, n, hk, hc, _⟩
    · exact .base (.lst (ok.same _ _ h))
    · exact .base (.frz (ok.same _ _ h))
    · exact .kList hk hc
  | dct h1 h2 h3 =>
    cases e
    rcases h1 with h | ⟨o, h⟩
    · exact .base (.dK (ok.same _ _ h))
    · exact .fDict (ok.same _ _ h)
  | _ => cases e
end
/-- isinstance(x, T), T basic; IC: the own classes whose instances x may be -/
def bIsa (IC : Addr → Prop) (ds : List D) (c : Nat) (Q : QD) : Prop := ∃ x T, ds = [x, .ty T] ∧ T ∈ basics ∧ ((∃ k, kind x = some k) ∨ ∃ C ns es, x = .ins C ns es ∧ IC C) ∧ Q (.bl (isaB T x)) c
theorem br_isa {K : PySem.W.Frag} {IC : Addr → Prop} (hI : ∀ C, IC C → ICls K C) : BrN K (rIsi K) (bIsa IC) := fun G H c xs ds Qd Q ok r q k => by
  obtain ⟨x, T, rfl, hT, hx, q⟩ := q
  cases r with
  | cons r rr =>
    cases rr with
    | cons r' rr =>
      cases rr
      cases r'
      rcases hx with ⟨m, e⟩ | ⟨C, ns, es, rfl, hC⟩
      · exact ⟨_, _, _, .type T, isaB T x, rfl, .ty T, tyX_of ok r e, kit_ty (kind_isa hT e), k _ _ G H c (Evo.refl ok) (.bl _) q⟩
      · have I := hI C hC
        cases r with
        | ins h1 h2 h3 => exact ⟨_, _, _, .type T, false, rfl, .ty T, .base (.ins (ok.same _ _ h1) I.cl I.ha I.hn I.ht I.hm), I.no T hT, k _ _ G H c (Evo.refl ok) (.bl _) q⟩

/-! ### == of plain data -/
mutual
def toP : D → Option PyData
  | .non => some .none
  | .bl b => some (.bool b)
  | .int i => some (.int i)
  | .str x => some (.str x)
  | .tup l => (toPs l).map .tuple
  | .lst l => (toPs l).map .list
  | _ => none
def toPs : List D → Option (List PyData)
  | [] => some []
  | d :: l => (toP d).bind fun p => (toPs l).map (p :: ·)
end
mutual
theorem dp_of {K : PySem.W.Frag} {G : GS} {H : Hp} (s : Same G.f H) : ∀ {d : D} {p : PyData} {x : V}, toP d = some p → Rp K G x d → Dp K H x p
  | .non, p, x, e, r => by unfold toP at e; cases e; cases r; exact .non
  | .bl b, p, x, e, r => by unfold toP at e; cases e; cases r; exact .bl b
  | .int i, p, x, e, r => by unfold toP at e; cases e; cases r; exact .int i
  | .str i, p, x, e, r => by unfold toP at e; cases e; cases r; exact .str i
  | .tup l, p, x, e, r => by
    unfold toP at e
    cases e2 : toPs l with
    | none => rw [e2] at e; cases e
    | some ps =>
      rw [e2] at e
      cases e
      cases r with
      | tup h1 h2 => exact .tup (SqT.same s h1) (dps_of s e2 h2)
  | .lst l, p, x, e, r => by
    unfold toP at e
    cases e2 : toPs l with
    | none => rw [e2] at e; cases e
    | some ps =>
      rw [e2] at e
      cases e
      cases r with
      | lst h1 h2 => exact .lst (SqL.same s h1) (dps_of s e2 h2)
  | .ty _, _, _, e, _ => by unfold toP at e; cases e
  | .cls _, _, _, e, _ => by unfold toP at e; cases e
  | .dct _ _, _, _, e, _ => by unfold toP at e; cases e
  | .ins _ _ _, _, _, e, _ => by unfold toP at e; cases e
  | .opq, _, _, e, _ => by unfold toP at e; cases e
theorem dps_of {K : PySem.W.Frag} {G : GS} {H : Hp} (s : Same G.f H) : ∀ {l : List D} {ps : List PyData} {xs : List V}, toPs l = some ps → RpAll K G xs l → DpAll K H xs ps
  | [], ps, xs, e, r => by unfold toPs at e; cases e; cases r; exact .nil
  | d :: l, ps, xs, e, r => by
    unfold toPs at e
    cases e1 : toP d with
    | none => rw [e1] at e; cases e
    | some p =>
      rw [e1] at e
      cases e2 : toPs l with
      | none => rw [e2] at e; cases e
      | some qs =>
        rw [e2] at e
        cases e
        cases r with
        | cons r1 r2 => exact .cons (dp_of s e1 r1) (dps_of s e2 r2)
end
/-- data that can be compared: plain, its texts of bearable length, not too deep -/
def plainP (d : D) (p : PyData) : Prop := toP d = some p ∧ SeqAt.shaped p = true
def aEq (x : D) (y : D) (c : Nat) (Q : QD) : Prop := ∃ p q, plainP x p ∧ plainP y q ∧ Q (.bl (PyData.eqv p q)) c
def aNe (x : D) (y : D) (c : Nat) (Q : QD) : Prop := ∃ p q, plainP x p ∧ plainP y q ∧ Q (.bl (!PyData.eqv p q)) c
theorem br_eq {K : PySem.W.Frag} : Br2 K (rEqD K) aEq := fun G H c x y d e Qd Q ok rx ry q k => by
  obtain ⟨p, p2, ⟨h1, s1⟩, ⟨h2, s2⟩, q⟩ := q
  exact ⟨p, p2, dp_of ok.same h1 rx, dp_of ok.same h2 ry, s1, s2, k _ _ G H c (Evo.refl ok) (.bl _) q⟩
theorem br_ne {K : PySem.W.Frag} : Br2 K (rNeD K) aNe := fun G H c x y d e Qd Q ok rx ry q k => by
  obtain ⟨p, p2, ⟨h1, s1⟩, ⟨h2, s2⟩, q⟩ := q
  exact ⟨p, p2, dp_of ok.same h1 rx, dp_of ok.same h2 ry, s1, s2, k _ _ G H c (Evo.refl ok) (.bl _) q⟩
section
variable {Y : Ctx} {a b : Expr} {ea eb : TE} {ta tb : DE} {pos : Pos} {k : Nat}
end

/-! ### purses -/
/-- a new list of three numbers, held as a purse -/
def dPurse (t : DA) (ρ : DEnv) (c : Nat) (Q : QD) : Prop := t ρ c fun ds c1 => ∃ x y z : Int, ds = [.int x, .int y, .int z] ∧ 0 ≤ y ∧ y < 2 ^ 31 ∧ 0 ≤ z ∧ z ≤ 1000000 ∧ Q .opq c1
section
variable {Y : Ctx} {es : List Expr} {e : Expr} {fa : TA} {t : DA} {pos p1 p2 p3 : Pos} {ee : TE} {te : DE}
theorem rp3 {K : PySem.W.Frag} {G : GS} {vs : List V} {x y z : Int} (r : RpAll K G vs [.int x, .int y, .int z]) : vs = [.int x, .int y, .int z] := by
  cases r with
  | cons r1 r =>
    cases r with
    | cons r2 r =>
      cases r with
      | cons r3 r => cases r; cases r1; cases r2; cases r3; rfl
theorem pd_purse (ha : PDA Y es fa t) : PD Y (.List es pos) (tLst fa) (dPurse t) := by
  refine ⟨pe_lst ha.p, fun G H c ρ σ Qd Q R h k => ?_⟩
  refine ha.s G H c ρ σ _ _ R h fun ds vs G1 H1 c1 e1 r1 q1 => ?_
  obtain ⟨x, y, z, rfl, h1, h2, h3, h4, q⟩ := q1
  have e := rp3 r1
  subst e
  refine ⟨by show 3 ≤ sizeLine; decide, fun p np => ?_⟩
  have nf : G1.f p = none := e1.ok.fnone np
  have ev : Evo G1 H1 c1 { G1 with pu := fun b => G1.pu b ∨ b = p } (upd H1 p (.lst [.int x, .int y, .int z])) c1 := by
    have ev := Evo.laidU e1.ok (.lst [.int x, .int y, .int z]) np
    refine ⟨⟨ev.ok.same, fun b hb => ?_, fun b hb => ?_⟩, ⟨Same.refl _, fun _ h => .inl h⟩, Nat.le_refl _, ev.keep, ev.pus, ev.new, fun b o e hb => ?_⟩
    · rcases hb with hb | rfl
      · exact e1.ok.npu b hb
      · exact nf
    · rcases hb with hb | rfl
      · exact ev.ok.pu b hb
      · rw [upd_same]; exact ⟨x, y, z, rfl, h1, h2, h3, by omega⟩
    · rcases hb with hb | rfl
      · exact hb
      · rw [np] at e; cases e
  exact k .opq _ _ _ c1 (e1.trans ev) (.opq (.inr rfl)) q
/-- purse[n], the purse in slot i -/
def dPIx (i : Nat) (n : Nat) (ρ : DEnv) (c : Nat) (Q : QD) : Prop := ρ[i]? = some (.fz .opq) ∧ ∀ x : Int, (n = 1 → 0 ≤ x ∧ x < 2 ^ 31) → (n = 2 → 0 ≤ x ∧ x ≤ 1000000 + (c : Int)) → Q (.int x) c
theorem pd_purseIx (i n : Nat) {x : Str} {j : Nat} {nn : Int} (hn : nn = (n : Int)) (hn3 : n < 3) (hN : Y.X.N[i]? = some x := by rfl) (hv : Vis Y.X.env.scope x := by first | exact Or.inl rfl | exact Or.inr (Or.inl rfl) | exact Or.inr (Or.inr rfl)) (hd : (x == ("__debug__" : Str)) = false := by decide)
    (hcd : (x == ("__classdict__" : Str)) = false := by decide) : PD Y (.Subscript (.Name x p1) (.Constant (.int nn) j p2) pos) (tOp (rIx Y.X.K) (tVar i) (tC (.int nn))) (dPIx i n) := by
  refine ⟨pe_ix ix_seq (pe_var hN hv hd hcd) pe_int (fun _ _ => rfl), fun G H c ρ σ Qd Q R h k => ?_⟩
  obtain ⟨e, h⟩ := h
  obtain ⟨o, e1, v, rfl, r⟩ := R.sl i _ e
  subst hn
  cases r with
  | @opq a hp =>
    obtain ⟨x, y, z, e2, h1, h2, h3, h4⟩ := R.ok.pu a hp
    refine ⟨_, e1, .inl ⟨a, _, (n : Int), ([.int x, .int y, .int z] : List V)[n]'(by simpa using hn3), rfl, rfl, SqL.of e2, ?_, ?_⟩⟩
    · exact atI_nat (by simp)
    · match n, hn3 with
      | 0, _ => exact k _ _ G H c (Evo.refl R.ok) (.int _) (h x (fun z => nomatch z) fun z => nomatch z)
      | 1, _ => exact k _ _ G H c (Evo.refl R.ok) (.int _) (h y (fun _ => ⟨h1, h2⟩) fun z => nomatch z)
      | 2, _ => exact k _ _ G H c (Evo.refl R.ok) (.int _) (h z (fun z => nomatch z) fun _ => ⟨h3, h4⟩)
/-- purse[n] = e: the counter is raised with the last number -/
def sPSet (i : Nat) (n : Nat) (te : DE) (DD : DEnds) (ρ : DEnv) (c : Nat) : Prop := te ρ c fun d c1 => ρ[i]? = some (.fz .opq) ∧ ∃ x : Int, d = .int x ∧ ((n = 0 ∧ DD.nx ρ c1) ∨ (n = 2 ∧ 0 ≤ x ∧ x ≤ 1000000 + ((c1 + 1 : Nat) : Int) ∧ DD.nx ρ (c1 + 1)))
theorem evo_purse {G : GS} {H : Hp} {c c' : Nat} (ok : G.Ok H c) {a : Addr} (hp : G.pu a) (hc : c ≤ c') {u : HO} (hu : PurseV c' (some u)) : Evo G H c G (upd H a u) c' where
  ok := ⟨fun b o e => by
      have : b ≠ a := fun z => by subst z; rw [ok.npu b hp] at e; cases e
      rw [upd_ne this]; exact ok.same b o e, ok.npu, fun b hb => by
      by_cases e : b = a
      · subst e; rw [upd_same]; exact hu
      · rw [upd_ne e]; exact (ok.pu b hb).mono hc⟩
  le := GS.Le.refl _
  c := hc
  keep := fun b o e n => by
    have : b ≠ a := fun z => n (z ▸ hp)
    rw [upd_ne this]; exact e
  pus := fun b hb => by
    by_cases e : b = a
    · subst e; exact ⟨u, upd_same⟩
    · rw [upd_ne e]; exact (ok.pu b hb).some
  new := fun _ _ _ n => n
  npu := fun _ _ _ h => h
theorem pds_purseSet (i n : Nat) {x : Str} {j : Nat} {nn : Int} (hn : nn = (n : Int)) (he : PD Y e ee te) (hN : Y.X.N[i]? = some x := by rfl) (hv : Vis Y.X.env.scope x := by first | exact Or.inl rfl | exact Or.inr (Or.inl rfl) | exact Or.inr (Or.inr rfl)) (hd : (x == ("__debug__" : Str)) = false := by decide)
    (hcd : (x == ("__classdict__" : Str)) = false := by decide) (hs : swapsWithSole [.Subscript (.Name x p1) (.Constant (.int nn) j p2) p3] e pos.line Y.X.env = pure false := by rfl) (hw : swappedStores [.Subscript (.Name x p1) (.Constant (.int nn) j p2) p3] e Y.X.env = pure none := by rfl)
    (h1 : (assignEach [.Subscript (.Name x p1) (.Constant (.int nn) j p2) p3] Y.X.env).map (·.2) = [assign (.Subscript (.Name x p1) (.Constant (.int nn) j p2) p3) Y.X.env] := by rfl) :
    PDS Y (.Assign [.Subscript (.Name x p1) (.Constant (.int nn) j p2) p3] e pos) (tAsg ee (gSub (tVar i) (tC (.int nn)) rSetL)) (sPSet i n te) := by
  refine ⟨ps_asg he.p (pg_sub (pe_var hN hv hd hcd) pe_int set_list) hs hw h1, fun P G H c ρ σ DD EE K R q => ?_⟩
  refine he.s G H c ρ σ _ _ R.r q fun d v G1 H1 c1 ev r q => ?_
  obtain ⟨e, m, rfl, q⟩ := q
  have R1 := R.evo ev
  obtain ⟨o, e1, u, rfl, ru⟩ := R1.r.sl i _ e
  cases r
  cases ru with
  | @opq a hp =>
    obtain ⟨x, y, z, e2, g1, g2, g3, g4⟩ := R1.r.ok.pu a hp
    subst hn
    refine ⟨_, e1, a, _, (n : Int), n, rfl, rfl, e2, ?_, ?_⟩
    · have hn3 : n < 3 := by rcases q with ⟨rfl, _⟩ | ⟨rfl, _⟩ <;> decide
      show ixN 3 (n : Int) = some n
      match n, hn3 with
      | 0, _ => rfl
      | 1, _ => rfl
      | 2, _ => rfl
    · rcases q with ⟨rfl, q5⟩ | ⟨rfl, b1, b2, q5⟩
      · exact K.nx _ _ _ _ _ (R1.evo (evo_purse R1.r.ok hp (Nat.le_refl _) (u := .lst [.int m, .int y, .int z]) ⟨m, y, z, rfl, g1, g2, g3, g4⟩)) q5
      · exact K.nx _ _ _ _ _ (R1.evo (evo_purse R1.r.ok hp (Nat.le_succ _) (u := .lst [.int x, .int y, .int m]) ⟨x, y, m, rfl, g1, g2, b1, b2⟩)) q5
end
end PL

namespace PL
open PySem PySem.Spec PyProof.Rows L2

/-- a def's scope, looked at by the kernel -/
def scopeB (N P : List Str) (sc : Scope) : Bool :=
  (match sc.kind with | .function => true | _ => false) && !sc.isCoroutine && !sc.isGenerator && decide N.Nodup && decide (N.take P.length = P) &&
    P.all (fun x => match sc.names.lookup x with | some .local => true | some .cell => true | _ => false) && sc.names.all fun y => match y.2 with | .free => false | _ => true
theorem scope_of {N P : List Str} {sc : Scope} (h : scopeB N P sc = true) : FnScope N P sc := by
  simp only [scopeB, Bool.and_eq_true, decide_eq_true_eq, List.all_eq_true, Bool.not_eq_true'] at h
  obtain ⟨⟨⟨⟨⟨⟨h1, h2⟩, h3⟩, h4⟩, h5⟩, h6⟩, h7⟩ := h
  refine ⟨?_, h2, h3, h4, h5, fun x hx => ?_, fun y hy e => ?_⟩
  · split at h1
    · assumption
    · cases h1
  · have q := h6 x hx
    split at q
    · exact .inl (by assumption)
    · exact .inr (by assumption)
    · cases q
  · have q := h7 y hy
    rw [e] at q
    cases q
/-- a def of the top, named by x, its statement st, its defaults dvs -/
structure Df (K : PySem.W.Frag) (mg : Str → Option Value) (x : Str) (st : Stmt) (dvs : List V) (kws : List (Str × V)) (f : Addr) (fd : FuncData) : Prop where
  F : FunD K x x (defArgs st) (defBody st) (defScope st) dvs kws f fd
  m : mg x = some (.ref f)
/-- how it is called with values for all parameters but the last ones, which dvs fill -/
structure Cal (K : PySem.W.Frag) (mg : Str → Option Value) (x : Str) (f : Addr) (fd : FuncData) (ps : List Str) (dvs : List V) : Prop where
  m : mg x = some (.ref f)
  k : PySem.W.keepIn K (.ref f) = true
  b : ∃ ds, Vals dvs ds ∧ Binds K fd ps ds
section
variable {K : PySem.W.Frag} {mg : Str → Option Value} {x : Str} {st : Stmt} {dvs : List V} {kws : List (Str × V)} {f : Addr} {fd : FuncData} {ps : List Str}
theorem Df.cal0 (D : Df K mg x st [] kws f fd) (h : ∀ (kV doc pm : Value) (an : Option Addr) (cdv ct : Value) (us : List Value), us.length = ps.length → bindArgs (PySem.W.fnOf x x (defArgs st) (defBody st) (defScope st) .none kV doc pm an cdv ct) ⟨us, []⟩ = pure (ps.zip us)) : Cal K mg x f fd ps [] :=
  ⟨D.m, D.F.kp, [], .nil, D.F.bindsN h⟩
theorem Df.cal1 (D : Df K mg x st dvs kws f fd) (n j : Nat) (hd : dvs ≠ []) (hn : n + (dvs.length - j) = ps.length)
    (h : ∀ (T : Addr) (kV doc pm : Value) (an : Option Addr) (cdv ct : Value) (us its : List Value), us.length = n → its.length = dvs.length →
      ∃ k, bindArgs (PySem.W.fnOf x x (defArgs st) (defBody st) (defScope st) (.ref T) kV doc pm an cdv ct) ⟨us, []⟩ = seqItems? (.ref T) >>= k ∧ k (some its.toArray) = pure (ps.zip (us ++ its.drop j))) : Cal K mg x f fd ps (dvs.drop j) :=
  ⟨D.m, D.F.kp, D.F.binds1 n j hd hn h⟩
end
section
variable {Y : Ctx} {k : Nat} {f : Addr} {fd : FuncData} {ps : List Str} {sp : SpD} {dvs : List V} {dds : List D} {x : Str} {p pos : Pos} {e : Expr} {es : List Expr} {fa : TA} {t : DA}
theorem pd_callC (g : Y.Good k) (F : FnOk Y.X.prog Y.X.w Y.X.K Y.X.mg Y.X.base (L2.CX Y.X.prog Y.X.w) k f fd ps (spOf Y.X.K sp)) (C : Cal Y.X.K Y.X.mg x f fd ps dvs) (hdd : ∀ G, RpAll Y.X.K G dvs dds)
    (ha : PDA Y (e :: es) fa t) (hg : Gl Y.X x := by rfl) (hdb : (x == ("__debug__" : Str)) = false := by decide) (he : starEach (e :: es) Y.X.env = (false, eval e Y.X.env) :: starEach es Y.X.env := by rfl) (hpl : (backTo pos (starEach es Y.X.env)).any (·.1) = false := by rfl) :
    PD Y (.Call (.Name x p) (e :: es) [] pos) (tCall (spOf Y.X.K sp) dvs Y.E fa) (dCall Y.ED sp dds t) := by
  obtain ⟨ds, hd, hb⟩ := C.b
  exact pd_call g F C.m C.k hb hd hdd ha hg hdb he hpl
theorem pd_callC0 (g : Y.Good k) (F : FnOk Y.X.prog Y.X.w Y.X.K Y.X.mg Y.X.base (L2.CX Y.X.prog Y.X.w) k f fd ps (spOf Y.X.K sp)) (C : Cal Y.X.K Y.X.mg x f fd ps dvs) (hdd : ∀ G, RpAll Y.X.K G dvs dds)
    (hg : Gl Y.X x := by rfl) (hdb : (x == ("__debug__" : Str)) = false := by decide) : PD Y (.Call (.Name x p) [] [] pos) (tCall (spOf Y.X.K sp) dvs Y.E tNil) (dCall Y.ED sp dds dNil) := by
  obtain ⟨ds, hd, hb⟩ := C.b
  exact pd_call0 g F C.m C.k hb hd hdd hg hdb
/-! ### keywords -/
structure PDK (Y : Ctx) (kws : List Keyword) (ta : TA) (t : DA) : Prop where
  p : PK Y.X kws ta
  s : SimA Y ta t
theorem pdk_nil : PDK Y [] tNil dNil := ⟨pk_nil, pda_nil.s⟩
theorem pdk_cons {ee : TE} {te : DE} {kws : List Keyword} {kpos : Pos} {nm : Option Str} (ha : PD Y e ee te) (hr : PDK Y kws fa t) : PDK Y (⟨nm, e, kpos⟩ :: kws) (tCons ee fa) (dCons te t) :=
  ⟨pk_cons ha.p hr.p, fun G H c ρ σ Qd Q R h k => ha.s G H c ρ σ _ _ R h fun d v G1 H1 c1 e1 r1 q1 => hr.s G1 H1 c1 ρ σ _ _ (R.evo' e1) q1 fun ds vs G2 H2 c2 e2 r2 q2 => k _ _ G2 H2 c2 (e1.trans e2) (.cons (r1.mono e2.le) r2) q2⟩
/-- a call with n positional values and the keywords ks: g (of any kind of value) puts all in the parameters' order -/
structure CalK (K : PySem.W.Frag) (mg : Str → Option Value) (x : Str) (f : Addr) (fd : FuncData) (ps : List Str) (n : Nat) (ks : List Str) (gV : List V → List V → List V) (gD : List D → List D → List D) : Prop where
  m : mg x = some (.ref f)
  k : PySem.W.keepIn K (.ref f) = true
  b : ∃ g, KBn K fd ps n ks g gV
  r : ∀ G vs ds zs es, RpAll K G vs ds → RpAll K G zs es → RpAll K G (gV vs zs) (gD ds es)
def dCallK (ED : EDt) (n m : Nat) (sp : SpD) (gD : List D → List D → List D) (t tk : DA) (ρ : DEnv) (c : Nat) (Q : QD) : Prop := t ρ c fun ds c1 => tk ρ c1 fun es c2 => ds.length = n ∧ es.length = m ∧ sp (gD ds es) c2 Q ED
variable {n : Nat} {ks : List Str} {gV : List V → List V → List V} {gD : List D → List D → List D} {kws : List Keyword} {fk : TA} {tk : DA}
theorem callK_sim (g : Y.Good k) (C : CalK Y.X.K Y.X.mg x f fd ps n ks gV gD) (ha : SimA Y fa t) (hk : SimA Y fk tk) : SimE Y (tCallN n ks.length (spOf Y.X.K sp) gV Y.E fa fk) (dCallK Y.ED n ks.length sp gD t tk) := fun G H c ρ σ Qd Q R q kk =>
  ha G H c ρ σ _ _ R q fun ds vs G1 H1 c1 ev r q => hk G1 H1 c1 ρ σ _ _ (R.evo' ev) q fun es zs G2 H2 c2 ev2 r2 q => by
    obtain ⟨l1, l2, q⟩ := q
    refine ⟨by rw [r.length]; exact l1, by rw [r2.length]; exact l2, G2, c2, gD ds es, Qd, Y.ED, ev2.ok, C.r G2 vs ds zs es (r.mono ev2.le) r2, q, fun d v G' H' c' e' r' q' => kk d v G' H' c' ((ev.trans ev2).trans e') r' q', ?_⟩
    exact fun C ns es dx G' H' c' e' r' q' => g.err C ns es dx G' H' c' (R.evo.trans ((ev.trans ev2).trans e')) r' q'
theorem pd_callK (g : Y.Good k) (F : FnOk Y.X.prog Y.X.w Y.X.K Y.X.mg Y.X.base (L2.CX Y.X.prog Y.X.w) k f fd ps (spOf Y.X.K sp)) (C : CalK Y.X.K Y.X.mg x f fd ps n ks gV gD) (ha : PDA Y (e :: es) fa t) (hk : PDK Y kws fk tk)
    (hall : (backToKw pos (keywordEach kws Y.X.env)).all (·.1.isSome) = true := by rfl) (hks : (backToKw pos (keywordEach kws Y.X.env)).filterMap (·.1) = ks := by rfl) (hg : Gl Y.X x := by rfl)
    (hdb : (x == ("__debug__" : Str)) = false := by decide) (he : starEach (e :: es) Y.X.env = (false, eval e Y.X.env) :: starEach es Y.X.env := by rfl)
    (hpl : ((backTo pos (starEach (e :: es) Y.X.env)).any (·.1) || (backToKw pos (keywordEach kws Y.X.env)).any (·.1.isNone)) = false := by rfl) :
    PD Y (.Call (.Name x p) (e :: es) kws pos) (tCallN n ks.length (spOf Y.X.K sp) gV Y.E fa fk) (dCallK Y.ED n ks.length sp gD t tk) := by
  obtain ⟨gg, hb⟩ := C.b
  exact ⟨pe_callN F g.room hg C.m C.k hb g.pass ha.p hk.p hall hks hdb he hpl, callK_sim g C ha.s hk.s⟩
/-- keywords alone -/
theorem pe_kw0 {X : Cx} {CX : CXT} {sp : Sp} {E : XK} {tk : TA} (F : FnOk X.prog X.w X.K X.mg X.base CX k f fd ps sp) (hr : Room k X.A) (hg : Gl X x) (hm : X.mg x = some (.ref f)) (hk : PySem.W.keepIn X.K (.ref f) = true) {gg : List Value → List Value → List Value} (hb : KBn X.K fd ps 0 ks gg gV) (hx : Passes CX X E)
    (hkw : PK X kws tk) (hall : (backToKw pos (keywordEach kws X.env)).all (·.1.isSome) = true) (hks : (backToKw pos (keywordEach kws X.env)).filterMap (·.1) = ks) (hdb : (x == ("__debug__" : Str)) = false)
    (hpl : (backToKw pos (keywordEach kws X.env)).any (·.1.isNone) = false) (hne : (backToKw pos (keywordEach kws X.env)).isEmpty = false) : PE X (.Call (.Name x p) [] kws pos) (tCallN 0 ks.length sp gV E tNil tk) := by
  refine ⟨fun pins s σ H Q I h => ?_⟩
  refine wpAny_Call_Name_kw (ld_glob I hg hm ?_ hdb)
  refine PySem.W.callWith_KW0 (h₀ := X.base) I.ok.mod.kin hk hall (thn (hkw.run pos pins s σ H _ I h) fun ws s2 ⟨zs, H2, I2, rz, l1, l2, q2⟩ => ⟨I2.kIn, ?_⟩) hpl
  rw [hks]
  exact run_fnN F hr hb hx I2 .nil rz rfl l2 q2
theorem pd_callK0 (g : Y.Good k) (F : FnOk Y.X.prog Y.X.w Y.X.K Y.X.mg Y.X.base (L2.CX Y.X.prog Y.X.w) k f fd ps (spOf Y.X.K sp)) (C : CalK Y.X.K Y.X.mg x f fd ps 0 ks gV gD) (hk : PDK Y kws fk tk)
    (hall : (backToKw pos (keywordEach kws Y.X.env)).all (·.1.isSome) = true := by rfl) (hks : (backToKw pos (keywordEach kws Y.X.env)).filterMap (·.1) = ks := by rfl) (hg : Gl Y.X x := by rfl)
    (hdb : (x == ("__debug__" : Str)) = false := by decide) (hpl : (backToKw pos (keywordEach kws Y.X.env)).any (·.1.isNone) = false := by rfl) (hne : (backToKw pos (keywordEach kws Y.X.env)).isEmpty = false := by rfl) :
    PD Y (.Call (.Name x p) [] kws pos) (tCallN 0 ks.length (spOf Y.X.K sp) gV Y.E tNil fk) (dCallK Y.ED 0 ks.length sp gD dNil tk) := by
  obtain ⟨gg, hb⟩ := C.b
  exact ⟨pe_kw0 F g.room hg C.m C.k hb g.pass hk.p hall hks hdb hpl hne, callK_sim g C pda_nil.s hk.s⟩
/-- without defaults: all parameters are given -/
theorem Df.calK {K : PySem.W.Frag} {mg : Str → Option Value} {st : Stmt} {kw : List (Str × V)} (Dd : Df K mg x st [] kw f fd) (n : Nat) (ks : List Str) (g : {α : Type} → List α → List α → List α)
    (hr : ∀ {α β : Type} {R : α → β → Prop} {vs : List α} {us : List β} {zs : List α} {ws : List β}, Paired R vs us → Paired R zs ws → Paired R (g vs zs) (g us ws))
    (hp : ∀ {G : GS} {vs ds zs es}, RpAll K G vs ds → RpAll K G zs es → RpAll K G (g vs zs) (g ds es))
    (h : ∀ (kV doc pm : Value) (an : Option Addr) (cdv ct : Value) (us ws : List Value), us.length = n → ws.length = ks.length → bindArgs (PySem.W.fnOf x x (defArgs st) (defBody st) (defScope st) .none kV doc pm an cdv ct) ⟨us, ks.zip ws⟩ = pure (ps.zip (g us ws))) : CalK K mg x f fd ps n ks g g := by
  refine ⟨Dd.m, Dd.F.kp, ⟨g, fun s us ws X l1 l2 => ?_, fun r1 r2 => hr r1 r2⟩, fun G vs ds zs es r1 r2 => hp r1 r2⟩
  obtain ⟨oc, od, dV, kV, doc, pm, an, cdv, ct, osl, rfl, lk, hcd, hD, hK⟩ := Dd.F.ex
  rcases hD with ⟨_, rfl⟩ | ⟨e, _⟩
  · exact .of_eq (h kV doc pm an cdv ct us ws l1 l2)
  · exact absurd rfl e
end
end PL

namespace PL
open PySem PySem.Spec PyProof.Rows L2

/-! ### operators of several kinds of values -/
theorem Br2.or {K : PySem.W.Frag} {r r' : R2} {rd rd' : RD2} (h : Br2 K r rd) (h' : Br2 K r' rd') : Br2 K (fun x y H Q => r x y H Q ∨ r' x y H Q) (fun x y c Q => rd x y c Q ∨ rd' x y c Q) := fun G H c x y d e Qd Q ok rx ry q k =>
  q.elim (fun q => .inl (h G H c x y d e Qd Q ok rx ry q k)) fun q => .inr (h' G H c x y d e Qd Q ok rx ry q k)
theorem Br2.imp {K : PySem.W.Frag} {r : R2} {rd rd' : RD2} (h : Br2 K r rd) (i : ∀ x y c Q, rd' x y c Q → rd x y c Q) : Br2 K r rd' := fun G H c x y d e Qd Q ok rx ry q k => h G H c x y d e Qd Q ok rx ry (i _ _ _ _ q) k
def aAddS (x : D) (y : D) (c : Nat) (Q : QD) : Prop := ∃ i j : Str, x = .str i ∧ y = .str j ∧ i.length + j.length ≤ sizeLine ∧ Q (.str (i ++ j)) c
theorem br_addS {K : PySem.W.Frag} : Br2 K (fun x y H Q => ∃ i j, x = .str i ∧ y = .str j ∧ i.length + j.length ≤ sizeLine ∧ Q (.str (i ++ j)) H) aAddS := fun G H c x y d e Qd Q ok rx ry q k => by
  obtain ⟨i, j, rfl, rfl, hz, q⟩ := q
  cases rx; cases ry
  exact ⟨i, j, rfl, rfl, hz, k _ _ G H c (Evo.refl ok) (.str _) q⟩
def rPlus (K : PySem.W.Frag) : R2 := fun x y H Q => rI0 (fun i j => V.int (i + j)) x y H Q ∨ (∃ i j, x = .str i ∧ y = .str j ∧ i.length + j.length ≤ sizeLine ∧ Q (.str (i ++ j)) H) ∨ rCatA K x y H Q
/-- x + y of numbers, texts, tuples -/
def aPlus (x : D) (y : D) (c : Nat) (Q : QD) : Prop := match x, y with
  | .int i, .int j => Q (.int (i + j)) c
  | .str i, .str j => i.length + j.length ≤ sizeLine ∧ Q (.str (i ++ j)) c
  | .tup l, .tup m => l.length + m.length ≤ sizeLine ∧ Q (.tup (l ++ m)) c
  | _, _ => False
theorem op_plus {X : Cx} : OpR X (binaryOp .Add) (rPlus X.K) := op_add.or (op_add_str.or op_catA)
theorem br_plus {K : PySem.W.Frag} : Br2 K (rPlus K) aPlus := ((br_I0 fun _ _ _ => .int _).or (br_addS.or br_cat)).imp fun x y c Q q => by
  unfold aPlus at q
  split at q
  · exact .inl ⟨_, _, rfl, rfl, q⟩
  · exact .inr (.inl ⟨_, _, rfl, rfl, q⟩)
  · exact .inr (.inr ⟨_, _, rfl, rfl, q⟩)
  · exact q.elim
def rLeP : R2 := fun x y H Q => rI0 (fun i j => V.bl (decide (i ≤ j))) x y H Q ∨ ∃ i j, x = .str i ∧ y = .str j ∧ Q (.bl (!decide (j.cps.toList < i.cps.toList))) H
def aLeP (x : D) (y : D) (c : Nat) (Q : QD) : Prop := match x, y with
  | .int i, .int j => Q (.bl (decide (i ≤ j))) c
  | .str i, .str j => Q (.bl (!decide (j.cps.toList < i.cps.toList))) c
  | _, _ => False
theorem op_leP {X : Cx} : OpR X (compareOp .LtE) rLeP := op_le.or op_le_str
theorem br_leP {K : PySem.W.Frag} : Br2 K rLeP aLeP := ((br_I0 fun _ _ _ => .bl _).or br_leS).imp fun x y c Q q => by
  unfold aLeP at q
  split at q
  · exact .inl ⟨_, _, rfl, rfl, q⟩
  · exact .inr ⟨_, _, rfl, rfl, q⟩
  · exact q.elim
/-- x[i] -/
def aItem (x : D) (y : D) (c : Nat) (Q : QD) : Prop := match x, y with
  | .lst l, .int i => ∃ d, atI l i = some d ∧ Q d c
  | .tup l, .int i => ∃ d, atI l i = some d ∧ Q d c
  | .str z, .int i => z.length ≤ sizeLine ∧ ∃ k, atI z.cps.toList i = some k ∧ Q (.str ⟨#[k]⟩) c
  | _, _ => False
theorem br_item {K : PySem.W.Frag} : Br2 K (rIx K) aItem := br_ix.imp fun x y c Q q => by
  unfold aItem at q
  split at q
  · obtain ⟨d, h, q⟩ := q; exact ⟨_, rfl, .inl ⟨_, d, rfl, h, q⟩⟩
  · obtain ⟨d, h, q⟩ := q; exact ⟨_, rfl, .inr (.inl ⟨_, d, rfl, h, q⟩)⟩
  · obtain ⟨hz, d, h, q⟩ := q; exact ⟨_, rfl, .inr (.inr ⟨_, d, rfl, hz, h, q⟩)⟩
  · exact q.elim
/-- x[lo:hi] -/
def aSlice (x : D) (lo : Option Int) (hi : Option Int) (c : Nat) (Q : QD) : Prop := match x with
  | .tup l => Q (.tup (cut l lo hi)) c
  | .lst l => Q (.lst (cut l lo hi)) c
  | _ => False
theorem br_slice {K : PySem.W.Frag} : BrS K (rCut K) aSlice := fun G H c x d lo hi Qd Q ok rx q k => br_cut G H c x d lo hi Qd Q ok rx (by
  unfold aSlice at q
  split at q
  · exact .inl ⟨_, rfl, q⟩
  · exact .inr ⟨_, rfl, q⟩
  · exact q.elim) k
/-- len(x) -/
def aLen (ds : List D) (c : Nat) (Q : QD) : Prop := match ds with
  | [.lst l] => Q (.int l.length) c
  | [.tup l] => Q (.int l.length) c
  | [.str z] => z.length ≤ sizeLine ∧ Q (.int z.length) c
  | _ => False
theorem BrN.imp {K : PySem.W.Frag} {r : List V → Hp → VK → Prop} {rd rd' : RDn} (h : BrN K r rd) (i : ∀ ds c Q, rd' ds c Q → rd ds c Q) : BrN K r rd' := fun G H c xs ds Qd Q ok rx q k => h G H c xs ds Qd Q ok rx (i _ _ _ q) k
theorem br_lenA {K : PySem.W.Frag} : BrN K (rLen K) aLen := br_len.imp fun ds c Q q => by
  unfold aLen at q
  split at q
  · exact ⟨_, rfl, .inl ⟨_, .inl rfl, q⟩⟩
  · exact ⟨_, rfl, .inl ⟨_, .inr rfl, q⟩⟩
  · exact ⟨_, rfl, .inr ⟨_, rfl, q⟩⟩
  · exact q.elim
def aInt (ds : List D) (c : Nat) (Q : QD) : Prop := match ds with
  | [.int i] => Q (.int i) c
  | [.bl b] => Q (.int (b2n b)) c
  | _ => False
theorem br_intA {K : PySem.W.Frag} : BrN K (fun xs H Q => (∃ i, xs = [.int i] ∧ Q (.int i) H) ∨ ∃ k, xs = [.bl k] ∧ Q (.int (if k then 1 else 0)) H) aInt := br_int.imp fun ds c Q q => by
  unfold aInt at q
  split at q
  · exact .inl ⟨_, rfl, q⟩
  · exact .inr ⟨_, rfl, q⟩
  · exact q.elim
def isIns : D → Option Addr
  | .ins C _ _ => some C
  | _ => none
def aIsa (IC : Addr → Prop) (ds : List D) (c : Nat) (Q : QD) : Prop := match ds with
  | [x, .ty T] => T ∈ basics ∧ ((kind x).isSome = true ∨ ∃ C, isIns x = some C ∧ IC C) ∧ Q (.bl (isaB T x)) c
  | _ => False
theorem br_isaA {K : PySem.W.Frag} {IC : Addr → Prop} (hI : ∀ C, IC C → ICls K C) : BrN K (rIsi K) (aIsa IC) := (br_isa hI).imp fun ds c Q q => by
  unfold aIsa at q
  split at q
  · obtain ⟨h1, h2, q⟩ := q
    refine ⟨_, _, rfl, h1, ?_, q⟩
    rcases h2 with h | ⟨C, h, i⟩
    · exact .inl (Option.isSome_iff_exists.mp h)
    · rename_i x T
      cases x with
      | ins C' ns es => cases h; exact .inr ⟨_, _, _, rfl, i⟩
      | _ => cases h
  · exact q.elim
def aListA (ds : List D) (c : Nat) (Q : QD) : Prop := match ds with
  | [.lst l] => Q (.lst l) c
  | [.tup l] => Q (.lst l) c
  | _ => False
theorem br_listA {K : PySem.W.Frag} : BrN K (fun xs H Q => ∃ p ys, xs = [.ref p] ∧ (SqL K H p ys ∨ SqT K H p ys) ∧ ∀ l, H l = none → Q (.ref l) (upd H l (.lst ys))) aListA := br_list.imp fun ds c Q q => by
  unfold aListA at q
  split at q
  · exact ⟨_, .inl rfl, q⟩
  · exact ⟨_, .inr rfl, q⟩
  · exact q.elim
def aTupleA (ds : List D) (c : Nat) (Q : QD) : Prop := match ds with
  | [.lst l] => Q (.tup l) c
  | [.tup l] => Q (.tup l) c
  | _ => False
theorem br_tupleA {K : PySem.W.Frag} : BrN K (fun xs H Q => ∃ p ys, xs = [.ref p] ∧ ((SqL K H p ys ∧ ∀ l, H l = none → Q (.ref l) (upd H l (.tup ys))) ∨ (SqT K H p ys ∧ Q (.ref p) H))) aTupleA := br_tuple.imp fun ds c Q q => by
  unfold aTupleA at q
  split at q
  · exact ⟨_, .inl rfl, q⟩
  · exact ⟨_, .inr rfl, q⟩
  · exact q.elim
def aMax2 (ds : List D) (c : Nat) (Q : QD) : Prop := match ds with
  | [.int i, .int j] => Q (.int (if j > i then j else i)) c
  | _ => False
theorem br_max2 {K : PySem.W.Frag} : BrN K (fun xs H Q => ∃ i j, xs = [.int i, .int j] ∧ Q (.int (if j > i then j else i)) H) aMax2 := (br_2I (f := fun i j => if j > i then j else i)).imp fun ds c Q q => by
  unfold aMax2 at q
  split at q
  · exact ⟨_, _, rfl, q⟩
  · exact q.elim
def aMin2 (ds : List D) (c : Nat) (Q : QD) : Prop := match ds with
  | [.int i, .int j] => Q (.int (if j < i then j else i)) c
  | _ => False
theorem br_min2 {K : PySem.W.Frag} : BrN K (fun xs H Q => ∃ i j, xs = [.int i, .int j] ∧ Q (.int (if j < i then j else i)) H) aMin2 := (br_2I (f := fun i j => if j < i then j else i)).imp fun ds c Q q => by
  unfold aMin2 at q
  split at q
  · exact ⟨_, _, rfl, q⟩
  · exact q.elim
/-! ### comparisons: as values, as tests -/
structure PDC (Y : Ctx) (op : CmpOp) (a b : Expr) (ee : TE) (te : DE) : Prop where
  p : PC Y.X op a b ee
  s : SimE Y ee te
section
variable {Y : Ctx} {a b f : Expr} {ea eb ef ee : TE} {ta tb tf te : DE} {pos p2 : Pos} {lo hi : Option Expr} {el eh : TO} {tl th : DO} {op : CmpOp} {k : Nat}
theorem pdc_op {r : R2} {rd : RD2} (ho : OpR Y.X (compareOp op) r) (br : Br2 Y.X.K r rd) (ha : PD Y a ea ta) (hb : PD Y b eb tb) : PDC Y op a b (tOp r ea eb) (dOp rd ta tb) :=
  ⟨⟨fun pins s σ H Q I h => bin ha.p hb.p I h fun v u s2 x y H2 I2 r1 r2 q => ho pins s2 σ H2 x y v u Q I2 r1 r2 q⟩,
   fun G H c ρ σ Qd Q R h k => two R ha.s hb.s h fun d e x y G' H' c' ev r1 r2 q => br G' H' c' x y d e Qd Q ev.ok r1 r2 q fun d' v G2 H2 c2 e2 r q => k d' v G2 H2 c2 (ev.trans e2) r q⟩
theorem pd_cm (h : PDC Y op a b ee te) (h1 : behindInMarks op b = false := by first | exact nobehind _ (by decide) (by decide) | rfl) : PD Y (.Compare a [op] [b] pos) ee te := ⟨pe_cmp h.p h1, h.s⟩
theorem pdt_cm (h : PDC Y op a b ee te) (h1 : behindInMarks op b = false := by first | exact nobehind _ (by decide) (by decide) | rfl) : PDT Y (.Compare a [op] [b] pos) (L2.tB ee) (dB te) :=
  ⟨pt_cmp h.p h1, fun G H c ρ σ Qd Q R h2 k => h.s G H c ρ σ _ _ R h2 fun d v G1 H1 c1 e1 r1 q1 => by
    obtain ⟨b, rfl, q1⟩ := q1
    cases r1
    exact ⟨b, rfl, k b G1 H1 c1 e1 q1⟩⟩
theorem pd_plus (ha : PD Y a ea ta) (hb : PD Y b eb tb) : PD Y (.BinOp a .Add b pos) (tOp (rPlus Y.X.K) ea eb) (dOp aPlus ta tb) := pd_op op_plus br_plus ha hb
theorem pdc_leP (ha : PD Y a ea ta) (hb : PD Y b eb tb) : PDC Y .LtE a b (tOp rLeP ea eb) (dOp aLeP ta tb) := pdc_op op_leP br_leP ha hb
theorem pdc_lt (ha : PD Y a ea ta) (hb : PD Y b eb tb) : PDC Y .Lt a b (tOp (rI0 fun i j => .bl (decide (i < j))) ea eb) (dOp aLt ta tb) := pdc_op op_lt (br_I0 fun _ _ _ => .bl _) ha hb
theorem pdc_gt (ha : PD Y a ea ta) (hb : PD Y b eb tb) : PDC Y .Gt a b (tOp (rI0 fun i j => .bl (decide (j < i))) ea eb) (dOp aGt ta tb) := pdc_op op_gt (br_I0 fun _ _ _ => .bl _) ha hb
theorem pdc_ge (ha : PD Y a ea ta) (hb : PD Y b eb tb) : PDC Y .GtE a b (tOp (rI0 fun i j => .bl (decide (j ≤ i))) ea eb) (dOp aGe ta tb) := pdc_op op_ge (br_I0 fun _ _ _ => .bl _) ha hb
theorem pdc_eq (g : Y.Good k) (ha : PD Y a ea ta) (hb : PD Y b eb tb) : PDC Y .Eq a b (tOp (rEqD Y.X.K) ea eb) (dOp aEq ta tb) := pdc_op (op_eqD g.room.units) br_eq ha hb
theorem pdc_ne (g : Y.Good k) (ha : PD Y a ea ta) (hb : PD Y b eb tb) : PDC Y .NotEq a b (tOp (rNeD Y.X.K) ea eb) (dOp aNe ta tb) := pdc_op (op_neD g.room.units) br_ne ha hb
theorem pdc_isN {j pos'} (ha : PD Y a ea ta) : PDC Y .Is a (.Constant .none j pos') (tOp (fun x y H Q => y = .non ∧ Q (.bl (decide (x = .non))) H) ea (tC .non)) (dOp aIsN ta (dC .non)) := pdc_op op_isN br_isN ha pd_non
theorem pdc_notN {j pos'} (ha : PD Y a ea ta) : PDC Y .IsNot a (.Constant .none j pos') (tOp (fun x y H Q => y = .non ∧ Q (.bl (!decide (x = .non))) H) ea (tC .non)) (dOp aNotN ta (dC .non)) := pdc_op op_notN br_notN ha pd_non
theorem pd_leP2 (ha : PD Y a ea ta) (hb : PD Y b eb tb) (hf : PD Y f ef tf) (hm : lastMarks [.LtE, .LtE] [b, f] = false := by with_unfolding_all rfl) : PD Y (.Compare a [.LtE, .LtE] [b, f] pos) (tChain rLeP rLeP ea eb ef) (dChain aLeP aLeP ta tb tf) := pd_chain op_leP br_leP op_leP br_leP ha hb hf hm
def dtChain (rd rd' : RD2) (ta tb tc : DE) (ρ : DEnv) (c : Nat) (Q : Bool → Nat → Prop) : Prop := ta ρ c fun x c1 => tb ρ c1 fun y c2 => rd x y c2 fun z c3 => ∃ k, z = .bl k ∧ if k = true then tc ρ c3 fun w c4 => rd' y w c4 fun u c5 => ∃ m, u = .bl m ∧ Q m c5 else Q false c3
theorem pdt_leP2 (ha : PD Y a ea ta) (hb : PD Y b eb tb) (hc : PD Y f ef tf) (hm : lastMarks [.LtE, .LtE] [b, f] = false := by with_unfolding_all rfl) : PDT Y (.Compare a [.LtE, .LtE] [b, f] pos) (tTest (tChain rLeP rLeP ea eb ef)) (dtChain aLeP aLeP ta tb tf) := by
  refine ⟨pt_chain op_leP op_leP ha.p hb.p hc.p hm, fun G H c ρ σ Qd Q R h k => ?_⟩
  refine two R ha.s hb.s h fun d e x y G1 H1 c1 e1 r1 r2 q => br_leP G1 H1 c1 x y d e _ _ e1.ok r1 r2 q fun d' v G2 H2 c2 e2 r3 q => ?_
  obtain ⟨b, rfl, q⟩ := q
  cases r3
  refine ⟨b, rfl, ?_⟩
  cases b with
  | false => rw [if_neg Bool.false_ne_true] at q ⊢; exact ⟨false, rfl, k _ G2 H2 c2 (e1.trans e2) q⟩
  | true =>
    rw [if_pos rfl] at q ⊢
    refine hc.s G2 H2 c2 ρ σ _ _ (R.evo' (e1.trans e2)) q fun d4 v4 G4 H4 c4 e4 r4 q4 => ?_
    refine br_leP G4 H4 c4 y v4 e d4 _ _ e4.ok (r2.mono (e2.le.trans e4.le)) r4 q4 fun d' v G5 H5 c5 e5 r q => ?_
    obtain ⟨m, rfl, q⟩ := q
    cases r
    exact ⟨m, rfl, k m G5 H5 c5 ((e1.trans e2).trans (e4.trans e5)) q⟩
theorem pd_at (ha : PD Y a ea ta) (hb : PD Y b eb tb) (hs : PlainIx b := by exact fun _ _ => rfl) : PD Y (.Subscript a b pos) (tOp (rIx Y.X.K) ea eb) (dOp aItem ta tb) := pd_ix ix_seq br_item ha hb hs
theorem pd_part (ha : PD Y a ea ta) (hl : PDO Y lo el tl) (hu : PDO Y hi eh th) : PD Y (.Subscript a (.Slice lo hi none p2) pos) (tSl (rCut Y.X.K) ea el eh) (dSl aSlice ta tl th) := pd_slice sl_cut br_slice ha hl hu
end
theorem bt_len : bootBuiltins "len" = some (.builtin "len") := by decide +kernel
theorem bt_isinstance : bootBuiltins "isinstance" = some (.builtin "isinstance") := by decide +kernel
theorem bt_all : bootBuiltins "all" = some (.builtin "all") := by decide +kernel
theorem bt_any : bootBuiltins "any" = some (.builtin "any") := by decide +kernel
theorem bt_max : bootBuiltins "max" = some (.builtin "max") := by decide +kernel
theorem bt_min : bootBuiltins "min" = some (.builtin "min") := by decide +kernel
theorem bt_sum : bootBuiltins "sum" = some (.builtin "sum") := by decide +kernel
theorem bt_sorted : bootBuiltins "sorted" = some (.builtin "sorted") := by decide +kernel
theorem bt_int : bootBuiltins "int" = some (.type "int") := by decide +kernel
theorem bt_str : bootBuiltins "str" = some (.type "str") := by decide +kernel
theorem bt_bool : bootBuiltins "bool" = some (.type "bool") := by decide +kernel
theorem bt_tuple : bootBuiltins "tuple" = some (.type "tuple") := by decide +kernel
theorem bt_list : bootBuiltins "list" = some (.type "list") := by decide +kernel
theorem bt_dict : bootBuiltins "dict" = some (.type "dict") := by decide +kernel
theorem bt_set : bootBuiltins "set" = some (.type "set") := by decide +kernel
theorem bt_enumerate : bootBuiltins "enumerate" = some (.type "enumerate") := by decide +kernel
end PL

namespace PL
open PySem PySem.Spec PyProof.Rows L2

/-! ### enumerate over a tuple -/
set_option maxHeartbeats 1000000 in
theorem enum_new {v : Value} {o : Obj} {φ : Heap → Prop} (B : Begins v o φ) :
    Meets (Builtin.«enumerate.__new__» ⟨[.type "enumerate", v], []⟩) (fun _ R s => φ s.heap ∧
      R (.ok (.ret (.ref (s.heap.push o).objs.size))) { s with heap := (s.heap.push o).push { cls := .type "enumerate", data := .fields #[.none, .bool false, .ref s.heap.objs.size, rawInt 0, .none, .none] } }) :=
  .of_wp fun prog w A R s h => by
    obtain ⟨hp, g, d, tk, os⟩ := s
    obtain ⟨h1, h⟩ := h
    have hsub := sub_enumerate
    have begun : ∀ {A' : Around} {E : Value → Shared → Prop} {Q : Value → Shared → Prop}, Q (.ref hp.objs.size) ⟨hp.push o, g, d, tk, os⟩ → wpAny (model prog w) A' (pyIter v) Q E ⟨hp, g, d, tk, os⟩ :=
      fun {A' E Q} z => B.iter prog w A' E ⟨hp, g, d, tk, os⟩ Q h1 z
    wp_walk using begun
    refine wpAny_stack_any fun st => wpAny_pure ?_
    split
    · rename_i c _ _ _ _ _
      cases (c == Value.type "enumerate") <;> (wp_walk using begun; exact ⟨_, rfl, h⟩)
    · wp_walk using begun
      exact ⟨_, rfl, h⟩
theorem enum_call {prog : Program} {w : World} {A : Around} {E : Value → Shared → Prop} {s : Shared} {v : Value} {o : Obj} {φ : Heap → Prop} {Q : Value → Shared → Prop} (B : Begins v o φ) (h1 : φ s.heap)
    (h : ∀ h', IsEnum h' (s.heap.objs.size + 1) s.heap.objs.size 0 .none → h'.get? s.heap.objs.size = some o → (∀ b o, s.heap.get? b = some o → h'.get? b = some o) → Q (.ref (s.heap.objs.size + 1)) { s with heap := h' }) :
    wpAny (model prog w) A (call (.type "enumerate") [v]) Q E s := by
  refine callType_new F.called_enumerate (by decide) (F.typeCall_enumerate_1 _) (F.newCall_enumerate_1 _) (fun obj => F.args_object_init_2 obj _) F.entry_enumerate_new (enum_new B) ⟨h1, ?_⟩
  have hz : (s.heap.push o).objs.size = s.heap.objs.size + 1 := Heap.size_push ..
  show _ ∧ _
  rw [hz]
  have he := Heap.get?_push_size (s.heap.push o) (o := { cls := .type "enumerate", data := .fields #[.none, .bool false, .ref s.heap.objs.size, rawInt 0, .none, .none] }) rfl
  rw [hz] at he
  exact ⟨⟨_, he, rfl⟩, h _ he (Heap.get?_push_of_some _ (Heap.get?_push_size _ B.free)) fun b o x => Heap.get?_push_of_some _ (Heap.get?_push_of_some _ x)⟩
/-- the tuple at a, each item in a new pair -/
def IteT (K : PySem.W.Frag) (a : Addr) : It :=
  ⟨fun i H => ∃ (xs : List V) (x : V), SqT K H a xs ∧ xs[i]? = some x, fun i H v H' => ∃ T x, v = .ref T ∧ H T = none ∧ H' = upd H T (.tup [.int (i : Nat), x]) ∧ ∀ xs, SqT K H a xs → xs[i]? = some x, fun i H => ∃ xs : List V, SqT K H a xs ∧ xs.length = i⟩
theorem turn_enumT {P : Program} {w : World} {K : PySem.W.Frag} {elts : List Expr} {kk : Nat} {tpos : Pos} (a e it : Addr) (hai : a ≠ it) (hae : a ≠ e) :
    Turn P w K (.Tuple elts kk tpos) (IteT K a) [e, it] e (fun i h => (∃ old, IsEnum h e it ((i : Nat) : Int) old) ∧ h.IsTupleIter it a i ∧ e ≠ it) := by
  have two : ∀ {b : Addr}, b ∈ [e, it] → b = e ∨ b = it := fun h => by simpa using h
  refine ⟨by simp, fun i h ⟨⟨old, he⟩, ⟨o, ho, hc, hd⟩, _⟩ b hb => ?_, fun i h h' ⟨⟨old, he⟩, hi, hne⟩ k => ⟨⟨old, k e (by simp) _ he⟩, hi.at fun o q => k it (by simp) o q, hne⟩, ?_, ?_, fun A i s Q E ⟨⟨_, he⟩, _⟩ h => wpAny_pyIter_enum he h⟩
  · rcases two hb with z | z
    · subst z; exact ⟨_, he, fun v q => nomatch q⟩
    · subst z; exact ⟨o, ho, fun v q => by rw [hd] at q; cases q⟩
  · intro X hP hw hK hc i pins s σ H E I hf st hg
    subst hP hw hK
    obtain ⟨⟨old, he⟩, hit, hne⟩ := st
    obtain ⟨xs, x, hq, hx⟩ := hg
    obtain ⟨its, rv, p, hz⟩ := I.tuple hq
    obtain ⟨u, hu, ru⟩ := rv.get hx
    have hi : i < its.toArray.size := by
      have := (List.getElem?_eq_some_iff.mp hu).1
      simpa using this
    have hel : e < s.heap.objs.size := Heap.lt_size he
    have hil : it < s.heap.objs.size := by obtain ⟨_, q, _⟩ := hit; exact Heap.lt_size q
    have Dr := Draws.tuple (prog := X.prog) (w := X.w) (A := X.A.in1) (I.ok.hd hc) it a hai its.toArray
    refine wpAny_pyNext_enum_itemD Dr he ⟨hit, show s.heap.IsTuple a its.toArray from p⟩ hi hne (by simp [hne, Ne.symm hae]) fun y h' tk hy ho hs' hT hsz hk => ?_
    have ey : y = u := by
      have hy' : its[i]? = some y := by simpa using hy
      rw [hu] at hy'
      exact (Option.some.inj hy').symm
    subst ey
    refine ⟨_, rfl, wpAny_letOwnedTupleGo_enum (s := { s with heap := h', toks := tk + 1 }) ho fun h'' he' sb => ?_⟩
    have hT2 : h''.get? s.heap.objs.size = some { cls := .type "tuple", data := .seq #[.int i tk, y] } := (sb.2 _ (Nat.ne_of_gt hel)).trans hT
    have new : ObjOk X.prog X.w (upd H s.heap.objs.size (.tup [.int (i : Nat), x])) h'' s.heap.objs.size (.tup [.int (i : Nat), x]) :=
      ⟨by show 2 ≤ sizeLine; decide, [.int i tk, y], .cons ⟨_, rfl⟩ (.cons ru .nil), ⟨_, hT2, rfl, _, rfl⟩⟩
    have kept : ∀ b ob, b ∉ [e, it] → s.heap.get? b = some ob → h''.get? b = some ob := fun b ob hb q => by
      simp only [List.mem_cons, List.not_mem_nil, or_false, not_or] at hb
      exact (sb.2 b hb.1).trans (hk b ob hb.1 hb.2 q)
    have I1 : Inv X pins σ (upd H s.heap.objs.size (.tup [.int (i : Nat), x])) { s with heap := h'', toks := tk + 1 } := I.turnedNew (ch := [e, it]) kept hf (Nat.le_refl _) new
    refine ⟨.ref s.heap.objs.size, _, I1, rfl, ⟨_, x, rfl, I.hok.fresh (Nat.le_refl _), rfl, fun ys hy => by rw [I.tuple_inj hy hq]; exact hx⟩, ⟨⟨y, ?_⟩, hs'.1.at fun o q => (sb.2 it (Ne.symm hne)).trans q, hne⟩, fun b hb => ?_⟩
    · rw [show ((i + 1 : Nat) : Int) = (i : Int) + 1 by omega]; exact he'
    · have lt : b < s.heap.objs.size := by
        rcases two hb with z | z
        · rw [z]; exact hel
        · rw [z]; exact hil
      rw [upd_ne (Nat.ne_of_lt lt)]
      exact (hf b hb).1
  · intro X hP hw hK hc i pins s σ H E I hf st hg
    subst hP hw hK
    obtain ⟨⟨old, he⟩, hit, hne⟩ := st
    obtain ⟨xs, hq, hx⟩ := hg
    obtain ⟨its, rv, p, hz⟩ := I.tuple hq
    obtain ⟨f0, f1, f2, f3, f4, f5⟩ := hf it (by simp)
    have hl := rv.length
    have hfin : its.toArray.size = i := by simp; omega
    subst hx
    have Dr := Draws.tuple (prog := X.prog) (w := X.w) (A := X.A.in1) (I.ok.hd hc) it a hai its.toArray
    rw [← hfin] at hit he
    exact wpAny_pyNext_enum_endD Dr he ⟨hit, show s.heap.IsTuple a its.toArray from p⟩ fun h' eb => ⟨rfl, I.turned (t' := s.toks) (fun b o hb q => eb b o hb q) f0 f1 f3 f4 f5⟩
/-- enumerate of a list or a tuple -/
def iEnumA (K : PySem.W.Frag) (ta : TA) : TI := fun σ H R => ta σ H fun vs H1 => (∃ a xs, vs = [.ref a] ∧ SqL K H1 a xs ∧ R (Ite K a) H1) ∨ ∃ a xs, vs = [.ref a] ∧ SqT K H1 a xs ∧ R (IteT K a) H1
theorem pi_enumA {X : Cx} {e : Expr} {ta : TA} {p pos tpos : Pos} {elts : List Expr} {kk : Nat} (hg : Gl X "enumerate") (hm : X.mg "enumerate" = none) (ha : PA X [e] ta) (hs : starEach [e] X.env = [(false, eval e X.env)]) :
    PI X (.Tuple elts kk tpos) (.Call (.Name "enumerate" p) [e] [] pos) (iEnumA X.K ta) := by
  refine ⟨fun pins s σ H R I h => ?_⟩
  refine Call_ (ld_blt I hg hm bt_enumerate (PyProof.Rows.callWith_type1 (thn (ha.run pos pins s σ H _ I h) fun us s1 ⟨vs, H1, I1, r1, q1⟩ => ?_) hs rfl))
  have le2 : ∀ {b : Addr}, b ∈ [s1.heap.objs.size + 1, s1.heap.objs.size] → s1.heap.objs.size ≤ b := fun {b} hb => by
    have z : b = s1.heap.objs.size + 1 ∨ b = s1.heap.objs.size := by simpa using hb
    rcases z with z | z <;> rw [z]
    · exact Nat.le_succ _
    · exact Nat.le_refl _
  rcases q1 with ⟨a, xs, rfl, hq, q⟩ | ⟨a, xs, rfl, hq, q⟩
  · obtain ⟨u, rfl, r⟩ := vals1 r1
    cases r
    obtain ⟨its, rv, p', hz⟩ := I1.list hq
    exact call_enumerate_list p'.isList fun h' he hit hsz hk => wpAny_pyIter_enum he ⟨s1.heap.objs.size + 1, _, _, _, H1, rfl, I1.kept (t' := s1.toks) hk, turn_enum a (s1.heap.objs.size + 1) s1.heap.objs.size, ⟨⟨.none, he⟩, hit, Nat.succ_ne_self _⟩,
      fun b hb => I1.fpOk (le2 hb) (I1.hok.fresh (le2 hb)), q⟩
  · obtain ⟨u, rfl, r⟩ := vals1 r1
    cases r
    obtain ⟨its, rv, p', hz⟩ := I1.tuple hq
    have alt : a < s1.heap.objs.size := p'.lt
    exact enum_call (begins_tuple a its.toArray) (show s1.heap.IsTuple a its.toArray from p') fun h' he ho hk => wpAny_pyIter_enum he ⟨s1.heap.objs.size + 1, _, _, _, H1, rfl, I1.kept (t' := s1.toks) hk,
      turn_enumT a (s1.heap.objs.size + 1) s1.heap.objs.size (Nat.ne_of_lt alt) (Nat.ne_of_lt (Nat.lt_succ_of_lt alt)), ⟨⟨.none, he⟩, ⟨_, ho, rfl, rfl⟩, Nat.succ_ne_self _⟩, fun b hb => I1.fpOk (le2 hb) (I1.hok.fresh (le2 hb)), q⟩
def diEnum (t : DA) (ρ : DEnv) (c : Nat) (Q : List D → Nat → Prop) : Prop := t ρ c fun ds c1 => match ds with
  | [.lst l] => Q (numbered 0 l) c1
  | [.tup l] => Q (numbered 0 l) c1
  | _ => False
theorem walkD_enumL {K : PySem.W.Frag} {a : Addr} {xs : List V} {ds : List D} {G0 : GS} (h : SqL K G0.f a xs) (r : RpAll K G0 xs ds) : WalkD K (Ite K a) (numbered 0 ds) G0 :=
  walkD_enum r (fun i x G H le s e => ⟨xs, x, SqL.same (le.f.trans s) h, e⟩) (fun G H le s => ⟨xs, SqL.same (le.f.trans s) h, Nat.le_refl _⟩) fun i v G H H' le s ⟨T, x, e1, e2, e3, e4⟩ => ⟨T, x, e1, e2, e3, e4 xs (SqL.same (le.f.trans s) h)⟩
theorem walkD_enumT {K : PySem.W.Frag} {a : Addr} {xs : List V} {ds : List D} {G0 : GS} (h : SqT K G0.f a xs) (r : RpAll K G0 xs ds) : WalkD K (IteT K a) (numbered 0 ds) G0 :=
  walkD_enum r (fun i x G H le s e => ⟨xs, x, SqT.same (le.f.trans s) h, e⟩) (fun G H le s => ⟨xs, SqT.same (le.f.trans s) h, rfl⟩) fun i v G H H' le s ⟨T, x, e1, e2, e3, e4⟩ => ⟨T, x, e1, e2, e3, e4 xs (SqT.same (le.f.trans s) h)⟩
theorem pdi_enum {Y : Ctx} {e : Expr} {fa : TA} {t : DA} {p pos tpos : Pos} {elts : List Expr} {kk : Nat} (hm : Y.X.mg "enumerate" = none) (ha : PDA Y [e] fa t) (hg : Gl Y.X "enumerate" := by rfl) (hs : starEach [e] Y.X.env = [(false, eval e Y.X.env)] := by rfl) :
    PDI Y (.Tuple elts kk tpos) (.Call (.Name "enumerate" p) [e] [] pos) (iEnumA Y.X.K fa) (diEnum t) := by
  refine ⟨pi_enumA hg hm ha.p hs, fun G H c ρ σ Qd R Rl q k => ?_⟩
  refine ha.s G H c ρ σ _ _ Rl q fun ds vs G1 H1 c1 ev r q => ?_
  split at q
  · cases r with
    | cons r rr =>
      cases rr
      cases r with
      | lst h1 h2 => exact .inl ⟨_, _, rfl, SqL.same ev.ok.same h1, k _ _ G1 H1 c1 ev (walkD_enumL h1 h2) q⟩
  · cases r with
    | cons r rr =>
      cases rr
      cases r with
      | tup h1 h2 => exact .inr ⟨_, _, rfl, SqT.same ev.ok.same h1, k _ _ G1 H1 c1 ev (walkD_enumT h1 h2) q⟩
  · exact q.elim
end PL

namespace PL
open PySem PySem.Spec PyProof.Rows L2

/-- a comprehension whose element is f of the item (none: left out), and that draws nothing -/
theorem lc_by {L : List D} {c : Nat} {g : DG} {tt : DT} {te : DE} {vs : List Nat} {ρ : DEnv} {Q : QD} (f : D → Option D) (hL : L.length ≤ sizeLine)
    (step : ∀ x, x ∈ L → ∀ (R : QD) (R0 : Nat → Prop), (∀ y, f x = some y → R y c) → (f x = none → R0 c) → g x (wipeD ρ vs) c fun ρ2 c2 => tt ρ2 c2 fun b c3 => if b = true then te ρ2 c3 R else R0 c3) (hq : Q (.lst (L.filterMap f)) c) : LcB g tt te vs ρ L c Q := by
  refine ⟨fun k acc c' => c' = c ∧ acc = (L.take k).filterMap f, ⟨rfl, by simp⟩, ?_, ?_⟩
  · rintro k x acc c' hk ⟨rfl, rfl⟩
    have hlt : k < L.length := (List.getElem?_eq_some_iff.mp hk).1
    have tk : L.take (k + 1) = L.take k ++ [x] := by rw [List.take_succ, hk]; rfl
    refine step x (List.mem_of_getElem? hk) _ _ (fun y hy => ⟨?_, rfl, ?_⟩) fun hn => ⟨rfl, ?_⟩
    · have h1 : ((L.take k).filterMap f).length ≤ (L.take k).length := List.length_filterMap_le _ _
      have h2 : (L.take k).length ≤ k := List.length_take_le _ _
      omega
    · rw [tk, List.filterMap_append]
      simp [hy]
    · rw [tk, List.filterMap_append]
      simp [hn]
  · rintro acc c' ⟨rfl, rfl⟩
    rw [List.take_length]
    exact hq
theorem mb_int : ("int" ∈ basics) = True := eq_true (by decide +kernel)
theorem mb_str : ("str" ∈ basics) = True := eq_true (by decide +kernel)
theorem mb_bool : ("bool" ∈ basics) = True := eq_true (by decide +kernel)
theorem mb_tuple : ("tuple" ∈ basics) = True := eq_true (by decide +kernel)
theorem mb_list : ("list" ∈ basics) = True := eq_true (by decide +kernel)
theorem mb_dict : ("dict" ∈ basics) = True := eq_true (by decide +kernel)
theorem b2n_nonneg (b : Bool) : 0 ≤ b2n b ∧ b2n b ≤ 1 := by cases b <;> decide
/-- the items of a list by their place, with a place that is a number -/
theorem atI_lt {α : Type} {xs : List α} {i : Int} (h0 : 0 ≤ i) (h : i < xs.length) : ∃ v, atI xs i = some v ∧ v ∈ xs := by
  obtain ⟨j, rfl⟩ : ∃ j : Nat, i = (j : Int) := ⟨i.toNat, by omega⟩
  have hj : j < xs.length := by omega
  exact ⟨xs[j], atI_nat (by simp [hj]), List.getElem_mem hj⟩
theorem bools_map {α : Type} (p : α → Bool) : ∀ l : List α, bools (l.map fun x => .bl (p x)) = some (l.map p)
  | [] => rfl
  | x :: l => by simp [bools, bools_map p l]
theorem filterMap_some {α β : Type} (f : α → β) (l : List α) : l.filterMap (fun x => some (f x)) = l.map f := by
  induction l with
  | nil => rfl
  | cons x l ih => simp [ih]
/-- a sign lies between the blank and the tilde -/
def signOk : D → Bool
  | .str z => !decide (z.cps.toList < (" " : Str).cps.toList) && !decide (("~" : Str).cps.toList < z.cps.toList)
  | _ => false
def okStr (x : Str) : Bool := (signs x).all signOk
def isStr : D → Bool
  | .str x => okStr x
  | _ => false
theorem signs_length (x : Str) : (signs x).length = x.length := by simp [signs, Str.length]
theorem signs_str {x : Str} {d : D} (h : d ∈ signs x) : ∃ z, d = .str z := by
  unfold signs at h
  obtain ⟨c, _, rfl⟩ := List.mem_map.mp h
  exact ⟨_, rfl⟩
end PL

namespace PL
open PySem PySem.Spec PyProof.Rows L2

/-! ### == of data by data alone -/
mutual
def eqD : D → D → Bool
  | .non, .non => true
  | .bl a, .bl b => a == b
  | .bl a, .int j => b2n a == j
  | .int i, .bl b => i == b2n b
  | .int i, .int j => i == j
  | .str x, .str y => x == y
  | .tup l, .tup m => eqDs l m
  | .lst l, .lst m => eqDs l m
  | _, _ => false
def eqDs : List D → List D → Bool
  | [], [] => true
  | x :: l, y :: m => eqD x y && eqDs l m
  | _, _ => false
end
/-- plain data, at most n deep, no text longer than a thousand -/
def Pl : Nat → D → Prop
  | _, .non => True
  | _, .bl _ => True
  | _, .int _ => True
  | _, .str x => x.length ≤ 1000 ∧ PyData.strOk x = true
  | n + 1, .tup l => ∀ d, d ∈ l → Pl n d
  | n + 1, .lst l => ∀ d, d ∈ l → Pl n d
  | _, _ => False
theorem toPs_pl {n : Nat} (ih : ∀ d, Pl n d → ∃ p, toP d = some p ∧ p.canLay0 = true ∧ p.depth ≤ n) : ∀ {l : List D}, (∀ d, d ∈ l → Pl n d) → ∃ ps, toPs l = some ps ∧ PyData.canLayAll0 ps = true ∧ PyData.depthAll ps ≤ n
  | [], _ => ⟨[], by unfold toPs; rfl, rfl, by simp [PyData.depthAll]⟩
  | d :: l, h => by
    obtain ⟨p, h1, h2, h3⟩ := ih d (h d List.mem_cons_self)
    obtain ⟨ps, g1, g2, g3⟩ := toPs_pl ih (l := l) fun d hd => h d (List.mem_cons_of_mem _ hd)
    refine ⟨p :: ps, by unfold toPs; rw [h1, g1]; rfl, by simp [PyData.canLayAll0, h2, g2], by simp [PyData.depthAll]; omega⟩
theorem Pl.toP : ∀ {n : Nat} {d : D}, Pl n d → ∃ p, PL.toP d = some p ∧ p.canLay0 = true ∧ p.depth ≤ n
  | n, .non, _ => ⟨.none, by unfold PL.toP; rfl, rfl, by simp [PyData.depth]⟩
  | n, .bl b, _ => ⟨.bool b, by unfold PL.toP; rfl, rfl, by simp [PyData.depth]⟩
  | n, .int b, _ => ⟨.int b, by unfold PL.toP; rfl, rfl, by simp [PyData.depth]⟩
  | n, .str b, h => ⟨.str b, by unfold PL.toP; rfl, by
      have h : b.length ≤ 1000 ∧ PyData.strOk b = true := by cases n <;> exact h
      exact h.2, by simp [PyData.depth]⟩
  | n + 1, .tup l, h => by
    obtain ⟨ps, g1, g2, g3⟩ := toPs_pl (n := n) (fun d hd => Pl.toP hd) h
    exact ⟨.tuple ps, by unfold PL.toP; rw [g1]; rfl, g2, by simp [PyData.depth]; omega⟩
  | n + 1, .lst l, h => by
    obtain ⟨ps, g1, g2, g3⟩ := toPs_pl (n := n) (fun d hd => Pl.toP hd) h
    exact ⟨.list ps, by unfold PL.toP; rw [g1]; rfl, g2, by simp [PyData.depth]; omega⟩
  | 0, .tup l, h => h.elim
  | 0, .lst l, h => h.elim
  | n, .ty _, h => by cases n <;> exact h.elim
  | n, .cls _, h => by cases n <;> exact h.elim
  | n, .dct _ _, h => by cases n <;> exact h.elim
  | n, .ins _ _ _, h => by cases n <;> exact h.elim
  | n, .opq, h => by cases n <;> exact h.elim
mutual
theorem eqv_eqD : ∀ (x y : D) {p q : PyData}, toP x = some p → toP y = some q → PyData.eqv p q = eqD x y
  | .tup l, y, p, q, h1, h2 => by
    unfold toP at h1
    obtain ⟨ps, e, rfl⟩ := Option.map_eq_some_iff.mp h1
    cases y <;> unfold toP at h2 <;> first
      | (cases h2; done)
      | (cases h2; simp [PyData.eqv, eqD]; done)
      | (obtain ⟨qs, e2, rfl⟩ := Option.map_eq_some_iff.mp h2; first | (simp [PyData.eqv, eqD]; done) | (simp only [PyData.eqv, eqD]; exact eqvAll_eqDs l _ e e2))
  | .lst l, y, p, q, h1, h2 => by
    unfold toP at h1
    obtain ⟨ps, e, rfl⟩ := Option.map_eq_some_iff.mp h1
    cases y <;> unfold toP at h2 <;> first
      | (cases h2; done)
      | (cases h2; simp [PyData.eqv, eqD]; done)
      | (obtain ⟨qs, e2, rfl⟩ := Option.map_eq_some_iff.mp h2; first | (simp [PyData.eqv, eqD]; done) | (simp only [PyData.eqv, eqD]; exact eqvAll_eqDs l _ e e2))
  | .non, y, p, q, h1, h2 => by
    unfold toP at h1; cases h1
    cases y <;> unfold toP at h2 <;> first | (cases h2; done) | (cases h2; simp [PyData.eqv, eqD]; done) | (obtain ⟨qs, e2, rfl⟩ := Option.map_eq_some_iff.mp h2; simp [PyData.eqv, eqD])
  | .bl b, y, p, q, h1, h2 => by
    unfold toP at h1; cases h1
    cases y <;> unfold toP at h2 <;> first | (cases h2; done) | (cases h2; cases b <;> simp [PyData.eqv, eqD, b2n]; done) | (obtain ⟨qs, e2, rfl⟩ := Option.map_eq_some_iff.mp h2; simp [PyData.eqv, eqD])
  | .int b, y, p, q, h1, h2 => by
    unfold toP at h1; cases h1
    cases y <;> unfold toP at h2 <;> first | (cases h2; done) | (cases h2; simp [PyData.eqv, eqD, b2n]; done) | (cases h2; rename_i k; cases k <;> simp [PyData.eqv, eqD, b2n]; done) | (obtain ⟨qs, e2, rfl⟩ := Option.map_eq_some_iff.mp h2; simp [PyData.eqv, eqD])
  | .str b, y, p, q, h1, h2 => by
    unfold toP at h1; cases h1
    cases y <;> unfold toP at h2 <;> first | (cases h2; done) | (cases h2; simp [PyData.eqv, eqD]; done) | (obtain ⟨qs, e2, rfl⟩ := Option.map_eq_some_iff.mp h2; simp [PyData.eqv, eqD])
  | .ty _, _, _, _, h1, _ => by unfold toP at h1; cases h1
  | .cls _, _, _, _, h1, _ => by unfold toP at h1; cases h1
  | .dct _ _, _, _, _, h1, _ => by unfold toP at h1; cases h1
  | .ins _ _ _, _, _, _, h1, _ => by unfold toP at h1; cases h1
  | .opq, _, _, _, h1, _ => by unfold toP at h1; cases h1
theorem eqvAll_eqDs : ∀ (l m : List D) {ps qs : List PyData}, toPs l = some ps → toPs m = some qs → PyData.eqvAll ps qs = eqDs l m
  | [], [], ps, qs, h1, h2 => by unfold toPs at h1 h2; cases h1; cases h2; simp [PyData.eqvAll, eqDs]
  | [], y :: m, ps, qs, h1, h2 => by
    unfold toPs at h1 h2
    cases h1
    obtain ⟨p, e1, e2⟩ := Option.bind_eq_some_iff.mp h2
    obtain ⟨r, e3, rfl⟩ := Option.map_eq_some_iff.mp e2
    simp [PyData.eqvAll, eqDs]
  | x :: l, [], ps, qs, h1, h2 => by
    unfold toPs at h1 h2
    cases h2
    obtain ⟨p, e1, e2⟩ := Option.bind_eq_some_iff.mp h1
    obtain ⟨r, e3, rfl⟩ := Option.map_eq_some_iff.mp e2
    simp [PyData.eqvAll, eqDs]
  | x :: l, y :: m, ps, qs, h1, h2 => by
    unfold toPs at h1 h2
    obtain ⟨p, e1, e2⟩ := Option.bind_eq_some_iff.mp h1
    obtain ⟨r, e3, rfl⟩ := Option.map_eq_some_iff.mp e2
    obtain ⟨p', f1, f2⟩ := Option.bind_eq_some_iff.mp h2
    obtain ⟨r', f3, rfl⟩ := Option.map_eq_some_iff.mp f2
    simp only [PyData.eqvAll, eqDs]
    rw [eqv_eqD x y e1 f1, eqvAll_eqDs l m e3 f3]
end
theorem Pl.succ : ∀ {n : Nat} {d : D}, Pl n d → Pl (n + 1) d
  | n, .non, _ => trivial
  | n, .bl b, _ => trivial
  | n, .int b, _ => trivial
  | n, .str b, h => by cases n <;> exact h
  | n + 1, .tup l, h => fun d hd => Pl.succ (h d hd)
  | n + 1, .lst l, h => fun d hd => Pl.succ (h d hd)
  | 0, .tup l, h => h.elim
  | 0, .lst l, h => h.elim
  | n, .ty _, h => by cases n <;> exact h.elim
  | n, .cls _, h => by cases n <;> exact h.elim
  | n, .dct _ _, h => by cases n <;> exact h.elim
  | n, .ins _ _ _, h => by cases n <;> exact h.elim
  | n, .opq, h => by cases n <;> exact h.elim
theorem Pl.mono {n m : Nat} {d : D} (h : Pl n d) (le : n ≤ m) : Pl m d := by
  obtain ⟨k, rfl⟩ : ∃ k, m = n + k := ⟨m - n, by omega⟩
  clear le
  induction k with
  | zero => exact h
  | succ k ih => exact ih.succ
theorem Pl_int (n : Nat) (i : Int) : Pl n (.int i) = True := eq_true (by cases n <;> trivial)
theorem Pl_bl (n : Nat) (i : Bool) : Pl n (.bl i) = True := eq_true (by cases n <;> trivial)
theorem Pl_non (n : Nat) : Pl n .non = True := eq_true (by cases n <;> trivial)
theorem Pl_tup (n : Nat) (l : List D) : Pl (n + 1) (.tup l) = ∀ d, d ∈ l → Pl n d := rfl
theorem Pl_lst (n : Nat) (l : List D) : Pl (n + 1) (.lst l) = ∀ d, d ∈ l → Pl n d := rfl
theorem atI_0 {α : Type} (x : α) (l : List α) : atI (x :: l) 0 = some x := atI_nat (j := 0) rfl
theorem atI_1 {α : Type} (x y : α) (l : List α) : atI (x :: y :: l) 1 = some y := atI_nat (j := 1) rfl
theorem atI_2 {α : Type} (x y z : α) (l : List α) : atI (x :: y :: z :: l) 2 = some z := atI_nat (j := 2) rfl
def aEqD (x y : D) (c : Nat) (Q : QD) : Prop := Pl 60 x ∧ Pl 60 y ∧ Q (.bl (eqD x y)) c
def aNeD (x y : D) (c : Nat) (Q : QD) : Prop := Pl 60 x ∧ Pl 60 y ∧ Q (.bl (!eqD x y)) c
theorem Pl.plain {d : D} (h : Pl 60 d) : ∃ p, plainP d p := by
  obtain ⟨p, h1, h2, h3⟩ := h.toP
  exact ⟨p, h1, by simp only [SeqAt.shaped, h2, Bool.true_and, decide_eq_true_eq]; omega⟩
theorem br_eqD {K : PySem.W.Frag} : Br2 K (rEqD K) aEqD := br_eq.imp fun x y c Q ⟨h1, h2, q⟩ => by
  obtain ⟨p, hp⟩ := h1.plain
  obtain ⟨r, hr⟩ := h2.plain
  exact ⟨p, r, hp, hr, by rw [eqv_eqD x y hp.1 hr.1]; exact q⟩
theorem br_neD {K : PySem.W.Frag} : Br2 K (rNeD K) aNeD := br_ne.imp fun x y c Q ⟨h1, h2, q⟩ => by
  obtain ⟨p, hp⟩ := h1.plain
  obtain ⟨r, hr⟩ := h2.plain
  exact ⟨p, r, hp, hr, by rw [eqv_eqD x y hp.1 hr.1]; exact q⟩
section
variable {Y : Ctx} {a b : Expr} {ea eb : TE} {ta tb : DE} {pos : Pos} {k : Nat}
theorem pdc_eqD (g : Y.Good k) (ha : PD Y a ea ta) (hb : PD Y b eb tb) : PDC Y .Eq a b (tOp (rEqD Y.X.K) ea eb) (dOp aEqD ta tb) := pdc_op (op_eqD g.room.units) br_eqD ha hb
theorem pdc_neD (g : Y.Good k) (ha : PD Y a ea ta) (hb : PD Y b eb tb) : PDC Y .NotEq a b (tOp (rNeD Y.X.K) ea eb) (dOp aNeD ta tb) := pdc_op (op_neD g.room.units) br_neD ha hb
end
end PL

namespace PL
open PySem PySem.Spec PyProof.Rows L2

/-! ### readings evaluated: what simp goes through, in the order of the run -/
def Nx [u : DEnv → Nat → Prop] (ρ : DEnv) (c : Nat) : Prop := u ρ c
theorem ev_nx {u : DEnv → Nat → Prop} {ρ : DEnv} {c : Nat} : @Nx u ρ c = u ρ c := rfl
/-- two ways, none of them looked at ahead of the test -/
def Br (b : Bool) [A : Prop] [B : Prop] : Prop := if b = true then A else B
theorem ev_brT {A B : Prop} : @Br true A B = A := by simp [Br]
theorem ev_brF {A B : Prop} : @Br false A B = B := by simp [Br]
theorem Br.by {b : Bool} {A B : Prop} (h1 : b = true → A) (h2 : b = false → B) : @Br b A B := by
  cases b with
  | true => rw [ev_brT]; exact h1 rfl
  | false => rw [ev_brF]; exact h2 rfl
theorem Br.t {b : Bool} {A B : Prop} (h : b = true) (k : A) : @Br b A B := by rw [h, ev_brT]; exact k
theorem Br.f {b : Bool} {A B : Prop} (h : b = false) (k : B) : @Br b A B := by rw [h, ev_brF]; exact k
def asB (x : D) [P : Bool → Prop] : Prop := ∃ b, x = .bl b ∧ P b
theorem ev_asB {b : Bool} {P : Bool → Prop} : @asB (.bl b) P = P b := by simp [asB]
def atP (o : Option D) [P : D → Prop] : Prop := ∃ d, o = some d ∧ P d
theorem ev_atP {d : D} {P : D → Prop} : @atP (some d) P = P d := by simp [atP]
theorem atP.mk {o : Option D} {P : D → Prop} {d : D} (h : o = some d) (k : P d) : @atP o P := ⟨d, h, k⟩
def itP (d : D) (P : List D → Prop) : Prop := ∃ L, items d = some L ∧ P L
/-- a def is called -/
def Run [sp : SpD] (ds : List D) [c : Nat] [Q : QD] [E : EDt] : Prop := sp ds c Q E
def isNon : D → Bool
  | .non => true
  | _ => false
section
variable {i n k : Nat} {ρ : DEnv} {c : Nat} {Q : QD} {QL : List D → Nat → Prop} {QB : Bool → Nat → Prop} {QE : DEnv → Nat → Prop} {QO : Option Int → Nat → Prop} {d e : D} {s : Sl} {ta tb tc te : DE} {t tr tk : DA} {rd rd' : RD2} {rd1 : RD1} {rn : RDn} {rs : RDs} {tA tB : DT} {a b : Int} {x y : Str} {l m : List D} {p q : Bool}
  {st su : DS} {DD : DEnds} {g : DG} {gs : DGs} {ti : DI} {vs : List Nat} {tl th : DO} {lo hi : Option Int} {sp : SpD} {ED : EDt} {IC : Addr → Prop} {T : String} {gD : List D → List D → List D}
theorem ev_var0 : dVar 0 (.fz d :: ρ) c Q = Q d c := by simp [dVar]
theorem ev_varS : dVar (i + 1) (s :: ρ) c Q = dVar i ρ c Q := by simp [dVar]
theorem ev_c : dC d ρ c Q = Q d c := rfl
theorem ev_op : dOp rd ta tb ρ c Q = ta ρ c fun x c1 => tb ρ c1 fun y c2 => rd x y c2 Q := rfl
theorem ev_un : dUn rd1 ta ρ c Q = ta ρ c fun x c1 => rd1 x c1 Q := rfl
theorem ev_chain : dChain rd rd' ta tb tc ρ c Q = ta ρ c fun x c1 => tb ρ c1 fun y c2 => rd x y c2 fun z c3 => @asB z fun k => @Br k (tc ρ c3 fun w c4 => rd' y w c4 Q) (Q (.bl false) c3) := rfl
theorem ev_tchain : dtChain rd rd' ta tb tc ρ c QB = ta ρ c fun x c1 => tb ρ c1 fun y c2 => rd x y c2 fun z c3 => @asB z fun k => @Br k (tc ρ c3 fun w c4 => rd' y w c4 fun u c5 => @asB u fun m => QB m c5) (QB false c3) := rfl
theorem ev_nil : dNil ρ c QL = QL [] c := rfl
theorem ev_cons : dCons ta t ρ c QL = ta ρ c fun x c1 => t ρ c1 fun xs c2 => QL (x :: xs) c2 := rfl
theorem ev_cb : dCB rn t ρ c Q = t ρ c fun ds c1 => rn ds c1 Q := rfl
theorem ev_tup : dTup t ρ c Q = t ρ c fun ds c1 => ds.length ≤ 16777216 ∧ Q (.tup ds) c1 := by rw [← sizeLine_eq]; rfl
theorem ev_lst : dLst t ρ c Q = t ρ c fun ds c1 => ds.length ≤ 16777216 ∧ Q (.lst ds) c1 := by rw [← sizeLine_eq]; rfl
theorem ev_b : dB ta ρ c QB = ta ρ c fun x c1 => @asB x fun b => QB b c1 := rfl
theorem ev_andV : dAndV ta tb ρ c Q = ta ρ c fun x c1 => @asB x fun b => @Br b (tb ρ c1 Q) (Q (.bl false) c1) := rfl
theorem ev_orV : dOrV ta tb ρ c Q = ta ρ c fun x c1 => @asB x fun b => @Br b (Q (.bl true) c1) (tb ρ c1 Q) := rfl
theorem ev_notV : dNotV ta ρ c Q = ta ρ c fun x c1 => @asB x fun b => Q (.bl (!b)) c1 := rfl
theorem ev_if : dIf tA ta tb ρ c Q = tA ρ c fun b c1 => @Br b (ta ρ c1 Q) (tb ρ c1 Q) := rfl
theorem ev_tand : dtAnd tA tB ρ c QB = tA ρ c fun b c1 => @Br b (tB ρ c1 QB) (QB false c1) := rfl
theorem ev_tor : dtOr tA tB ρ c QB = tA ρ c fun b c1 => @Br b (QB true c1) (tB ρ c1 QB) := rfl
theorem ev_tnot : dtNot tA ρ c QB = tA ρ c fun b c1 => QB (!b) c1 := rfl
theorem ev_yes : dtYes ρ c QB = QB true c := rfl
theorem ev_next : sNext DD ρ c = DD.nx ρ c := rfl
theorem ev_seq : sSeq st su DD ρ c = st { DD with nx := su DD } ρ c := rfl
theorem ev_ret : sRet te DD ρ c = te ρ c DD.rt := rfl
theorem ev_retN : sRetN DD ρ c = DD.rt .non c := rfl
theorem ev_brk : sBreak DD ρ c = DD.bk ρ c := rfl
theorem ev_cnt : sCont DD ρ c = DD.ct ρ c := rfl
theorem ev_sif : sIf tA st su DD ρ c = tA ρ c fun b c1 => @Br b (st DD ρ c1) (su DD ρ c1) := rfl
theorem ev_drop : sDrop te DD ρ c = te ρ c fun _ c1 => DD.nx ρ c1 := rfl
theorem ev_set : sSet i te DD ρ c = te ρ c fun d c1 => @Nx DD.nx (ρ.set i (.fz d)) c1 := rfl
theorem ev_asg : sAsg te g DD ρ c = te ρ c fun d c1 => g d ρ c1 DD.nx := rfl
theorem ev_kname : kName i d ρ c QE = @Nx QE (ρ.set i (.fz d)) c := rfl
theorem ev_knil : kNil [] ρ c QE = QE ρ c := by simp [kNil]
theorem ev_kcons : kCons g gs (d :: l) ρ c QE = g d ρ c fun ρ' c' => gs l ρ' c' QE := by
  apply propext; constructor
  · rintro ⟨_, _, e, q⟩; cases e; exact q
  · intro q; exact ⟨_, _, rfl, q⟩
theorem ev_ktup : kTup n gs (.tup l) ρ c QE = (l.length = n ∧ gs l ρ c QE) := by simp [kTup]
theorem ev_for : sFor ti g st DD ρ c = ti ρ c fun L c1 => ForB g st DD ρ L c1 := rfl
theorem ev_lc : dLc ti g tA te vs ρ c Q = ti ρ c fun L c1 => LcB g tA te vs ρ L c1 Q := rfl
theorem ev_any : diAny te ρ c QL = te ρ c fun d c1 => itP d fun L => QL L c1 := rfl
theorem ev_anyL {P : List D → Prop} : itP (.lst l) P = P l := by simp [itP, items]
theorem ev_anyT {P : List D → Prop} : itP (.tup l) P = P l := by simp [itP, items]
theorem ev_anyS {P : List D → Prop} : itP (.str x) P = P (signs x) := by simp [itP, items]
def rg1 (ds : List D) (P : Int → Prop) : Prop := ∃ j : Int, ds = [.int j] ∧ -(2 ^ 62) ≤ j ∧ j < 2 ^ 62 ∧ P j
theorem ev_rng1 : diRng1 t ρ c QL = t ρ c fun ds c1 => rg1 ds fun j => QL (upInts 0 j.toNat) c1 := rfl
theorem ev_rng1i {P : Int → Prop} : rg1 [D.int a] P = (-(2 ^ 62) ≤ a ∧ a < 2 ^ 62 ∧ P a) := by simp [rg1]
theorem ev_rng2 : diRng2 t ρ c QL = t ρ c fun ds c1 => ∃ i j : Int, ds = [.int i, .int j] ∧ (-(2 ^ 62) ≤ i ∧ i < 2 ^ 62 ∧ -(2 ^ 62) ≤ j ∧ j < 2 ^ 62) ∧ QL (upInts i (j - i).toNat) c1 := rfl
theorem ev_rng2i : (∃ i j : Int, [D.int a, D.int b] = [.int i, .int j] ∧ (-(2 ^ 62) ≤ i ∧ i < 2 ^ 62 ∧ -(2 ^ 62) ≤ j ∧ j < 2 ^ 62) ∧ QL (upInts i (j - i).toNat) c) = ((-(2 ^ 62) ≤ a ∧ a < 2 ^ 62 ∧ -(2 ^ 62) ≤ b ∧ b < 2 ^ 62) ∧ QL (upInts a (b - a).toNat) c) := by
  apply propext
  constructor
  · rintro ⟨i, j, h, q⟩
    cases h
    exact q
  · intro q
    exact ⟨a, b, rfl, q⟩
theorem ev_enum : diEnum t ρ c QL = t ρ c fun ds c1 => match ds with | [.lst l] => QL (numbered 0 l) c1 | [.tup l] => QL (numbered 0 l) c1 | _ => False := rfl
theorem ev_sl : dSl rs te tl th ρ c Q = te ρ c fun x c1 => tl ρ c1 fun l c2 => th ρ c2 fun u c3 => rs x l u c3 Q := rfl
theorem ev_nop : dNoPart ρ c QO = QO none c := rfl
def asI (d : D) (P : Int → Prop) : Prop := ∃ i, d = .int i ∧ P i
theorem ev_part : dPart te ρ c QO = te ρ c fun d c1 => asI d fun i => QO (some i) c1 := rfl
theorem ev_asI {P : Int → Prop} : asI (.int a) P = P a := by simp [asI]
theorem ev_call {dds : List D} : dCall ED sp dds t ρ c Q = t ρ c fun ds c1 => @Run sp (ds ++ dds) c1 Q ED := rfl
theorem ev_callK : dCallK ED n k sp gD t tk ρ c Q = t ρ c fun ds c1 => tk ρ c1 fun es c2 => ds.length = n ∧ es.length = k ∧ @Run sp (gD ds es) c2 Q ED := rfl
theorem ev_plusI : aPlus (.int a) (.int b) c Q = Q (.int (a + b)) c := rfl
theorem ev_plusS : aPlus (.str x) (.str y) c Q = (x.length + y.length ≤ 16777216 ∧ Q (.str (x ++ y)) c) := by rw [← sizeLine_eq]; rfl
theorem ev_plusT : aPlus (.tup l) (.tup m) c Q = (l.length + m.length ≤ 16777216 ∧ Q (.tup (l ++ m)) c) := by rw [← sizeLine_eq]; rfl
theorem ev_i0 {f : Int → Int → D} : rdI0 f (.int a) (.int b) c Q = Q (f a b) c := by
  apply propext; constructor
  · rintro ⟨i, j, e1, e2, q⟩; cases e1; cases e2; exact q
  · intro q; exact ⟨a, b, rfl, rfl, q⟩
theorem ev_iC {C : Int → Int → Prop} {f : Int → Int → D} : rdI C f (.int a) (.int b) c Q = (C a b ∧ Q (f a b) c) := by
  apply propext; constructor
  · rintro ⟨i, j, e1, e2, q⟩; cases e1; cases e2; exact q
  · intro q; exact ⟨a, b, rfl, rfl, q⟩
theorem ev_leI : aLeP (.int a) (.int b) c Q = Q (.bl (decide (a ≤ b))) c := rfl
theorem ev_leS : aLeP (.str x) (.str y) c Q = Q (.bl (!decide (y.cps.toList < x.cps.toList))) c := rfl
theorem ev_isN : aIsN d .non c Q = Q (.bl (isNon d)) c := by cases d <;> simp [aIsN, isNon]
theorem ev_notN : aNotN d .non c Q = Q (.bl (!isNon d)) c := by cases d <;> simp [aNotN, isNon]
theorem ev_itL : aItem (.lst l) (.int a) c Q = @atP (atI l a) fun d => Q d c := rfl
theorem ev_itT : aItem (.tup l) (.int a) c Q = @atP (atI l a) fun d => Q d c := rfl
theorem ev_slT : aSlice (.tup l) lo hi c Q = Q (.tup (cut l lo hi)) c := rfl
theorem ev_slL : aSlice (.lst l) lo hi c Q = Q (.lst (cut l lo hi)) c := rfl
theorem ev_lenL : aLen [.lst l] c Q = Q (.int l.length) c := rfl
theorem ev_lenT : aLen [.tup l] c Q = Q (.int l.length) c := rfl
theorem ev_lenS : aLen [.str x] c Q = (x.length ≤ 16777216 ∧ Q (.int x.length) c) := by rw [← sizeLine_eq]; rfl
theorem ev_intI : aInt [.int a] c Q = Q (.int a) c := rfl
theorem ev_intB : aInt [.bl p] c Q = Q (.int (b2n p)) c := rfl
theorem ev_isa : aIsa IC [d, .ty T] c Q = (T ∈ basics ∧ ((kind d).isSome = true ∨ ∃ C, isIns d = some C ∧ IC C) ∧ Q (.bl (isaB T d)) c) := rfl
theorem ev_listL : aListA [.lst l] c Q = Q (.lst l) c := rfl
theorem ev_listT : aListA [.tup l] c Q = Q (.lst l) c := rfl
theorem ev_tupL : aTupleA [.lst l] c Q = Q (.tup l) c := rfl
theorem ev_tupT : aTupleA [.tup l] c Q = Q (.tup l) c := rfl
theorem ev_max : aMax2 [.int a, .int b] c Q = Q (.int (if b > a then b else a)) c := rfl
theorem ev_min : aMin2 [.int a, .int b] c Q = Q (.int (if b < a then b else a)) c := rfl
theorem ev_eq : aEqD d e c Q = (Pl 60 d ∧ Pl 60 e ∧ Q (.bl (eqD d e)) c) := rfl
theorem ev_ne : aNeD d e c Q = (Pl 60 d ∧ Pl 60 e ∧ Q (.bl (!eqD d e)) c) := rfl
theorem ev_neg : dUn (fun x c Q => ∃ i, x = .int i ∧ Q (.int (-i)) c) ta ρ c Q = ta ρ c fun x c1 => asI x fun i => Q (.int (-i)) c1 := rfl
def allP (ds : List D) (P : Bool → Prop) : Prop := ∃ l bs, ds = [.lst l] ∧ bools l = some bs ∧ P (bs.all id)
theorem ev_all : bAll l c Q = allP l fun b => Q (.bl b) c := rfl
theorem allP.mk {P : Bool → Prop} {l : List D} {bs : List Bool} (h : bools l = some bs) (k : P (bs.all id)) : allP [.lst l] P := ⟨l, bs, rfl, h, k⟩
theorem ev_purse : dPurse t ρ c Q = t ρ c fun ds c1 => ∃ x y z : Int, ds = [.int x, .int y, .int z] ∧ 0 ≤ y ∧ y < 2 ^ 31 ∧ 0 ≤ z ∧ z ≤ 1000000 ∧ Q .opq c1 := rfl
theorem ev_pix : dPIx i n ρ c Q = (ρ[i]? = some (.fz .opq) ∧ ∀ x : Int, (n = 1 → 0 ≤ x ∧ x < 2 ^ 31) → (n = 2 → 0 ≤ x ∧ x ≤ 1000000 + (c : Int)) → Q (.int x) c) := rfl
theorem ev_pset : sPSet i n te DD ρ c = te ρ c fun d c1 => ρ[i]? = some (.fz .opq) ∧ ∃ x : Int, d = .int x ∧ ((n = 0 ∧ DD.nx ρ c1) ∨ (n = 2 ∧ 0 ≤ x ∧ x ≤ 1000000 + ((c1 + 1 : Nat) : Int) ∧ DD.nx ρ (c1 + 1))) := rfl
theorem n_non : isNon .non = true := rfl
theorem n_bl : isNon (.bl p) = false := rfl
theorem n_int : isNon (.int a) = false := rfl
theorem n_str : isNon (.str x) = false := rfl
theorem n_tup : isNon (.tup l) = false := rfl
theorem n_lst : isNon (.lst l) = false := rfl
theorem k_non : kind .non = some "NoneType" := rfl
theorem k_bl : kind (.bl p) = some "bool" := rfl
theorem k_int : kind (.int a) = some "int" := rfl
theorem k_str : kind (.str x) = some "str" := rfl
theorem k_tup : kind (.tup l) = some "tuple" := rfl
theorem k_lst : kind (.lst l) = some "list" := rfl
theorem i_non : isaB T .non = false := rfl
theorem i_bl : isaB T (.bl p) = (T == "bool" || T == "int") := rfl
theorem i_int : isaB T (.int a) = (T == "int") := rfl
theorem i_str : isaB T (.str x) = (T == "str") := rfl
theorem i_tup : isaB T (.tup l) = (T == "tuple") := rfl
theorem i_lst : isaB T (.lst l) = (T == "list") := rfl
end
theorem startD_eq {N : List Str} {ds : List D} : startD N ds = ds.map .fz ++ List.replicate (N.length - ds.length) .no := rfl
theorem cut_to {α : Type} (l : List α) {i : Int} (h0 : 0 ≤ i) : cut l none (some i) = l.take i.toNat := by
  obtain ⟨k, rfl⟩ : ∃ k : Nat, i = (k : Int) := ⟨i.toNat, by omega⟩
  unfold cut
  rw [HT.sIx_none, HT.sIx_nat, List.drop_zero, Nat.sub_zero, Int.toNat_natCast]
  by_cases h : k ≤ l.length
  · rw [Nat.min_eq_left h]
  · rw [Nat.min_eq_right (by omega), List.take_length, List.take_of_length_le (by omega)]
theorem cut_from {α : Type} (l : List α) {i : Int} (h0 : 0 ≤ i) : cut l (some i) none = l.drop i.toNat := by
  obtain ⟨k, rfl⟩ : ∃ k : Nat, i = (k : Int) := ⟨i.toNat, by omega⟩
  unfold cut
  rw [HT.sIx_none, HT.sIx_nat, Int.toNat_natCast]
  by_cases h : k ≤ l.length
  · rw [Nat.min_eq_left h, List.take_of_length_le (by simp)]
  · rw [Nat.min_eq_right (by omega), List.drop_of_length_le (Nat.le_refl _), List.drop_of_length_le (by omega)]
    simp
end PL

namespace PL
open PySem PySem.Spec PyProof.Rows L2

/-! ### the ends -/
theorem rp_ints {K : PySem.W.Frag} {G : GS} : ∀ ns : List Int, RpAll K G (ns.map V.int) (ns.map D.int)
  | [] => .nil
  | n :: ns => .cons (.int n) (rp_ints ns)
/-- the law's promise of data, at its script -/
theorem law_start {K : PySem.W.Frag} {sp : SpD} {H : Hp} {a : Addr} {ns : List Int} (hS : SqL K H a (ns.map V.int)) (h : sp [.lst (ns.map .int)] 0 (fun d _ => d = .bl true) fun _ _ _ _ => False) :
    spOf K sp [.ref a] H (fun v _ => v = .bl true) fun _ _ _ => False := by
  refine ⟨⟨H, fun _ => False⟩, 0, [.lst (ns.map .int)], _, _, ⟨fun _ _ h => h, fun _ h => h.elim, fun _ h => h.elim⟩, .cons (.lst hS (rp_ints ns)) .nil, h, fun d v G' H' c' _ r e => ?_, fun _ _ _ _ _ _ _ _ _ z => z⟩
  have e' : d = .bl true := e
  subst e'
  cases r
  rfl
/-- the law's call, the promise told at a world -/
theorem walk_at_world {l : PySem.W.OpenLaw} {n k : Nat} {q : Program} {loose : List Str} {XP : (Str → Option Value) → Heap → Prop} {YP : World → Heap → Prop} {d : DefRec} {x : Str}
    (hn : l.most = some n) (hn2 : n ≤ sizeLine) (hdf : d.params.defaults = []) (hr : Room k callerA)
    (F : ∀ (w : World) (mg : Str → Option Value) (fa : Addr) (h : Heap), YP w h → h.Ns mainGlobals mg → mg d.name = some (.ref fa) →
      ∃ (K : PySem.W.Frag) (fd : FuncData) (sp : SpD), K.In h ∧ (∀ (s : Shared) (u : Value), BindsTo s fd ⟨[u], []⟩ [(x, u)]) ∧
        (∀ ns : List Int, ns.length ≤ n → sp [.lst (ns.map .int)] 0 (fun d _ => d = .bl true) fun _ _ _ _ => False) ∧
        ∀ base : Heap, K.In base → base.Ns mainGlobals mg → FnOk l.prog w K mg base (L2.CX l.prog w) k fa fd [x] (spOf K sp)) :
    PySem.W.WalkO q loose XP YP l.row.toRowW d [] (fun f vs => PySem.call f vs) := by
  refine Att.attach_call hn hdf fun w s₀ s₁ mg mb fa o pm cd doc a vs ns G Y ho hd hcd hmg hobj hints hlen hg => ?_
  obtain ⟨K, fd, sp, KX, hb, hsp, hF⟩ := F w mg fa _ Y G.T.g hmg
  exact law_call KX G.T.g G.T.b G.T.builtins G.T.nolimit hg hobj hints (Nat.le_trans hlen hn2) hr hF hb (fun H _ hS => law_start hS (hsp ns hlen)) fun H e s' h => by
    obtain ⟨_, _, _, _, _, _, _, _, _, _, _, _, z⟩ := h
    exact z
end PL

namespace K10
open PySem PySem.Spec PyProof.Rows L2 PL
def top (i : Nat) : Stmt := PySem.Challenge.pw_layoutsets_k10_layouts_checked.main.body.getD i (.Pass ⟨0, 0, 0, 0⟩)
abbrev s_is_string : Stmt := top 1
abbrev s_is_integer : Stmt := top 2
abbrev s_check_layout : Stmt := top 4
abbrev s__law_at : Stmt := top 6
abbrev s__law_mixed : Stmt := top 7
abbrev s__law_purse : Stmt := top 8
abbrev s__law_draw : Stmt := top 9
abbrev s__law_string : Stmt := top 11
abbrev s__law_layout : Stmt := top 10
abbrev s__law_bent : Stmt := top 12
abbrev s__law_line : Stmt := top 13
abbrev s__law_due : Stmt := top 14
abbrev s_law : Stmt := top 15
theorem sc_is_string : FnScope ["thing", "sign"] ["thing"] (defScope s_is_string) := scope_of (by decide +kernel)
theorem sc_is_integer : FnScope ["thing", "least", "most"] ["thing", "least", "most"] (defScope s_is_integer) := scope_of (by decide +kernel)
theorem sc_check_layout : FnScope ["thing", "k", "row"] ["thing"] (defScope s_check_layout) := scope_of (by decide +kernel)
theorem sc__law_at : FnScope ["_law_script", "_law_k"] ["_law_script", "_law_k"] (defScope s__law_at) := scope_of (by decide +kernel)
theorem sc__law_mixed : FnScope ["_law_cell", "_law_k", "_law_number"] ["_law_cell", "_law_k"] (defScope s__law_mixed) := scope_of (by decide +kernel)
theorem sc__law_purse : FnScope ["_law_script", "_law_at_here", "_law_cell"] ["_law_script", "_law_at_here"] (defScope s__law_purse) := scope_of (by decide +kernel)
theorem sc__law_draw : FnScope ["_law_purse_here", "_law_out_of", "_law_drawn"] ["_law_purse_here", "_law_out_of"] (defScope s__law_draw) := scope_of (by decide +kernel)
theorem sc__law_string : FnScope ["_law_purse_here"] ["_law_purse_here"] (defScope s__law_string) := scope_of (by decide +kernel)
theorem sc__law_layout : FnScope ["_law_purse_here", "_law_found", "_law_turn"] ["_law_purse_here"] (defScope s__law_layout) := scope_of (by decide +kernel)
theorem sc__law_bent : FnScope ["_law_purse_here", "_law_layout_here", "_law_way", "_law_at_here", "_law_row", "_law_new"] ["_law_purse_here", "_law_layout_here"] (defScope s__law_bent) := scope_of (by decide +kernel)
theorem sc__law_line : FnScope ["_law_row", "_law_indent", "_law_words", "_law_sign"] ["_law_row"] (defScope s__law_line) := scope_of (by decide +kernel)
theorem sc__law_due : FnScope ["_law_item", "_law_k", "_law_row"] ["_law_item"] (defScope s__law_due) := scope_of (by decide +kernel)
theorem sc_law : FnScope ["_law_script", "_law_at_here", "_law_two", "_law_purse_here", "_law_turn", "_law_layout_here", "_law_bent_here"] ["_law_script"] (defScope s_law) := scope_of (by decide +kernel)
structure Ad where
  f_is_string : Addr
  d_is_string : FuncData
  f_is_integer : Addr
  d_is_integer : FuncData
  f_check_layout : Addr
  d_check_layout : FuncData
  f__law_at : Addr
  d__law_at : FuncData
  f__law_mixed : Addr
  d__law_mixed : FuncData
  f__law_purse : Addr
  d__law_purse : FuncData
  f__law_draw : Addr
  d__law_draw : FuncData
  f__law_string : Addr
  d__law_string : FuncData
  f__law_layout : Addr
  d__law_layout : FuncData
  f__law_bent : Addr
  d__law_bent : FuncData
  f__law_line : Addr
  d__law_line : FuncData
  f__law_due : Addr
  d__law_due : FuncData
  f_law : Addr
  d_law : FuncData
structure Txt (K : PySem.W.Frag) (mg : Str → Option Value) (a : Ad) : Prop where
  is_string : Df K mg "is_string" s_is_string [] [] a.f_is_string a.d_is_string
  is_integer : Df K mg "is_integer" s_is_integer [.non, .non] [] a.f_is_integer a.d_is_integer
  check_layout : Df K mg "check_layout" s_check_layout [] [] a.f_check_layout a.d_check_layout
  _law_at : Df K mg "_law_at" s__law_at [] [] a.f__law_at a.d__law_at
  _law_mixed : Df K mg "_law_mixed" s__law_mixed [] [] a.f__law_mixed a.d__law_mixed
  _law_purse : Df K mg "_law_purse" s__law_purse [] [] a.f__law_purse a.d__law_purse
  _law_draw : Df K mg "_law_draw" s__law_draw [] [] a.f__law_draw a.d__law_draw
  _law_string : Df K mg "_law_string" s__law_string [] [] a.f__law_string a.d__law_string
  _law_layout : Df K mg "_law_layout" s__law_layout [] [] a.f__law_layout a.d__law_layout
  _law_bent : Df K mg "_law_bent" s__law_bent [] [] a.f__law_bent a.d__law_bent
  _law_line : Df K mg "_law_line" s__law_line [] [] a.f__law_line a.d__law_line
  _law_due : Df K mg "_law_due" s__law_due [] [] a.f__law_due a.d__law_due
  law : Df K mg "law" s_law [] [] a.f_law a.d_law
  z_all : mg "all" = none
  z_bool : mg "bool" = none
  z_enumerate : mg "enumerate" = none
  z_int : mg "int" = none
  z_isinstance : mg "isinstance" = none
  z_len : mg "len" = none
  z_list : mg "list" = none
  z_max : mg "max" = none
  z_min : mg "min" = none
  z_range : mg "range" = none
  z_str : mg "str" = none
  z_tuple : mg "tuple" = none
local macro_rules | `(tactic| walk_at "ev") => `(tactic| simp only [↓ev_brT, ↓ev_brF, ↓ev_asB, ↓ev_atP, ↓ev_var0, ↓ev_varS, ↓ev_c, ↓ev_op, ↓ev_chain, ↓ev_tchain, ↓ev_nil, ↓ev_cons, ↓ev_cb, ↓ev_tup, ↓ev_lst, ↓ev_b, ↓ev_andV, ↓ev_orV, ↓ev_notV, ↓ev_if, ↓ev_tand, ↓ev_tor, ↓ev_tnot, ↓ev_yes, ↓ev_next, ↓ev_seq, ↓ev_ret, ↓ev_retN, ↓ev_brk, ↓ev_cnt, ↓ev_sif, ↓ev_drop, ↓ev_set, ↓ev_asg, ↓ev_kname, ↓ev_knil, ↓ev_kcons, ↓ev_ktup, ↓ev_for, ↓ev_lc, ↓ev_any, ↓ev_anyL, ↓ev_anyT, ↓ev_anyS, ↓ev_rng1, ↓ev_rng1i, ↓ev_rng2, ↓ev_rng2i, ↓ev_enum, ↓ev_sl, ↓ev_nop, ↓ev_part, ↓ev_asI, ↓ev_call, ↓ev_callK, ↓ev_plusI, ↓ev_plusS, ↓ev_plusT, ↓ev_i0, ↓ev_iC, ↓ev_leI, ↓ev_leS, ↓ev_isN, ↓ev_notN, ↓ev_itL, ↓ev_itT, ↓ev_slT, ↓ev_slL, ↓ev_lenL, ↓ev_lenT, ↓ev_lenS, ↓ev_intI, ↓ev_intB, ↓ev_isa, ↓ev_listL, ↓ev_listT, ↓ev_tupL, ↓ev_tupT, ↓ev_max, ↓ev_min, ↓ev_eq, ↓ev_ne, ↓ev_neg, ↓ev_all, ↓ev_purse, ↓ev_pix, ↓ev_pset, ev_nx, n_non, n_bl, n_int, n_str, n_tup, n_lst, k_non, k_bl, k_int, k_str, k_tup, k_lst, i_non, i_bl, i_int, i_str, i_tup, i_lst,
  startD_eq, List.map_cons, List.map_nil, List.length_cons, List.length_nil, List.replicate, List.cons_append, List.nil_append, List.append_nil, Nat.zero_add, Nat.reduceAdd, Nat.reduceSub, Nat.reduceLeDiff, List.set_cons_zero, List.set_cons_succ, wipeD, List.getElem?_cons_zero, List.getElem?_cons_succ,
  mb_int, mb_str, mb_bool, mb_tuple, mb_list, mb_dict, beq_self_eq_true, String.reduceBEq, Bool.or_true, Bool.or_false, Bool.true_or, Bool.false_or, Bool.and_false, Bool.false_and, Bool.and_true, Bool.true_and, Bool.not_true, Bool.not_false,
  Option.isSome_some, Option.isSome_none, true_and, and_true, true_or, or_true, Pl_int, Pl_bl, Pl_non, atI_0, atI_1, atI_2, Int.reduceBEq, Int.reduceNeg, Int.cast_ofNat_Int, Int.natCast_add, Int.reduceAdd, eqD, eqDs])

def IC0 : Addr → Prop := fun _ => False
theorem hI0 {K : PySem.W.Frag} : ∀ C, IC0 C → ICls K C := fun _ h => h.elim
section
variable {P : Program} {w : World} {K : PySem.W.Frag} {mg : Str → Option Value} {base : Heap} {a : Ad}
theorem c__law_at_2 (T : Txt K mg a) : Cal K mg "_law_at" a.f__law_at a.d__law_at ["_law_script", "_law_k"] [] := T._law_at.cal0 fun _ _ _ _ _ _ us hl => match us, hl with | [_, _], _ => (by kernel_rfl)
theorem c__law_bent_2 (T : Txt K mg a) : Cal K mg "_law_bent" a.f__law_bent a.d__law_bent ["_law_purse_here", "_law_layout_here"] [] := T._law_bent.cal0 fun _ _ _ _ _ _ us hl => match us, hl with | [_, _], _ => (by kernel_rfl)
theorem c__law_draw_2 (T : Txt K mg a) : Cal K mg "_law_draw" a.f__law_draw a.d__law_draw ["_law_purse_here", "_law_out_of"] [] := T._law_draw.cal0 fun _ _ _ _ _ _ us hl => match us, hl with | [_, _], _ => (by kernel_rfl)
theorem c__law_due_1 (T : Txt K mg a) : Cal K mg "_law_due" a.f__law_due a.d__law_due ["_law_item"] [] := T._law_due.cal0 fun _ _ _ _ _ _ us hl => match us, hl with | [_], _ => (by kernel_rfl)
theorem c__law_layout_1 (T : Txt K mg a) : Cal K mg "_law_layout" a.f__law_layout a.d__law_layout ["_law_purse_here"] [] := T._law_layout.cal0 fun _ _ _ _ _ _ us hl => match us, hl with | [_], _ => (by kernel_rfl)
theorem c__law_line_1 (T : Txt K mg a) : Cal K mg "_law_line" a.f__law_line a.d__law_line ["_law_row"] [] := T._law_line.cal0 fun _ _ _ _ _ _ us hl => match us, hl with | [_], _ => (by kernel_rfl)
theorem c__law_mixed_2 (T : Txt K mg a) : Cal K mg "_law_mixed" a.f__law_mixed a.d__law_mixed ["_law_cell", "_law_k"] [] := T._law_mixed.cal0 fun _ _ _ _ _ _ us hl => match us, hl with | [_, _], _ => (by kernel_rfl)
theorem c__law_purse_2 (T : Txt K mg a) : Cal K mg "_law_purse" a.f__law_purse a.d__law_purse ["_law_script", "_law_at_here"] [] := T._law_purse.cal0 fun _ _ _ _ _ _ us hl => match us, hl with | [_, _], _ => (by kernel_rfl)
theorem c__law_string_1 (T : Txt K mg a) : Cal K mg "_law_string" a.f__law_string a.d__law_string ["_law_purse_here"] [] := T._law_string.cal0 fun _ _ _ _ _ _ us hl => match us, hl with | [_], _ => (by kernel_rfl)
theorem c_check_layout_0_thing (T : Txt K mg a) : CalK K mg "check_layout" a.f_check_layout a.d_check_layout ["thing"] 0 ["thing"] (fun _ zs => zs) (fun _ zs => zs) := T.check_layout.calK 0 ["thing"] (fun _ zs => zs) (fun _ r => r) (fun _ r => r) fun _ _ _ _ _ _ us ws h1 h2 => match us, ws, h1, h2 with | [], [_], _, _ => (by kernel_rfl)
theorem c_check_layout_1 (T : Txt K mg a) : Cal K mg "check_layout" a.f_check_layout a.d_check_layout ["thing"] [] := T.check_layout.cal0 fun _ _ _ _ _ _ us hl => match us, hl with | [_], _ => (by kernel_rfl)
theorem c_is_integer_2 (T : Txt K mg a) : Cal K mg "is_integer" a.f_is_integer a.d_is_integer ["thing", "least", "most"] [.non] := T.is_integer.cal1 2 1 (by simp) rfl fun _ _ _ _ _ _ _ us its h1 h2 => match us, its, h1, h2 with | [_, _], [_, _], _, _ => ⟨_, rfl, rfl⟩
theorem c_is_string_1 (T : Txt K mg a) : Cal K mg "is_string" a.f_is_string a.d_is_string ["thing"] [] := T.is_string.cal0 fun _ _ _ _ _ _ us hl => match us, hl with | [_], _ => (by kernel_rfl)
end
section
variable {P : Program} {w : World} {K : PySem.W.Frag} {mg : Str → Option Value} {base : Heap} {a : Ad} (T : Txt K mg a)
include T
def sp_is_string : SpD := fun ds c Q _ => ∃ d n, ds = [d] ∧ Pl n d ∧ Q (.bl (isStr d)) c
theorem ok_is_string : FnOk P w K mg base (L2.CX P w) 1 a.f_is_string a.d_is_string ["thing"] (spOf K sp_is_string) := by
  refine okD T.is_string.F sc_is_string (fun ds c Q E h => ?_) (fun cdv A outer s H E G0 c0 ED good => ⟨_, _, (pds_one (pds_ret (pd_and (pd_callB call_isi (br_isaA (IC := IC0) hI0) T.z_isinstance bt_isinstance (pda_cons (pd_v 0) (pda_cons (pd_bty T.z_str bt_str) pda_nil))) (pd_one (pd_callB (cr_all good.calm) br_all T.z_all bt_all (pda_cons (pd_lc (own := [("sign", 1)]) good.calm sc_is_string.nd (pdi_any (pd_v 0)) (blkOk_by (N := ["thing", "sign"]) (sc := (defScope s_is_string)) (by decide +kernel)) ⟨fun s1 H1 C1 cl1 fp1 => (pdg_name 1 sc_is_string.nd), fun s1 H1 C1 cl1 fp1 => pdts_nil, fun s1 H1 C1 cl1 fp1 => (pd_leP2 pd_str (pd_v 1) pd_str)⟩) pda_nil)))))), ?_⟩)
  · obtain ⟨d, n, rfl, _⟩ := h; rfl
  · rintro ds Qd ⟨d, n, rfl, hf, q⟩
    cases d with
    | str x =>
      walk_at "ev"
      have hf : x.length ≤ 1000 := by cases n <;> exact hf.1
      refine lc_by (fun d => some (.bl (signOk d))) (Nat.le_trans (Nat.le_of_eq (signs_length x)) (Nat.le_trans hf (by decide))) (fun d hd R R0 h1 h0 => ?_) ?_
      · obtain ⟨z, rfl⟩ := signs_str hd
        walk_at "ev"
        have h1 := h1 _ rfl
        simp only [signOk] at h1
        refine Br.by (fun e => ?_) fun e => ?_ <;> (simp only [Bool.not_eq_true', Bool.not_eq_false'] at e; rw [e] at h1; exact h1)
      · refine allP.mk (by rw [filterMap_some, bools_map]) ?_
        rw [List.all_map]
        exact q
    | _ => first | (exfalso; cases n <;> exact hf; done) | (walk_at "ev"; exact q)
def isIntB : D → Int → Bool
  | .int i, lo => decide (lo ≤ i)
  | _, _ => false
def sp_is_integer : SpD := fun ds c Q _ => ∃ d lo n, ds = [d, .int lo, .non] ∧ Pl n d ∧ Q (.bl (isIntB d lo)) c
theorem ok_is_integer : FnOk P w K mg base (L2.CX P w) 1 a.f_is_integer a.d_is_integer ["thing", "least", "most"] (spOf K sp_is_integer) := by
  refine okD T.is_integer.F sc_is_integer (fun ds c Q E h => ?_) (fun cdv A outer s H E G0 c0 ED good => ⟨_, _, (pds_cons (pds_if (pdw_pt (pdw_or (pdt_not (pdt_val (pd_callB call_isi (br_isaA (IC := IC0) hI0) T.z_isinstance bt_isinstance (pda_cons (pd_v 0) (pda_cons (pd_bty T.z_int bt_int) pda_nil))))) (pdw_or1 (pdt_val (pd_callB call_isi (br_isaA (IC := IC0) hI0) T.z_isinstance bt_isinstance (pda_cons (pd_v 0) (pda_cons (pd_bty T.z_bool bt_bool) pda_nil))))))) (pds_one (pds_ret pd_bl)) pss_nil')
      (pds_one (pds_ret (pd_and (pd_or (pd_cm (pdc_isN (pd_v 1))) (pd_one (pd_cm (pdc_ge (pd_v 0) (pd_v 1))))) (pd_one (pd_or (pd_cm (pdc_isN (pd_v 2))) (pd_one (pd_cm (pdc_leP (pd_v 0) (pd_v 2)))))))))), ?_⟩)
  · obtain ⟨d, lo, n, rfl, _⟩ := h; rfl
  · rintro ds Qd ⟨d, lo, n, rfl, hf, q⟩
    cases d with
    | int i =>
      walk_at "ev"
      simp only [isIntB] at q
      refine Br.by (fun e => ?_) fun e => ?_ <;> (rw [e] at q; exact q)
    | _ => first | (exfalso; cases n <;> exact hf; done) | (walk_at "ev"; exact q)
/-- a line of a layout -/
def lineOk : D → Bool
  | .tup [i, x] => isIntB i 0 && isStr x
  | _ => false
/-- the place of the first item that is none -/
def badAt (k : Nat) : List D → Option Nat
  | [] => none
  | r :: l => if lineOk r then badAt (k + 1) l else some k
def firstOk : D → Bool
  | .tup (i :: _) => eqD i (.int 0)
  | _ => false
def check : D → D
  | .tup (r :: l) => match badAt 0 (r :: l) with
    | some k => .tup [.str "line", .int (k : Nat)]
    | none => match firstOk r with
      | true => .non
      | false => .tup [.str "first"]
  | _ => .tup [.str "form"]
omit T in
theorem badAt_step {l : List D} {k : Nat} {r : D} (h : l[k]? = some r) (e : badAt 0 l = badAt k (l.drop k)) : if lineOk r then badAt 0 l = badAt (k + 1) (l.drop (k + 1)) else badAt 0 l = some k := by
  have hk : k < l.length := (List.getElem?_eq_some_iff.mp h).1
  have e2 : l.drop k = r :: l.drop (k + 1) := by
    rw [List.drop_eq_getElem_cons hk]
    rw [List.getElem?_eq_getElem hk] at h
    cases h
    rfl
  rw [e2] at e
  have e3 : badAt k (r :: l.drop (k + 1)) = if lineOk r then badAt (k + 1) (l.drop (k + 1)) else some k := by rw [badAt]
  rw [e3] at e
  split
  · rename_i h1; rw [if_pos h1] at e; exact e
  · rename_i h1; rw [if_neg h1] at e; exact e
def sp_check_layout : SpD := fun ds c Q _ => ∃ d, ds = [d] ∧ Pl 3 d ∧ Q (check d) c
theorem ok_check_layout : FnOk P w K mg base (L2.CX P w) 2 a.f_check_layout a.d_check_layout ["thing"] (spOf K sp_check_layout) := by
  refine okD T.check_layout.F sc_check_layout (fun ds c Q E h => ?_) (fun cdv A outer s H E G0 c0 ED good => ⟨_, _, (pds_cons (pds_if (pdw_pt (pdw_or (pdt_not (pdt_val (pd_callB call_isi (br_isaA (IC := IC0) hI0) T.z_isinstance bt_isinstance (pda_cons (pd_v 0) (pda_cons (pd_bty T.z_tuple bt_tuple) pda_nil))))) (pdw_or1 (pdt_cm (pdc_eqD good (pd_v 0) (pd_tup pda_nil)))))) (pds_one (pds_ret (pd_tup (pda_cons pd_str pda_nil)))) pss_nil')
      (pds_cons (pds_for PassesOwn.leaving good.calm (pdi_enum T.z_enumerate (pda_cons (pd_v 0) pda_nil)) (pdg_tup (n := 2) good.calm (pdg_cons (pdg_name 1 sc_check_layout.nd) (pdg_cons (pdg_name 2 sc_check_layout.nd) pdg_nil)))
      (pds_one (pds_if (pdw_pt (pdw_or (pdt_not (pdt_val (pd_callB call_isi (br_isaA (IC := IC0) hI0) T.z_isinstance bt_isinstance (pda_cons (pd_v 2) (pda_cons (pd_bty T.z_tuple bt_tuple) pda_nil))))) (pdw_or (pdt_cm (pdc_neD good (pd_callB cr_len br_lenA T.z_len bt_len (pda_cons (pd_v 2) pda_nil)) pd_int)) (pdw_or (pdt_not (pdt_val (pd_callC good ((ok_is_integer T).mono (by decide)) (c_is_integer_2 T) (fun _ => .cons .non .nil) (pda_cons (pd_at (pd_v 2) pd_int) (pda_cons pd_int pda_nil))))) (pdw_or1 (pdt_not (pdt_val (pd_callC good ((ok_is_string T).mono (by decide)) (c_is_string_1 T) (fun _ => .nil) (pda_cons (pd_at (pd_v 2) pd_int) pda_nil))))))))) (pds_one (pds_ret (pd_tup (pda_cons pd_str (pda_cons (pd_v 1) pda_nil))))) pss_nil')))
      (pds_cons (pds_if (pdt_cm (pdc_neD good (pd_at (pd_at (pd_v 0) pd_int) pd_int) pd_int)) (pds_one (pds_ret (pd_tup (pda_cons pd_str pda_nil)))) pss_nil')
      (pds_one (pds_ret pd_non))))), ?_⟩)
  · obtain ⟨d, rfl, _⟩ := h; rfl
  · rintro ds Qd ⟨d, rfl, hf, q⟩
    cases d with
    | tup l =>
      have h60 : Pl 60 (.tup l) := hf.mono (by decide)
      have e60 : Pl 60 (.tup []) := fun d hd => absurd hd (by simp)
      cases l with
      | nil =>
        walk_at "ev"
        exact ⟨h60, h60, q⟩
      | cons r l =>
        walk_at "ev"
        refine ⟨h60, e60, ?_⟩
        refine ⟨fun k ρ c => c = c0 ∧ (∃ s1 s2, ρ = [.fz (.tup (r :: l)), s1, s2]) ∧ badAt 0 (r :: l) = badAt k ((r :: l).drop k), ⟨rfl, ⟨_, _, rfl⟩, rfl⟩, ?_, ?_⟩
        · rintro k x ρ c hx ⟨rfl, ⟨s1, s2, rfl⟩, hb⟩
          obtain ⟨row, hr, rfl⟩ := numbered_get hx
          have st := badAt_step hr hb
          have hp : Pl 2 row := hf row (List.mem_of_getElem? hr)
          clear hx
          rw [Nat.zero_add]
          have no : lineOk row = false → Qd (.tup [.str "line", .int (k : Nat)]) c := fun e => by
            rw [e, if_neg Bool.false_ne_true] at st
            simp only [check, st] at q
            exact q
          have yes : lineOk row = true → c = c ∧ (∃ s1 s2, [Sl.fz (.tup (r :: l)), .fz (.int (k : Nat)), .fz row] = [Sl.fz (.tup (r :: l)), s1, s2]) ∧ badAt 0 (r :: l) = badAt (k + 1) ((r :: l).drop (k + 1)) := fun e => by
            rw [e, if_pos rfl] at st
            exact ⟨rfl, ⟨_, _, rfl⟩, st⟩
          cases row with
          | tup m =>
            match m, hp with
            | [], _ => walk_at "ev"; exact no rfl
            | [a], _ => walk_at "ev"; exact no rfl
            | [a, b], hp =>
              have ha := hp a (by simp)
              have hb := hp b (by simp)
              walk_at "ev"
              refine ⟨a, 0, 1, rfl, ha, ?_⟩
              walk_at "ev"
              refine Br.by (fun e => ?_) fun e => ?_
              · simp only [Bool.not_eq_true'] at e
                exact no (by simp only [lineOk, e, Bool.false_and])
              · simp only [Bool.not_eq_false'] at e
                refine ⟨b, 1, rfl, hb, ?_⟩
                walk_at "ev"
                refine Br.by (fun e2 => ?_) fun e2 => ?_
                · simp only [Bool.not_eq_true'] at e2
                  exact no (by simp only [lineOk, e, e2, Bool.and_false])
                · simp only [Bool.not_eq_false'] at e2
                  exact (yes (by simp only [lineOk, e, e2, Bool.and_true])).2
            | a :: b :: e :: m, _ =>
              walk_at "ev"
              refine Br.t ?_ (no rfl)
              simp only [Bool.not_eq_true', beq_eq_false_iff_ne, ne_eq]
              omega
          | _ => first | (exfalso; exact hp; done) | (walk_at "ev"; exact no rfl)
        · rintro ρ c ⟨rfl, ⟨s1, s2, rfl⟩, hb⟩
          rw [numbered_length, List.drop_length] at hb
          have hr : lineOk r = true := by
            cases e : lineOk r with
            | true => rfl
            | false => simp [badAt, e] at hb
          have hn : badAt 0 (r :: l) = none := hb
          simp only [check, hn] at q
          have hp : Pl 2 r := hf r List.mem_cons_self
          match r, hr, hp, q with
          | .tup [i, x], hr, hp, q =>
            have hi := hp i (by simp)
            walk_at "ev"
            refine ⟨hi.mono (by decide), ?_⟩
            simp only [firstOk] at q
            refine Br.by (fun e => ?_) fun e => ?_ <;> (simp only [Bool.not_eq_true', Bool.not_eq_false'] at e; rw [e] at q; exact q)
    | _ => first | (exfalso; exact hf; done) | (walk_at "ev"; exact q)
def sp__law_at : SpD := fun ds c Q _ => ∃ (ns : List Int) (k : Nat), ds = [.lst (ns.map .int), .int k] ∧ ∀ i, Q (.int i) c
theorem ok__law_at : FnOk P w K mg base (L2.CX P w) 1 a.f__law_at a.d__law_at ["_law_script", "_law_k"] (spOf K sp__law_at) := by
  refine okD T._law_at.F sc__law_at (fun ds c Q E h => ?_) (fun cdv A outer s H E G0 c0 ED good => ⟨_, _, (pds_cons (pds_if (pdt_cm (pdc_lt (pd_v 1) (pd_callB cr_len br_lenA T.z_len bt_len (pda_cons (pd_v 0) pda_nil)))) (pds_one (pds_ret (pd_at (pd_v 0) (pd_v 1)))) pss_nil')
      (pds_one (pds_ret pd_int))), ?_⟩)
  · obtain ⟨ns, k, rfl, _⟩ := h; rfl
  · rintro ds Qd ⟨ns, k, rfl, q⟩
    walk_at "ev"
    refine Br.by (fun e => ?_) fun e => q 0
    simp only [decide_eq_true_eq] at e
    obtain ⟨v, hv, hm⟩ := atI_lt (xs := ns.map D.int) (i := (k : Int)) (by omega) (by simpa using e)
    obtain ⟨i, _, rfl⟩ := List.mem_map.mp hm
    exact atP.mk hv (q i)
def sp__law_mixed : SpD := fun ds c Q _ => ∃ y z : Int, ds = [.int y, .int z] ∧ 0 ≤ y ∧ y < 2 ^ 31 ∧ 0 ≤ z ∧ z < 2 ^ 62 ∧ ∀ i, Q (.int i) c
theorem ok__law_mixed : FnOk P w K mg base (L2.CX P w) 1 a.f__law_mixed a.d__law_mixed ["_law_cell", "_law_k"] (spOf K sp__law_mixed) := by
  refine okD T._law_mixed.F sc__law_mixed (fun ds c Q E h => ?_) (fun cdv A outer s H E G0 c0 ED good => ⟨_, _, (pds_cons (pds_set 2 sc__law_mixed.nd (pd_mod (pd_callTy call_int1 br_intA T.z_int bt_int (pda_cons (pd_plus (pd_plus (pd_plus (pd_mul (pd_v 0) pd_int) (pd_mul (pd_mul pd_int (pd_v 1)) (pd_v 1))) (pd_v 1)) pd_int) pda_nil)) pd_int))
      (pds_cons (pds_set 2 sc__law_mixed.nd (pd_mod (pd_callTy call_int1 br_intA T.z_int bt_int (pda_cons (pd_plus (pd_mul (pd_v 2) (pd_v 2)) pd_int) pda_nil)) pd_int))
      (pds_one (pds_ret (pd_mod (pd_callTy call_int1 br_intA T.z_int bt_int (pda_cons (pd_mul (pd_v 2) pd_int) pda_nil)) pd_int))))), ?_⟩)
  · obtain ⟨y, z, rfl, _⟩ := h; rfl
  · rintro ds Qd ⟨y, z, rfl, h1, h2, h3, h4, q⟩
    walk_at "ev"
    have big : ∀ {m : Int} (x : Int), 0 < m → m < 2 ^ 64 → CMul (x % m) (x % m) := fun {m} x h0 h1 => .inl ⟨by have := Int.emod_nonneg x (Int.ne_of_gt h0); omega, by have := Int.emod_lt_of_pos x h0; omega⟩
    exact ⟨.inr (by decide), .inl (by decide), .inr ⟨by omega, by omega⟩, by decide, big _ (by decide) (by decide), by decide, .inr (by decide), by decide, q _⟩
def sp__law_purse : SpD := fun ds c Q _ => ∃ (ns : List Int) (k : Nat), ds = [.lst (ns.map .int), .int k] ∧ k ≤ 1000 ∧ Q .opq c
theorem ok__law_purse : FnOk P w K mg base (L2.CX P w) 2 a.f__law_purse a.d__law_purse ["_law_script", "_law_at_here"] (spOf K sp__law_purse) := by
  refine okD T._law_purse.F sc__law_purse (fun ds c Q E h => ?_) (fun cdv A outer s H E G0 c0 ED good => ⟨_, _, (pds_cons (pds_set 2 sc__law_purse.nd (pd_callC good ((ok__law_at T).mono (by decide)) (c__law_at_2 T) (fun _ => .nil) (pda_cons (pd_v 0) (pda_cons (pd_v 1) pda_nil))))
      (pds_one (pds_ret (pd_purse (pda_cons (pd_mod (pd_callTy call_int1 br_intA T.z_int bt_int (pda_cons (pd_callB (call_max2 good.calm) br_max2 T.z_max bt_max (pda_cons (pd_sub (pd_v 2) (pd_pow pd_int pd_int)) (pda_cons pd_int pda_nil))) pda_nil)) (pd_pow (pd_pow pd_int pd_int) pd_int)) (pda_cons (pd_mod (pd_callTy call_int1 br_intA T.z_int bt_int (pda_cons (pd_v 2) pda_nil)) pd_int) (pda_cons (pd_mul pd_int (pd_v 1)) pda_nil))))))), ?_⟩)
  · obtain ⟨ns, k, rfl, _⟩ := h; rfl
  · rintro ds Qd ⟨ns, k, rfl, hk, q⟩
    walk_at "ev"
    refine ⟨ns, k, rfl, fun i => ?_⟩
    walk_at "ev"
    refine ⟨⟨by decide, by decide +kernel⟩, ⟨by decide, by decide +kernel⟩, ⟨by decide, by decide +kernel⟩, by decide +kernel, by decide, .inl (by decide), _, _, _, rfl, Int.emod_nonneg _ (by decide), Int.lt_of_lt_of_le (Int.emod_lt_of_pos _ (by decide)) (by decide), by omega, by omega, q⟩
def sp__law_draw : SpD := fun ds c Q _ => ∃ n : Int, ds = [.opq, .int n] ∧ 0 < n ∧ n < 1073741824 ∧ c + 1 ≤ LIM ∧ ∀ i c', 0 ≤ i → i < n → c ≤ c' → c' ≤ c + 1 → Q (.int i) c'
theorem ok__law_draw : FnOk P w K mg base (L2.CX P w) 2 a.f__law_draw a.d__law_draw ["_law_purse_here", "_law_out_of"] (spOf K sp__law_draw) := by
  refine okD T._law_draw.F sc__law_draw (fun ds c Q E h => ?_) (fun cdv A outer s H E G0 c0 ED good => ⟨_, _, (pds_cons (pds_if (pdt_cm (pdc_gt (pd_purseIx 0 0 rfl (by decide)) pd_int)) (pds_cons (pds_set 2 sc__law_draw.nd (pd_mod (pd_callTy call_int1 br_intA T.z_int bt_int (pda_cons (pd_purseIx 0 0 rfl (by decide)) pda_nil)) (pd_v 1)))
      (pds_cons (pds_purseSet 0 0 rfl (pd_fdiv (pd_purseIx 0 0 rfl (by decide)) (pd_v 1)))
      (pds_one (pds_ret (pd_v 2))))) pss_nil')
      (pds_cons (pds_purseSet 0 2 rfl (pd_plus (pd_purseIx 0 2 rfl (by decide)) pd_int))
      (pds_one (pds_ret (pd_mod (pd_callTy call_int1 br_intA T.z_int bt_int (pda_cons (pd_callC good ((ok__law_mixed T).mono (by decide)) (c__law_mixed_2 T) (fun _ => .nil) (pda_cons (pd_purseIx 0 1 rfl (by decide)) (pda_cons (pd_purseIx 0 2 rfl (by decide)) pda_nil))) pda_nil)) (pd_v 1)))))), ?_⟩)
  · obtain ⟨n, rfl, _⟩ := h; rfl
  · rintro ds Qd ⟨n, rfl, h1, h2, h3, q⟩
    walk_at "ev"
    intro x _ _
    refine Br.by (fun _ => fun x _ _ => ⟨h1, fun y _ _ => ⟨⟨h1, h2⟩, _, rfl, .inl (q _ _ (Int.emod_nonneg _ (Int.ne_of_gt h1)) (Int.emod_lt_of_pos _ h1) (Nat.le_refl _) (Nat.le_succ _))⟩⟩) fun _ => ?_
    intro z _ hz
    obtain ⟨z0, z1⟩ := hz trivial
    refine ⟨z + 1, rfl, .inr ⟨by omega, by omega, fun y hy _ => fun v _ hv => ?_⟩⟩
    obtain ⟨y0, y1⟩ := hy trivial
    obtain ⟨v0, v1⟩ := hv trivial
    have hc : c0 + 1 ≤ 2 ^ 60 := h3
    refine ⟨y, v, rfl, y0, y1, v0, by omega, fun i => ?_⟩
    walk_at "ev"
    exact ⟨h1, q _ _ (Int.emod_nonneg _ (Int.ne_of_gt h1)) (Int.emod_lt_of_pos _ h1) (Nat.le_succ _) (Nat.le_refl _)⟩
/-- a text that is drawn -/
def strD : D → Prop
  | .str x => x.length ≤ 10 ∧ okStr x = true ∧ PyData.strOk x = true
  | _ => False
omit T in
theorem strD_pl {d : D} {n : Nat} (h : strD d) : Pl n d := by
  cases d with
  | str x =>
    have : x.length ≤ 1000 ∧ PyData.strOk x = true := ⟨Nat.le_trans h.1 (by decide), h.2.2⟩
    cases n <;> exact this
  | _ => exact h.elim
def sp__law_string : SpD := fun ds c Q _ => ds = [.opq] ∧ c + 1 ≤ LIM ∧ ∀ d c', strD d → c ≤ c' → c' ≤ c + 1 → Q d c'
theorem ok__law_string : FnOk P w K mg base (L2.CX P w) 3 a.f__law_string a.d__law_string ["_law_purse_here"] (spOf K sp__law_string) := by
  refine okD T._law_string.F sc__law_string (fun ds c Q E h => ?_) (fun cdv A outer s H E G0 c0 ED good => ⟨_, _, (pds_one (pds_ret (pd_at (pd_lst (pda_cons pd_str (pda_cons pd_str (pda_cons pd_str (pda_cons pd_str (pda_cons pd_str (pda_cons pd_str (pda_cons pd_str pda_nil)))))))) (pd_callC good ((ok__law_draw T).mono (by decide)) (c__law_draw_2 T) (fun _ => .nil) (pda_cons (pd_v 0) (pda_cons pd_int pda_nil)))))), ?_⟩)
  · obtain ⟨rfl, _⟩ := h; rfl
  · rintro ds Qd ⟨rfl, hc, q⟩
    walk_at "ev"
    refine ⟨7, rfl, by decide, by decide, hc, fun i c' h0 h1 l1 l2 => ?_⟩
    walk_at "ev"
    obtain ⟨v, hv, hm⟩ := atI_lt (xs := [D.str "", D.str "a", D.str " ", D.str "a b", D.str "~ ", D.str "\"\\", D.str "ab"]) h0 h1
    refine atP.mk hv (q _ _ ?_ l1 l2)
    have all : ∀ d, d ∈ [D.str "", D.str "a", D.str " ", D.str "a b", D.str "~ ", D.str "\"\\", D.str "ab"] → strD d := by
      intro d hd
      simp only [List.mem_cons, List.not_mem_nil, or_false] at hd
      rcases hd with rfl | rfl | rfl | rfl | rfl | rfl | rfl <;> exact ⟨by decide +kernel, by decide +kernel, by decide +kernel⟩
    exact all v hm
/-- a line that is drawn: any but the first -/
def rowD (d : D) : Prop := ∃ i x, d = .tup [.int i, x] ∧ 0 ≤ i ∧ strD x
def layD (d : D) : Prop := ∃ x l, d = .tup (.tup [.int 0, x] :: l) ∧ strD x ∧ l.length ≤ 6 ∧ ∀ r, r ∈ l → rowD r
def sp__law_layout : SpD := fun ds c Q _ => ds = [.opq] ∧ c + 20 ≤ LIM ∧ ∀ d c', layD d → c ≤ c' → c' ≤ c + 20 → Q d c'
theorem ok__law_layout : FnOk P w K mg base (L2.CX P w) 4 a.f__law_layout a.d__law_layout ["_law_purse_here"] (spOf K sp__law_layout) := by
  refine okD T._law_layout.F sc__law_layout (fun ds c Q E h => ?_) (fun cdv A outer s H E G0 c0 ED good => ⟨_, _, (pds_cons (pds_set 1 sc__law_layout.nd (pd_tup (pda_cons (pd_tup (pda_cons pd_int (pda_cons (pd_callC good ((ok__law_string T).mono (by decide)) (c__law_string_1 T) (fun _ => .nil) (pda_cons (pd_v 0) pda_nil)) pda_nil))) pda_nil)))
      (pds_cons (pds_for PassesOwn.leaving good.calm (pdi_range1 T.z_range (pda_cons (pd_callC good ((ok__law_draw T).mono (by decide)) (c__law_draw_2 T) (fun _ => .nil) (pda_cons (pd_v 0) (pda_cons pd_int pda_nil))) pda_nil)) (pdg_name 2 sc__law_layout.nd)
      (pds_one (pds_set 1 sc__law_layout.nd (pd_plus (pd_v 1) (pd_tup (pda_cons (pd_tup (pda_cons (pd_at (pd_lst (pda_cons pd_int (pda_cons pd_int (pda_cons pd_int (pda_cons pd_int (pda_cons pd_int pda_nil)))))) (pd_callC good ((ok__law_draw T).mono (by decide)) (c__law_draw_2 T) (fun _ => .nil) (pda_cons (pd_v 0) (pda_cons pd_int pda_nil)))) (pda_cons (pd_callC good ((ok__law_string T).mono (by decide)) (c__law_string_1 T) (fun _ => .nil) (pda_cons (pd_v 0) pda_nil)) pda_nil))) pda_nil))))))
      (pds_one (pds_ret (pd_v 1))))), ?_⟩)
  · obtain ⟨rfl, _⟩ := h; rfl
  · rintro ds Qd ⟨rfl, hc, q⟩
    walk_at "ev"
    refine ⟨rfl, by omega, fun x c1 hx l1 l2 => ?_⟩
    walk_at "ev"
    refine ⟨7, rfl, by decide, by decide, by omega, fun n c2 h0 h1 l3 l4 => ?_⟩
    walk_at "ev"
    have lim : LIM = 2 ^ 60 := rfl
    refine ⟨by omega, by omega, ?_⟩
    refine ⟨fun k ρ c => (∃ l s, ρ = [.fz .opq, .fz (.tup (.tup [.int 0, x] :: l)), s] ∧ l.length = k ∧ ∀ r, r ∈ l → rowD r) ∧ c0 ≤ c ∧ c ≤ c2 + 2 * k, ⟨⟨[], _, rfl, rfl, fun r hr => nomatch hr⟩, by omega, by omega⟩, ?_, ?_⟩
    · rintro k y ρ c hy ⟨⟨l, s, rfl, hl, hr⟩, b0, b1⟩
      obtain ⟨hk, rfl⟩ := upInts_get hy
      walk_at "ev"
      refine ⟨5, rfl, by decide, by decide, by omega, fun i c3 i0 i1 l5 l6 => ?_⟩
      walk_at "ev"
      obtain ⟨v, hv, hm⟩ := atI_lt (xs := [D.int 0, D.int 1, D.int 2, D.int 40, D.int 1000]) i0 i1
      refine atP.mk hv ?_
      obtain ⟨m, rfl, hm0⟩ : ∃ m, v = .int m ∧ 0 ≤ m := by
        simp only [List.mem_cons, List.not_mem_nil, or_false] at hm
        rcases hm with rfl | rfl | rfl | rfl | rfl <;> exact ⟨_, rfl, by decide⟩
      refine ⟨rfl, by omega, fun z c4 hz l7 l8 => ?_⟩
      walk_at "ev"
      refine ⟨by omega, ⟨l ++ [.tup [.int m, z]], _, rfl, by simp [hl], fun r hr2 => ?_⟩, by omega, by omega⟩
      rcases List.mem_append.mp hr2 with h | h
      · exact hr r h
      · rw [List.mem_singleton.mp h]; exact ⟨m, z, rfl, hm0, hz⟩
    · rintro ρ c ⟨⟨l, s, rfl, hl, hr⟩, b0, b1⟩
      rw [upInts_length] at hl b1
      walk_at "ev"
      exact q _ _ ⟨x, l, rfl, hx, by omega, hr⟩ b0 (by omega)
/-- a layout, or one that was bent: plain, three deep -/
def bentD (d : D) : Prop := Pl 3 d
def lenOk : D → Prop
  | .tup l => l.length ≤ 100
  | _ => True
omit T in
theorem lenOk_of {d : D} (h : ∀ l, d = .tup l → l.length ≤ 100) : lenOk d := by
  cases d <;> first | trivial | exact h _ rfl
omit T in
theorem pl_nil {n : Nat} : Pl (n + 1) (.tup []) := fun d hd => nomatch hd
omit T in
theorem pl_cons {n : Nat} {a : D} {l : List D} (h : Pl n a) (k : Pl (n + 1) (.tup l)) : Pl (n + 1) (.tup (a :: l)) := fun d hd => by
  rcases List.mem_cons.mp hd with rfl | hd
  · exact h
  · exact k d hd
omit T in
theorem pl_lst {n : Nat} {l : List D} (k : Pl (n + 1) (.tup l)) : Pl (n + 1) (.lst l) := k
omit T in
theorem pl_str {n : Nat} {x : Str} (h : (decide (x.length ≤ 1000) && PyData.strOk x) = true) : Pl n (.str x) := by
  simp only [Bool.and_eq_true, decide_eq_true_eq] at h
  cases n <;> exact h
omit T in
theorem pl_int {n : Nat} {i : Int} : Pl n (.int i) := by cases n <;> trivial
omit T in
theorem pl_bl {n : Nat} {i : Bool} : Pl n (.bl i) := by cases n <;> trivial
omit T in
theorem pl_non {n : Nat} : Pl n .non := by cases n <;> trivial
omit T in
theorem pick {R : D → Nat → Prop} {c2 : Nat} {f : D → D} (fin : ∀ new c3, Pl 2 new → c2 ≤ c3 → c3 ≤ c2 + 2 → R new c3) (m : List D) {j : Int} {c3 : Nat} (j0 : 0 ≤ j) (j1 : j < m.length) (h : ∀ v, v ∈ m → Pl 2 (f v)) (a : c2 ≤ c3) (b : c3 ≤ c2 + 2) : @atP (atI m j) fun d => R (f d) c3 := by
  obtain ⟨v, hv, hm⟩ := atI_lt j0 j1
  exact atP.mk hv (fin _ _ (h v hm) a b)
def sp__law_bent : SpD := fun ds c Q _ => ∃ l, ds = [.opq, .tup l] ∧ (∀ r, r ∈ l → ∃ i x, r = .tup [i, x] ∧ Pl 0 i ∧ Pl 0 x) ∧ 0 < l.length ∧ l.length ≤ 100 ∧ c + 10 ≤ LIM ∧ ∀ d c', Pl 3 d → lenOk d → c ≤ c' → c' ≤ c + 10 → Q d c'
theorem ok__law_bent : FnOk P w K mg base (L2.CX P w) 3 a.f__law_bent a.d__law_bent ["_law_purse_here", "_law_layout_here"] (spOf K sp__law_bent) := by
  refine okD T._law_bent.F sc__law_bent (fun ds c Q E h => ?_) (fun cdv A outer s H E G0 c0 ED good => ⟨_, _, (pds_cons (pds_set 2 sc__law_bent.nd (pd_callC good ((ok__law_draw T).mono (by decide)) (c__law_draw_2 T) (fun _ => .nil) (pda_cons (pd_v 0) (pda_cons pd_int pda_nil))))
      (pds_cons (pds_if (pdt_cm (pdc_eqD good (pd_v 2) pd_int)) (pds_one (pds_ret (pd_at (pd_lst (pda_cons pd_non (pda_cons (pd_tup pda_nil) (pda_cons (pd_callTy call_list_of br_listA T.z_list bt_list (pda_cons (pd_v 1) pda_nil)) (pda_cons pd_str (pda_cons pd_int (pda_cons (pd_at (pd_v 1) pd_int) (pda_cons pd_bl pda_nil)))))))) (pd_callC good ((ok__law_draw T).mono (by decide)) (c__law_draw_2 T) (fun _ => .nil) (pda_cons (pd_v 0) (pda_cons pd_int pda_nil)))))) pss_nil')
      (pds_cons (pds_set 3 sc__law_bent.nd (pd_callC good ((ok__law_draw T).mono (by decide)) (c__law_draw_2 T) (fun _ => .nil) (pda_cons (pd_v 0) (pda_cons (pd_callB cr_len br_lenA T.z_len bt_len (pda_cons (pd_v 1) pda_nil)) pda_nil))))
      (pds_cons (pds_set 4 sc__law_bent.nd (pd_at (pd_v 1) (pd_v 3)))
      (pds_cons (pds_if (pdt_cm (pdc_eqD good (pd_v 2) pd_int)) (pds_one (pds_set 5 sc__law_bent.nd (pd_at (pd_lst (pda_cons pd_non (pda_cons (pd_tup pda_nil) (pda_cons (pd_callTy call_list_of br_listA T.z_list bt_list (pda_cons (pd_v 4) pda_nil)) (pda_cons (pd_plus (pd_v 4) (pd_tup (pda_cons pd_int pda_nil))) (pda_cons (pd_part (pd_v 4) pdo_none (pdo_some pd_int)) (pda_cons pd_str (pda_cons pd_int (pda_cons (pd_tup (pda_cons (pd_v 4) pda_nil)) pda_nil))))))))) (pd_callC good ((ok__law_draw T).mono (by decide)) (c__law_draw_2 T) (fun _ => .nil) (pda_cons (pd_v 0) (pda_cons pd_int pda_nil)))))) (pds_one (pds_if (pdt_cm (pdc_eqD good (pd_v 2) pd_int)) (pds_one (pds_set 5 sc__law_bent.nd (pd_tup (pda_cons (pd_at (pd_lst (pda_cons (pd_neg pd_int) (pda_cons pd_bl (pda_cons pd_non (pda_cons pd_str (pda_cons (pd_pow pd_int pd_int) (pda_cons pd_bl (pda_cons (pd_tup (pda_cons pd_int pda_nil)) (pda_cons pd_int pda_nil))))))))) (pd_callC good ((ok__law_draw T).mono (by decide)) (c__law_draw_2 T) (fun _ => .nil) (pda_cons (pd_v 0) (pda_cons pd_int pda_nil)))) (pda_cons pd_str pda_nil))))) (pds_one (pds_if (pdt_cm (pdc_eqD good (pd_v 2) pd_int)) (pds_one (pds_set 5 sc__law_bent.nd (pd_tup (pda_cons (pd_callTy call_int1 br_intA T.z_int bt_int (pda_cons (pd_cm (pdc_gt (pd_v 3) pd_int)) pda_nil)) (pda_cons (pd_at (pd_lst (pda_cons pd_str (pda_cons pd_str (pda_cons pd_non (pda_cons pd_int (pda_cons (pd_tup (pda_cons pd_str pda_nil)) (pda_cons (pd_lst (pda_cons pd_str pda_nil)) (pda_cons pd_str pda_nil)))))))) (pd_callC good ((ok__law_draw T).mono (by decide)) (c__law_draw_2 T) (fun _ => .nil) (pda_cons (pd_v 0) (pda_cons pd_int pda_nil)))) pda_nil))))) (pds_one (pds_set 5 sc__law_bent.nd (pd_tup (pda_cons (pd_plus pd_int (pd_callC good ((ok__law_draw T).mono (by decide)) (c__law_draw_2 T) (fun _ => .nil) (pda_cons (pd_v 0) (pda_cons pd_int pda_nil)))) (pda_cons pd_str pda_nil))))))))))
      (pds_one (pds_ret (pd_plus (pd_plus (pd_part (pd_v 1) pdo_none (pdo_some (pd_v 3))) (pd_tup (pda_cons (pd_v 5) pda_nil))) (pd_part (pd_v 1) (pdo_some (pd_plus (pd_v 3) pd_int)) pdo_none))))))))), ?_⟩)
  · obtain ⟨l, rfl, _⟩ := h; rfl
  · rintro ds Qd ⟨l, rfl, hl, h1, h2, hc, q⟩
    have pr1 : ∀ r, r ∈ l → Pl 1 r := fun r hr => by
      obtain ⟨i, x, rfl, hi, hx⟩ := hl r hr
      intro d hd
      simp only [List.mem_cons, List.not_mem_nil, or_false] at hd
      rcases hd with rfl | rfl
      · exact hi
      · exact hx
    have pr : ∀ r, r ∈ l → Pl 2 r := fun r hr => (pr1 r hr).succ
    walk_at "ev"
    refine ⟨6, rfl, by decide, by decide, by omega, fun n c1 n0 n1 l1 l2 => ?_⟩
    walk_at "ev"
    refine Br.by (fun _ => ?_) fun _ => ?_
    · obtain ⟨r, hr, hm⟩ := atI_lt (xs := l) (i := 0) (by decide) (by omega)
      refine atP.mk hr ⟨7, rfl, by decide, by decide, by omega, fun i c2 i0 i1 l3 l4 => ?_⟩
      walk_at "ev"
      obtain ⟨v, hv, hm2⟩ := atI_lt (xs := [D.non, D.tup [], D.lst l, D.str "a", D.int 0, r, D.bl true]) i0 i1
      refine atP.mk hv ?_
      obtain ⟨a, b, rfl, ha, hb⟩ := hl r hm
      have p3 : Pl 3 v ∧ lenOk v := by
        simp only [List.mem_cons, List.not_mem_nil, or_false] at hm2
        rcases hm2 with rfl | rfl | rfl | rfl | rfl | rfl | rfl
        · exact ⟨pl_non, trivial⟩
        · exact ⟨pl_nil, by show ([] : List D).length ≤ 100; decide⟩
        · exact ⟨pr, trivial⟩
        · exact ⟨pl_str (by decide +kernel), trivial⟩
        · exact ⟨pl_int, trivial⟩
        · exact ⟨(pr _ hm).succ, by show 2 ≤ 100; decide⟩
        · exact ⟨pl_bl, trivial⟩
      exact q _ _ p3.1 p3.2 (by omega) (by omega)
    · refine ⟨(l.length : Nat), rfl, by omega, by omega, by omega, fun i c2 i0 i1 l3 l4 => ?_⟩
      walk_at "ev"
      obtain ⟨r, hr, hm⟩ := atI_lt (xs := l) i0 i1
      refine atP.mk hr ?_
      have len1 : (cut l none (some i)).length ≤ 100 := by rw [cut_to l i0]; have := List.length_take_le i.toNat l; simp; omega
      have len2 : (cut l none (some i)).length + 1 + (cut l (some (i + 1)) none).length ≤ 100 := by
        rw [cut_to l i0, cut_from l (by omega)]
        simp
        omega
      have fin : ∀ new c3, Pl 2 new → c2 ≤ c3 → c3 ≤ c2 + 2 → (cut l none (some i)).length ≤ 16777215 ∧ (cut l none (some i) ++ [new]).length + (cut l (some (i + 1)) none).length ≤ 16777216 ∧ Qd (.tup (cut l none (some i) ++ [new] ++ cut l (some (i + 1)) none)) c3 := fun new c3 hn b0 b1 => by
        refine ⟨by omega, by simp only [List.length_append, List.length_cons, List.length_nil]; omega, q _ _ (fun d hd => ?_) ?_ (by omega) (by omega)⟩
        · rcases List.mem_append.mp hd with hd | hd
          · rcases List.mem_append.mp hd with hd | hd
            · exact pr d (List.mem_of_mem_take (by rw [cut_to l i0] at hd; exact hd))
            · rw [List.mem_singleton.mp hd]; exact hn
          · exact pr d (List.mem_of_mem_drop (by rw [cut_from l (by omega)] at hd; exact hd))
        · show (cut l none (some i) ++ [new] ++ cut l (some (i + 1)) none).length ≤ 100
          simp only [List.length_append, List.length_cons, List.length_nil]; omega
      obtain ⟨a, b, rfl, ha, hb⟩ := hl r hm
      have pa : ∀ n, Pl n (.str "a") := fun n => pl_str (by decide +kernel)
      have r2 : Pl 1 (.tup [a, b]) := pr1 _ hm
      have r2p : Pl 2 (.tup [a, b]) := r2.succ
      refine Br.by (fun _ => ?_) fun _ => ?_
      · walk_at "ev"
        refine ⟨8, rfl, by decide, by decide, by omega, fun j c3 j0 j1 l5 l6 => ?_⟩
        walk_at "ev"
        refine pick (f := fun d => d) fin _ j0 j1 (fun v hv => ?_) (by omega) (by omega)
        simp only [List.mem_cons, List.not_mem_nil, or_false] at hv
        rcases hv with rfl | rfl | rfl | rfl | rfl | rfl | rfl | rfl
        · exact pl_non
        · exact pl_nil
        · exact r2p
        · exact pl_cons ha.succ (pl_cons hb.succ (pl_cons pl_int pl_nil))
        · exact pl_cons ha.succ pl_nil
        · exact pl_str (by decide +kernel)
        · exact pl_int
        · exact pl_cons r2 pl_nil
      · refine Br.by (fun _ => ?_) fun _ => ?_
        · refine ⟨⟨by decide, by decide +kernel⟩, ?_⟩
          refine ⟨8, rfl, by decide, by decide, by omega, fun j c3 j0 j1 l5 l6 => ?_⟩
          walk_at "ev"
          refine pick (f := fun d => .tup [d, .str "a"]) fin _ j0 j1 (fun v hv => pl_cons ?_ (pl_cons (pa _) pl_nil)) (by omega) (by omega)
          simp only [List.mem_cons, List.not_mem_nil, or_false] at hv
          rcases hv with rfl | rfl | rfl | rfl | rfl | rfl | rfl | rfl
          · exact pl_int
          · exact pl_bl
          · exact pl_non
          · exact pl_str (by decide +kernel)
          · exact pl_int
          · exact pl_bl
          · exact pl_cons pl_int pl_nil
          · exact pl_int
        · refine Br.by (fun _ => ?_) fun _ => ?_
          · refine ⟨7, rfl, by decide, by decide, by omega, fun j c3 j0 j1 l5 l6 => ?_⟩
            walk_at "ev"
            refine pick (f := fun d => .tup [.int (b2n (decide (0 < i))), d]) fin _ j0 j1 (fun v hv => pl_cons pl_int (pl_cons ?_ pl_nil)) (by omega) (by omega)
            simp only [List.mem_cons, List.not_mem_nil, or_false] at hv
            rcases hv with rfl | rfl | rfl | rfl | rfl | rfl | rfl
            · exact pl_str (by decide +kernel)
            · exact pl_str (by decide +kernel)
            · exact pl_non
            · exact pl_int
            · exact pl_cons (pa _) pl_nil
            · exact pl_lst (pl_cons (pa _) pl_nil)
            · exact pl_str (by decide +kernel)
          · refine ⟨3, rfl, by decide, by decide, by omega, fun j c3 j0 j1 l5 l6 => ?_⟩
            walk_at "ev"
            exact fin _ _ (pl_cons pl_int (pl_cons (pa _) pl_nil)) (by omega) (by omega)
omit T in
theorem signs_pl {x : Str} {d : D} {n : Nat} (h : PyData.strOk x = true) (hd : d ∈ PL.signs x) : Pl n d := by
  unfold PL.signs at hd
  obtain ⟨c, hc, rfl⟩ := List.mem_map.mp hd
  refine pl_str ?_
  unfold PyData.strOk at h ⊢
  have := Array.all_eq_true_iff_forall_mem.mp h c (Array.mem_toList_iff.mp hc)
  simp only [Bool.and_eq_true, decide_eq_true_eq, Str.length]
  refine ⟨by simp, ?_⟩
  simpa using this
omit T in
theorem bad_nil : ∀ l : List D, eqDs (l.filterMap fun d => match signOk d with | true => none | false => some d) [] = l.all signOk
  | [] => rfl
  | d :: l => by
    rw [List.filterMap_cons, List.all_cons]
    cases e : signOk d
    · rfl
    · rw [Bool.true_and]; exact bad_nil l
def sp__law_line : SpD := fun ds c Q _ => ∃ d n, ds = [d] ∧ Pl n d ∧ n ≤ 50 ∧ Q (.bl (lineOk d)) c
theorem ok__law_line : FnOk P w K mg base (L2.CX P w) 1 a.f__law_line a.d__law_line ["_law_row"] (spOf K sp__law_line) := by
  refine okD T._law_line.F sc__law_line (fun ds c Q E h => ?_) (fun cdv A outer s H E G0 c0 ED good => ⟨_, _, (pds_cons (pds_if (pdw_pt (pdw_or (pdt_not (pdt_val (pd_callB call_isi (br_isaA (IC := IC0) hI0) T.z_isinstance bt_isinstance (pda_cons (pd_v 0) (pda_cons (pd_bty T.z_tuple bt_tuple) pda_nil))))) (pdw_or1 (pdt_cm (pdc_neD good (pd_callB cr_len br_lenA T.z_len bt_len (pda_cons (pd_v 0) pda_nil)) pd_int))))) (pds_one (pds_ret pd_bl)) pss_nil')
      (pds_cons (pds_asg (pd_v 0) (pdg_tup (n := 2) good.calm (pdg_cons (pdg_name 1 sc__law_line.nd) (pdg_cons (pdg_name 2 sc__law_line.nd) pdg_nil))))
      (pds_cons (pds_if (pdw_pt (pdw_or (pdt_not (pdt_val (pd_callB call_isi (br_isaA (IC := IC0) hI0) T.z_isinstance bt_isinstance (pda_cons (pd_v 1) (pda_cons (pd_bty T.z_int bt_int) pda_nil))))) (pdw_or (pdt_val (pd_callB call_isi (br_isaA (IC := IC0) hI0) T.z_isinstance bt_isinstance (pda_cons (pd_v 1) (pda_cons (pd_bty T.z_bool bt_bool) pda_nil)))) (pdw_or (pdt_cm (pdc_lt (pd_v 1) pd_int)) (pdw_or1 (pdt_not (pdt_val (pd_callB call_isi (br_isaA (IC := IC0) hI0) T.z_isinstance bt_isinstance (pda_cons (pd_v 2) (pda_cons (pd_bty T.z_str bt_str) pda_nil)))))))))) (pds_one (pds_ret pd_bl)) pss_nil')
      (pds_one (pds_ret (pd_cm (pdc_eqD good (pd_lc (own := [("_law_sign", 3)]) good.calm sc__law_line.nd (pdi_any (pd_v 2)) (blkOk_by (N := ["_law_row", "_law_indent", "_law_words", "_law_sign"]) (sc := (defScope s__law_line)) (by decide +kernel)) ⟨fun s1 H1 C1 cl1 fp1 => (pdg_name 3 sc__law_line.nd), fun s1 H1 C1 cl1 fp1 => (pdts_one (pdt_not (pdt_leP2 pd_str (pd_v 3) pd_str))), fun s1 H1 C1 cl1 fp1 => (pd_v 3)⟩) (pd_lst pda_nil)))))))), ?_⟩)
  · obtain ⟨d, n, rfl, _⟩ := h; rfl
  · rintro ds Qd ⟨d, n, rfl, hd, hn, q⟩
    cases d with
    | tup m =>
      match m, hd with
      | [], _ => walk_at "ev"; exact q
      | [a], _ => walk_at "ev"; exact q
      | a :: b :: e :: m, _ =>
        walk_at "ev"
        refine Br.t ?_ q
        simp only [Bool.not_eq_true', beq_eq_false_iff_ne, ne_eq]
        omega
      | [a, b], hp =>
        have ha : Pl (n - 1) a := by cases n with | zero => exact hp.elim | succ n => exact hp a (by simp)
        have hb : Pl (n - 1) b := by cases n with | zero => exact hp.elim | succ n => exact hp b (by simp)
        have fls : (isIntB a 0 && isStr b) = false → Qd (.bl false) c0 := fun e => by
          have q := q
          simp only [lineOk, e] at q
          exact q
        cases a with
        | int i =>
          walk_at "ev"
          refine Br.by (fun e => ?_) fun e => ?_
          · exact fls (by
              simp only [decide_eq_true_eq] at e
              simp only [isIntB, Bool.and_eq_false_iff, decide_eq_false_iff_not]
              omega)
          simp only [decide_eq_false_iff_not] at e
          cases b with
          | str x =>
            walk_at "ev"
            have hx : x.length ≤ 1000 := by revert hb; generalize n - 1 = u; intro hb; cases u <;> exact hb.1
            refine lc_by (fun d => match signOk d with | true => none | false => some d) (Nat.le_trans (Nat.le_of_eq (signs_length x)) (Nat.le_trans hx (by decide))) (fun d hd R R0 h1 h0 => ?_) ?_
            · obtain ⟨z, rfl⟩ := signs_str hd
              walk_at "ev"
              have h1 := h1 (.str z)
              simp only [signOk] at h1 h0
              refine Br.by (fun e => ?_) fun e => ?_
              · simp only [Bool.not_eq_true'] at e
                rw [e] at h1 h0
                cases e2 : decide ((Str.ofString "~").cps.toList < z.cps.toList) <;> rw [e2] at h1 h0
                · rw [if_neg (by decide)]; exact h0 rfl
                · rw [if_pos (by decide)]; exact h1 rfl
              · rw [if_pos trivial]
                simp only [Bool.not_eq_false'] at e
                rw [e] at h1
                exact h1 rfl
            · refine ⟨fun d hd => ?_, (fun d hd => nomatch hd), ?_⟩
              · obtain ⟨y, hy, e⟩ := List.mem_filterMap.mp hd
                have ey : y = d := by cases e2 : signOk y <;> rw [e2] at e <;> cases e; rfl
                subst ey
                refine signs_pl ?_ hy
                revert hb; generalize n - 1 = u; intro hb; cases u <;> exact hb.2
              · have e2 : isIntB (.int i) 0 = true := by simp only [isIntB, decide_eq_true_eq]; omega
                simp only [lineOk, e2, Bool.true_and, isStr, okStr] at q
                simp only [eqD, bad_nil]
                exact q
          | _ => first | (exfalso; revert hb; generalize n - 1 = u; intro hb; cases u <;> exact hb; done) | (walk_at "ev"; exact fls (by simp only [isStr, Bool.and_false]))
        | _ => first | (exfalso; revert ha; generalize n - 1 = u; intro ha; cases u <;> exact ha; done) | (walk_at "ev"; exact fls (by simp only [isIntB, Bool.false_and]))
    | _ => first | (exfalso; cases n <;> exact hd; done) | (walk_at "ev"; exact q)
def sp__law_due : SpD := fun ds c Q _ => ∃ d, ds = [d] ∧ Pl 3 d ∧ Q (check d) c
theorem ok__law_due : FnOk P w K mg base (L2.CX P w) 2 a.f__law_due a.d__law_due ["_law_item"] (spOf K sp__law_due) := by
  refine okD T._law_due.F sc__law_due (fun ds c Q E h => ?_) (fun cdv A outer s H E G0 c0 ED good => ⟨_, _, (pds_cons (pds_if (pdw_pt (pdw_or (pdt_not (pdt_val (pd_callB call_isi (br_isaA (IC := IC0) hI0) T.z_isinstance bt_isinstance (pda_cons (pd_v 0) (pda_cons (pd_bty T.z_tuple bt_tuple) pda_nil))))) (pdw_or1 (pdt_cm (pdc_eqD good (pd_v 0) (pd_tup pda_nil)))))) (pds_one (pds_ret (pd_tup (pda_cons pd_str pda_nil)))) pss_nil')
      (pds_cons (pds_for PassesOwn.leaving good.calm (pdi_enum T.z_enumerate (pda_cons (pd_v 0) pda_nil)) (pdg_tup (n := 2) good.calm (pdg_cons (pdg_name 1 sc__law_due.nd) (pdg_cons (pdg_name 2 sc__law_due.nd) pdg_nil)))
      (pds_one (pds_if (pdt_not (pdt_val (pd_callC good ((ok__law_line T).mono (by decide)) (c__law_line_1 T) (fun _ => .nil) (pda_cons (pd_v 2) pda_nil)))) (pds_one (pds_ret (pd_tup (pda_cons pd_str (pda_cons (pd_v 1) pda_nil))))) pss_nil')))
      (pds_one (pds_ret (pd_at (pd_lst (pda_cons pd_non (pda_cons (pd_tup (pda_cons pd_str pda_nil)) pda_nil))) (pd_callTy call_int1 br_intA T.z_int bt_int (pda_cons (pd_cm (pdc_neD good (pd_at (pd_at (pd_v 0) pd_int) pd_int) pd_int)) pda_nil))))))), ?_⟩)
  · obtain ⟨d, rfl, _⟩ := h; rfl
  · rintro ds Qd ⟨d, rfl, hf, q⟩
    cases d with
    | tup l =>
      have h60 : Pl 60 (.tup l) := hf.mono (by decide)
      have e60 : Pl 60 (.tup []) := fun d hd => absurd hd (by simp)
      cases l with
      | nil =>
        walk_at "ev"
        exact ⟨h60, h60, q⟩
      | cons r l =>
        walk_at "ev"
        refine ⟨h60, e60, ?_⟩
        refine ⟨fun k ρ c => c = c0 ∧ (∃ s1 s2, ρ = [.fz (.tup (r :: l)), s1, s2]) ∧ badAt 0 (r :: l) = badAt k ((r :: l).drop k), ⟨rfl, ⟨_, _, rfl⟩, rfl⟩, ?_, ?_⟩
        · rintro k x ρ c hx ⟨rfl, ⟨s1, s2, rfl⟩, hb⟩
          obtain ⟨row, hr, rfl⟩ := numbered_get hx
          have st := badAt_step hr hb
          have hp : Pl 2 row := hf row (List.mem_of_getElem? hr)
          walk_at "ev"
          refine ⟨row, 2, rfl, hp, by decide, ?_⟩
          walk_at "ev"
          refine Br.by (fun e => ?_) fun e => ?_
          · simp only [Bool.not_eq_true'] at e
            rw [e, if_neg Bool.false_ne_true] at st
            simp only [check, st] at q
            exact q
          · simp only [Bool.not_eq_false'] at e
            rw [e, if_pos rfl] at st
            exact ⟨⟨_, _, rfl⟩, st⟩
        · rintro ρ c ⟨rfl, ⟨s1, s2, rfl⟩, hb⟩
          rw [numbered_length, List.drop_length] at hb
          have hr : lineOk r = true := by
            cases e : lineOk r with
            | true => rfl
            | false => simp [badAt, e] at hb
          have hn : badAt 0 (r :: l) = none := hb
          simp only [check, hn] at q
          have hp : Pl 2 r := hf r List.mem_cons_self
          match r, hr, hp, q with
          | .tup [i, x], hr, hp, q =>
            have hi := hp i (by simp)
            walk_at "ev"
            refine ⟨hi.mono (by decide), ?_⟩
            simp only [firstOk] at q
            cases e : eqD i (.int 0) <;> rw [e] at q <;> exact atP.mk rfl q
    | _ => first | (exfalso; exact hf; done) | (walk_at "ev"; exact q)
omit T in
theorem check_lay {d : D} (h : layD d) : check d = .non := by
  obtain ⟨x, l, rfl, hx, _, hr⟩ := h
  have ok : ∀ (m : List D) (k : Nat), (∀ r, r ∈ m → lineOk r = true) → badAt k m = none := by
    intro m
    induction m with
    | nil => intro k _; rfl
    | cons r m ih => intro k h; rw [badAt, h r List.mem_cons_self, if_pos rfl]; exact ih _ fun r hr => h r (List.mem_cons_of_mem _ hr)
  have so : ∀ {z : D}, strD z → isStr z = true := fun {z} hz => by
    cases z with
    | str y => exact hz.2.1
    | _ => exact hz.elim
  have b : badAt 0 (.tup [.int 0, x] :: l) = none := ok _ _ fun r hr2 => by
    rcases List.mem_cons.mp hr2 with rfl | h
    · simp only [lineOk, isIntB, so hx]; rfl
    · obtain ⟨i, z, rfl, hi, hz⟩ := hr r h
      simp only [lineOk, isIntB, so hz, decide_eq_true hi]
      rfl
  simp only [check, b, firstOk]
  rfl
omit T in
theorem lay_rows {x : D} {l : List D} (hx : strD x) (hr : ∀ r, r ∈ l → rowD r) : ∀ r, r ∈ (D.tup [.int 0, x] :: l) → ∃ i z, r = .tup [i, z] ∧ Pl 0 i ∧ Pl 0 z := fun r h => by
  rcases List.mem_cons.mp h with rfl | h
  · exact ⟨_, _, rfl, pl_int, strD_pl hx⟩
  · obtain ⟨i, z, rfl, _, hz⟩ := hr r h
    exact ⟨_, _, rfl, pl_int, strD_pl hz⟩
omit T in
theorem lay_pl {d : D} (h : layD d) : Pl 3 d := by
  obtain ⟨x, l, rfl, hx, _, hr⟩ := h
  intro r hr2
  obtain ⟨i, z, rfl, hi, hz⟩ := lay_rows hx hr r hr2
  exact pl_cons (hi.mono (by decide)) (pl_cons (hz.mono (by decide)) pl_nil)
omit T in
theorem check_rows {d : D} (h : check d = .non) (hp : Pl 3 d) : ∃ l, d = .tup l ∧ 0 < l.length ∧ ∀ r, r ∈ l → ∃ i z, r = .tup [i, z] ∧ Pl 0 i ∧ Pl 0 z := by
  have ok : ∀ (m : List D) (k : Nat), badAt k m = none → ∀ r, r ∈ m → lineOk r = true := by
    intro m
    induction m with
    | nil => intro k _ r hr; exact nomatch hr
    | cons r m ih =>
      intro k h r2 hr
      rw [badAt] at h
      cases e : lineOk r with
      | false => rw [e, if_neg Bool.false_ne_true] at h; cases h
      | true =>
        rw [e, if_pos rfl] at h
        rcases List.mem_cons.mp hr with rfl | hr
        · exact e
        · exact ih _ h _ hr
  match d, h, hp with
  | .tup (r :: l), h, hp =>
    refine ⟨_, rfl, Nat.succ_pos _, fun x hx => ?_⟩
    cases e : badAt 0 (r :: l) with
    | some k => simp only [check, e] at h; cases h
    | none =>
      have ox := ok _ _ e x hx
      have px : Pl 2 x := hp x hx
      match x, ox, px with
      | .tup [i, z], ox, px =>
        simp only [lineOk, Bool.and_eq_true] at ox
        refine ⟨_, _, rfl, ?_, ?_⟩
        · cases i with
          | int i => trivial
          | _ => exact absurd ox.1 (by simp [isIntB])
        · cases z with
          | str y => exact px (.str y) (by simp)
          | _ => exact absurd ox.2 (by simp [isStr])
  | .tup [], h, _ => cases h
  | .non, h, _ => cases h
  | .bl _, h, _ => cases h
  | .int _, h, _ => cases h
  | .str _, h, _ => cases h
  | .lst _, h, _ => cases h
omit T in
theorem check_pl (d : D) : Pl 60 (check d) := by
  have f : Pl 60 (D.tup [D.str "form"]) := pl_cons (pl_str (by decide +kernel)) pl_nil
  match d with
  | .tup (r :: l) =>
    cases e : badAt 0 (r :: l) with
    | some k => simp only [check, e]; exact pl_cons (pl_str (by decide +kernel)) (pl_cons pl_int pl_nil)
    | none =>
      simp only [check, e]
      cases firstOk r
      · show Pl 60 (D.tup [D.str "first"]); exact pl_cons (pl_str (by decide +kernel)) pl_nil
      · exact pl_non
  | .tup [] => exact f
  | .non => exact f
  | .bl _ => exact f
  | .int _ => exact f
  | .str _ => exact f
  | .lst _ => exact f
  | .ty _ => exact f
  | .cls _ => exact f
  | .dct _ _ => exact f
  | .ins _ _ _ => exact f
  | .opq => exact f
omit T in
theorem check_self (d : D) : eqD (check d) (check d) = true := by
  have f : eqD (D.tup [D.str "form"]) (D.tup [D.str "form"]) = true := by decide +kernel
  match d with
  | .tup (r :: l) =>
    cases e : badAt 0 (r :: l) with
    | some k => simp only [check, e, eqD, eqDs, beq_self_eq_true, Bool.true_and]
    | none =>
      simp only [check, e]
      cases firstOk r <;> decide +kernel
  | .tup [] => exact f
  | .non => exact f
  | .bl _ => exact f
  | .int _ => exact f
  | .str _ => exact f
  | .lst _ => exact f
  | .ty _ => exact f
  | .cls _ => exact f
  | .dct _ _ => exact f
  | .ins _ _ _ => exact f
  | .opq => exact f
omit T in
theorem check_pl2 : Pl 60 (D.tup [D.str (Str.ofString "line"), D.int 1]) := pl_cons (pl_str (x := Str.ofString "line") (by decide +kernel)) (pl_cons pl_int pl_nil)
def sp_law : SpD := fun ds c Q _ => ∃ ns : List Int, ds = [.lst (ns.map .int)] ∧ ns.length ≤ 63 ∧ c + 2000 ≤ LIM ∧ ∀ c', Q (.bl true) c'
theorem ok_law : FnOk P w K mg base (L2.CX P w) 5 a.f_law a.d_law ["_law_script"] (spOf K sp_law) := by
  refine okD T.law.F sc_law (fun ds c Q E h => ?_) (fun cdv A outer s H E G0 c0 ED good => ⟨_, _, (pds_cons (pds_for PassesOwn.leaving good.calm (pdi_range1 T.z_range (pda_cons (pd_plus pd_int (pd_callB (call_min2 good.calm) br_min2 T.z_min bt_min (pda_cons pd_int (pda_cons (pd_callB cr_len br_lenA T.z_len bt_len (pda_cons (pd_v 0) pda_nil)) pda_nil)))) pda_nil)) (pdg_name 1 sc_law.nd)
      (pds_cons (pds_set 3 sc_law.nd (pd_callC good ((ok__law_purse T).mono (by decide)) (c__law_purse_2 T) (fun _ => .nil) (pda_cons (pd_v 0) (pda_cons (pd_v 1) pda_nil))))
      (pds_one (pds_for PassesOwn.leaving good.calm (pdi_range1 T.z_range (pda_cons pd_int pda_nil)) (pdg_name 4 sc_law.nd)
      (pds_cons (pds_set 5 sc_law.nd (pd_callC good ((ok__law_layout T).mono (by decide)) (c__law_layout_1 T) (fun _ => .nil) (pda_cons (pd_v 3) pda_nil)))
      (pds_cons (pds_if (pdw_pt (pdw_or (pdt_cm (pdc_notN (pd_callC good ((ok_check_layout T).mono (by decide)) (c_check_layout_1 T) (fun _ => .nil) (pda_cons (pd_v 5) pda_nil)))) (pdw_or1 (pdt_cm (pdc_notN (pd_callK0 good ((ok_check_layout T).mono (by decide)) (c_check_layout_0_thing T) (pdk_cons (pd_v 5) pdk_nil))))))) (pds_one (pds_ret pd_bl)) pss_nil')
      (pds_cons (pds_set 6 sc_law.nd (pd_callC good ((ok__law_bent T).mono (by decide)) (c__law_bent_2 T) (fun _ => .nil) (pda_cons (pd_v 3) (pda_cons (pd_v 5) pda_nil))))
      (pds_cons (pds_if (pdw_pt (pdw_and (pdt_cm (pdc_isN (pd_callC good ((ok__law_due T).mono (by decide)) (c__law_due_1 T) (fun _ => .nil) (pda_cons (pd_v 6) pda_nil)))) (pdw_and1 (pdt_cm (pdc_eqD good (pd_callC good ((ok__law_draw T).mono (by decide)) (c__law_draw_2 T) (fun _ => .nil) (pda_cons (pd_v 3) (pda_cons pd_int pda_nil))) pd_int))))) (pds_one (pds_set 6 sc_law.nd (pd_callC good ((ok__law_bent T).mono (by decide)) (c__law_bent_2 T) (fun _ => .nil) (pda_cons (pd_v 3) (pda_cons (pd_v 6) pda_nil))))) pss_nil')
      (pds_one (pds_if (pdt_cm (pdc_neD good (pd_callC good ((ok_check_layout T).mono (by decide)) (c_check_layout_1 T) (fun _ => .nil) (pda_cons (pd_v 6) pda_nil)) (pd_callC good ((ok__law_due T).mono (by decide)) (c__law_due_1 T) (fun _ => .nil) (pda_cons (pd_v 6) pda_nil)))) (pds_one (pds_ret pd_bl)) pss_nil'))))))))))
      (pds_cons (pds_set 2 sc_law.nd (pd_tup (pda_cons (pd_tup (pda_cons pd_int (pda_cons pd_str pda_nil))) (pda_cons (pd_tup (pda_cons pd_int (pda_cons pd_int pda_nil))) (pda_cons (pd_tup (pda_cons pd_int (pda_cons pd_str pda_nil))) (pda_cons (pd_tup (pda_cons (pd_neg pd_int) (pda_cons pd_str pda_nil))) pda_nil))))))
      (pds_cons (pds_if (pdt_cm (pdc_neD good (pd_callC good ((ok_check_layout T).mono (by decide)) (c_check_layout_1 T) (fun _ => .nil) (pda_cons (pd_tup (pda_cons (pd_tup (pda_cons pd_int (pda_cons pd_str pda_nil))) (pda_cons (pd_tup (pda_cons (pd_neg pd_int) (pda_cons pd_str pda_nil))) (pda_cons (pd_tup (pda_cons pd_int (pda_cons pd_int pda_nil))) pda_nil)))) pda_nil)) (pd_tup (pda_cons pd_str (pda_cons pd_int pda_nil))))) (pds_one (pds_ret pd_bl)) pss_nil')
      (pds_one (pds_ret (pd_and (pd_cm (pdc_eqD good (pd_callC good ((ok_check_layout T).mono (by decide)) (c_check_layout_1 T) (fun _ => .nil) (pda_cons (pd_v 2) pda_nil)) (pd_tup (pda_cons pd_str (pda_cons pd_int pda_nil))))) (pd_one (pd_cm (pdc_eqD good (pd_callC good ((ok_check_layout T).mono (by decide)) (c_check_layout_1 T) (fun _ => .nil) (pda_cons (pd_tup (pda_cons (pd_tup (pda_cons pd_int (pda_cons pd_str pda_nil))) (pda_cons (pd_tup (pda_cons pd_int (pda_cons pd_non pda_nil))) pda_nil))) pda_nil)) (pd_tup (pda_cons pd_str (pda_cons pd_int pda_nil)))))))))))), ?_⟩)
  · obtain ⟨d, rfl, _⟩ := h; rfl
  · rintro ds Qd ⟨ns, rfl, hn, hc, q⟩
    walk_at "ev"
    have lim : LIM = 2 ^ 60 := rfl
    have le5 : ∀ z : Int, (if z < 5 then z else 5) ≤ 5 := fun z => by split <;> omega
    have ge0 : ∀ z : Nat, 0 ≤ (if (z : Int) < 5 then (z : Int) else 5) := fun z => by split <;> omega
    refine ⟨by have := ge0 (ns.map D.int).length; omega, by have := le5 (ns.map D.int).length; omega, ?_⟩
    refine ⟨fun k ρ c => (∃ s1 s2 s3 s4 s5 s6, ρ = [.fz (.lst (ns.map .int)), s1, s2, s3, s4, s5, s6]) ∧ c0 ≤ c ∧ c ≤ c0 + 300 * k, ⟨⟨_, _, _, _, _, _, rfl⟩, by omega, by omega⟩, ?_, ?_⟩
    · rintro k y ρ c hy ⟨⟨s1, s2, s3, s4, s5, s6, rfl⟩, b0, b1⟩
      obtain ⟨hk, rfl⟩ := upInts_get hy
      walk_at "ev"
      have k5 := le5 (ns.map D.int).length
      refine ⟨ns, k, by rw [Int.zero_add], by omega, ?_⟩
      refine ⟨by decide, by decide, ?_⟩
      refine ⟨fun j ρ c' => (∃ s4 s5 s6, ρ = [.fz (.lst (ns.map .int)), .fz (.int (0 + (k : Int))), s2, .fz .opq, s4, s5, s6]) ∧ c ≤ c' ∧ c' ≤ c + 60 * j, ⟨⟨_, _, _, rfl⟩, by omega, by omega⟩, ?_, ?_⟩
      · rintro j y ρ c1 hy ⟨⟨s4, s5, s6, rfl⟩, b2, b3⟩
        obtain ⟨hj, rfl⟩ := upInts_get hy
        have hj4 : j < 4 := hj
        walk_at "ev"
        refine ⟨rfl, by omega, fun d c2 hd l1 l2 => ?_⟩
        walk_at "ev"
        refine ⟨d, rfl, lay_pl hd, ?_⟩
        rw [check_lay hd]
        walk_at "ev"
        refine ⟨d, rfl, lay_pl hd, ?_⟩
        rw [check_lay hd]
        walk_at "ev"
        obtain ⟨x, l, rfl, hx, hl, hr⟩ := hd
        refine ⟨_, rfl, lay_rows hx hr, Nat.succ_pos _, by simp only [List.length_cons]; omega, by omega, fun e c3 he le l3 l4 => ?_⟩
        walk_at "ev"
        refine ⟨e, rfl, he, ?_⟩
        have fin : ∀ (e : D) (c4 : Nat) , Pl 3 e → c1 ≤ c4 → c4 ≤ c1 + 60 → sp_check_layout [e] c4 (fun z1 c6 => sp__law_due [e] c6 (fun z2 c7 => Pl 60 z1 ∧ Pl 60 z2 ∧ @Br (!eqD z1 z2) (Qd (D.bl false) c7) ((∃ s4 s5 s6', [Sl.fz (.lst (ns.map .int)), .fz (.int (0 + (k : Int))), s2, .fz .opq, .fz (.int (0 + (j : Int))), .fz (.tup (.tup [.int 0, x] :: l)), .fz e] = [Sl.fz (.lst (ns.map .int)), .fz (.int (0 + (k : Int))), s2, .fz .opq, s4, s5, s6']) ∧ c ≤ c7 ∧ c7 ≤ c + 60 * (j + 1))) ED) ED := fun e c4 he g1 g2 => by
          refine ⟨e, rfl, he, ?_⟩
          refine ⟨e, rfl, he, check_pl _, check_pl _, Br.f (by rw [check_self]; rfl) ⟨⟨_, _, _, rfl⟩, by omega, by omega⟩⟩
        cases ck : check e with
        | non =>
          refine Br.t rfl ?_
          refine ⟨2, rfl, by decide, by decide, by omega, fun u c4 u0 u1 l5 l6 => ?_⟩
          refine ⟨pl_int, Br.by (fun _ => ?_) fun _ => fin e c4 he (by omega) (by omega)⟩
          obtain ⟨m, rfl, hm, hrow⟩ := check_rows ck he
          refine ⟨_, rfl, hrow, hm, le, by omega, fun e2 c5 he2 _ l7 l8 => fin e2 c5 he2 (by omega) (by omega)⟩
        | _ => exact Br.f rfl (fin e c3 he (by omega) (by omega))
      · rintro ρ c' ⟨⟨s4, s5, s6, rfl⟩, b2, b3⟩
        walk_at "ev"
        have e4 : (upInts 0 (Int.toNat 4)).length = 4 := by simp [upInts_length]
        rw [e4] at b3
        exact ⟨⟨_, _, _, _, _, _, rfl⟩, by omega, by omega⟩
    · rintro ρ c ⟨⟨s1, s2, s3, s4, s5, s6, rfl⟩, b0, b1⟩
      walk_at "ev"
      have pa : ∀ (x : Str) n, (decide (x.length ≤ 1000) && PyData.strOk x) = true → Pl n (.str x) := fun x n => pl_str
      refine ⟨_, rfl, ?_, ?_⟩
      · exact pl_cons (pl_cons pl_int (pl_cons (pl_str (by decide +kernel)) pl_nil)) (pl_cons (pl_cons pl_int (pl_cons (pl_str (by decide +kernel)) pl_nil)) (pl_cons (pl_cons pl_int (pl_cons pl_int pl_nil)) pl_nil))
      refine ⟨check_pl _, check_pl2, Br.f (by decide +kernel) ?_⟩
      refine ⟨_, rfl, ?_, ?_⟩
      · exact pl_cons (pl_cons pl_int (pl_cons (pl_str (by decide +kernel)) pl_nil)) (pl_cons (pl_cons pl_int (pl_cons pl_int pl_nil)) (pl_cons (pl_cons pl_int (pl_cons (pl_str (by decide +kernel)) pl_nil)) (pl_cons (pl_cons pl_int (pl_cons (pl_str (by decide +kernel)) pl_nil)) pl_nil)))
      refine ⟨check_pl _, check_pl2, Br.t (by decide +kernel) ?_⟩
      refine ⟨_, rfl, ?_, ?_⟩
      · exact pl_cons (pl_cons pl_int (pl_cons (pl_str (by decide +kernel)) pl_nil)) (pl_cons (pl_cons pl_int (pl_cons pl_non pl_nil)) pl_nil)
      refine ⟨check_pl _, check_pl2, ?_⟩
      have : eqD (check (D.tup [D.tup [D.int 1, D.str (Str.ofString "a")], D.tup [D.int 0, D.non]])) (D.tup [D.str (Str.ofString "line"), D.int 1]) = true := by decide +kernel
      rw [this]
      exact q _
omit T in
theorem law_end (ns : List Int) (h : ns.length ≤ 63) : sp_law [.lst (ns.map .int)] 0 (fun d _ => d = .bl true) fun _ _ _ _ => False := ⟨ns, rfl, h, by decide, fun _ => rfl⟩
end
def dd_is_string : He.DefD := ⟨("is_string", none), "is_string", "is_string", defArgs s_is_string, defBody s_is_string, defScope s_is_string, [], []⟩
def dd_is_integer : He.DefD := ⟨("is_integer", none), "is_integer", "is_integer", defArgs s_is_integer, defBody s_is_integer, defScope s_is_integer, [.non, .non], []⟩
def dd_check_layout : He.DefD := ⟨("check_layout", none), "check_layout", "check_layout", defArgs s_check_layout, defBody s_check_layout, defScope s_check_layout, [], []⟩
def dd__law_at : He.DefD := ⟨("_law_at", none), "_law_at", "_law_at", defArgs s__law_at, defBody s__law_at, defScope s__law_at, [], []⟩
def dd__law_mixed : He.DefD := ⟨("_law_mixed", none), "_law_mixed", "_law_mixed", defArgs s__law_mixed, defBody s__law_mixed, defScope s__law_mixed, [], []⟩
def dd__law_purse : He.DefD := ⟨("_law_purse", none), "_law_purse", "_law_purse", defArgs s__law_purse, defBody s__law_purse, defScope s__law_purse, [], []⟩
def dd__law_draw : He.DefD := ⟨("_law_draw", none), "_law_draw", "_law_draw", defArgs s__law_draw, defBody s__law_draw, defScope s__law_draw, [], []⟩
def dd__law_string : He.DefD := ⟨("_law_string", none), "_law_string", "_law_string", defArgs s__law_string, defBody s__law_string, defScope s__law_string, [], []⟩
def dd__law_layout : He.DefD := ⟨("_law_layout", none), "_law_layout", "_law_layout", defArgs s__law_layout, defBody s__law_layout, defScope s__law_layout, [], []⟩
def dd__law_bent : He.DefD := ⟨("_law_bent", none), "_law_bent", "_law_bent", defArgs s__law_bent, defBody s__law_bent, defScope s__law_bent, [], []⟩
def dd__law_line : He.DefD := ⟨("_law_line", none), "_law_line", "_law_line", defArgs s__law_line, defBody s__law_line, defScope s__law_line, [], []⟩
def dd__law_due : He.DefD := ⟨("_law_due", none), "_law_due", "_law_due", defArgs s__law_due, defBody s__law_due, defScope s__law_due, [], []⟩
def dd_law : He.DefD := ⟨("law", none), "law", "law", defArgs s_law, defBody s_law, defScope s_law, [], []⟩
def fn : List He.DefD := [dd_is_string, dd_is_integer, dd_check_layout, dd__law_at, dd__law_mixed, dd__law_purse, dd__law_draw, dd__law_string, dd__law_layout, dd__law_bent, dd__law_line, dd__law_due, dd_law]
def fa : List He.Fa := [.glo "is_string", .glo "is_integer", .glo "check_layout", .glo "_law_at", .glo "_law_mixed", .glo "_law_purse", .glo "_law_draw", .glo "_law_string", .glo "_law_layout", .glo "_law_bent", .glo "_law_line", .glo "_law_due", .glo "law", .free "all", .free "bool", .free "enumerate", .free "int", .free "isinstance", .free "len", .free "list", .free "max", .free "min", .free "range", .free "str", .free "tuple"]
abbrev R : PySem.W.OpenRow := PySem.W.OpenLaw.row PySem.Challenge.rw_layoutsets_k10_layouts_checked
abbrev hk : PySem.W.Hook := He.hookD 4 fa fn
def ob (s : PySem.W.SharedT) : He.AlD := He.obsDG 4 fa fn (HandSHeadRun.getT s)
theorem ob_eq (s : PySem.W.SharedT) : ob s = hk.obs s.abs := He.obsDG_eq (HandSHeadRun.getT_eq s)
def loose : List PySem.Str := ["is_string", "is_integer", "check_layout", "_law_at", "_law_mixed", "_law_purse", "_law_draw", "_law_string", "_law_layout", "_law_bent", "_law_line", "_law_due"]
theorem run (w : World) : HandSHeadRun.RunEq R (PySem.W.view R.prog [15]) hk ob 4000 loose w := by
  intro os
  kernel_rfl
theorem facts {P : Program} {w : World} {K : PySem.W.Frag} {h : Heap} {mg : Str → Option Value} {f : Addr} (X : K.In h) (G : h.Ns mainGlobals mg) (hfa : mg ("law" : Str) = some (.ref f)) (c : He.SaysD fa fn K) :
    ∃ fd : FuncData, (∀ (s : Shared) (v : Value), BindsTo s fd ⟨[v], []⟩ [("_law_script", v)]) ∧ ∀ base : Heap, K.In base → base.Ns mainGlobals mg → FnOk P w K mg base (L2.CX P w) 5 f fd ["_law_script"] (spOf K sp_law) := by
  obtain ⟨d0, F0⟩ := c.def_ 0 (d := dd_is_string) rfl
  obtain ⟨d1, F1⟩ := c.def_ 1 (d := dd_is_integer) rfl
  obtain ⟨d2, F2⟩ := c.def_ 2 (d := dd_check_layout) rfl
  obtain ⟨d3, F3⟩ := c.def_ 3 (d := dd__law_at) rfl
  obtain ⟨d4, F4⟩ := c.def_ 4 (d := dd__law_mixed) rfl
  obtain ⟨d5, F5⟩ := c.def_ 5 (d := dd__law_purse) rfl
  obtain ⟨d6, F6⟩ := c.def_ 6 (d := dd__law_draw) rfl
  obtain ⟨d7, F7⟩ := c.def_ 7 (d := dd__law_string) rfl
  obtain ⟨d8, F8⟩ := c.def_ 8 (d := dd__law_layout) rfl
  obtain ⟨d9, F9⟩ := c.def_ 9 (d := dd__law_bent) rfl
  obtain ⟨d10, F10⟩ := c.def_ 10 (d := dd__law_line) rfl
  obtain ⟨d11, F11⟩ := c.def_ 11 (d := dd__law_due) rfl
  obtain ⟨d12, F12⟩ := c.def_ 12 (d := dd_law) rfl
  have e := hfa.symm.trans (He.glo_ok X G (c.fact 12 (f := .glo "law") rfl))
  cases e
  have b := FunD.bindsA (ps := ["_law_script"]) F12 fun _ _ _ _ _ _ us hl => match us, hl with | [_], _ => rfl
  have T : Txt K mg ⟨_, d0, _, d1, _, d2, _, d3, _, d4, _, d5, _, d6, _, d7, _, d8, _, d9, _, d10, _, d11, _, d12⟩ := ⟨⟨F0, He.glo_ok X G (c.fact 0 (f := .glo "is_string") rfl)⟩, ⟨F1, He.glo_ok X G (c.fact 1 (f := .glo "is_integer") rfl)⟩, ⟨F2, He.glo_ok X G (c.fact 2 (f := .glo "check_layout") rfl)⟩, ⟨F3, He.glo_ok X G (c.fact 3 (f := .glo "_law_at") rfl)⟩, ⟨F4, He.glo_ok X G (c.fact 4 (f := .glo "_law_mixed") rfl)⟩, ⟨F5, He.glo_ok X G (c.fact 5 (f := .glo "_law_purse") rfl)⟩, ⟨F6, He.glo_ok X G (c.fact 6 (f := .glo "_law_draw") rfl)⟩, ⟨F7, He.glo_ok X G (c.fact 7 (f := .glo "_law_string") rfl)⟩, ⟨F8, He.glo_ok X G (c.fact 8 (f := .glo "_law_layout") rfl)⟩, ⟨F9, He.glo_ok X G (c.fact 9 (f := .glo "_law_bent") rfl)⟩, ⟨F10, He.glo_ok X G (c.fact 10 (f := .glo "_law_line") rfl)⟩, ⟨F11, He.glo_ok X G (c.fact 11 (f := .glo "_law_due") rfl)⟩, ⟨F12, He.glo_ok X G (c.fact 12 (f := .glo "law") rfl)⟩, He.free_ok X G (c.fact 13 (f := .free "all") rfl), He.free_ok X G (c.fact 14 (f := .free "bool") rfl), He.free_ok X G (c.fact 15 (f := .free "enumerate") rfl), He.free_ok X G (c.fact 16 (f := .free "int") rfl), He.free_ok X G (c.fact 17 (f := .free "isinstance") rfl), He.free_ok X G (c.fact 18 (f := .free "len") rfl), He.free_ok X G (c.fact 19 (f := .free "list") rfl), He.free_ok X G (c.fact 20 (f := .free "max") rfl), He.free_ok X G (c.fact 21 (f := .free "min") rfl), He.free_ok X G (c.fact 22 (f := .free "range") rfl), He.free_ok X G (c.fact 23 (f := .free "str") rfl), He.free_ok X G (c.fact 24 (f := .free "tuple") rfl)⟩
  exact ⟨d12, fun s v => b s [v] rfl, fun base _ _ => ok_law T⟩
end K10
open PySem PySem.W PySem.Calls PyProof.Rows
set_option maxRecDepth 100000 in
set_option maxHeartbeats 0 in
theorem PySem.Challenge.cw_layoutsets_k10_layouts_checked_holds : PySem.Challenge.rw_layoutsets_k10_layouts_checked.Holds := by
  w_on; o_law
  refine HandSHeadRun.head_any (r := OpenLaw.row PySem.Challenge.rw_layoutsets_k10_layouts_checked) (q := view (OpenLaw.row PySem.Challenge.rw_layoutsets_k10_layouts_checked).prog [15]) (H := K10.hk) (ob := K10.ob) (M := 4000) (loose := K10.loose) (d := HandSHeadRun.topDef (OpenLaw.row PySem.Challenge.rw_layoutsets_k10_layouts_checked).prog 15) (kwd := []) K10.ob_eq
    (by kernel_rfl) (fun s => by kernel_rfl) K10.run (by kernel_rfl) (by kernel_rfl) (by kernel_rfl) (by rfl) (by first | assumption | decide +kernel) (by decide +kernel) ⟨rfl, rfl, rfl, rfl, rfl, by decide +kernel⟩ ?hw ?hc
  case hw => w_witness2
  case hc =>
    refine PL.walk_at_world (l := PySem.Challenge.rw_layoutsets_k10_layouts_checked) (n := 63) (k := 5) (x := "_law_script") rfl (by decide) (by kernel_rfl) ⟨rfl, by decide, by decide⟩ ?F
    intro w mg fa h Y G hmg0
    obtain ⟨K, KX, c⟩ := Y
    have hmg : mg ("law" : PySem.Str) = some (.ref fa) := by
      have e : (HandSHeadRun.topDef (OpenLaw.row PySem.Challenge.rw_layoutsets_k10_layouts_checked).prog 15).name = ("law" : PySem.Str) := by kernel_rfl
      rw [← e]
      exact hmg0
    obtain ⟨fd, hb, hF⟩ := K10.facts (P := (PySem.Challenge.rw_layoutsets_k10_layouts_checked).prog) (w := w) KX G hmg c
    exact ⟨K, fd, K10.sp_law, KX, hb, K10.law_end, hF⟩

