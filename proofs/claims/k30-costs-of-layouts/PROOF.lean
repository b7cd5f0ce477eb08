import PyProof.Rows.All
import Wide.All
import OpenK.AllK
import Wide.FinOn
import HandS.Base
import HandS.Call
import HandS.List
import HandS.Words
import HandS.Comp
import HandS.Iter
import HandS.Exc
import HandS.Defaults
import HandS.WordsExc
import HandS.IsInst
import HandS.ExcOwn
import HandS.TupAny
import HandS.Text
import HandS.Dict
import PyProof.Rows.RuleB_pow
import KE.GoesMore
import KE.GoesEnum
import HandS.Ends
import HandS.HeadEnd
import HandS.Head0
import HandS.Head1
import HandS.Head2
import HandS.HeadHook1
import HandS.HeadHook2
import HandS.ExcField
import HandS.ExcInit
import HandS.ExcIs
import HandS.WideBits
import HandS.TupMul
import HandS.Deep
import PyProof.StrBlock2
import PyProof.InstNe
import PyProof.Rows.PlainNe
import HandS.Property
import HandS.SlotsOwn
import HandS.MakeKw
import HandS.Style
import HandS.NoneIn
import PySem.Challenge.RW_layoutsets_k30_costs_of_layouts
set_option Elab.async false
set_option linter.all false
set_option maxRecDepth 100000
set_option checkBinderAnnotations false
/-! A layer of values without addresses over HandS: what a def computes is told of data alone; the heap is hidden in Rel and Evo. -/
namespace PL
open PySem PySem.Spec PyProof.Rows L2

/-- data: what a value is, through all its parts -/
inductive D where
  | non | bl (b : Bool) | int (i : Int) | str (x : Str) | ty (n : String) | cls (C : Addr)
  | tup (l : List D) | lst (l : List D)
  | scr (ns : List Int)
  | dct (ks : List Key) (l : List D)
  | ins (C : Addr) (ns : List Str) (l : List D)
  | exc (C : Addr) (ns : List Str) (l : List D)
  | opq

/-- at a: a caught exception of the class at C, its dict -/
def exT (C a : Addr) (d : Option Addr) : HO := .ext fun h => ∃ (oe : Obj) (vs : Array Value), h.get? a = some oe ∧ oe.cls = .ref C ∧ oe.dict = d ∧ oe.data = .fields vs
/-- what is settled of the heap: objects that no longer change (f), purses (pu) -/
structure GS where
  f : Hp
  pu : Addr → Prop

mutual
inductive Rp (K : PySem.W.Frag) (G : GS) : V → D → Prop
  | non : Rp K G .non .non
  | bl (b : Bool) : Rp K G (.bl b) (.bl b)
  | int (i : Int) : Rp K G (.int i) (.int i)
  | str (x : Str) : Rp K G (.str x) (.str x)
  | ty (n : String) : Rp K G (.ty n) (.ty n)
  | cls (C : Addr) : Rp K G (.ref C) (.cls C)
  | tup {a : Addr} {xs : List V} {ds : List D} : SqT K G.f a xs → RpAll K G xs ds → Rp K G (.ref a) (.tup ds)
  | lst {a : Addr} {xs : List V} {ds : List D} : G.f a = some (.lst xs) → RpAll K G xs ds → Rp K G (.ref a) (.lst ds)
  | scr {a : Addr} {ns : List Int} : SqL K G.f a (ns.map V.int) → Rp K G (.ref a) (.scr ns)
  | dct {a : Addr} {kvs : List (Key × V)} {ks : List Key} {ds : List D} : Rd G.f a (.dK kvs) → kvs.map (·.1) = ks → RpAll K G (kvs.map (·.2)) ds → Rp K G (.ref a) (.dct ks ds)
  | ins {a C dx : Addr} {fs : List (Str × V)} {ns : List Str} {ds : List D} : G.f a = some (.ins C dx fs) → fs.map (·.1) = ns → RpAll K G (fs.map (·.2)) ds → Rp K G (.ref a) (.ins C ns ds)
  | exc {a C : Addr} {dx : Option Addr} {fs : List (Str × V)} {ns : List Str} {ds : List D} : G.f a = some (exT C a dx) → ((dx = none ∧ fs = []) ∨ ∃ d, dx = some d ∧ G.f d = some (.xd fs)) → fs.map (·.1) = ns → RpAll K G (fs.map (·.2)) ds → Rp K G (.ref a) (.exc C ns ds)
  | opq {a : Addr} : G.pu a → Rp K G (.ref a) .opq
inductive RpAll (K : PySem.W.Frag) (G : GS) : List V → List D → Prop
  | nil : RpAll K G [] []
  | cons {v : V} {vs : List V} {d : D} {ds : List D} : Rp K G v d → RpAll K G vs ds → RpAll K G (v :: vs) (d :: ds)
end

section
variable {K : PySem.W.Frag} {G : GS}
theorem RpAll.length : ∀ {vs : List V} {ds : List D}, RpAll K G vs ds → vs.length = ds.length
  | _, _, .nil => rfl
  | _, _, .cons _ h => congrArg (· + 1) h.length
theorem RpAll.get : ∀ {vs : List V} {ds : List D} {i : Nat} {d : D}, RpAll K G vs ds → ds[i]? = some d → ∃ v, vs[i]? = some v ∧ Rp K G v d
  | _, _, _, _, .nil, e => by simp at e
  | _, _, 0, _, .cons r _, e => by simp at e; subst e; exact ⟨_, rfl, r⟩
  | _, _, i + 1, _, .cons _ h, e => by
    obtain ⟨v, h1, h2⟩ := h.get (i := i) (by simpa using e)
    exact ⟨v, by simpa using h1, h2⟩
theorem RpAll.getV : ∀ {vs : List V} {ds : List D} {i : Nat} {v : V}, RpAll K G vs ds → vs[i]? = some v → ∃ d, ds[i]? = some d ∧ Rp K G v d
  | _, _, _, _, .nil, e => by simp at e
  | _, _, 0, _, .cons r _, e => by simp at e; subst e; exact ⟨_, rfl, r⟩
  | _, _, i + 1, _, .cons _ h, e => by
    obtain ⟨v, h1, h2⟩ := h.getV (i := i) (by simpa using e)
    exact ⟨v, by simpa using h1, h2⟩
theorem RpAll.append : ∀ {vs us : List V} {ds es : List D}, RpAll K G vs ds → RpAll K G us es → RpAll K G (vs ++ us) (ds ++ es)
  | _, _, _, _, .nil, k => k
  | _, _, _, _, .cons r h, k => .cons r (h.append k)
theorem RpAll.take : ∀ {vs : List V} {ds : List D} (n : Nat), RpAll K G vs ds → RpAll K G (vs.take n) (ds.take n)
  | _, _, 0, _ => .nil
  | _, _, _ + 1, .nil => .nil
  | _, _, n + 1, .cons r h => .cons r (h.take n)
theorem RpAll.drop : ∀ {vs : List V} {ds : List D} (n : Nat), RpAll K G vs ds → RpAll K G (vs.drop n) (ds.drop n)
  | _, _, 0, r => r
  | _, _, _ + 1, .nil => .nil
  | _, _, n + 1, .cons _ h => h.drop n
theorem RpAll.snoc {vs : List V} {ds : List D} {v : V} {d : D} (h : RpAll K G vs ds) (r : Rp K G v d) : RpAll K G (vs ++ [v]) (ds ++ [d]) := h.append (.cons r .nil)
theorem RpAll.set {v : V} {d : D} (r : Rp K G v d) : ∀ {vs : List V} {ds : List D} (i : Nat), RpAll K G vs ds → RpAll K G (vs.set i v) (ds.set i d)
  | _, _, _, .nil => .nil
  | _, _, 0, .cons _ h => .cons r h
  | _, _, i + 1, .cons q h => .cons q (RpAll.set r i h)
theorem RpAll.ints : ∀ ns : List Int, RpAll K G (ns.map V.int) (ns.map D.int)
  | [] => .nil
  | n :: ns => .cons (.int n) (RpAll.ints ns)
end

theorem Rd.same {H H' : Hp} {a : Addr} {u : HO} (s : Same H H') (r : Rd H a u) : Rd H' a u := r.elim (fun h => .inl (s _ _ h)) fun ⟨o, h⟩ => .inr ⟨o, s _ _ h⟩
theorem SqT.same {K : PySem.W.Frag} {H H' : Hp} {a : Addr} {xs : List V} (s : Same H H') (r : SqT K H a xs) : SqT K H' a xs := r.elim (fun h => .inl (Rd.same s h)) .inr
theorem SqL.same {K : PySem.W.Frag} {H H' : Hp} {a : Addr} {xs : List V} (s : Same H H') (r : SqL K H a xs) : SqL K H' a xs := r.elim (fun h => .inl (Rd.same s h)) .inr

/-- more is settled -/
structure GS.Le (G G' : GS) : Prop where
  f : Same G.f G'.f
  pu : ∀ a, G.pu a → G'.pu a
theorem GS.Le.refl (G : GS) : G.Le G := ⟨Same.refl _, fun _ h => h⟩
theorem GS.Le.trans {G G1 G2 : GS} (a : G.Le G1) (b : G1.Le G2) : G.Le G2 := ⟨a.f.trans b.f, fun _ h => b.pu _ (a.pu _ h)⟩
mutual
theorem Rp.mono {K : PySem.W.Frag} {G G' : GS} (s : G.Le G') : ∀ {d : D} {v : V}, Rp K G v d → Rp K G' v d
  | .non, _, h => by cases h; exact .non
  | .bl _, _, h => by cases h; exact .bl _
  | .int _, _, h => by cases h; exact .int _
  | .str _, _, h => by cases h; exact .str _
  | .ty _, _, h => by cases h; exact .ty _
  | .cls _, _, h => by cases h; exact .cls _
  | .tup ds, _, h => by cases h with | tup h1 h2 => exact .tup (SqT.same s.f h1) (RpAll.mono s h2)
  | .lst ds, _, h => by cases h with | lst h1 h2 => exact .lst (s.f _ _ h1) (RpAll.mono s h2)
  | .scr ns, _, h => by cases h with | scr h1 => exact .scr (SqL.same s.f h1)
  | .dct ks ds, _, h => by cases h with | dct h1 h2 h3 => exact .dct (Rd.same s.f h1) h2 (RpAll.mono s h3)
  | .ins C ns ds, _, h => by cases h with | ins h1 h2 h3 => exact .ins (s.f _ _ h1) h2 (RpAll.mono s h3)
  | .exc C ns ds, _, h => by cases h with | exc h1 h2 h3 h4 => exact .exc (s.f _ _ h1) (h2.imp id fun ⟨d, e1, e2⟩ => ⟨d, e1, s.f _ _ e2⟩) h3 (RpAll.mono s h4)
  | .opq, _, h => by cases h with | opq h => exact .opq (s.pu _ h)
theorem RpAll.mono {K : PySem.W.Frag} {G G' : GS} (s : G.Le G') : ∀ {ds : List D} {vs : List V}, RpAll K G vs ds → RpAll K G' vs ds
  | [], _, h => by cases h; exact .nil
  | d :: ds, _, h => by cases h with | cons h1 h2 => exact .cons (Rp.mono s h1) (RpAll.mono s h2)
end

/-- the counter of draws stays below this -/
def LIM : Nat := 2 ^ 60
/-- a purse behind c draws -/
def PurseV (c : Nat) (o : Option HO) : Prop := ∃ x y z : Int, o = some (.lst [.int x, .int y, .int z]) ∧ 0 ≤ y ∧ y < 2 ^ 31 ∧ 0 ≤ z ∧ z ≤ 1000000 + (c : Int)
theorem PurseV.mono {c c' : Nat} {o : Option HO} (h : PurseV c o) (l : c ≤ c') : PurseV c' o := by
  obtain ⟨x, y, z, e, h1, h2, h3, h4⟩ := h
  exact ⟨x, y, z, e, h1, h2, h3, by omega⟩
theorem PurseV.some {c : Nat} {o : Option HO} (h : PurseV c o) : ∃ u, o = Option.some u := by
  obtain ⟨x, y, z, e, _⟩ := h
  exact ⟨_, e⟩
structure GS.Ok (G : GS) (H : Hp) (c : Nat) : Prop where
  same : Same G.f H
  npu : ∀ a, G.pu a → G.f a = none
  pu : ∀ a, G.pu a → PurseV c (H a)
/-- from one state to a later one -/
structure Evo (G : GS) (H : Hp) (c : Nat) (G' : GS) (H' : Hp) (c' : Nat) : Prop where
  ok : G'.Ok H' c'
  le : G.Le G'
  c : c ≤ c'
  keep : ∀ b o, H b = some o → ¬ G.pu b → H' b = some o
  pus : ∀ b, G.pu b → ∃ o, H' b = some o
  new : ∀ b o, H b = some o → G.f b = none → G'.f b = none
  npu : ∀ b o, H b = some o → G'.pu b → G.pu b
theorem Evo.refl {G : GS} {H : Hp} {c : Nat} (h : G.Ok H c) : Evo G H c G H c := ⟨h, GS.Le.refl _, Nat.le_refl _, fun _ _ e _ => e, fun b hb => (h.pu b hb).some, fun _ _ _ e => e, fun _ _ _ e => e⟩
theorem Evo.trans {G G1 G2 : GS} {H H1 H2 : Hp} {c c1 c2 : Nat} (a : Evo G H c G1 H1 c1) (b : Evo G1 H1 c1 G2 H2 c2) : Evo G H c G2 H2 c2 where
  ok := b.ok
  le := a.le.trans b.le
  c := Nat.le_trans a.c b.c
  keep := fun x o e n => b.keep x o (a.keep x o e n) fun z => n (a.npu x o e z)
  pus := fun x h => b.pus x (a.le.pu x h)
  new := fun x o e n => by
    by_cases h : G.pu x
    · obtain ⟨o', e'⟩ := a.pus x h
      exact b.new x o' e' (a.new x o e n)
    · exact b.new x o (a.keep x o e h) (a.new x o e n)
  npu := fun x o e h => by
    by_cases q : G.pu x
    · exact q
    · exact a.npu x o e (b.npu x o (a.keep x o e q) h)
theorem Evo.same {G G' : GS} {H H' : Hp} {c c' : Nat} (e : Evo G H c G' H' c') : Same G.f H' := e.le.f.trans e.ok.same
theorem GS.Ok.sq {K : PySem.W.Frag} {G : GS} {H : Hp} {c : Nat} {a : Addr} {xs : List V} (ok : G.Ok H c) (h : G.f a = some (.lst xs)) : SqL K H a xs := SqL.of (ok.same _ _ h)
theorem GS.Ok.fnone {G : GS} {H : Hp} {c : Nat} (ok : G.Ok H c) {p : Addr} (h : H p = none) : G.f p = none := ok.same.free h
theorem GS.Ok.punone {G : GS} {H : Hp} {c : Nat} (ok : G.Ok H c) {p : Addr} (h : H p = none) : ¬ G.pu p := fun z => by
  obtain ⟨o, e⟩ := (ok.pu p z).some
  rw [h] at e; cases e
/-- a new object that is settled at once -/
theorem Evo.laid {G : GS} {H : Hp} {c : Nat} (ok : G.Ok H c) {p : Addr} (o : HO) (h : H p = none) : Evo G H c { G with f := upd G.f p o } (upd H p o) c where
  ok := ⟨fun b u e => by
      have e : upd G.f p o b = some u := e
      by_cases hb : b = p
      · subst hb; rw [upd_same] at e ⊢; exact e
      · rw [upd_ne hb] at e ⊢; exact ok.same b u e,
    fun b hb => by
      have : b ≠ p := fun z => by subst z; exact ok.punone h hb
      show upd G.f p o b = none
      rw [upd_ne this]; exact ok.npu b hb,
    fun b hb => by
      have : b ≠ p := fun z => by subst z; exact ok.punone h hb
      rw [upd_ne this]; exact ok.pu b hb⟩
  le := ⟨fun b u e => by
      have : b ≠ p := fun z => by subst z; rw [ok.fnone h] at e; cases e
      show upd G.f p o b = some u
      rw [upd_ne this]; exact e, fun _ z => z⟩
  c := Nat.le_refl _
  keep := fun b u e _ => by rw [upd_ne (ne_of_none e h)]; exact e
  pus := fun b hb => by
    have : b ≠ p := fun z => by subst z; exact ok.punone h hb
    rw [upd_ne this]; exact (ok.pu b hb).some
  new := fun b u e n => by
    show upd G.f p o b = none
    rw [upd_ne (ne_of_none e h)]; exact n
  npu := fun _ _ _ z => z
/-- a new object that is not settled yet -/
theorem Evo.laidU {G : GS} {H : Hp} {c : Nat} (ok : G.Ok H c) {p : Addr} (o : HO) (h : H p = none) : Evo G H c G (upd H p o) c where
  ok := ⟨fun b u e => by
      have : b ≠ p := fun z => by subst z; rw [ok.fnone h] at e; cases e
      rw [upd_ne this]; exact ok.same b u e, ok.npu,
    fun b hb => by
      have : b ≠ p := fun z => by subst z; exact ok.punone h hb
      rw [upd_ne this]; exact ok.pu b hb⟩
  le := GS.Le.refl _
  c := Nat.le_refl _
  keep := fun b u e _ => by rw [upd_ne (ne_of_none e h)]; exact e
  pus := fun b hb => by
    have : b ≠ p := fun z => by subst z; exact ok.punone h hb
    rw [upd_ne this]; exact (ok.pu b hb).some
  new := fun b u e n => n
  npu := fun _ _ _ z => z

/-! ### the frame's names -/
inductive Sl where
  | no | fz (d : D) | ol (l : List D)
abbrev DEnv := List Sl
def SlOk (K : PySem.W.Frag) (G : GS) (H0 H : Hp) (s : Sl) (o : Option V) : Prop := match s with
  | .no => True
  | .fz d => ∃ v, o = some v ∧ Rp K G v d
  | .ol ds => ∃ a xs, o = some (.ref a) ∧ G.f a = none ∧ ¬ G.pu a ∧ H0 a = none ∧ H a = some (.lst xs) ∧ RpAll K G xs ds
def Sl.isOl : Sl → Bool
  | .ol _ => true
  | _ => false

/-- the context of a body: HandS's, the entry, what is wanted of an exception -/
structure Ctx where
  X : Cx
  G0 : GS
  H0 : Hp
  c0 : Nat
  E : L2.St → XK
  ED : DEnv → Addr → List Str → List D → Nat → Prop
  lo : GS

structure Rel (Y : Ctx) (G : GS) (H : Hp) (c : Nat) (ρ : DEnv) (σ : L2.St) : Prop where
  ok : G.Ok H c
  evo : Evo Y.G0 Y.H0 Y.c0 G H c
  len : ρ.length = σ.length
  sl : ∀ (i : Nat) (s : Sl), ρ[i]? = some s → ∃ o, σ[i]? = some o ∧ SlOk Y.X.K G Y.H0 H s o
  sep : ∀ (i j : Nat) (s t : Sl), i ≠ j → ρ[i]? = some s → ρ[j]? = some t → s.isOl = true → t.isOl = true → σ[i]? ≠ σ[j]?
  lo : Y.lo.Le G
theorem SlOk.evo {K : PySem.W.Frag} {G G' : GS} {H0 H H' : Hp} {c c' : Nat} {s : Sl} {o : Option V} (h : SlOk K G H0 H s o) (e : Evo G H c G' H' c') : SlOk K G' H0 H' s o := by
  cases s with
  | no => trivial
  | fz d => obtain ⟨v, e1, r⟩ := h; exact ⟨v, e1, r.mono e.le⟩
  | ol ds =>
    obtain ⟨a, xs, e1, h1, h2, h3, h4, h5⟩ := h
    exact ⟨a, xs, e1, e.new a _ h4 h1, fun z => h2 (e.npu a _ h4 z), h3, e.keep a _ h4 h2, h5.mono e.le⟩
theorem Rel.evo' {Y : Ctx} {G G' : GS} {H H' : Hp} {c c' : Nat} {ρ : DEnv} {σ : L2.St} (R : Rel Y G H c ρ σ) (e : Evo G H c G' H' c') : Rel Y G' H' c' ρ σ :=
  ⟨e.ok, R.evo.trans e, R.len, fun i s h => let ⟨o, h1, h2⟩ := R.sl i s h; ⟨o, h1, h2.evo e⟩, R.sep, R.lo.trans e.le⟩

/-! ### the judgements -/
abbrev QD := D → Nat → Prop
abbrev DE := DEnv → Nat → QD → Prop
abbrev DT := DEnv → Nat → (Bool → Nat → Prop) → Prop
abbrev DA := DEnv → Nat → (List D → Nat → Prop) → Prop
structure DEnds where
  nx : DEnv → Nat → Prop
  rt : QD
  bk : DEnv → Nat → Prop := fun _ _ => False
  ct : DEnv → Nat → Prop := fun _ _ => False
abbrev DS := DEnds → DEnv → Nat → Prop

/-- a reading over data is carried by a reading over the heap -/
def SimE (Y : Ctx) (te : TE) (t : DE) : Prop := ∀ G H c ρ σ (Qd : QD) (Q : VK), Rel Y G H c ρ σ → t ρ c Qd →
  (∀ d v G' H' c', Evo G H c G' H' c' → Rp Y.X.K G' v d → Qd d c' → Q v H') → te σ H Q
def SimT (Y : Ctx) (te : TT) (t : DT) : Prop := ∀ G H c ρ σ (Qd : Bool → Nat → Prop) (Q : Bool → Hp → Prop), Rel Y G H c ρ σ → t ρ c Qd →
  (∀ b G' H' c', Evo G H c G' H' c' → Qd b c' → Q b H') → te σ H Q
def SimA (Y : Ctx) (ta : TA) (t : DA) : Prop := ∀ G H c ρ σ (Qd : List D → Nat → Prop) (Q : List V → Hp → Prop), Rel Y G H c ρ σ → t ρ c Qd →
  (∀ ds vs G' H' c', Evo G H c G' H' c' → RpAll Y.X.K G' vs ds → Qd ds c' → Q vs H') → ta σ H Q
structure PD (Y : Ctx) (e : Expr) (te : TE) (t : DE) : Prop where
  p : PE Y.X e te
  s : SimE Y te t
structure PDT (Y : Ctx) (e : Expr) (te : TT) (t : DT) : Prop where
  p : PT Y.X e te
  s : SimT Y te t
structure PDW (Y : Ctx) (e : Expr) (te : TT) (t : DT) : Prop where
  p : PW Y.X e te
  s : SimT Y te t
structure PDA (Y : Ctx) (es : List Expr) (ta : TA) (t : DA) : Prop where
  p : PA Y.X es ta
  s : SimA Y ta t
/-- what is pinned (P) stays -/
structure RelP (Y : Ctx) (P : GS) (G : GS) (H : Hp) (c : Nat) (ρ : DEnv) (σ : L2.St) : Prop where
  r : Rel Y G H c ρ σ
  le : P.Le G
/-- what is wanted of the ends, in both languages -/
structure EndOk (Y : Ctx) (P : GS) (DD : DEnds) (EE : Ends) : Prop where
  nx : ∀ G H c ρ σ, RelP Y P G H c ρ σ → DD.nx ρ c → EE.nx σ H
  rt : ∀ G H c d v, Evo Y.G0 Y.H0 Y.c0 G H c → Rp Y.X.K G v d → DD.rt d c → EE.rt v H
  bk : ∀ G H c ρ σ, RelP Y P G H c ρ σ → DD.bk ρ c → EE.bk σ H
  ct : ∀ G H c ρ σ, RelP Y P G H c ρ σ → DD.ct ρ c → EE.ct σ H
def SimS (Y : Ctx) (ts : TS) (t : DS) : Prop := ∀ P G H c ρ σ DD EE, EndOk Y P DD EE → RelP Y P G H c ρ σ → t DD ρ c → ts EE σ H
structure PDS (Y : Ctx) (st : Stmt) (ts : TS) (t : DS) : Prop where
  p : PS Y.X st ts
  s : SimS Y ts t
structure PDSs (Y : Ctx) (st : List Stmt) (ts : TS) (t : DS) : Prop where
  p : PSs Y.X st ts
  s : SimS Y ts t
end PL

namespace PL
open PySem PySem.Spec PyProof.Rows L2

/-! ### rules by values, brought over to data -/
abbrev RD2 := D → D → Nat → QD → Prop
abbrev RD1 := D → Nat → QD → Prop
abbrev RDn := List D → Nat → QD → Prop
def Br2 (K : PySem.W.Frag) (r : R2) (rd : RD2) : Prop := ∀ G H c x y d e (Qd : QD) (Q : VK), G.Ok H c → Rp K G x d → Rp K G y e → rd d e c Qd →
  (∀ d' v G' H' c', Evo G H c G' H' c' → Rp K G' v d' → Qd d' c' → Q v H') → r x y H Q
def Br1 (K : PySem.W.Frag) (r : V → Hp → VK → Prop) (rd : RD1) : Prop := ∀ G H c x d (Qd : QD) (Q : VK), G.Ok H c → Rp K G x d → rd d c Qd →
  (∀ d' v G' H' c', Evo G H c G' H' c' → Rp K G' v d' → Qd d' c' → Q v H') → r x H Q
def BrN (K : PySem.W.Frag) (r : List V → Hp → VK → Prop) (rd : RDn) : Prop := ∀ G H c xs ds (Qd : QD) (Q : VK), G.Ok H c → RpAll K G xs ds → rd ds c Qd →
  (∀ d' v G' H' c', Evo G H c G' H' c' → Rp K G' v d' → Qd d' c' → Q v H') → r xs H Q
def BrM (K : PySem.W.Frag) (r : V → List V → Hp → VK → Prop) (rd : D → RDn) : Prop := ∀ G H c x d xs ds (Qd : QD) (Q : VK), G.Ok H c → Rp K G x d → RpAll K G xs ds → rd d ds c Qd →
  (∀ d' v G' H' c', Evo G H c G' H' c' → Rp K G' v d' → Qd d' c' → Q v H') → r x xs H Q

section
variable {Y : Ctx} {a b e : Expr} {es : List Expr} {pos : Pos} {ea eb ee : TE} {fa : TA} {ta tb te : DE} {t : DA}

/-! ### names, constants -/
def dVar (i : Nat) (ρ : DEnv) (c : Nat) (Q : QD) : Prop := ∃ d, ρ[i]? = some (.fz d) ∧ Q d c
def dC (d : D) (_ : DEnv) (c : Nat) (Q : QD) : Prop := Q d c
theorem pd_v (i : Nat) {x : Str} {pos : Pos} (hN : Y.X.N[i]? = some x := by rfl) (hv : Vis Y.X.env.scope x := by first | exact Or.inl rfl | exact Or.inr (Or.inl rfl) | exact Or.inr (Or.inr rfl)) (hd : (x == ("__debug__" : Str)) = false := by decide)
    (hcd : (x == ("__classdict__" : Str)) = false := by decide) : PD Y (.Name x pos) (tVar i) (dVar i) := by
  refine ⟨pe_var hN hv hd hcd, fun G H c ρ σ Qd Q R h k => ?_⟩
  obtain ⟨d, e, h⟩ := h
  obtain ⟨o, e1, v, rfl, r⟩ := R.sl i _ e
  exact ⟨v, e1, k d v G H c (Evo.refl R.ok) r h⟩
theorem pd_int {i j pos} : PD Y (.Constant (.int i) j pos) (tC (.int i)) (dC (.int i)) := ⟨pe_int, fun _ _ _ _ _ _ _ R h k => k _ _ _ _ _ (Evo.refl R.ok) (.int _) h⟩
theorem pd_bl {b j pos} : PD Y (.Constant (.bool b) j pos) (tC (.bl b)) (dC (.bl b)) := ⟨pe_bl, fun _ _ _ _ _ _ _ R h k => k _ _ _ _ _ (Evo.refl R.ok) (.bl _) h⟩
theorem pd_non {j pos} : PD Y (.Constant .none j pos) (tC .non) (dC .non) := ⟨pe_non, fun _ _ _ _ _ _ _ R h k => k _ _ _ _ _ (Evo.refl R.ok) .non h⟩
theorem pd_str {x j pos} : PD Y (.Constant (.str x) j pos) (tC (.str x)) (dC (.str x)) := ⟨pe_str, fun _ _ _ _ _ _ _ R h k => k _ _ _ _ _ (Evo.refl R.ok) (.str _) h⟩
/-- a module's name that holds a constant or a class -/
theorem pd_glob {x : Str} {v : V} {d : D} {u : Value} {pos : Pos} (hm : Y.X.mg x = some u) (r : RelV v u) (rp : ∀ G, Rp Y.X.K G v d) (hg : Gl Y.X x := by rfl) (hd : (x == ("__debug__" : Str)) = false := by decide) : PD Y (.Name x pos) (tC v) (dC d) :=
  ⟨pe_glob hg hm r hd, fun _ _ _ _ _ _ _ R h k => k _ _ _ _ _ (Evo.refl R.ok) (rp _) h⟩
/-- a built-in type as a value -/
theorem pd_bty {x : Str} {n : String} {pos : Pos} (hm : Y.X.mg x = none) (hv : bootBuiltins x = some (.type n)) (hg : Gl Y.X x := by rfl) (hn : x ≠ "__name__" := by decide) (hd : (x == ("__debug__" : Str)) = false := by decide) : PD Y (.Name x pos) (tC (.ty n)) (dC (.ty n)) :=
  ⟨pe_bltn hg hm hv (v := .ty n) rfl hn hd, fun _ _ _ _ _ _ _ R h k => k _ _ _ _ _ (Evo.refl R.ok) (.ty _) h⟩

/-! ### operators -/
def dOp (rd : RD2) (ta tb : DE) (ρ : DEnv) (c : Nat) (Q : QD) : Prop := ta ρ c fun x c1 => tb ρ c1 fun y c2 => rd x y c2 Q
def dUn (rd : RD1) (ta : DE) (ρ : DEnv) (c : Nat) (Q : QD) : Prop := ta ρ c fun x c1 => rd x c1 Q
/-- two in a row -/
theorem two {G H c ρ σ} {tea teb : TE} {r : V → V → Hp → Prop} {rd : D → D → Nat → Prop} (R : Rel Y G H c ρ σ)
    (ha : ∀ G H c ρ σ (Qd : QD) (Q : VK), Rel Y G H c ρ σ → ta ρ c Qd → (∀ d v G' H' c', Evo G H c G' H' c' → Rp Y.X.K G' v d → Qd d c' → Q v H') → tea σ H Q)
    (hb : ∀ G H c ρ σ (Qd : QD) (Q : VK), Rel Y G H c ρ σ → tb ρ c Qd → (∀ d v G' H' c', Evo G H c G' H' c' → Rp Y.X.K G' v d → Qd d c' → Q v H') → teb σ H Q)
    (h : ta ρ c fun x c1 => tb ρ c1 fun y c2 => rd x y c2)
    (k : ∀ d e x y G' H' c', Evo G H c G' H' c' → Rp Y.X.K G' x d → Rp Y.X.K G' y e → rd d e c' → r x y H') : tea σ H fun x H1 => teb σ H1 fun y H2 => r x y H2 := by
  refine ha G H c ρ σ _ _ R h fun d v G1 H1 c1 e1 r1 q1 => ?_
  refine hb G1 H1 c1 ρ σ _ _ (R.evo' e1) q1 fun d2 v2 G2 H2 c2 e2 r2 q2 => ?_
  exact k d d2 v v2 G2 H2 c2 (e1.trans e2) (r1.mono e2.le) r2 q2
theorem pd_op {op : Operator} {r : R2} {rd : RD2} (ho : OpR Y.X (binaryOp op) r) (br : Br2 Y.X.K r rd) (ha : PD Y a ea ta) (hb : PD Y b eb tb) : PD Y (.BinOp a op b pos) (tOp r ea eb) (dOp rd ta tb) := by
  obtain ⟨pa, ha⟩ := ha
  obtain ⟨pb, hb⟩ := hb
  refine ⟨pe_op ho pa pb, fun G H c ρ σ Qd Q R h k => ?_⟩
  exact two R ha hb h fun d e x y G' H' c' ev r1 r2 q => br G' H' c' x y d e Qd Q ev.ok r1 r2 q fun d' v G2 H2 c2 e2 r q => k d' v G2 H2 c2 (ev.trans e2) r q
theorem pd_un {op : UnaryOp} {r : V → Hp → VK → Prop} {rd : RD1} (ho : UnR Y.X (unaryOp op) r) (br : Br1 Y.X.K r rd) (ha : PD Y a ea ta) : PD Y (.UnaryOp op a pos) (tUn r ea) (dUn rd ta) := by
  obtain ⟨pa, ha⟩ := ha
  refine ⟨pe_un ho pa, fun G H c ρ σ Qd Q R h k => ?_⟩
  exact ha G H c ρ σ _ _ R h fun d v G1 H1 c1 e1 r1 q1 => br G1 H1 c1 v d Qd Q e1.ok r1 q1 fun d' v G2 H2 c2 e2 r q => k d' v G2 H2 c2 (e1.trans e2) r q
theorem pd_cmp {op : CmpOp} {r : R2} {rd : RD2} (ho : OpR Y.X (compareOp op) r) (br : Br2 Y.X.K r rd) (ha : PD Y a ea ta) (hb : PD Y b eb tb) (hm : behindInMarks op b = false := by first | exact nomark _ | rfl) : PD Y (.Compare a [op] [b] pos) (tOp r ea eb) (dOp rd ta tb) := by
  obtain ⟨pa, ha⟩ := ha
  obtain ⟨pb, hb⟩ := hb
  refine ⟨pe_cmpR ho pa pb hm, fun G H c ρ σ Qd Q R h k => ?_⟩
  exact two R ha hb h fun d e x y G' H' c' ev r1 r2 q => br G' H' c' x y d e Qd Q ev.ok r1 r2 q fun d' v G2 H2 c2 e2 r q => k d' v G2 H2 c2 (ev.trans e2) r q
theorem pd_ix {r : R2} {rd : RD2} (ho : IxR Y.X r) (br : Br2 Y.X.K r rd) (ha : PD Y a ea ta) (hb : PD Y b eb tb) (hs : PlainIx b := by exact fun _ _ => rfl) : PD Y (.Subscript a b pos) (tOp r ea eb) (dOp rd ta tb) := by
  obtain ⟨pa, ha⟩ := ha
  obtain ⟨pb, hb⟩ := hb
  refine ⟨pe_ix ho pa pb hs, fun G H c ρ σ Qd Q R h k => ?_⟩
  exact two R ha hb h fun d e x y G' H' c' ev r1 r2 q => br G' H' c' x y d e Qd Q ev.ok r1 r2 q fun d' v G2 H2 c2 e2 r q => k d' v G2 H2 c2 (ev.trans e2) r q
/-- a chain of two comparisons -/
def dChain (rd rd' : RD2) (ta tb tc : DE) (ρ : DEnv) (c : Nat) (Q : QD) : Prop := ta ρ c fun x c1 => tb ρ c1 fun y c2 => rd x y c2 fun z c3 => ∃ k, z = .bl k ∧ if k = true then tc ρ c3 fun w c4 => rd' y w c4 Q else Q (.bl false) c3
theorem pd_chain {f : Expr} {tf : DE} {ef : TE} {op op' : CmpOp} {r r' : R2} {rd rd' : RD2} (ho : OpR Y.X (compareOp op) r) (br : Br2 Y.X.K r rd) (ho' : OpR Y.X (compareOp op') r') (br' : Br2 Y.X.K r' rd') (ha : PD Y a ea ta) (hb : PD Y b eb tb) (hc : PD Y f ef tf) (hm : lastMarks [op, op'] [b, f] = false := by rfl) :
    PD Y (.Compare a [op, op'] [b, f] pos) (tChain r r' ea eb ef) (dChain rd rd' ta tb tf) := by
  obtain ⟨pa, ha⟩ := ha
  obtain ⟨pb, hb⟩ := hb
  obtain ⟨pc, hc⟩ := hc
  refine ⟨pe_chain ho ho' pa pb pc hm, fun G H c ρ σ Qd Q R h k => ?_⟩
  refine two R ha hb h fun d e x y G1 H1 c1 e1 r1 r2 q => br G1 H1 c1 x y d e _ _ e1.ok r1 r2 q fun d' v G2 H2 c2 e2 r3 q => ?_
  obtain ⟨b, rfl, q⟩ := q
  cases r3
  refine ⟨b, rfl, ?_⟩
  cases b with
  | false => rw [if_neg Bool.false_ne_true] at q ⊢; exact k _ _ G2 H2 c2 (e1.trans e2) (.bl _) q
  | true =>
    rw [if_pos rfl] at q ⊢
    refine hc G2 H2 c2 ρ σ _ _ (R.evo' (e1.trans e2)) q fun d4 v4 G4 H4 c4 e4 r4 q4 => ?_
    exact br' G4 H4 c4 y v4 e d4 Qd Q e4.ok (r2.mono (e2.le.trans e4.le)) r4 q4 fun d' v G5 H5 c5 e5 r q => k d' v G5 H5 c5 ((e1.trans e2).trans (e4.trans e5)) r q

/-! ### arguments, calls of built-ins, displays -/
def dNil (_ : DEnv) (c : Nat) (Q : List D → Nat → Prop) : Prop := Q [] c
def dCons (ta : DE) (tr : DA) (ρ : DEnv) (c : Nat) (Q : List D → Nat → Prop) : Prop := ta ρ c fun x c1 => tr ρ c1 fun xs c2 => Q (x :: xs) c2
theorem pda_nil : PDA Y [] tNil dNil := ⟨pa_nil, fun _ _ _ _ _ _ _ R h k => k _ _ _ _ _ (Evo.refl R.ok) .nil h⟩
theorem pda_cons (ha : PD Y e ee te) (hr : PDA Y es fa t) (hs : starEach (e :: es) Y.X.env = (false, eval e Y.X.env) :: starEach es Y.X.env := by rfl) : PDA Y (e :: es) (tCons ee fa) (dCons te t) := by
  obtain ⟨pa, ha⟩ := ha
  obtain ⟨ps, hr⟩ := hr
  refine ⟨pa_cons pa ps hs, fun G H c ρ σ Qd Q R h k => ?_⟩
  refine ha G H c ρ σ _ _ R h fun d v G1 H1 c1 e1 r1 q1 => ?_
  refine hr G1 H1 c1 ρ σ _ _ (R.evo' e1) q1 fun ds vs G2 H2 c2 e2 r2 q2 => ?_
  exact k _ _ G2 H2 c2 (e1.trans e2) (.cons (r1.mono e2.le) r2) q2
def dCB (rd : RDn) (t : DA) (ρ : DEnv) (c : Nat) (Q : QD) : Prop := t ρ c fun ds c1 => rd ds c1 Q
theorem pd_callB {x : Str} {p : Pos} {id : String} {r : List V → Hp → VK → Prop} {rd : RDn} (hc : CallR Y.X (.builtin id) r) (br : BrN Y.X.K r rd) (hm : Y.X.mg x = none) (hv : bootBuiltins x = some (.builtin id)) (ha : PDA Y (e :: es) fa t) (hg : Gl Y.X x := by rfl) (hn : x ≠ "__name__" := by decide) (hdb : (x == ("__debug__" : Str)) = false := by decide)
    (he : starEach (e :: es) Y.X.env = (false, eval e Y.X.env) :: starEach es Y.X.env := by rfl) (hpl : (backTo pos (starEach es Y.X.env)).any (·.1) = false := by rfl) : PD Y (.Call (.Name x p) (e :: es) [] pos) (tCB r fa) (dCB rd t) := by
  obtain ⟨ps, ha⟩ := ha
  refine ⟨pe_callB hc hg hm hv ps hn hdb he hpl, fun G H c ρ σ Qd Q R h k => ?_⟩
  exact ha G H c ρ σ _ _ R h fun ds vs G1 H1 c1 e1 r1 q1 => br G1 H1 c1 vs ds Qd Q e1.ok r1 q1 fun d' v G2 H2 c2 e2 r q => k d' v G2 H2 c2 (e1.trans e2) r q
theorem pd_callTy {x : Str} {p : Pos} {T : String} {r : List V → Hp → VK → Prop} {rd : RDn} (hc : CallR Y.X (.type T) r) (br : BrN Y.X.K r rd) (hm : Y.X.mg x = none) (hv : bootBuiltins x = some (.type T)) (ha : PDA Y (e :: es) fa t) (hg : Gl Y.X x := by rfl) (hn : x ≠ "__name__" := by decide) (hdb : (x == ("__debug__" : Str)) = false := by decide)
    (he : starEach (e :: es) Y.X.env = (false, eval e Y.X.env) :: starEach es Y.X.env := by rfl) (hpl : (backTo pos (starEach es Y.X.env)).any (·.1) = false := by rfl) : PD Y (.Call (.Name x p) (e :: es) [] pos) (tCB r fa) (dCB rd t) := by
  obtain ⟨ps, ha⟩ := ha
  refine ⟨pe_callTy hc hg hm hv ps hn hdb he hpl, fun G H c ρ σ Qd Q R h k => ?_⟩
  exact ha G H c ρ σ _ _ R h fun ds vs G1 H1 c1 e1 r1 q1 => br G1 H1 c1 vs ds Qd Q e1.ok r1 q1 fun d' v G2 H2 c2 e2 r q => k d' v G2 H2 c2 (e1.trans e2) r q
theorem Rp.newTup {K : PySem.W.Frag} {G : GS} {H : Hp} {c : Nat} {p : Addr} {vs : List V} {ds : List D} (ok : G.Ok H c) (h : H p = none) (r : RpAll K G vs ds) : Rp K { G with f := upd G.f p (.tup vs) } (.ref p) (.tup ds) :=
  .tup (SqT.of upd_same) (r.mono (Evo.laid ok (.tup vs) h).le)
theorem Rp.newLst {K : PySem.W.Frag} {G : GS} {H : Hp} {c : Nat} {p : Addr} {vs : List V} {ds : List D} (ok : G.Ok H c) (h : H p = none) (r : RpAll K G vs ds) : Rp K { G with f := upd G.f p (.lst vs) } (.ref p) (.lst ds) :=
  .lst upd_same (r.mono (Evo.laid ok (.lst vs) h).le)
def dTup (t : DA) (ρ : DEnv) (c : Nat) (Q : QD) : Prop := t ρ c fun ds c1 => ds.length ≤ sizeLine ∧ Q (.tup ds) c1
def dLst (t : DA) (ρ : DEnv) (c : Nat) (Q : QD) : Prop := t ρ c fun ds c1 => ds.length ≤ sizeLine ∧ Q (.lst ds) c1
theorem pd_tup {x1} (ha : PDA Y es fa t) : PD Y (.Tuple es x1 pos) (tTup fa) (dTup t) := by
  obtain ⟨ps, ha⟩ := ha
  refine ⟨pe_tup ps, fun G H c ρ σ Qd Q R h k => ?_⟩
  refine ha G H c ρ σ _ _ R h fun ds vs G1 H1 c1 e1 r1 q1 => ⟨by rw [r1.length]; exact q1.1, fun p np => ?_⟩
  exact k _ _ _ _ c1 (e1.trans (Evo.laid e1.ok _ np)) (Rp.newTup e1.ok np r1) q1.2
theorem pd_lst (ha : PDA Y es fa t) : PD Y (.List es pos) (tLst fa) (dLst t) := by
  obtain ⟨ps, ha⟩ := ha
  refine ⟨pe_lst ps, fun G H c ρ σ Qd Q R h k => ?_⟩
  refine ha G H c ρ σ _ _ R h fun ds vs G1 H1 c1 e1 r1 q1 => ⟨by rw [r1.length]; exact q1.1, fun p np => ?_⟩
  exact k _ _ _ _ c1 (e1.trans (Evo.laid e1.ok _ np)) (Rp.newLst e1.ok np r1) q1.2

/-! ### tests -/
/-- a value that is True or False -/
def dB (t : DE) (ρ : DEnv) (c : Nat) (Q : Bool → Nat → Prop) : Prop := t ρ c fun x c1 => ∃ b, x = .bl b ∧ Q b c1
theorem pdt_val (ha : PD Y e ee te) (he : ∀ whole, isTrue e Y.X.env whole = (do let v ← whole; standAt e.pos; holding [v] (truthy v)) := by intro _; rfl) : PDT Y e (tB ee) (dB te) := by
  obtain ⟨pa, ha⟩ := ha
  refine ⟨pt_val pa he, fun G H c ρ σ Qd Q R h k => ?_⟩
  refine ha G H c ρ σ _ _ R h fun d v G1 H1 c1 e1 r1 q1 => ?_
  obtain ⟨b, rfl, q1⟩ := q1
  cases r1
  exact ⟨b, rfl, k b G1 H1 c1 e1 q1⟩
theorem pdt_cmp {op : CmpOp} {r : R2} {rd : RD2} (ho : OpR Y.X (compareOp op) r) (br : Br2 Y.X.K r rd) (ha : PD Y a ea ta) (hb : PD Y b eb tb) (hm : behindInMarks op b = false := by first | exact nomark _ | rfl) : PDT Y (.Compare a [op] [b] pos) (tTest (tOp r ea eb)) (dB (dOp rd ta tb)) := by
  obtain ⟨pa, ha⟩ := ha
  obtain ⟨pb, hb⟩ := hb
  refine ⟨pt_cmpR ho pa pb hm, fun G H c ρ σ Qd Q R h k => ?_⟩
  refine two R ha hb h fun d e x y G' H' c' ev r1 r2 q => br G' H' c' x y d e _ _ ev.ok r1 r2 q fun d' v G2 H2 c2 e2 r q => ?_
  obtain ⟨b, rfl, q⟩ := q
  cases r
  exact ⟨b, rfl, k b G2 H2 c2 (ev.trans e2) q⟩
def dtAnd (t u : DT) (ρ : DEnv) (c : Nat) (Q : Bool → Nat → Prop) : Prop := t ρ c fun b c1 => if b = true then u ρ c1 Q else Q false c1
def dtOr (t u : DT) (ρ : DEnv) (c : Nat) (Q : Bool → Nat → Prop) : Prop := t ρ c fun b c1 => if b = true then Q true c1 else u ρ c1 Q
def dtNot (t : DT) (ρ : DEnv) (c : Nat) (Q : Bool → Nat → Prop) : Prop := t ρ c fun b c1 => Q (!b) c1
variable {tA tB : DT} {eA eB : TT} {rest : List Expr}
theorem pdw_and1 (ha : PDT Y a eA tA) : PDW Y (.BoolOp .And [a] pos) eA tA := by
  obtain ⟨pa, ha⟩ := ha
  exact ⟨pw_and1 pa, ha⟩
theorem pdw_or1 (ha : PDT Y a eA tA) : PDW Y (.BoolOp .Or [a] pos) eA tA := by
  obtain ⟨pa, ha⟩ := ha
  exact ⟨pw_or1 pa, ha⟩
theorem pdw_and (ha : PDT Y a eA tA) (hb : PDW Y (.BoolOp .And (b :: rest) pos) eB tB) : PDW Y (.BoolOp .And (a :: b :: rest) pos) (tAnd eA eB) (dtAnd tA tB) := by
  obtain ⟨pa, ha⟩ := ha
  obtain ⟨pb, hb⟩ := hb
  refine ⟨pw_and pa pb, fun G H c ρ σ Qd Q R h k => ?_⟩
  refine ha G H c ρ σ _ _ R h fun b G1 H1 c1 e1 q1 => ?_
  cases b with
  | true => rw [if_pos rfl] at q1 ⊢; exact hb G1 H1 c1 ρ σ _ _ (R.evo' e1) q1 fun b G2 H2 c2 e2 q2 => k b G2 H2 c2 (e1.trans e2) q2
  | false => rw [if_neg Bool.false_ne_true] at q1 ⊢; exact k _ G1 H1 c1 e1 q1
theorem pdw_or (ha : PDT Y a eA tA) (hb : PDW Y (.BoolOp .Or (b :: rest) pos) eB tB) : PDW Y (.BoolOp .Or (a :: b :: rest) pos) (tOr eA eB) (dtOr tA tB) := by
  obtain ⟨pa, ha⟩ := ha
  obtain ⟨pb, hb⟩ := hb
  refine ⟨pw_or pa pb, fun G H c ρ σ Qd Q R h k => ?_⟩
  refine ha G H c ρ σ _ _ R h fun b G1 H1 c1 e1 q1 => ?_
  cases b with
  | true => rw [if_pos rfl] at q1 ⊢; exact k _ G1 H1 c1 e1 q1
  | false => rw [if_neg Bool.false_ne_true] at q1 ⊢; exact hb G1 H1 c1 ρ σ _ _ (R.evo' e1) q1 fun b G2 H2 c2 e2 q2 => k b G2 H2 c2 (e1.trans e2) q2
theorem pdw_pt (h : PDW Y e eA tA) : PDT Y e eA tA := by
  obtain ⟨p, h⟩ := h
  exact ⟨p.pt, h⟩
theorem pdt_not (ha : PDT Y a eA tA) : PDT Y (.UnaryOp .Not a pos) (tNot eA) (dtNot tA) := by
  obtain ⟨pa, ha⟩ := ha
  exact ⟨pt_not pa, fun G H c ρ σ Qd Q R h k => ha G H c ρ σ _ _ R h fun b G1 H1 c1 e1 q1 => k _ G1 H1 c1 e1 q1⟩
/-- .. as values that are True or False -/
def dAndV (ta tb : DE) (ρ : DEnv) (c : Nat) (Q : QD) : Prop := ta ρ c fun x c1 => ∃ b, x = .bl b ∧ if b = true then tb ρ c1 Q else Q (.bl false) c1
def dOrV (ta tb : DE) (ρ : DEnv) (c : Nat) (Q : QD) : Prop := ta ρ c fun x c1 => ∃ b, x = .bl b ∧ if b = true then Q (.bl true) c1 else tb ρ c1 Q
def dNotV (ta : DE) (ρ : DEnv) (c : Nat) (Q : QD) : Prop := ta ρ c fun x c1 => ∃ b, x = .bl b ∧ Q (.bl (!b)) c1
theorem pd_one {op} (h : PD Y a ea ta) : PD Y (.BoolOp op [a] pos) ea ta := by
  obtain ⟨p, h⟩ := h
  exact ⟨pe_one p, h⟩
theorem pd_and (ha : PD Y a ea ta) (hb : PD Y (.BoolOp .And (b :: rest) pos) eb tb) : PD Y (.BoolOp .And (a :: b :: rest) pos) (tAndV ea eb) (dAndV ta tb) := by
  obtain ⟨pa, ha⟩ := ha
  obtain ⟨pb, hb⟩ := hb
  refine ⟨pe_and pa pb, fun G H c ρ σ Qd Q R h k => ?_⟩
  refine ha G H c ρ σ _ _ R h fun d v G1 H1 c1 e1 r1 q1 => ?_
  obtain ⟨b, rfl, q1⟩ := q1
  cases r1
  refine ⟨b, rfl, ?_⟩
  cases b with
  | true => rw [if_pos rfl] at q1 ⊢; exact hb G1 H1 c1 ρ σ _ _ (R.evo' e1) q1 fun d v G2 H2 c2 e2 r2 q2 => k d v G2 H2 c2 (e1.trans e2) r2 q2
  | false => rw [if_neg Bool.false_ne_true] at q1 ⊢; exact k _ _ G1 H1 c1 e1 (.bl _) q1
theorem pd_or (ha : PD Y a ea ta) (hb : PD Y (.BoolOp .Or (b :: rest) pos) eb tb) : PD Y (.BoolOp .Or (a :: b :: rest) pos) (tOrV ea eb) (dOrV ta tb) := by
  obtain ⟨pa, ha⟩ := ha
  obtain ⟨pb, hb⟩ := hb
  refine ⟨pe_or pa pb, fun G H c ρ σ Qd Q R h k => ?_⟩
  refine ha G H c ρ σ _ _ R h fun d v G1 H1 c1 e1 r1 q1 => ?_
  obtain ⟨b, rfl, q1⟩ := q1
  cases r1
  refine ⟨b, rfl, ?_⟩
  cases b with
  | false => rw [if_neg Bool.false_ne_true] at q1 ⊢; exact hb G1 H1 c1 ρ σ _ _ (R.evo' e1) q1 fun d v G2 H2 c2 e2 r2 q2 => k d v G2 H2 c2 (e1.trans e2) r2 q2
  | true => rw [if_pos rfl] at q1 ⊢; exact k _ _ G1 H1 c1 e1 (.bl _) q1
theorem pd_not (ha : PD Y a ea ta) : PD Y (.UnaryOp .Not a pos) (tNotV ea) (dNotV ta) := by
  obtain ⟨pa, ha⟩ := ha
  refine ⟨pe_not pa, fun G H c ρ σ Qd Q R h k => ?_⟩
  refine ha G H c ρ σ _ _ R h fun d v G1 H1 c1 e1 r1 q1 => ?_
  obtain ⟨b, rfl, q1⟩ := q1
  cases r1
  exact ⟨b, rfl, k _ _ G1 H1 c1 e1 (.bl _) q1⟩
def dIf (t : DT) (ta tb : DE) (ρ : DEnv) (c : Nat) (Q : QD) : Prop := t ρ c fun b c1 => if b = true then ta ρ c1 Q else tb ρ c1 Q
theorem pd_ifExp {f : Expr} (hc : PDT Y f eA tA) (ha : PD Y a ea ta) (hb : PD Y b eb tb) : PD Y (.IfExp f a b pos) (tIf eA ea eb) (dIf tA ta tb) := by
  obtain ⟨pc, hc⟩ := hc
  obtain ⟨pa, ha⟩ := ha
  obtain ⟨pb, hb⟩ := hb
  refine ⟨pe_ifExp pc pa pb, fun G H c ρ σ Qd Q R h k => ?_⟩
  refine hc G H c ρ σ _ _ R h fun b G1 H1 c1 e1 q1 => ?_
  cases b with
  | true => rw [if_pos rfl] at q1 ⊢; exact ha G1 H1 c1 ρ σ _ _ (R.evo' e1) q1 fun d v G2 H2 c2 e2 r2 q2 => k d v G2 H2 c2 (e1.trans e2) r2 q2
  | false => rw [if_neg Bool.false_ne_true] at q1 ⊢; exact hb G1 H1 c1 ρ σ _ _ (R.evo' e1) q1 fun d v G2 H2 c2 e2 r2 q2 => k d v G2 H2 c2 (e1.trans e2) r2 q2
end
end PL

namespace PL
open PySem PySem.Spec PyProof.Rows L2

/-! ### slots -/
theorem getElem?_set_cases {α : Type} {l : List α} {i j : Nat} {a x : α} (h : (l.set i a)[j]? = some x) : (j = i ∧ x = a ∧ i < l.length) ∨ (j ≠ i ∧ l[j]? = some x) := by
  by_cases e : i = j
  · subst e
    by_cases q : i < l.length
    · rw [List.getElem?_set_self q] at h
      exact .inl ⟨rfl, (Option.some.inj h).symm, q⟩
    · rw [List.getElem?_eq_none (by simpa using q)] at h; cases h
  · rw [List.getElem?_set_ne e] at h
    exact .inr ⟨fun z => e z.symm, h⟩
section
variable {Y : Ctx} {P G : GS} {H : Hp} {c : Nat} {ρ : DEnv} {σ : L2.St}
theorem Rel.set_sl {s : Sl} {o : Option V} {i : Nat} (R : Rel Y G H c ρ σ) (r : SlOk Y.X.K G Y.H0 H s o) (hs : s.isOl = true → ∀ j, j ≠ i → (∃ t, ρ[j]? = some t ∧ t.isOl = true) → σ[j]? ≠ some o) : Rel Y G H c (ρ.set i s) (σ.set i o) := by
  refine ⟨R.ok, R.evo, by simp [R.len], fun j t e => ?_, fun j k t u ne e1 e2 h1 h2 => ?_, R.lo⟩
  · rcases getElem?_set_cases e with ⟨rfl, rfl, hl⟩ | ⟨ne, e⟩
    · exact ⟨o, List.getElem?_set_self (by rw [← R.len]; exact hl), r⟩
    · obtain ⟨o', e1, r1⟩ := R.sl j t e
      exact ⟨o', by rw [List.getElem?_set_ne (Ne.symm ne)]; exact e1, r1⟩
  · rcases getElem?_set_cases e1 with ⟨rfl, rfl, hl⟩ | ⟨ne1, f1⟩
    · rcases getElem?_set_cases e2 with ⟨rfl, _, _⟩ | ⟨ne2, f2⟩
      · exact absurd rfl ne
      · rw [List.getElem?_set_self (by rw [← R.len]; exact hl), List.getElem?_set_ne (Ne.symm ne2)]
        exact fun z => hs h1 k ne2 ⟨u, f2, h2⟩ z.symm
    · rcases getElem?_set_cases e2 with ⟨rfl, rfl, hl⟩ | ⟨ne2, f2⟩
      · rw [List.getElem?_set_self (by rw [← R.len]; exact hl), List.getElem?_set_ne (Ne.symm ne1)]
        exact hs h2 j ne1 ⟨t, f1, h1⟩
      · rw [List.getElem?_set_ne (Ne.symm ne1), List.getElem?_set_ne (Ne.symm ne2)]
        exact R.sep j k t u ne f1 f2 h1 h2
theorem Rel.set_fz {d : D} {v : V} (R : Rel Y G H c ρ σ) (r : Rp Y.X.K G v d) (i : Nat) : Rel Y G H c (ρ.set i (.fz d)) (σ.set i (some v)) :=
  R.set_sl ⟨v, rfl, r⟩ fun z => nomatch z
theorem Rel.set_no (R : Rel Y G H c ρ σ) (i : Nat) (o : Option V) : Rel Y G H c (ρ.set i .no) (σ.set i o) :=
  R.set_sl trivial fun z => nomatch z
theorem RelP.evo {G' : GS} {H' : Hp} {c' : Nat} (R : RelP Y P G H c ρ σ) (e : Evo G H c G' H' c') : RelP Y P G' H' c' ρ σ := ⟨R.r.evo' e, R.le.trans e.le⟩
theorem Evo.freeze {G' : GS} {H' : Hp} {c' : Nat} {a : Addr} {o : HO} (e : Evo G H c G' H' c') (h0 : H a = none) (hf : G'.f a = none) (hp : ¬ G'.pu a) (h : H' a = some o) : Evo G H c { G' with f := upd G'.f a o } H' c' where
  ok := ⟨fun b u q => by
      have q : upd G'.f a o b = some u := q
      by_cases hb : b = a
      · subst hb; rw [upd_same] at q; cases q; exact h
      · rw [upd_ne hb] at q; exact e.ok.same b u q,
    fun b hb => by
      have : b ≠ a := fun z => hp (z ▸ hb)
      show upd G'.f a o b = none
      rw [upd_ne this]; exact e.ok.npu b hb, e.ok.pu⟩
  le := e.le.trans ⟨fun b u q => by
    have : b ≠ a := fun z => by subst z; rw [hf] at q; cases q
    show upd G'.f a o b = some u
    rw [upd_ne this]; exact q, fun _ z => z⟩
  c := e.c
  keep := e.keep
  pus := e.pus
  new := fun b u q n => by
    show upd G'.f a o b = none
    rw [upd_ne (ne_of_none q h0)]; exact e.new b u q n
  npu := e.npu
/-- the list of slot i is settled -/
theorem RelP.freeze {ds : List D} {i : Nat} (R : RelP Y P G H c ρ σ) (hi : ρ[i]? = some (.ol ds)) : ∃ G', RelP Y P G' H c (ρ.set i (.fz (.lst ds))) σ := by
  obtain ⟨o, e1, a, xs, rfl, h1, h2, h3, h4, h5⟩ := R.r.sl i _ hi
  have le : G.Le { G with f := upd G.f a (.lst xs) } := ⟨fun b u q => by
    have : b ≠ a := fun z => by subst z; rw [h1] at q; cases q
    show upd G.f a _ b = some u
    rw [upd_ne this]; exact q, fun _ z => z⟩
  refine ⟨{ G with f := upd G.f a (.lst xs) }, ⟨?_, R.r.evo.freeze h3 h1 h2 h4, by simp [R.r.len], fun j s e => ?_, fun j k s t ne e2 e3 q1 q2 => ?_, R.r.lo.trans le⟩, R.le.trans le⟩
  · exact (R.r.evo.freeze h3 h1 h2 h4).ok
  · rcases getElem?_set_cases e with ⟨rfl, rfl, _⟩ | ⟨ne, e⟩
    · exact ⟨_, e1, .ref a, rfl, .lst upd_same (h5.mono le)⟩
    · obtain ⟨o', e2, r⟩ := R.r.sl j s e
      refine ⟨o', e2, ?_⟩
      cases s with
      | no => trivial
      | fz d => obtain ⟨v, q, r⟩ := r; exact ⟨v, q, r.mono le⟩
      | ol es =>
        obtain ⟨b, ys, rfl, g1, g2, g3, g4, g5⟩ := r
        have nab : b ≠ a := fun z => by
          subst z
          exact R.r.sep i j _ _ (Ne.symm ne) hi e rfl rfl (e1.trans e2.symm)
        exact ⟨b, ys, rfl, by show upd G.f a _ b = none; rw [upd_ne nab]; exact g1, g2, g3, g4, g5.mono le⟩
  · rcases getElem?_set_cases e2 with ⟨rfl, rfl, _⟩ | ⟨ne2, e2⟩
    · cases q1
    · rcases getElem?_set_cases e3 with ⟨rfl, rfl, _⟩ | ⟨ne3, e3⟩
      · cases q2
      · exact R.r.sep j k s t ne e2 e3 q1 q2
end

/-! ### statements -/
section
variable {Y : Ctx} {a b e f : Expr} {st : Stmt} {rest body orelse : List Stmt} {pos : Pos} {ea eb ee : TE} {ta tb te : DE} {tA : DT} {eA : TT} {s1 s2 : TS} {t u : DS}
def sNext (DD : DEnds) (ρ : DEnv) (c : Nat) : Prop := DD.nx ρ c
def sSeq (t u : DS) (DD : DEnds) (ρ : DEnv) (c : Nat) : Prop := t { DD with nx := u DD } ρ c
theorem pss_nil' : PDSs Y [] tNext sNext := ⟨pss_nil, fun _ _ _ _ _ _ _ _ K R h => K.nx _ _ _ _ _ R h⟩
theorem pds_cons (h1 : PDS Y st s1 t) (h2 : PDSs Y rest s2 u) : PDSs Y (st :: rest) (tSeq s1 s2) (sSeq t u) :=
  ⟨pss_cons h1.p h2.p, fun P G H c ρ σ DD EE K R h => h1.s P G H c ρ σ { DD with nx := u DD } { EE with nx := s2 EE } ⟨fun G H c ρ σ R h => h2.s P G H c ρ σ DD EE K R h, K.rt, K.bk, K.ct⟩ R h⟩
theorem pds_one (h1 : PDS Y st s1 t) : PDSs Y [st] s1 t := ⟨pss_one h1.p, h1.s⟩
def sRet (te : DE) (DD : DEnds) (ρ : DEnv) (c : Nat) : Prop := te ρ c DD.rt
theorem pds_ret (h : PD Y e ee te) : PDS Y (.Return (some e) pos) (tRet ee) (sRet te) :=
  ⟨ps_ret h.p, fun P G H c ρ σ DD EE K R q => h.s G H c ρ σ _ _ R.r q fun d v G' H' c' ev r q => K.rt G' H' c' d v (R.r.evo.trans ev) r q⟩
def sRetN (DD : DEnds) (_ : DEnv) (c : Nat) : Prop := DD.rt .non c
theorem pds_retN : PDS Y (.Return none pos) tRetN sRetN := ⟨ps_retN, fun P G H c ρ σ DD EE K R q => K.rt G H c .non .non R.r.evo .non q⟩
def sBreak (DD : DEnds) (ρ : DEnv) (c : Nat) : Prop := DD.bk ρ c
def sCont (DD : DEnds) (ρ : DEnv) (c : Nat) : Prop := DD.ct ρ c
theorem pds_pass : PDS Y (.Pass pos) tNext sNext := ⟨ps_pass, fun _ _ _ _ _ _ _ _ K R h => K.nx _ _ _ _ _ R h⟩
theorem pds_break : PDS Y (.Break pos) tBreak sBreak := ⟨ps_break, fun _ _ _ _ _ _ _ _ K R h => K.bk _ _ _ _ _ R h⟩
theorem pds_cont : PDS Y (.Continue pos) tCont sCont := ⟨ps_continue, fun _ _ _ _ _ _ _ _ K R h => K.ct _ _ _ _ _ R h⟩
def sIf (tc : DT) (t u : DS) (DD : DEnds) (ρ : DEnv) (c : Nat) : Prop := tc ρ c fun b c1 => if b = true then t DD ρ c1 else u DD ρ c1
theorem pds_if (hc : PDT Y f eA tA) (ha : PDSs Y body s1 t) (hb : PDSs Y orelse s2 u) : PDS Y (.If f body orelse pos) (tIfS eA s1 s2) (sIf tA t u) :=
  ⟨ps_if hc.p ha.p hb.p, fun P G H c ρ σ DD EE K R q => hc.s G H c ρ σ _ _ R.r q fun b G1 H1 c1 ev q => by
    cases b with
    | true => rw [if_pos rfl] at q ⊢; exact ha.s P G1 H1 c1 ρ σ DD EE K (R.evo ev) q
    | false => rw [if_neg Bool.false_ne_true] at q ⊢; exact hb.s P G1 H1 c1 ρ σ DD EE K (R.evo ev) q⟩
def sDrop (te : DE) (DD : DEnds) (ρ : DEnv) (c : Nat) : Prop := te ρ c fun _ c1 => DD.nx ρ c1
theorem pds_expr (h : PD Y e ee te) (hs : swapsWith e none pos.line Y.X.env = pure false := by rfl) : PDS Y (.Expr e pos) (tDrop ee) (sDrop te) :=
  ⟨ps_expr h.p hs, fun P G H c ρ σ DD EE K R q => h.s G H c ρ σ _ _ R.r q fun d v G' H' c' ev r q => K.nx G' H' c' ρ σ (R.evo ev) q⟩
def sSet (i : Nat) (te : DE) (DD : DEnds) (ρ : DEnv) (c : Nat) : Prop := te ρ c fun d c1 => DD.nx (ρ.set i (.fz d)) c1
theorem pds_set (i : Nat) {x : Str} {pos' : Pos} (hN : Y.X.N.Nodup) (h : PD Y e ee te) (hi : Y.X.N[i]? = some x := by rfl) (hx : Loc Y.X.env.scope x := by first | exact Or.inl rfl | exact Or.inr rfl) (hs : swapsWith e (some (.Name x pos')) pos.line Y.X.env = pure false := by rfl)
    (hf : Y.X.fn x = true ∨ Y.X.env.scope.names.lookup x = some .local := by first | exact .inl rfl | exact .inr rfl) : PDS Y (.Assign [.Name x pos'] e pos) (tAsg ee (gName i)) (sSet i te) :=
  ⟨ps_set hN hi hx h.p hs hf, fun P G H c ρ σ DD EE K R q => h.s G H c ρ σ _ _ R.r q fun d v G' H' c' ev r q => K.nx G' H' c' _ _ ⟨(R.r.evo' ev).set_fz r i, R.le.trans ev.le⟩ q⟩
/-- x op= e -/
def sAug (i : Nat) (te : DE) (rd : RD2) (DD : DEnds) (ρ : DEnv) (c : Nat) : Prop := ∃ x, ρ[i]? = some (.fz x) ∧ te ρ c fun y c1 => rd x y c1 fun z c2 => DD.nx (ρ.set i (.fz z)) c2
theorem pds_aug (i : Nat) {x : Str} {op : Operator} {r : R2} {rd : RD2} {pos' : Pos} (hN : Y.X.N.Nodup) (ho : OpR Y.X (inplaceOp op) r) (br : Br2 Y.X.K r rd) (h : PD Y e ee te) (hi : Y.X.N[i]? = some x := by rfl) (hx : Loc Y.X.env.scope x := by first | exact Or.inl rfl | exact Or.inr rfl)
    (hf : Y.X.fn x = true ∨ Y.X.env.scope.names.lookup x = some .local := by first | exact .inl rfl | exact .inr rfl) : PDS Y (.AugAssign (.Name x pos') op e pos) (tAug i ee r) (sAug i te rd) :=
  ⟨ps_aug hN hi hx h.p ho hf, fun P G H c ρ σ DD EE K R q => by
    obtain ⟨x, e1, q⟩ := q
    obtain ⟨o, e2, v, rfl, rv⟩ := R.r.sl i _ e1
    refine ⟨v, e2, h.s G H c ρ σ _ _ R.r q fun d y G1 H1 c1 ev r1 q1 => ?_⟩
    refine br G1 H1 c1 v y x d _ _ ev.ok (rv.mono ev.le) r1 q1 fun z w G2 H2 c2 ev2 r2 q2 => ?_
    exact K.nx G2 H2 c2 _ _ ⟨(R.r.evo' (ev.trans ev2)).set_fz r2 i, R.le.trans (ev.trans ev2).le⟩ q2⟩
/-- ahead of a block, a list of the frame's own is settled -/
def sFreeze (i : Nat) (t : DS) (DD : DEnds) (ρ : DEnv) (c : Nat) : Prop := ∃ ds, ρ[i]? = some (.ol ds) ∧ t DD (ρ.set i (.fz (.lst ds))) c
theorem pds_freeze (i : Nat) (h : PDSs Y rest s1 t) : PDSs Y rest s1 (sFreeze i t) := ⟨h.p, fun P G H c ρ σ DD EE K R q => by
  obtain ⟨ds, e, q⟩ := q
  obtain ⟨G', R'⟩ := R.freeze e
  exact h.s P G' H c _ σ DD EE K R' q⟩
def sNever (_ : DEnds) (_ : DEnv) (_ : Nat) : Prop := False
theorem pds_never : PDS Y st tNever sNever := ⟨ps_never, fun _ _ _ _ _ _ _ _ _ _ h => h.elim⟩
def sWhile (tc : DT) (tb : DS) (DD : DEnds) (ρ : DEnv) (c : Nat) : Prop := ∃ I : Nat → DEnv → Nat → Prop, (∃ m, I m ρ c) ∧ ∀ m ρ c, I m ρ c →
  tc ρ c fun b c1 => if b = true then tb { DD with nx := fun ρ' c' => ∃ m', m' < m ∧ I m' ρ' c', ct := fun ρ' c' => ∃ m', m' < m ∧ I m' ρ' c', bk := DD.nx } ρ c1 else DD.nx ρ c1
theorem pds_while (hp : PassesOwn (model Y.X.prog Y.X.w) Y.X.A Y.X.env Y.X.xe) (hc : PDT Y f eA tA) (hb : PDSs Y body s1 t) : PDS Y (.While f body [] pos) (tWhile eA s1) (sWhile tA t) :=
  ⟨ps_while hp hc.p hb.p, fun P G H c ρ σ DD EE K R q => by
    obtain ⟨I, ⟨m0, i0⟩, step⟩ := q
    refine ⟨fun m σ H => ∃ G c ρ, RelP Y P G H c ρ σ ∧ I m ρ c, ⟨m0, G, c, ρ, R, i0⟩, ?_⟩
    rintro m σ H ⟨G, c, ρ, R, im⟩
    refine hc.s G H c ρ σ _ _ R.r (step m ρ c im) fun b G1 H1 c1 ev q => ?_
    cases b with
    | false => rw [if_neg Bool.false_ne_true] at q ⊢; exact K.nx G1 H1 c1 ρ σ (R.evo ev) q
    | true =>
      rw [if_pos rfl] at q ⊢
      refine ⟨fun σ' H' => ∃ m', m' < m ∧ ∃ G c ρ, RelP Y P G H' c ρ σ' ∧ I m' ρ c, fun σ' H' ⟨m', l, z⟩ => ⟨m', l, z⟩, ?_⟩
      refine hb.s P G1 H1 c1 ρ σ _ _ ?_ (R.evo ev) q
      exact ⟨fun G H c ρ σ R ⟨m', l, z⟩ => ⟨m', l, G, c, ρ, R, z⟩, K.rt, K.nx, fun G H c ρ σ R ⟨m', l, z⟩ => ⟨m', l, G, c, ρ, R, z⟩⟩⟩
end

/-! ### targets -/
abbrev DG := D → DEnv → Nat → (DEnv → Nat → Prop) → Prop
abbrev DGs := List D → DEnv → Nat → (DEnv → Nat → Prop) → Prop
/-- the slots that are not in vs are left as they were -/
def Off (vs : List Nat) (σ σ' : L2.St) : Prop := ∀ ws : List Nat, (∀ i, i ∈ vs → i ∈ ws) → wipe σ' ws = wipe σ ws
theorem wipe_set {σ : L2.St} {i : Nat} {o : Option V} : ∀ {ws : List Nat}, i ∈ ws → wipe (σ.set i o) ws = wipe σ ws
  | [], h => by cases h
  | w :: ws, h => by
    have key : ∀ ws : List Nat, i ∈ ws ∨ wipe (σ.set i o) ws = (wipe σ ws).set i o := by
      intro ws
      induction ws with
      | nil => exact .inr rfl
      | cons w ws ih =>
        by_cases e : i = w
        · exact .inl (e ▸ List.mem_cons_self)
        · rcases ih with h | h
          · exact .inl (List.mem_cons_of_mem _ h)
          · refine .inr ?_
            show (wipe (σ.set i o) ws).set w none = ((wipe σ ws).set w none).set i o
            rw [h, List.set_comm _ _ e]
    show (wipe (σ.set i o) ws).set w none = (wipe σ ws).set w none
    by_cases hm : i ∈ ws
    · rw [wipe_set hm]
    · have e : i = w := by
        rcases List.mem_cons.mp h with e | e
        · exact e
        · exact absurd e hm
      rcases key ws with h | h
      · exact absurd h hm
      · rw [h, e, List.set_set]
def SimG (Y : Ctx) (gg : TG) (g : DG) (vs : List Nat) : Prop := ∀ G H c ρ σ d v (Qd : DEnv → Nat → Prop) (Q : L2.St → Hp → Prop), Rel Y G H c ρ σ → Rp Y.X.K G v d → g d ρ c Qd →
  (∀ ρ' σ', Rel Y G H c ρ' σ' → Off vs σ σ' → Qd ρ' c → Q σ' H) → gg v σ H Q
structure PDG (Y : Ctx) (tg : Expr) (gg : TG) (g : DG) (vs : List Nat) : Prop where
  p : PG Y.X tg gg
  s : SimG Y gg g vs
def SimGs (Y : Ctx) (gg : TGs) (g : DGs) (vs : List Nat) : Prop := ∀ G H c ρ σ ds xs (Qd : DEnv → Nat → Prop) (Q : L2.St → Hp → Prop), Rel Y G H c ρ σ → RpAll Y.X.K G xs ds → g ds ρ c Qd →
  (∀ ρ' σ', Rel Y G H c ρ' σ' → Off vs σ σ' → Qd ρ' c → Q σ' H) → gg xs σ H Q
structure PDGs (Y : Ctx) (tgs : List Expr) (gg : TGs) (g : DGs) (vs : List Nat) : Prop where
  p : PGs Y.X tgs gg
  s : SimGs Y gg g vs
def kName (i : Nat) (d : D) (ρ : DEnv) (c : Nat) (Q : DEnv → Nat → Prop) : Prop := Q (ρ.set i (.fz d)) c
def kNil (ds : List D) (ρ : DEnv) (c : Nat) (Q : DEnv → Nat → Prop) : Prop := ds = [] ∧ Q ρ c
def kCons (g : DG) (r : DGs) (ds : List D) (ρ : DEnv) (c : Nat) (Q : DEnv → Nat → Prop) : Prop := ∃ d es, ds = d :: es ∧ g d ρ c fun ρ' c' => r es ρ' c' Q
def kTup (n : Nat) (g : DGs) (d : D) (ρ : DEnv) (c : Nat) (Q : DEnv → Nat → Prop) : Prop := ∃ ds, d = .tup ds ∧ ds.length = n ∧ g ds ρ c Q
section
variable {Y : Ctx} {pos : Pos} {e : Expr} {es : List Expr} {gg : TG} {g : DG} {ggs : TGs} {gs : DGs} {vs ws : List Nat} {ee : TE} {te : DE}
theorem pdg_name (i : Nat) {x : Str} (hN : Y.X.N.Nodup) (hi : Y.X.N[i]? = some x := by rfl) (hx : Loc Y.X.env.scope x := by first | exact Or.inl rfl | exact Or.inr rfl) (hf : Y.X.fn x = true ∨ Y.X.env.scope.names.lookup x = some .local := by first | exact .inl rfl | exact .inr rfl) : PDG Y (.Name x pos) (gName i) (kName i) [i] :=
  ⟨pg_name hN hi hx hf, fun G H c ρ σ d v Qd Q R r h k => k _ _ (R.set_fz r i) (fun ws hw => wipe_set (hw i List.mem_cons_self)) h⟩
theorem pdg_nil : PDGs Y [] gNil kNil [] := ⟨pgs_nil, fun G H c ρ σ ds xs Qd Q R r h k => by
  obtain ⟨rfl, h⟩ := h
  cases r
  exact ⟨rfl, k _ _ R (fun _ _ => rfl) h⟩⟩
theorem pdg_cons (h1 : PDG Y e gg g vs) (h2 : PDGs Y es ggs gs ws) (hs : (assignEach (e :: es) Y.X.env).map (·.2) = assign e Y.X.env :: (assignEach es Y.X.env).map (·.2) := by rfl) : PDGs Y (e :: es) (gCons gg ggs) (kCons g gs) (vs ++ ws) :=
  ⟨pgs_cons h1.p h2.p hs, fun G H c ρ σ ds xs Qd Q R r h k => by
    obtain ⟨d, es, rfl, h⟩ := h
    cases r with
    | cons r1 r2 =>
      refine ⟨_, _, rfl, h1.s G H c ρ σ d _ _ _ R r1 h fun ρ1 σ1 R1 o1 q1 => h2.s G H c ρ1 σ1 es _ _ _ R1 r2 q1 fun ρ2 σ2 R2 o2 q2 => k ρ2 σ2 R2 (fun l hl => ?_) q2⟩
      rw [o2 l fun i hi => hl i (List.mem_append_right _ hi), o1 l fun i hi => hl i (List.mem_append_left _ hi)]⟩
theorem pdg_tup {k n : Nat} (hc : Y.X.calm = true) (h : PDGs Y es ggs gs vs) (hn : (assignEach es Y.X.env).length = n := by rfl) (hst : (assignEach es Y.X.env).findIdx? (·.1) = none := by rfl) : PDG Y (.Tuple es k pos) (gTup Y.X.K n ggs) (kTup n gs) vs :=
  ⟨pg_tup hc h.p hn hst, fun G H c ρ σ d v Qd Q R r hw k => by
    obtain ⟨ds, rfl, hl, hw⟩ := hw
    cases r with
    | tup h1 h2 =>
      exact ⟨_, _, rfl, SqT.same R.ok.same h1, by rw [h2.length]; exact hl, h.s G H c ρ σ ds _ _ _ R h2 hw k⟩⟩
/-- target = e -/
def sAsg (te : DE) (g : DG) (DD : DEnds) (ρ : DEnv) (c : Nat) : Prop := te ρ c fun d c1 => g d ρ c1 DD.nx
theorem pds_asg {tg : Expr} (h : PD Y e ee te) (hg : PDG Y tg gg g vs) (hs : swapsWithSole [tg] e pos.line Y.X.env = pure false := by rfl) (hw : swappedStores [tg] e Y.X.env = pure none := by rfl)
    (h1 : (assignEach [tg] Y.X.env).map (·.2) = [assign tg Y.X.env] := by rfl) : PDS Y (.Assign [tg] e pos) (tAsg ee gg) (sAsg te g) :=
  ⟨ps_asg h.p hg.p hs hw h1, fun P G H c ρ σ DD EE K R q => h.s G H c ρ σ _ _ R.r q fun d v G' H' c' ev r q =>
    hg.s G' H' c' ρ σ d v _ _ (R.r.evo' ev) r q fun ρ' σ' R' _ q' => K.nx G' H' c' ρ' σ' ⟨R', R.le.trans ev.le⟩ q'⟩
end

/-! ### what is walked -/
/-- the walk J gives the items L, from G on -/
def WalkD (K : PySem.W.Frag) (J : It) (L : List D) (G0 : GS) : Prop := ∀ G H c, G0.Le G → G.Ok H c →
  (∀ i d, L[i]? = some d → J.go i H ∧ ∀ x H', J.yld i H x H' → ∃ G', Evo G H c G' H' c ∧ Rp K G' x d) ∧ J.stop L.length H
abbrev DI := DEnv → Nat → (List D → Nat → Prop) → Prop
def SimI (Y : Ctx) (wi : TI) (ti : DI) : Prop := ∀ G H c ρ σ (Qd : List D → Nat → Prop) (R : It → Hp → Prop), Rel Y G H c ρ σ → ti ρ c Qd →
  (∀ L J G1 H1 c1, Evo G H c G1 H1 c1 → WalkD Y.X.K J L G1 → Qd L c1 → R J H1) → wi σ H R
structure PDI (Y : Ctx) (tg iter : Expr) (wi : TI) (ti : DI) : Prop where
  p : PI Y.X tg iter wi
  s : SimI Y wi ti
section
variable {Y : Ctx} {pos : Pos} {e tg : Expr} {ee : TE} {te : DE}
theorem walkD_list {K : PySem.W.Frag} {a : Addr} {xs : List V} {ds : List D} {G0 : GS} (h : SqL K G0.f a xs) (r : RpAll K G0 xs ds) : WalkD K (Itl K a) ds G0 := by
  intro G H c le ok
  have hq : SqL K H a xs := SqL.same (le.f.trans ok.same) h
  refine ⟨fun i d hd => ?_, ⟨xs, hq, by rw [r.length]; exact Nat.le_refl _⟩⟩
  obtain ⟨v, hv, rv⟩ := r.get hd
  refine ⟨⟨xs, v, hq, hv⟩, fun x H' y => ?_⟩
  obtain ⟨rfl, y⟩ := y
  have e := y xs hq
  rw [hv] at e
  cases e
  exact ⟨G, Evo.refl ok, rv.mono le⟩
end
end PL

namespace PL
open PySem PySem.Spec PyProof.Rows L2

theorem walkD_tup {K : PySem.W.Frag} {a : Addr} {xs : List V} {ds : List D} {G0 : GS} (h : SqT K G0.f a xs) (r : RpAll K G0 xs ds) : WalkD K (Itt K a) ds G0 := by
  intro G H c le ok
  have hq : SqT K H a xs := SqT.same (le.f.trans ok.same) h
  refine ⟨fun i d hd => ?_, ⟨xs, hq, by rw [r.length]; exact Nat.le_refl _⟩⟩
  obtain ⟨v, hv, rv⟩ := r.get hd
  refine ⟨⟨xs, v, hq, hv⟩, fun x H' y => ?_⟩
  obtain ⟨rfl, y⟩ := y
  have e := y xs hq
  rw [hv] at e
  cases e
  exact ⟨G, Evo.refl ok, rv.mono le⟩
/-- the signs of a text, each a text -/
def signs (x : Str) : List D := x.cps.toList.map fun c => D.str ⟨#[c]⟩
theorem signs_get {x : Str} {i : Nat} {d : D} (h : (signs x)[i]? = some d) : ∃ c, x.cps[i]? = some c ∧ d = .str ⟨#[c]⟩ := by
  unfold signs at h
  rw [List.getElem?_map] at h
  cases e : x.cps.toList[i]? with
  | none => rw [e] at h; cases h
  | some c => rw [e] at h; cases h; exact ⟨c, by simpa using e, rfl⟩
theorem walkD_str {K : PySem.W.Frag} (x : Str) (G0 : GS) : WalkD K (Its x) (signs x) G0 := by
  intro G H c le ok
  have hl : (signs x).length = x.cps.size := by simp [signs]
  refine ⟨fun i d hd => ?_, by show x.cps.size ≤ _; omega⟩
  obtain ⟨k, hk, rfl⟩ := signs_get hd
  have hi : i < x.cps.size := (Array.getElem?_eq_some_iff.mp hk).1
  refine ⟨hi, fun v H' y => ?_⟩
  obtain ⟨rfl, k', hk', rfl⟩ := y
  rw [hk] at hk'
  cases hk'
  exact ⟨G, Evo.refl ok, .str _⟩
/-- lo, lo + 1, .. (n of them) -/
def upInts (lo : Int) (n : Nat) : List D := (List.range n).map fun i => D.int (lo + (i : Nat))
theorem upInts_get {lo : Int} {n i : Nat} {d : D} (h : (upInts lo n)[i]? = some d) : i < n ∧ d = .int (lo + (i : Nat)) := by
  unfold upInts at h
  rw [List.getElem?_map] at h
  by_cases e : i < n
  · rw [List.getElem?_range e] at h
    cases h
    exact ⟨e, rfl⟩
  · rw [List.getElem?_eq_none (by simpa using e)] at h; cases h
theorem upInts_length (lo : Int) (n : Nat) : (upInts lo n).length = n := by simp [upInts]
theorem walkD_range {K : PySem.W.Frag} (lo : Int) (n : Nat) (G0 : GS) : WalkD K (Itr lo n) (upInts lo n) G0 := by
  intro G H c le ok
  refine ⟨fun i d hd => ?_, by show n ≤ _; rw [upInts_length]; exact Nat.le_refl _⟩
  obtain ⟨hi, rfl⟩ := upInts_get hd
  refine ⟨hi, fun v H' y => ?_⟩
  obtain ⟨rfl, rfl⟩ := y
  exact ⟨G, Evo.refl ok, .int _⟩
/-- with their places -/
def numbered (k : Nat) : List D → List D
  | [] => []
  | d :: ds => .tup [.int (k : Nat), d] :: numbered (k + 1) ds
theorem numbered_length : ∀ (k : Nat) (ds : List D), (numbered k ds).length = ds.length
  | _, [] => rfl
  | k, d :: ds => congrArg (· + 1) (numbered_length (k + 1) ds)
theorem numbered_get : ∀ {k : Nat} {ds : List D} {i : Nat} {d : D}, (numbered k ds)[i]? = some d → ∃ e, ds[i]? = some e ∧ d = .tup [.int ((k + i : Nat) : Int), e]
  | k, [], i, d, h => by simp [numbered] at h
  | k, e :: ds, 0, d, h => by
    refine ⟨e, rfl, ?_⟩
    simp [numbered] at h
    exact h.symm
  | k, e :: ds, i + 1, d, h => by
    have h : (numbered (k + 1) ds)[i]? = some d := by simpa [numbered] using h
    obtain ⟨f, h1, h2⟩ := numbered_get h
    refine ⟨f, by simpa using h1, ?_⟩
    rw [h2, show k + 1 + i = k + (i + 1) by omega]
theorem walkD_enum {K : PySem.W.Frag} {J : It} {xs : List V} {ds : List D} {G0 : GS} (r : RpAll K G0 xs ds)
    (hg : ∀ i x G H, G0.Le G → Same G.f H → xs[i]? = some x → J.go i H) (hs : ∀ G H, G0.Le G → Same G.f H → J.stop xs.length H)
    (hy : ∀ i v G H H', G0.Le G → Same G.f H → J.yld i H v H' → ∃ T x, v = .ref T ∧ H T = none ∧ H' = upd H T (.tup [.int (i : Nat), x]) ∧ xs[i]? = some x) : WalkD K J (numbered 0 ds) G0 := by
  intro G H c le ok
  refine ⟨fun i d hd => ?_, by rw [numbered_length, ← r.length]; exact hs G H le ok.same⟩
  obtain ⟨e, he, rfl⟩ := numbered_get hd
  obtain ⟨x, hx, rx⟩ := r.get he
  refine ⟨hg i x G H le ok.same hx, fun v H' y => ?_⟩
  obtain ⟨T, x', rfl, hT, rfl, hx'⟩ := hy i v G H H' le ok.same y
  rw [hx] at hx'
  cases hx'
  refine ⟨_, Evo.laid ok _ hT, ?_⟩
  rw [Nat.zero_add]
  exact Rp.newTup ok hT (.cons (.int _) (.cons (rx.mono le) .nil))

section
variable {Y : Ctx} {pos : Pos} {e tg : Expr} {es : List Expr} {ee : TE} {te : DE} {fa : TA} {t : DA} {wi : TI} {ti : DI}
/-- what is walked by itself: a list, a tuple, a text -/
def iAny (K : PySem.W.Frag) (tl : TE) : TI := fun σ H R => tl σ H fun x H1 =>
  (∃ a, x = .ref a ∧ (∃ xs, SqL K H1 a xs) ∧ R (Itl K a) H1) ∨ (∃ a, x = .ref a ∧ (∃ xs, SqT K H1 a xs) ∧ R (Itt K a) H1) ∨ ∃ z, x = .str z ∧ R (Its z) H1
theorem pi_any {X : Cx} {l : Expr} {tl : TE} (hl : PE X l tl) : PI X tg l (iAny X.K tl) := by
  refine ⟨fun pins s σ H R I h => thn (hl.run pins s σ H _ I h) fun v s1 ⟨x, H1, I1, r1, q1⟩ => ?_⟩
  have one : ∀ {b : Addr} {it : Addr}, b ∈ [it] → b = it := fun h => by simpa using h
  rcases q1 with ⟨a, rfl, ⟨xs, hq⟩, q⟩ | ⟨a, rfl, ⟨xs, hq⟩, q⟩ | ⟨z, rfl, q⟩
  · cases r1
    obtain ⟨its, rv, p, hz⟩ := I1.list hq
    exact wpAny_pyIter_list p.isList ⟨s1.heap.objs.size, _, _, _, H1, rfl, I1.kept (t' := s1.toks) fun b o e => Heap.get?_push_of_some _ e, turn_list a _, ⟨_, Heap.get?_push_size _ rfl, rfl, rfl⟩, fun b hb => by
      rw [one hb]; exact I1.fpOk (Nat.le_refl _) (I1.hok.fresh (Nat.le_refl _)), q⟩
  · cases r1
    obtain ⟨its, rv, p, hz⟩ := I1.tuple hq
    exact wpAny_pyIter_tuple (show s1.heap.IsTuple a its.toArray from p) ⟨s1.heap.objs.size, _, _, _, H1, rfl, I1.kept (t' := s1.toks) fun b o e => Heap.get?_push_of_some _ e, turn_tuple a _, ⟨_, Heap.get?_push_size _ rfl, rfl, rfl⟩, fun b hb => by
      rw [one hb]; exact I1.fpOk (Nat.le_refl _) (I1.hok.fresh (Nat.le_refl _)), q⟩
  · obtain ⟨tk, rfl⟩ := r1
    refine wpAny_pyIter_strU ⟨s1.heap.objs.size, _, _, _, H1, rfl, I1.kept (t' := s1.toks) fun b o e => Heap.get?_push_of_some _ e, turn_str (s1.heap.objs.size) z tk (strIterType z) ?_, ⟨_, Heap.get?_push_size _ rfl, rfl, rfl⟩, fun b hb => by
      rw [one hb]; exact I1.fpOk (Nat.le_refl _) (I1.hok.fresh (Nat.le_refl _)), q⟩
    unfold strIterType
    split
    · exact .inl rfl
    · exact .inr rfl
/-- the items of a value that is walked -/
def items : D → Option (List D)
  | .lst l => some l
  | .tup l => some l
  | .str x => some (signs x)
  | _ => none
def diAny (te : DE) (ρ : DEnv) (c : Nat) (Q : List D → Nat → Prop) : Prop := te ρ c fun d c1 => ∃ L, items d = some L ∧ Q L c1
theorem pdi_any (h : PD Y e ee te) : PDI Y tg e (iAny Y.X.K ee) (diAny te) := by
  refine ⟨pi_any h.p, fun G H c ρ σ Qd R Rl q k => ?_⟩
  refine h.s G H c ρ σ _ _ Rl q fun d v G1 H1 c1 ev r q => ?_
  obtain ⟨L, e, q⟩ := q
  cases r with
  | lst h1 h2 => cases e; exact .inl ⟨_, rfl, ⟨_, ev.ok.sq h1⟩, k _ _ G1 H1 c1 ev (walkD_list (SqL.of h1) h2) q⟩
  | tup h1 h2 => cases e; exact .inr (.inl ⟨_, rfl, ⟨_, SqT.same ev.ok.same h1⟩, k _ _ G1 H1 c1 ev (walkD_tup h1 h2) q⟩)
  | str x => cases e; exact .inr (.inr ⟨_, rfl, k _ _ G1 H1 c1 ev (walkD_str x G1) q⟩)
  | _ => cases e
def diRng1 (t : DA) (ρ : DEnv) (c : Nat) (Q : List D → Nat → Prop) : Prop := t ρ c fun ds c1 => ∃ j : Int, ds = [.int j] ∧ -(2 ^ 62) ≤ j ∧ j < 2 ^ 62 ∧ Q (upInts 0 j.toNat) c1
theorem pdi_range1 {a : Expr} {p : Pos} (hm : Y.X.mg "range" = none) (ha : PDA Y [a] fa t) (hg : Gl Y.X "range" := by rfl) (hs : starEach [a] Y.X.env = [(false, eval a Y.X.env)] := by rfl) :
    PDI Y tg (.Call (.Name "range" p) [a] [] pos) (iRng1 fa) (diRng1 t) := by
  refine ⟨pi_range1 hg hm ha.p hs, fun G H c ρ σ Qd R Rl q k => ?_⟩
  refine ha.s G H c ρ σ _ _ Rl q fun ds vs G1 H1 c1 ev r q => ?_
  obtain ⟨j, rfl, h1, h2, q⟩ := q
  cases r with
  | cons r rr => cases rr; cases r; exact ⟨j, rfl, h1, h2, k _ _ G1 H1 c1 ev (walkD_range 0 _ G1) q⟩
def diRng2 (t : DA) (ρ : DEnv) (c : Nat) (Q : List D → Nat → Prop) : Prop := t ρ c fun ds c1 => ∃ i j : Int, ds = [.int i, .int j] ∧ (-(2 ^ 62) ≤ i ∧ i < 2 ^ 62 ∧ -(2 ^ 62) ≤ j ∧ j < 2 ^ 62) ∧ Q (upInts i (j - i).toNat) c1
theorem pdi_range2 {a b : Expr} {p : Pos} (hm : Y.X.mg "range" = none) (ha : PDA Y [a, b] fa t) (hg : Gl Y.X "range" := by rfl) (hs : starEach [a, b] Y.X.env = [(false, eval a Y.X.env), (false, eval b Y.X.env)] := by rfl)
    (hs2 : starEach [b] Y.X.env = [(false, eval b Y.X.env)] := by rfl) : PDI Y tg (.Call (.Name "range" p) [a, b] [] pos) (iRng2 fa) (diRng2 t) := by
  refine ⟨pi_range2 hg hm ha.p hs hs2, fun G H c ρ σ Qd R Rl q k => ?_⟩
  refine ha.s G H c ρ σ _ _ Rl q fun ds vs G1 H1 c1 ev r q => ?_
  obtain ⟨i, j, rfl, hb, q⟩ := q
  cases r with
  | cons r rr =>
    cases rr with
    | cons r' rr => cases rr; cases r; cases r'; exact ⟨i, j, rfl, hb, k _ _ G1 H1 c1 ev (walkD_range i _ G1) q⟩

/-! ### for -/
def ForB (g : DG) (tb : DS) (DD : DEnds) (ρ : DEnv) (L : List D) (c1 : Nat) : Prop := ∃ I : Nat → DEnv → Nat → Prop, I 0 ρ c1 ∧
  (∀ k x ρ c, L[k]? = some x → I k ρ c → g x ρ c fun ρ' c' => tb { DD with nx := I (k + 1), ct := I (k + 1), bk := DD.nx } ρ' c') ∧ ∀ ρ c, I L.length ρ c → DD.nx ρ c
def sFor (ti : DI) (g : DG) (tb : DS) (DD : DEnds) (ρ : DEnv) (c : Nat) : Prop := ti ρ c fun L c1 => ForB g tb DD ρ L c1
theorem pds_for {body : List Stmt} {gg : TG} {g : DG} {vs : List Nat} {ts : TS} {tb : DS} (hp : PassesOwn (model Y.X.prog Y.X.w) Y.X.A Y.X.env Y.X.xe) (hc : Y.X.calm = true) (hi : PDI Y tg e wi ti) (hg : PDG Y tg gg g vs) (hb : PDSs Y body ts tb)
    (hs : ∀ x, foldedSetIterable e Y.X.env x = pure x := by intro _; rfl) : PDS Y (.For tg e body [] pos) (tFor wi gg ts) (sFor ti g tb) := by
  refine ⟨ps_for hp hc hi.p hg.p hb.p hs, fun P G H c ρ σ DD EE K R q => ?_⟩
  refine hi.s G H c ρ σ _ _ R.r q fun L J G1 H1 c1 ev wk q => ?_
  obtain ⟨I, i0, step, fin⟩ := q
  refine ⟨fun i m σ H => m = L.length - i ∧ i ≤ L.length ∧ ∃ G c ρ, RelP Y G1 G H c ρ σ ∧ I i ρ c, ⟨_, rfl, Nat.zero_le _, G1, c1, ρ, ⟨R.r.evo' ev, GS.Le.refl _⟩, i0⟩, ?_⟩
  rintro i m σ H ⟨rfl, hi, G, c, ρ, R1, ii⟩
  obtain ⟨wgo, wst⟩ := wk G H c R1.le R1.r.ok
  by_cases hlt : i < L.length
  · refine .inr ⟨(wgo i L[i] (by simp [hlt])).1, fun σ' H' => ∃ G c ρ, RelP Y G1 G H' c ρ σ' ∧ I (i + 1) ρ c, fun σ' H' z => ⟨L.length - (i + 1), by omega, rfl, hlt, z⟩, fun x H' y => ?_⟩
    obtain ⟨G', e', r'⟩ := (wgo i L[i] (by simp [hlt])).2 x H' y
    have R2 := R1.evo e'
    refine hg.s G' H' c ρ σ L[i] x _ _ R2.r r' (step i _ ρ c (by simp [hlt]) ii) fun ρ2 σ2 R3 _ q2 => ?_
    refine hb.s G1 G' H' c ρ2 σ2 _ _ ?_ ⟨R3, R2.le⟩ q2
    exact ⟨fun G H c ρ σ R z => ⟨G, c, ρ, R, z⟩, K.rt, fun G H c ρ σ R' z => K.nx G H c ρ σ ⟨R'.r, (GS.Le.trans R.le ev.le).trans R'.le⟩ z, fun G H c ρ σ R z => ⟨G, c, ρ, R, z⟩⟩
  · have e : i = L.length := by omega
    subst e
    exact .inl ⟨wst, K.nx G H c ρ σ ⟨R1.r, GS.Le.trans (GS.Le.trans R.le ev.le) R1.le⟩ (fin ρ c ii)⟩
end
end PL

namespace PL
open PySem PySem.Spec PyProof.Rows L2

/-! ### lists of the frame's own -/
section
variable {Y : Ctx} {P G G1 : GS} {H H1 : Hp} {c c1 : Nat} {ρ : DEnv} {σ : L2.St}
theorem Rel.dropLast {s : Sl} {o : Option V} (R : Rel Y G H c (ρ ++ [s]) (σ ++ [o])) : Rel Y G H c ρ σ := by
  have hl : ρ.length = σ.length := by have := R.len; simpa using this
  have up : ∀ {i : Nat} {t : Sl}, ρ[i]? = some t → (ρ ++ [s])[i]? = some t ∧ (σ ++ [o])[i]? = σ[i]? := fun {i t} e => by
    have hi : i < ρ.length := (List.getElem?_eq_some_iff.mp e).1
    exact ⟨by rw [List.getElem?_append_left hi]; exact e, by rw [List.getElem?_append_left (by omega)]⟩
  refine ⟨R.ok, R.evo, hl, fun i t e => ?_, fun i j t u ne e1 e2 h1 h2 => ?_, R.lo⟩
  · obtain ⟨a, b⟩ := up e
    rw [← b]
    exact R.sl i t a
  · obtain ⟨a1, b1⟩ := up e1
    obtain ⟨a2, b2⟩ := up e2
    rw [← b1, ← b2]
    exact R.sep i j t u ne a1 a2 h1 h2
/-- what a list of the frame's own holds is changed -/
theorem Rel.put {i : Nat} {a : Addr} {xs : List V} {ds es : List D} (R : Rel Y G H c ρ σ) (hi : ρ[i]? = some (.ol ds)) (hs : σ[i]? = some (some (.ref a))) (r : RpAll Y.X.K G xs es) :
    Rel Y G (upd H a (.lst xs)) c (ρ.set i (.ol es)) σ := by
  obtain ⟨o, e1, b, ys, rfl, h1, h2, h3, h4, h5⟩ := R.sl i _ hi
  rw [hs] at e1
  cases e1
  have nf : ∀ b u, G.f b = some u → b ≠ a := fun b u e z => by subst z; rw [h1] at e; cases e
  have np : ∀ b, G.pu b → b ≠ a := fun b e z => h2 (z ▸ e)
  have n0 : ∀ b u, Y.H0 b = some u → b ≠ a := fun b u e z => by subst z; rw [h3] at e; cases e
  have ok : G.Ok (upd H a (.lst xs)) c := ⟨fun b u e => by rw [upd_ne (nf b u e)]; exact R.ok.same b u e, R.ok.npu, fun b hb => by rw [upd_ne (np b hb)]; exact R.ok.pu b hb⟩
  refine ⟨ok, ⟨ok, R.evo.le, R.evo.c, fun b u e n => by rw [upd_ne (n0 b u e)]; exact R.evo.keep b u e n, fun b hb => by rw [upd_ne (np b (R.evo.le.pu b hb))]; exact R.evo.pus b hb, R.evo.new, R.evo.npu⟩, by simp [R.len], fun j s e => ?_, fun j k s t ne e1 e2 q1 q2 => ?_, R.lo⟩
  · rcases getElem?_set_cases e with ⟨rfl, rfl, _⟩ | ⟨ne, e⟩
    · exact ⟨_, hs, a, xs, rfl, h1, h2, h3, upd_same, r⟩
    · obtain ⟨o', e2, q⟩ := R.sl j s e
      refine ⟨o', e2, ?_⟩
      cases s with
      | no => trivial
      | fz d => exact q
      | ol fs =>
        obtain ⟨b, zs, rfl, g1, g2, g3, g4, g5⟩ := q
        have nb : b ≠ a := fun z => by
          subst z
          exact R.sep i j _ _ (Ne.symm ne) hi e rfl rfl (hs.trans e2.symm)
        exact ⟨b, zs, rfl, g1, g2, g3, by rw [upd_ne nb]; exact g4, g5⟩
  · have back : ∀ {j : Nat} {s : Sl}, (ρ.set i (.ol es))[j]? = some s → s.isOl = true → ∃ s', ρ[j]? = some s' ∧ s'.isOl = true := fun {j s} e q => by
      rcases getElem?_set_cases e with ⟨rfl, rfl, _⟩ | ⟨_, e⟩
      · exact ⟨_, hi, rfl⟩
      · exact ⟨_, e, q⟩
    obtain ⟨s', f1, w1⟩ := back e1 q1
    obtain ⟨t', f2, w2⟩ := back e2 q2
    exact R.sep j k s' t' ne f1 f2 w1 w2
theorem Rel.snoc_ol {a : Addr} (R : Rel Y G H c ρ σ) (h : H a = none) : Rel Y G (upd H a (.lst [])) c (ρ ++ [.ol []]) (σ ++ [some (.ref a)]) := by
  have ev : Evo G H c G (upd H a (.lst [])) c := Evo.laidU R.ok _ h
  have R1 := R.evo' ev
  have h0 : Y.H0 a = none := by
    cases q : Y.H0 a with
    | none => rfl
    | some u =>
      by_cases hp : Y.G0.pu a
      · obtain ⟨o, e⟩ := R.evo.pus a hp
        rw [h] at e; cases e
      · have e := R.evo.keep a u q hp
        rw [h] at e; cases e
  have key : ∀ {j : Nat} {s : Sl}, (ρ ++ [Sl.ol []])[j]? = some s → (ρ[j]? = some s ∧ (σ ++ [some (.ref a)])[j]? = σ[j]?) ∨ (s = .ol [] ∧ j = ρ.length ∧ (σ ++ [some (V.ref a)])[j]? = some (some (.ref a))) := fun {j s} e => by
    by_cases hj : j < ρ.length
    · rw [List.getElem?_append_left hj] at e
      exact .inl ⟨e, List.getElem?_append_left (by rw [← R.len]; exact hj)⟩
    · have hl : j < (ρ ++ [Sl.ol []]).length := (List.getElem?_eq_some_iff.mp e).1
      have ej : j = ρ.length := by simp at hl; omega
      subst ej
      rw [List.getElem?_append_right (Nat.le_refl _)] at e
      simp at e
      refine .inr ⟨e.symm, rfl, ?_⟩
      rw [List.getElem?_append_right (by rw [R.len]; exact Nat.le_refl _), R.len]
      simp
  have noa : ∀ (j : Nat) (s : Sl), ρ[j]? = some s → s.isOl = true → σ[j]? ≠ some (some (V.ref a)) := fun j s e q z => by
    obtain ⟨o, e1, r⟩ := R.sl j s e
    rw [z] at e1
    cases e1
    cases s with
    | no => cases q
    | fz d => cases q
    | ol ds =>
      obtain ⟨b, ys, eb, g1, g2, g3, g4, g5⟩ := r
      cases eb
      rw [h] at g4; cases g4
  refine ⟨R1.ok, R1.evo, by simp [R.len], fun j s e => ?_, fun j k s t ne e1 e2 q1 q2 => ?_, R1.lo⟩
  · rcases key e with ⟨e, q⟩ | ⟨rfl, _, q⟩
    · obtain ⟨o, e1, r⟩ := R1.sl j s e
      exact ⟨o, by rw [q]; exact e1, r⟩
    · exact ⟨_, q, a, [], rfl, R.ok.fnone h, R.ok.punone h, h0, upd_same, .nil⟩
  · rcases key e1 with ⟨f1, w1⟩ | ⟨rfl, j1, w1⟩
    · rcases key e2 with ⟨f2, w2⟩ | ⟨rfl, j2, w2⟩
      · rw [w1, w2]; exact R.sep j k s t ne f1 f2 q1 q2
      · rw [w1, w2]; exact noa j s f1 q1
    · rcases key e2 with ⟨f2, w2⟩ | ⟨rfl, j2, w2⟩
      · rw [w1, w2]; exact fun z => noa k t f2 q2 z.symm
      · exact absurd (j1.trans j2.symm) ne
theorem Evo.mut {a : Addr} {o : HO} (e : Evo G1 H1 c1 G H c) (h0 : H1 a = none) (hf : G.f a = none) (hp : ¬ G.pu a) : Evo G1 H1 c1 G (upd H a o) c where
  ok := ⟨fun b u q => by
      have : b ≠ a := fun z => by subst z; rw [hf] at q; cases q
      rw [upd_ne this]; exact e.ok.same b u q, e.ok.npu, fun b hb => by
      have : b ≠ a := fun z => hp (z ▸ hb)
      rw [upd_ne this]; exact e.ok.pu b hb⟩
  le := e.le
  c := e.c
  keep := fun b u q n => by rw [upd_ne (ne_of_none q h0)]; exact e.keep b u q n
  pus := fun b hb => by
    have : b ≠ a := fun z => hp (z ▸ e.le.pu b hb)
    rw [upd_ne this]; exact e.pus b hb
  new := e.new
  npu := e.npu
def wipeD (ρ : DEnv) : List Nat → DEnv
  | [] => ρ
  | v :: vs => (wipeD ρ vs).set v .no
theorem Rel.wipe (R : Rel Y G H c ρ σ) : ∀ vs : List Nat, Rel Y G H c (wipeD ρ vs) (L2.wipe σ vs)
  | [] => R
  | v :: vs => (R.wipe vs).set_no v none
theorem wipe_wipe (σ : L2.St) : ∀ (vs ws : List Nat), (∀ i, i ∈ vs → i ∈ ws) → L2.wipe (L2.wipe σ vs) ws = L2.wipe σ ws
  | [], _, _ => rfl
  | v :: vs, ws, h => by
    show L2.wipe ((L2.wipe σ vs).set v none) ws = _
    rw [wipe_set (h v List.mem_cons_self)]
    exact wipe_wipe σ vs ws fun i hi => h i (List.mem_cons_of_mem _ hi)
end

/-! ### comprehensions -/
def Ctx.blk (Y : Ctx) (s : Shared) (H : Hp) (scope : Scope) (cenv : Env) (fp : List Addr) : Ctx := { Y with X := Y.X.blk s H scope cenv fp, E := fun _ => E0, ED := fun _ _ _ _ _ => False }
theorem Rel.toBlk {Y : Ctx} {G : GS} {H : Hp} {c : Nat} {ρ : DEnv} {σ : L2.St} {s : Shared} {H' : Hp} {scope : Scope} {cenv : Env} {fp : List Addr} (R : Rel Y G H c ρ σ) : Rel (Y.blk s H' scope cenv fp) G H c ρ σ := ⟨R.ok, R.evo, R.len, R.sl, R.sep, R.lo⟩
theorem Rel.ofBlk {Y : Ctx} {G : GS} {H : Hp} {c : Nat} {ρ : DEnv} {σ : L2.St} {s : Shared} {H' : Hp} {scope : Scope} {cenv : Env} {fp : List Addr} (R : Rel (Y.blk s H' scope cenv fp) G H c ρ σ) : Rel Y G H c ρ σ := ⟨R.ok, R.evo, R.len, R.sl, R.sep, R.lo⟩
structure PDTs (Y : Ctx) (ifs : List Expr) (te : TT) (t : DT) : Prop where
  p : PTs Y.X ifs te
  s : SimT Y te t
def dtYes (_ : DEnv) (c : Nat) (Q : Bool → Nat → Prop) : Prop := Q true c
theorem pdts_nil {Y : Ctx} : PDTs Y [] tYes dtYes := ⟨pts_nil, fun G H c ρ σ Qd Q R h k => k true G H c (Evo.refl R.ok) h⟩
theorem pdts_one {Y : Ctx} {e : Expr} {eA : TT} {tA : DT} (h : PDT Y e eA tA) : PDTs Y [e] eA tA := ⟨pts_one h.p, h.s⟩
/-- the items L gone through -/
def LcB (g : DG) (tt : DT) (te : DE) (vs : List Nat) (ρ : DEnv) (L : List D) (c1 : Nat) (Q : QD) : Prop := ∃ I : Nat → List D → Nat → Prop, I 0 [] c1 ∧
  (∀ k x acc c, L[k]? = some x → I k acc c → g x (wipeD ρ vs) c fun ρ2 c2 => tt ρ2 c2 fun b c3 => if b = true then te ρ2 c3 fun y c4 => acc.length < sizeLine ∧ I (k + 1) (acc ++ [y]) c4 else I (k + 1) acc c3) ∧ ∀ acc c, I L.length acc c → Q (.lst acc) c
def dLc (ti : DI) (g : DG) (tt : DT) (te : DE) (vs : List Nat) (ρ : DEnv) (c : Nat) (Q : QD) : Prop := ti ρ c fun L c1 => LcB g tt te vs ρ L c1 Q
section
variable {Y : Ctx} {iter tg elt : Expr} {ifs : List Expr} {wi : TI} {ti : DI} {gg : TG} {g : DG} {vs : List Nat} {eA : TT} {tA : DT} {ee : TE} {te : DE} {scope : Scope} {own : List (Str × Nat)} {pos spos : Pos}
/-- what a comprehension's parts are, in every block -/
structure Blk (Y : Ctx) (tg elt : Expr) (ifs : List Expr) (scope : Scope) (gg : TG) (g : DG) (eA : TT) (tA : DT) (ee : TE) (te : DE) (vs : List Nat) : Prop where
  g : ∀ (s : Shared) (H : Hp) (C : Addr) (cl : List (Str × Addr)) (fp : List Addr), PDG (Y.blk s H scope (compEnvC scope cl C Y.X.env) fp) tg gg g vs
  t : ∀ (s : Shared) (H : Hp) (C : Addr) (cl : List (Str × Addr)) (fp : List Addr), PDTs (Y.blk s H scope (compEnvC scope cl C Y.X.env) fp) ifs eA tA
  e : ∀ (s : Shared) (H : Hp) (C : Addr) (cl : List (Str × Addr)) (fp : List Addr), PD (Y.blk s H scope (compEnvC scope cl C Y.X.env) fp) elt ee te
theorem lc_sim (hi : SimI Y wi ti) (b : Blk Y tg elt ifs scope gg g eA tA ee te (own.map (·.2))) : SimE Y (tLc wi gg eA ee (own.map (·.2))) (dLc ti g tA te (own.map (·.2))) := by
  intro G H c ρ σ Qd Q R q k
  have sg := (b.g Y.X.s_0 Y.X.H_0 0 [] []).s
  have st := (b.t Y.X.s_0 Y.X.H_0 0 [] []).s
  have se := (b.e Y.X.s_0 Y.X.H_0 0 [] []).s
  generalize own.map (·.2) = vs at *
  refine hi G H c ρ σ _ _ R q fun L J G1 H1 c1 ev wk q a ha => ?_
  obtain ⟨I, i0, step, fin⟩ := q
  have R1 := ((R.evo' ev).wipe vs).snoc_ol ha
  refine ⟨fun i m H => m = L.length - i ∧ i ≤ L.length ∧ ∃ G c acc, Rel Y G H c (wipeD ρ vs ++ [.ol acc]) (L2.wipe σ vs ++ [some (.ref a)]) ∧ Evo G1 H1 c1 G H c ∧ I i acc c,
    ⟨_, rfl, Nat.zero_le _, G1, c1, [], R1, Evo.laidU ev.ok _ ha, i0⟩, ?_⟩
  rintro i m H ⟨rfl, hil, G, c, acc, R2, e2, ii⟩
  obtain ⟨wgo, wst⟩ := wk G H c e2.le e2.ok
  have at_ : ∀ {ds : List D} {G H c}, Rel Y G H c (wipeD ρ vs ++ [.ol ds]) (L2.wipe σ vs ++ [some (.ref a)]) → G.f a = none ∧ ¬ G.pu a ∧ ∃ xs, H a = some (.lst xs) ∧ RpAll Y.X.K G xs ds := fun {ds G H c} R => by
    have hl : (wipeD ρ vs).length = (L2.wipe σ vs).length := by have := R.len; simpa using this
    obtain ⟨o, e1, b, ys, rfl, h1, h2, h3, h4, h5⟩ := R.sl (wipeD ρ vs).length (.ol ds) (by simp)
    have : (L2.wipe σ vs ++ [some (V.ref a)])[(wipeD ρ vs).length]? = some (some (.ref a)) := by rw [hl]; simp
    rw [this] at e1
    cases e1
    exact ⟨h1, h2, ys, h4, h5⟩
  by_cases hlt : i < L.length
  · have hx : L[i]? = some L[i] := by simp [hlt]
    refine .inr ⟨(wgo i L[i] hx).1, fun H' => ∃ G c acc, Rel Y G H' c (wipeD ρ vs ++ [.ol acc]) (L2.wipe σ vs ++ [some (.ref a)]) ∧ Evo G1 H1 c1 G H' c ∧ I (i + 1) acc c, fun H' z => ⟨L.length - (i + 1), by omega, rfl, hlt, z⟩, fun x H' y => ?_⟩
    obtain ⟨G', e', r'⟩ := (wgo i L[i] hx).2 x H' y
    have R3 := R2.evo' e'
    refine sg G' H' c _ _ L[i] x _ _ R3.dropLast.toBlk r' (step i _ acc c hx ii) fun ρ2 σ2 R4 off q2 => ⟨?_, ?_⟩
    · rw [off vs fun _ h => h, wipe_wipe σ vs vs fun _ h => h]
    · refine st G' H' c ρ2 σ2 _ _ R4 q2 fun bb G5 H5 c5 e5 q5 => ?_
      have R5 := R3.evo' e5
      cases bb with
      | false =>
        rw [if_neg Bool.false_ne_true] at q5 ⊢
        exact ⟨G5, c5, acc, R5, (e2.trans e').trans e5, q5⟩
      | true =>
        rw [if_pos rfl] at q5 ⊢
        refine se G5 H5 c5 ρ2 σ2 _ _ (R4.evo' e5) q5 fun d v G6 H6 c6 e6 r6 q6 => ?_
        have R6 := R5.evo' e6
        obtain ⟨hf, hp, xs, hx, rx⟩ := at_ R6
        obtain ⟨hlen, q6⟩ := q6
        refine ⟨xs, hx, by rw [rx.length]; exact hlen, G6, c6, acc ++ [d], ?_, (((e2.trans e').trans e5).trans e6).mut ha hf hp, q6⟩
        have R7 := R6.put (ds := acc) (i := (wipeD ρ vs).length) (a := a) (by simp) (by
          have hl : (wipeD ρ vs).length = (L2.wipe σ vs).length := by have := R6.len; simpa using this
          rw [hl]; simp) (rx.snoc r6)
        have e7 : (wipeD ρ vs ++ [Sl.ol acc]).set (wipeD ρ vs).length (.ol (acc ++ [d])) = wipeD ρ vs ++ [.ol (acc ++ [d])] := by
          rw [List.set_append_right _ _ (Nat.le_refl _)]; simp
        rw [e7] at R7
        exact R7
  · have e : i = L.length := by omega
    subst e
    obtain ⟨hf, hp, xs, hx, rx⟩ := at_ R2
    refine .inl ⟨wst, ?_⟩
    have e3 := e2.freeze ha hf hp hx
    have le : G.Le { G with f := upd G.f a (.lst xs) } := ⟨fun b u q => by
      have : b ≠ a := fun z => by subst z; rw [hf] at q; cases q
      show upd G.f a _ b = some u
      rw [upd_ne this]; exact q, fun _ z => z⟩
    exact k (.lst acc) (.ref a) _ _ c (ev.trans e3) (.lst upd_same (rx.mono le)) (fin acc c ii)
theorem pd_lc (hc : Y.X.calm = true) (hN : Y.X.N.Nodup) (hi : PDI Y tg iter wi ti) (ok : BlkOk Y.X.N Y.X.env.scope scope own) (b : Blk Y tg elt ifs scope gg g eA tA ee te (own.map (·.2)))
    (hs : ∀ x, foldedSetIterable iter Y.X.env x = pure x := by intro _; rfl) : PD Y (.ListComp elt [⟨tg, iter, ifs, 0⟩] scope pos) (tLc wi gg eA ee (own.map (·.2))) (dLc ti g tA te (own.map (·.2))) :=
  ⟨pe_lc hc hN hi.p ok (fun s H C cl fp => (b.g s H C cl fp).p) (fun s H C cl fp => (b.t s H C cl fp).p) (fun s H C cl fp => (b.e s H C cl fp).p) hs, lc_sim hi.s b⟩
theorem pds_setLc (i : Nat) {y : Str} {py : Pos} (hc : Y.X.calm = true) (hN : Y.X.N.Nodup) (hi : PDI Y tg iter wi ti) (ok : BlkOk Y.X.N Y.X.env.scope scope own) (b : Blk Y tg elt ifs scope gg g eA tA ee te (own.map (·.2)))
    (hsw : swapsWith (.ListComp elt [⟨tg, iter, ifs, 0⟩] scope pos) (some (.Name y py)) spos.line Y.X.env = pure true) (hy : Y.X.N[i]? = some y := by rfl) (hyl : Y.X.env.scope.names.lookup y = some .local := by rfl)
    (hs : ∀ x, foldedSetIterable iter Y.X.env x = pure x := by intro _; rfl) : PDS Y (.Assign [.Name y py] (.ListComp elt [⟨tg, iter, ifs, 0⟩] scope pos) spos) (tAsg (tLc wi gg eA ee (own.map (·.2))) (gName i)) (sSet i (dLc ti g tA te (own.map (·.2)))) :=
  ⟨ps_setLc hc hN hy hyl hsw hi.p ok (fun s H C cl fp => (b.g s H C cl fp).p) (fun s H C cl fp => (b.t s H C cl fp).p) (fun s H C cl fp => (b.e s H C cl fp).p) hs, fun P G H c ρ σ DD EE K R q =>
    lc_sim hi.s b G H c ρ σ _ _ R.r q fun d v G' H' c' ev r q => K.nx G' H' c' _ _ ⟨(R.r.evo' ev).set_fz r i, R.le.trans ev.le⟩ q⟩
end
end PL

namespace PL
open PySem PySem.Spec PyProof.Rows L2

/-! ### defs -/
/-- an exception by its class, its fields -/
abbrev EDt := Addr → List Str → List D → Nat → Prop
/-- what a def promises of data: arguments, counter, the wanted end, the wanted exception -/
abbrev SpD := List D → Nat → QD → EDt → Prop
def RpE (K : PySem.W.Frag) (G : GS) (dx : Option Addr) (ns : List Str) (ds : List D) : Prop :=
  (ns = [] ∧ ds = [] ∧ dx = none) ∨ ∃ d fs, dx = some d ∧ G.f d = some (.xd fs) ∧ fs.map (·.1) = ns ∧ RpAll K G (fs.map (·.2)) ds
def spOf (K : PySem.W.Frag) (sp : SpD) : Sp := fun vs H Q E => ∃ G c ds Qd ED, G.Ok H c ∧ RpAll K G vs ds ∧ sp ds c Qd ED ∧
  (∀ d v G' H' c', Evo G H c G' H' c' → Rp K G' v d → Qd d c' → Q v H') ∧
  ∀ C ns es dx G' H' c', Evo G H c G' H' c' → RpE K G' dx ns es → ED C ns es c' → E (.ref C) dx H'
/-- what a body's context gives -/
structure Ctx.Good (Y : Ctx) (k : Nat) : Prop where
  tk : Takes Y.X fun cls d σ H => Y.E σ cls d H
  err : ∀ ρ σ G H c, Rel Y G H c ρ σ → ∀ C ns es dx G' H' c', Evo G H c G' H' c' → RpE Y.X.K G' dx ns es → Y.ED ρ C ns es c' → Y.E σ (.ref C) dx H'
  room : Room k Y.X.A
  calm : Y.X.calm = true
theorem Ctx.Good.pass {Y : Ctx} {k : Nat} (g : Y.Good k) (σ : L2.St) : PassesAt (L2.CX Y.X.prog Y.X.w) Y.X σ (Y.E σ) := passAt g.tk σ
theorem Ctx.Good.blk {Y : Ctx} {k : Nat} (g : Y.Good k) (s : Shared) (H : Hp) (scope : Scope) (cenv : Env) (fp : List Addr) : (Y.blk s H scope cenv fp).Good k :=
  ⟨fun _ _ ⟨_, _, _, _, _, _, _, _, _, _, _, _, _, _, _, _, z⟩ => z.elim, fun _ _ _ _ _ _ _ _ _ _ _ _ _ _ _ z => z.elim, g.room, g.calm⟩
theorem Ctx.Good.mono {Y : Ctx} {j k : Nat} (g : Y.Good k) (h : j ≤ k) : Y.Good j := ⟨g.tk, g.err, g.room.mono h, g.calm⟩
def startD (N : List Str) (ds : List D) : DEnv := ds.map .fz ++ List.replicate (N.length - ds.length) .no
theorem rel_start {Y : Ctx} {N : List Str} {vs : List V} {ds : List D} (ok : Y.G0.Ok Y.H0 Y.c0) (r : RpAll Y.X.K Y.G0 vs ds) (lo : Y.lo.Le Y.G0) : Rel Y Y.G0 Y.H0 Y.c0 (startD N ds) (L2.start N vs) := by
  have hl := r.length
  have key : ∀ {i : Nat} {s : Sl}, (startD N ds)[i]? = some s → s = .no ∨ ∃ d, s = .fz d ∧ ds[i]? = some d := fun {i s} e => by
    unfold startD at e
    by_cases hi : i < ds.length
    · rw [List.getElem?_append_left (by simpa using hi), List.getElem?_map] at e
      obtain ⟨d, hd⟩ : ∃ d, ds[i]? = some d := ⟨ds[i], by simp [hi]⟩
      rw [hd] at e
      exact .inr ⟨d, (Option.some.inj e).symm, hd⟩
    · rw [List.getElem?_append_right (by simpa using hi), List.getElem?_replicate] at e
      split at e
      · exact .inl (Option.some.inj e).symm
      · cases e
  have len : (startD N ds).length = (L2.start N vs).length := by simp [startD, L2.start, hl]
  refine ⟨ok, Evo.refl ok, len, fun i s e => ?_, fun i j s t ne e1 e2 h1 h2 => ?_, lo⟩
  · have hi : i < (L2.start N vs).length := by rw [← len]; exact (List.getElem?_eq_some_iff.mp e).1
    rcases key e with rfl | ⟨d, rfl, hd⟩
    · exact ⟨_, List.getElem?_eq_getElem hi, trivial⟩
    · obtain ⟨v, hv, rv⟩ := r.get hd
      refine ⟨some v, ?_, v, rfl, rv⟩
      have : i < vs.length := (List.getElem?_eq_some_iff.mp hv).1
      unfold L2.start
      rw [List.getElem?_append_left (by simpa using this), List.getElem?_map, hv]
      rfl
  · rcases key e1 with rfl | ⟨d, rfl, _⟩
    · cases h1
    · cases h1
section
variable {P : Program} {w : World} {K : PySem.W.Frag} {mg : Str → Option Value} {base : Heap} {x qual : Str} {params : Arguments} {body : List Stmt} {scope : Scope} {dvs : List V} {kws : List (Str × V)} {f : Addr} {fd : FuncData}
/-- a def of the text keeps its promise of data, by its body -/
theorem okD {N ps : List Str} {k : Nat} {sp : SpD} (F : FunD K x qual params body scope dvs kws f fd) (S : FnScope N ps scope) (len : ∀ ds c Q E, sp ds c Q E → ds.length = ps.length)
    (hbody : ∀ (cdv : Value) (A : Around) (outer : List Env) (s : Shared) (H : Hp) (E : XK) (G0 : GS) (c0 : Nat) (ED : EDt), Ctx.Good ⟨cxOf (L2.CX P w) P w K mg base N qual scope f cdv A outer s H E, G0, H, c0, fun _ => E, fun _ => ED, G0⟩ k →
      ∃ ts t, PDSs ⟨cxOf (L2.CX P w) P w K mg base N qual scope f cdv A outer s H E, G0, H, c0, fun _ => E, fun _ => ED, G0⟩ body ts t ∧ ∀ ds Qd, sp ds c0 Qd ED → t { nx := fun _ c => Qd .non c, rt := Qd } (startD N ds) c0) :
    FnOk P w K mg base (L2.CX P w) (k + 1) f fd ps (spOf K sp) := by
  refine F.ok S (fun vs H Q E h => ?_) fun cdv A outer s H vs Q E hr h => ?_
  · obtain ⟨G, c, ds, Qd, ED, _, r, h, _⟩ := h
    rw [r.length]; exact len _ _ _ _ h
  · obtain ⟨G, c, ds, Qd, ED, ok, r, h, hQ, hE⟩ := h
    obtain ⟨ts, t, hb, ht⟩ := hbody cdv A outer s H E G c ED ⟨takes_of rfl rfl rfl rfl, fun ρ σ G1 H1 c1 R C ns es dx G' H' c' ev r q => hE C ns es dx G' H' c' (R.evo.trans ev) r q, hr, rfl⟩
    refine ⟨ts, hb.p, hb.s G G H c (startD N ds) _ { nx := fun _ c => Qd .non c, rt := Qd } _ ?_ ⟨rel_start (Y := ⟨cxOf (L2.CX P w) P w K mg base N qual scope f cdv A outer s H E, G, H, c, fun _ => E, fun _ => ED, G⟩) ok r (GS.Le.refl _), GS.Le.refl _⟩ (ht ds Qd h)⟩
    exact ⟨fun G' H' c' ρ σ R q => hQ _ _ G' H' c' R.r.evo .non q, fun G' H' c' d v e r q => hQ d v G' H' c' e r q, fun _ _ _ _ _ _ z => z.elim, fun _ _ _ _ _ _ z => z.elim⟩
end
/-- a weaker promise of data -/
theorem spOf.imp {K : PySem.W.Frag} {sp sp' : SpD} (h : ∀ ds c Q E, sp' ds c Q E → sp ds c Q E) : ∀ vs H Q E, spOf K sp' vs H Q E → spOf K sp vs H Q E :=
  fun _ _ _ _ ⟨G, c, ds, Qd, ED, ok, r, q, a, b⟩ => ⟨G, c, ds, Qd, ED, ok, r, h _ _ _ _ q, a, b⟩

/-! ### calls -/
section
variable {X : Cx} {CX : CXT} {k : Nat} {f : Addr} {fd : FuncData} {ps : List Str} {sp : Sp} {dvs : List V} {ds : List Value} {E : L2.St → XK} {x : Str} {p pos : Pos} {e : Expr} {es : List Expr} {t tk : TA} {n : Nat} {ks : List Str} {kws : List Keyword} {g : List Value → List Value → List Value} {gV : List V → List V → List V}
/-- what a call leaves, its wish about exceptions told at the slots -/
theorem back_at {pins : List (Addr × Obj)} {σ : L2.St} {H : Hp} {s : Shared} {Q : VK} {args : Args} {us : List Value} {vs : List V} (F : FnOk X.prog X.w X.K X.mg X.base CX k f fd ps sp) (hr : Room k X.A) (hx : PassesAt CX X σ (E σ)) (I : L2.Inv X pins σ H s)
    (hb : BindsTo s fd args (ps.zip us)) (r : Vals vs us) (h : sp vs H Q (E σ)) : codeAny (model X.prog X.w) X.A (.call (.ref f) args) (fun r s' => match r with | .error e => X.xe e s' | .ok (.ret u) => EP X pins σ Q u s' | .ok _ => False) s := by
  refine codeAny_mono (F.run X.A X.stack s H args us vs Q (E σ) hr I.env0 hb r h) fun rr s' hq => ?_
  cases rr with
  | error e => exact hx pins H s e s' I hq
  | ok fl =>
    cases fl with
    | ret u => exact I.after hq
    | next => exact False.elim hq
    | brk => exact False.elim hq
    | cont => exact False.elim hq
def tCallE (sp : Sp) (dvs : List V) (E : L2.St → XK) (t : TA) : TE := fun σ H Q => t σ H fun vs H1 => sp (vs ++ dvs) H1 Q (E σ)
def tCallNE (n m : Nat) (sp : Sp) (gV : List V → List V → List V) (E : L2.St → XK) (t tk : TA) : TE := fun σ H Q => t σ H fun vs H1 => tk σ H1 fun zs H2 => vs.length = n ∧ zs.length = m ∧ sp (gV vs zs) H2 Q (E σ)
theorem at_pos {pins : List (Addr × Obj)} {σ : L2.St} {H : Hp} {s : Shared} {Q : VK} {us : List Value} {vs : List V} (F : FnOk X.prog X.w X.K X.mg X.base CX k f fd ps sp) (hr : Room k X.A) (hb : Binds X.K fd ps ds) (hd : Vals dvs ds) (hx : PassesAt CX X σ (E σ))
    (I : L2.Inv X pins σ H s) (r : Vals vs us) (h : sp (vs ++ dvs) H Q (E σ)) : wpAny (model X.prog X.w) X.A (call (.ref f) us) (EP X pins σ Q) X.xe s := by
  have r2 : Vals (vs ++ dvs) (us ++ ds) := r.append hd
  have hl : (us ++ ds).length = ps.length := r2.length.symm.trans (F.len _ _ _ _ h)
  refine wpAny_call (codeAny_mono (back_at F hr hx I (hb s us I.kIn hl) r2 h) fun rr s' hq => ?_)
  cases rr with
  | error e => exact hq
  | ok fl => cases fl <;> exact hq
theorem at_kw {pins : List (Addr × Obj)} {σ : L2.St} {H : Hp} {s : Shared} {Q : VK} {us ws : List Value} {vs zs : List V} (F : FnOk X.prog X.w X.K X.mg X.base CX k f fd ps sp) (hr : Room k X.A) (hb : KBn X.K fd ps n ks g gV) (hx : PassesAt CX X σ (E σ))
    (I : L2.Inv X pins σ H s) (r : Vals vs us) (rz : Vals zs ws) (l1 : vs.length = n) (l2 : zs.length = ks.length) (h : sp (gV vs zs) H Q (E σ)) : wpAny (model X.prog X.w) X.A (call (.ref f) us (ks.zip ws)) (EP X pins σ Q) X.xe s := by
  refine wpAny_call (codeAny_mono (back_at F hr hx I (hb.to s us ws I.kIn (r.length.symm.trans l1) (rz.length.symm.trans l2)) (hb.rel r rz) h) fun rr s' hq => ?_)
  cases rr with
  | error e => exact hq
  | ok fl => cases fl <;> exact hq
variable (F : FnOk X.prog X.w X.K X.mg X.base CX k f fd ps sp) (hr : Room k X.A) (hg : Gl X x) (hm : X.mg x = some (.ref f)) (hk : PySem.W.keepIn X.K (.ref f) = true) (hx : ∀ σ, PassesAt CX X σ (E σ)) (hdb : (x == ("__debug__" : Str)) = false)
include F hr hg hm hk hx hdb
theorem pe_callE (hb : Binds X.K fd ps ds) (hd : Vals dvs ds) (ha : PA X (e :: es) t) (he : starEach (e :: es) X.env = (false, eval e X.env) :: starEach es X.env) (hpl : (backTo pos (starEach es X.env)).any (·.1) = false) : PE X (.Call (.Name x p) (e :: es) [] pos) (tCallE sp dvs E t) :=
  ⟨fun pins s σ H Q I h => wpAny_Call_Name_kw (ld_glob I hg hm (PySem.W.callWith_K (h₀ := X.base) I.ok.mod.kin hk (thn (ha.run pos pins s σ H _ I h) fun us s1 ⟨vs, H1, I1, r, q⟩ => ⟨I1.kIn, at_pos F hr hb hd (hx σ) I1 r q⟩) he hpl) hdb)⟩
theorem pe_call0E (hb : Binds X.K fd ps ds) (hd : Vals dvs ds) : PE X (.Call (.Name x p) [] [] pos) (tCallE sp dvs E tNil) :=
  ⟨fun pins s σ H Q I h => wpAny_Call_Name_kw (ld_glob I hg hm (PySem.W.callWith_K0 I.kIn hk (at_pos (us := []) F hr hb hd (hx σ) I .nil h)) hdb)⟩
theorem pe_callNE (hb : KBn X.K fd ps n ks g gV) (ha : PA X (e :: es) t) (hkw : PK X kws tk) (hall : (backToKw pos (keywordEach kws X.env)).all (·.1.isSome) = true) (hks : (backToKw pos (keywordEach kws X.env)).filterMap (·.1) = ks)
    (he : starEach (e :: es) X.env = (false, eval e X.env) :: starEach es X.env) (hpl : ((backTo pos (starEach (e :: es) X.env)).any (·.1) || (backToKw pos (keywordEach kws X.env)).any (·.1.isNone)) = false) : PE X (.Call (.Name x p) (e :: es) kws pos) (tCallNE n ks.length sp gV E t tk) := by
  refine ⟨fun pins s σ H Q I h => wpAny_Call_Name_kw (ld_glob I hg hm (PySem.W.callWith_KW (h₀ := X.base) I.ok.mod.kin hk hall (thn (ha.run pos pins s σ H _ I h) fun us s1 ⟨vs, H1, I1, r, q⟩ => thn (hkw.run pos pins s1 σ H1 _ I1 q) fun ws s2 ⟨zs, H2, I2, rz, l1, l2, q2⟩ => ⟨I2.kIn, ?_⟩) hpl he) hdb)⟩
  rw [hks]
  exact at_kw F hr hb (hx σ) I2 r rz l1 l2 q2
theorem pe_kw0E (hb : KBn X.K fd ps 0 ks g gV) (hkw : PK X kws tk) (hall : (backToKw pos (keywordEach kws X.env)).all (·.1.isSome) = true) (hks : (backToKw pos (keywordEach kws X.env)).filterMap (·.1) = ks)
    (hpl : (backToKw pos (keywordEach kws X.env)).any (·.1.isNone) = false) : PE X (.Call (.Name x p) [] kws pos) (tCallNE 0 ks.length sp gV E tNil tk) := by
  refine ⟨fun pins s σ H Q I h => wpAny_Call_Name_kw (ld_glob I hg hm (PySem.W.callWith_KW0 (h₀ := X.base) I.ok.mod.kin hk hall (thn (hkw.run pos pins s σ H _ I h) fun ws s2 ⟨zs, H2, I2, rz, l1, l2, q2⟩ => ⟨I2.kIn, ?_⟩) hpl) hdb)⟩
  rw [hks]
  exact at_kw (us := []) F hr hb (hx σ) I2 .nil rz rfl l2 q2
end
section
variable {Y : Ctx} {k : Nat} {f : Addr} {fd : FuncData} {ps : List Str} {sp : SpD} {dvs : List V} {dds : List D} {ds : List Value} {x : Str} {p pos : Pos} {e : Expr} {es : List Expr} {fa : TA} {t : DA}
def dCall (ED : DEnv → EDt) (sp : SpD) (dds : List D) (t : DA) (ρ : DEnv) (c : Nat) (Q : QD) : Prop := t ρ c fun ds c1 => sp (ds ++ dds) c1 Q (ED ρ)
theorem call_sim (g : Y.Good k) (hd : ∀ G, RpAll Y.X.K G dvs dds) (ha : SimA Y fa t) : SimE Y (tCallE (spOf Y.X.K sp) dvs Y.E fa) (dCall Y.ED sp dds t) := fun G H c ρ σ Qd Q R q kk =>
  ha G H c ρ σ _ _ R q fun ds vs G1 H1 c1 ev r q => ⟨G1, c1, ds ++ dds, Qd, Y.ED ρ, ev.ok, r.append (hd _), q, fun d v G' H' c' e' r' q' => kk d v G' H' c' (ev.trans e') r' q',
    fun C ns es dx G' H' c' e' r' q' => g.err ρ σ G H c R C ns es dx G' H' c' (ev.trans e') r' q'⟩
/-- f(e, ..): dvs (data dds) are the defaults that fill up -/
theorem pd_call (g : Y.Good k) (F : FnOk Y.X.prog Y.X.w Y.X.K Y.X.mg Y.X.base (L2.CX Y.X.prog Y.X.w) k f fd ps (spOf Y.X.K sp)) (hm : Y.X.mg x = some (.ref f)) (hk : PySem.W.keepIn Y.X.K (.ref f) = true) (hb : Binds Y.X.K fd ps ds) (hd : Vals dvs ds) (hdd : ∀ G, RpAll Y.X.K G dvs dds)
    (ha : PDA Y (e :: es) fa t) (hg : Gl Y.X x := by rfl) (hdb : (x == ("__debug__" : Str)) = false := by decide) (he : starEach (e :: es) Y.X.env = (false, eval e Y.X.env) :: starEach es Y.X.env := by rfl) (hpl : (backTo pos (starEach es Y.X.env)).any (·.1) = false := by rfl) :
    PD Y (.Call (.Name x p) (e :: es) [] pos) (tCallE (spOf Y.X.K sp) dvs Y.E fa) (dCall Y.ED sp dds t) :=
  ⟨pe_callE F g.room hg hm hk g.pass hdb hb hd ha.p he hpl, call_sim g hdd ha.s⟩
theorem pd_call0 (g : Y.Good k) (F : FnOk Y.X.prog Y.X.w Y.X.K Y.X.mg Y.X.base (L2.CX Y.X.prog Y.X.w) k f fd ps (spOf Y.X.K sp)) (hm : Y.X.mg x = some (.ref f)) (hk : PySem.W.keepIn Y.X.K (.ref f) = true) (hb : Binds Y.X.K fd ps ds) (hd : Vals dvs ds) (hdd : ∀ G, RpAll Y.X.K G dvs dds)
    (hg : Gl Y.X x := by rfl) (hdb : (x == ("__debug__" : Str)) = false := by decide) : PD Y (.Call (.Name x p) [] [] pos) (tCallE (spOf Y.X.K sp) dvs Y.E tNil) (dCall Y.ED sp dds dNil) :=
  ⟨pe_call0E F g.room hg hm hk g.pass hdb hb hd, call_sim g hdd pda_nil.s⟩
end
end PL

namespace PL
open PySem PySem.Spec PyProof.Rows L2

/-! ### numbers -/
def rdI (C : Int → Int → Prop) (g : Int → Int → D) (x : D) (y : D) (c : Nat) (Q : QD) : Prop := ∃ i j, x = .int i ∧ y = .int j ∧ C i j ∧ Q (g i j) c
def rdI0 (g : Int → Int → D) (x : D) (y : D) (c : Nat) (Q : QD) : Prop := ∃ i j, x = .int i ∧ y = .int j ∧ Q (g i j) c
section
variable {K : PySem.W.Frag}
theorem br_I {C : Int → Int → Prop} {g : Int → Int → V} {gd : Int → Int → D} (h : ∀ G i j, Rp K G (g i j) (gd i j)) : Br2 K (rI C g) (rdI C gd) := fun G H c x y d e Qd Q ok rx ry q k => by
  obtain ⟨i, j, rfl, rfl, hc, q⟩ := q
  cases rx; cases ry
  exact ⟨i, j, rfl, rfl, hc, k _ _ G H c (Evo.refl ok) (h G i j) q⟩
theorem br_I0 {g : Int → Int → V} {gd : Int → Int → D} (h : ∀ G i j, Rp K G (g i j) (gd i j)) : Br2 K (rI0 g) (rdI0 gd) := fun G H c x y d e Qd Q ok rx ry q k => by
  obtain ⟨i, j, rfl, rfl, q⟩ := q
  cases rx; cases ry
  exact ⟨i, j, rfl, rfl, k _ _ G H c (Evo.refl ok) (h G i j) q⟩
theorem br_U {g : Int → V} {gd : Int → D} (h : ∀ G i, Rp K G (g i) (gd i)) : Br1 K (rU g) (fun x c Q => ∃ i, x = .int i ∧ Q (gd i) c) := fun G H c x d Qd Q ok rx q k => by
  obtain ⟨i, rfl, q⟩ := q
  cases rx
  exact ⟨i, rfl, k _ _ G H c (Evo.refl ok) (h G i) q⟩
end
abbrev aAdd : RD2 := rdI0 fun i j => .int (i + j)
abbrev aSub : RD2 := rdI0 fun i j => .int (i - j)
abbrev aMul : RD2 := rdI CMul fun i j => .int (i * j)
abbrev aDiv : RD2 := rdI CDiv fun i j => .int (i / j)
abbrev aMod : RD2 := rdI (fun _ j => 0 < j) fun i j => .int (i % j)
def CPowB (i j : Int) : Prop := 0 ≤ j ∧ (Builtin.Int.intBits i : Int) * j ≤ 2 ^ 27
abbrev aPow : RD2 := rdI CPowB fun i j => .int (i ^ j.toNat)
abbrev aLt : RD2 := rdI0 fun i j => .bl (decide (i < j))
abbrev aLe : RD2 := rdI0 fun i j => .bl (decide (i ≤ j))
abbrev aGt : RD2 := rdI0 fun i j => .bl (decide (j < i))
abbrev aGe : RD2 := rdI0 fun i j => .bl (decide (j ≤ i))
theorem op_powB {X : Cx} : OpR X (binaryOp .Pow) (rI CPowB fun i j => .int (i ^ j.toNat)) := opI fun _ _ _ _ _ _ _ hc q => pow_int hc.1 hc.2 q
section
variable {Y : Ctx} {a b : Expr} {ea eb : TE} {ta tb : DE} {pos : Pos}
theorem pd_add (ha : PD Y a ea ta) (hb : PD Y b eb tb) : PD Y (.BinOp a .Add b pos) (tOp (rI0 fun i j => .int (i + j)) ea eb) (dOp aAdd ta tb) := pd_op op_add (br_I0 fun _ _ _ => .int _) ha hb
theorem pd_sub (ha : PD Y a ea ta) (hb : PD Y b eb tb) : PD Y (.BinOp a .Sub b pos) (tOp (rI0 fun i j => .int (i - j)) ea eb) (dOp aSub ta tb) := pd_op op_sub (br_I0 fun _ _ _ => .int _) ha hb
theorem pd_mul (ha : PD Y a ea ta) (hb : PD Y b eb tb) : PD Y (.BinOp a .Mult b pos) (tOp (rI CMul fun i j => .int (i * j)) ea eb) (dOp aMul ta tb) := pd_op op_mul (br_I fun _ _ _ => .int _) ha hb
theorem pd_fdiv (ha : PD Y a ea ta) (hb : PD Y b eb tb) : PD Y (.BinOp a .FloorDiv b pos) (tOp (rI CDiv fun i j => .int (i / j)) ea eb) (dOp aDiv ta tb) := pd_op op_fdiv (br_I fun _ _ _ => .int _) ha hb
theorem pd_mod (ha : PD Y a ea ta) (hb : PD Y b eb tb) : PD Y (.BinOp a .Mod b pos) (tOp (rI (fun _ j => 0 < j) fun i j => .int (i % j)) ea eb) (dOp aMod ta tb) := pd_op op_mod (br_I fun _ _ _ => .int _) ha hb
theorem pd_pow (ha : PD Y a ea ta) (hb : PD Y b eb tb) : PD Y (.BinOp a .Pow b pos) (tOp (rI CPowB fun i j => .int (i ^ j.toNat)) ea eb) (dOp aPow ta tb) := pd_op op_powB (br_I fun _ _ _ => .int _) ha hb
theorem pd_neg (ha : PD Y a ea ta) : PD Y (.UnaryOp .USub a pos) (tUn (rU fun i => .int (-i)) ea) (dUn (fun x c Q => ∃ i, x = .int i ∧ Q (.int (-i)) c) ta) := pd_un un_neg (br_U fun _ _ => .int _) ha
end
/-- x is None -/
def aIsN (x : D) (y : D) (c : Nat) (Q : QD) : Prop := y = .non ∧ Q (.bl (match x with | .non => true | _ => false)) c
def aNotN (x : D) (y : D) (c : Nat) (Q : QD) : Prop := y = .non ∧ Q (.bl (match x with | .non => false | _ => true)) c
section
variable {Y : Ctx} {a b : Expr} {ea eb : TE} {ta tb : DE} {pos : Pos}
theorem br_isN {K : PySem.W.Frag} : Br2 K (fun x y H Q => y = .non ∧ Q (.bl (decide (x = .non))) H) aIsN := fun G H c x y d e Qd Q ok rx ry q k => by
  obtain ⟨rfl, q⟩ := q
  cases ry
  refine ⟨rfl, k _ _ G H c (Evo.refl ok) ?_ q⟩
  cases rx <;> exact .bl _
theorem br_notN {K : PySem.W.Frag} : Br2 K (fun x y H Q => y = .non ∧ Q (.bl (!decide (x = .non))) H) aNotN := fun G H c x y d e Qd Q ok rx ry q k => by
  obtain ⟨rfl, q⟩ := q
  cases ry
  refine ⟨rfl, k _ _ G H c (Evo.refl ok) ?_ q⟩
  cases rx <;> exact .bl _
end

/-! ### texts -/
/-- a ≤ b, by code points -/
def aLeS (x : D) (y : D) (c : Nat) (Q : QD) : Prop := ∃ i j : Str, x = .str i ∧ y = .str j ∧ Q (.bl (!decide (j.cps.toList < i.cps.toList))) c
/-- what is drawn from a list at a place -/
def aIx (x : D) (y : D) (c : Nat) (Q : QD) : Prop := ∃ i, y = .int i ∧
  ((∃ l d, x = .lst l ∧ atI l i = some d ∧ Q d c) ∨ (∃ l d, x = .tup l ∧ atI l i = some d ∧ Q d c) ∨ (∃ z k, x = .str z ∧ z.length ≤ sizeLine ∧ atI z.cps.toList i = some k ∧ Q (.str ⟨#[k]⟩) c) ∨ ∃ ns j, x = .scr ns ∧ atI ns i = some j ∧ Q (.int j) c)
section
variable {K : PySem.W.Frag}
theorem RpAll.atI {G : GS} {xs : List V} {ds : List D} {i : Int} {d : D} (r : RpAll K G xs ds) (h : L2.atI ds i = some d) : ∃ v, L2.atI xs i = some v ∧ Rp K G v d := by
  unfold L2.atI at h ⊢
  rw [r.length]
  cases e : ixN ds.length i with
  | none => rw [e] at h; cases h
  | some j =>
    rw [e] at h
    obtain ⟨v, h1, h2⟩ := r.get (i := j) h
    exact ⟨v, h1, h2⟩
theorem atI_map {α β : Type} {f : α → β} {l : List α} {i : Int} {x : α} (h : L2.atI l i = some x) : L2.atI (l.map f) i = some (f x) := by
  unfold L2.atI at h ⊢
  rw [List.length_map]
  cases e : ixN l.length i with
  | none => rw [e] at h; cases h
  | some j =>
    rw [e] at h
    show (l.map f)[j]? = some (f x)
    rw [List.getElem?_map, show l[j]? = some x from h]
    rfl
theorem br_ix : Br2 K (rIx K) aIx := fun G H c x y d e Qd Q ok rx ry q k => by
  obtain ⟨i, rfl, q⟩ := q
  cases ry
  rcases q with ⟨l, d', rfl, h, q⟩ | ⟨l, d', rfl, h, q⟩ | ⟨z, m, rfl, hz, h, q⟩ | ⟨ns, j, rfl, h, q⟩
  · cases rx with
    | lst h1 h2 =>
      obtain ⟨v, hv, rv⟩ := h2.atI h
      exact .inl ⟨_, _, i, v, rfl, rfl, ok.sq h1, hv, k _ _ G H c (Evo.refl ok) rv q⟩
  · cases rx with
    | tup h1 h2 =>
      obtain ⟨v, hv, rv⟩ := h2.atI h
      exact .inr (.inl ⟨_, _, i, v, rfl, rfl, SqT.same ok.same h1, hv, k _ _ G H c (Evo.refl ok) rv q⟩)
  · cases rx
    exact .inr (.inr ⟨z, i, m, rfl, rfl, hz, h, k _ _ G H c (Evo.refl ok) (.str _) q⟩)
  · cases rx with
    | scr h1 => exact .inl ⟨_, _, i, .int j, rfl, rfl, SqL.same ok.same h1, atI_map h, k _ _ G H c (Evo.refl ok) (.int _) q⟩
theorem br_leS : Br2 K (fun x y H Q => ∃ i j, x = .str i ∧ y = .str j ∧ Q (.bl (!decide (j.cps.toList < i.cps.toList))) H) aLeS := fun G H c x y d e Qd Q ok rx ry q k => by
  obtain ⟨i, j, rfl, rfl, q⟩ := q
  cases rx; cases ry
  exact ⟨i, j, rfl, rfl, k _ _ G H c (Evo.refl ok) (.bl _) q⟩
end
section
variable {Y : Ctx} {a b : Expr} {ea eb : TE} {ta tb : DE} {pos : Pos}
theorem pd_item (ha : PD Y a ea ta) (hb : PD Y b eb tb) (hs : PlainIx b := by exact fun _ _ => rfl) : PD Y (.Subscript a b pos) (tOp (rIx Y.X.K) ea eb) (dOp aIx ta tb) := pd_ix ix_seq br_ix ha hb hs
end

/-! ### tuples: +, slices -/
def aCat (x : D) (y : D) (c : Nat) (Q : QD) : Prop := ∃ l m, x = .tup l ∧ y = .tup m ∧ l.length + m.length ≤ sizeLine ∧ Q (.tup (l ++ m)) c
theorem br_cat {K : PySem.W.Frag} : Br2 K (rCatA K) aCat := fun G H c x y d e Qd Q ok rx ry q k => by
  obtain ⟨l, m, rfl, rfl, hz, q⟩ := q
  cases rx with
  | @tup a xs _ h1 h2 =>
    cases ry with
    | @tup b ys _ g1 g2 =>
      refine ⟨a, b, xs, ys, rfl, rfl, SqT.same ok.same h1, SqT.same ok.same g1, by rw [h2.length, g2.length]; exact hz, fun e => ?_, fun _ e => ?_, fun _ _ p np => ?_⟩
      · subst e; cases h2
        exact k _ _ G H c (Evo.refl ok) (.tup g1 g2) q
      · subst e; cases g2
        exact k _ _ G H c (Evo.refl ok) (.tup h1 (by rw [List.append_nil]; exact h2)) q
      · exact k _ _ _ _ c (Evo.laid ok _ np) (Rp.newTup ok np (h2.append g2)) q
/-- the part of a list from lo (or 0) to hi (or the end) -/
def cut {α : Type} (xs : List α) (lo hi : Option Int) : List α := (xs.drop (HT.sIx xs.length 0 lo)).take (HT.sIx xs.length xs.length hi - HT.sIx xs.length 0 lo)
abbrev DO := DEnv → Nat → (Option Int → Nat → Prop) → Prop
structure PDO (Y : Ctx) (e : Option Expr) (te : TO) (t : DO) : Prop where
  p : PO Y.X e te
  s : ∀ G H c ρ σ (Qd : Option Int → Nat → Prop) (Q : Option Int → Hp → Prop), Rel Y G H c ρ σ → t ρ c Qd → (∀ o G' H' c', Evo G H c G' H' c' → Qd o c' → Q o H') → te σ H Q
def dNoPart (_ : DEnv) (c : Nat) (Q : Option Int → Nat → Prop) : Prop := Q none c
def dPart (t : DE) (ρ : DEnv) (c : Nat) (Q : Option Int → Nat → Prop) : Prop := t ρ c fun d c1 => ∃ i, d = .int i ∧ Q (some i) c1
section
variable {Y : Ctx} {e : Expr} {lo hi : Option Expr} {ee : TE} {te : DE} {el eh : TO} {tl th : DO} {pos p2 : Pos}
theorem pdo_none : PDO Y none tNoPart dNoPart := ⟨po_none, fun G H c ρ σ Qd Q R q k => k _ G H c (Evo.refl R.ok) q⟩
theorem pdo_some (h : PD Y e ee te) : PDO Y (some e) (tPart ee) (dPart te) := ⟨po_some h.p, fun G H c ρ σ Qd Q R q k => h.s G H c ρ σ _ _ R q fun d v G1 H1 c1 ev r q => by
  obtain ⟨i, rfl, q⟩ := q
  cases r
  exact ⟨i, rfl, k _ G1 H1 c1 ev q⟩⟩
abbrev RDs := D → Option Int → Option Int → Nat → QD → Prop
def dSl (rd : RDs) (te : DE) (tl th : DO) (ρ : DEnv) (c : Nat) (Q : QD) : Prop := te ρ c fun x c1 => tl ρ c1 fun l c2 => th ρ c2 fun u c3 => rd x l u c3 Q
def BrS (K : PySem.W.Frag) (r : V → Option Int → Option Int → Hp → VK → Prop) (rd : RDs) : Prop := ∀ G H c x d l u (Qd : QD) (Q : VK), G.Ok H c → Rp K G x d → rd d l u c Qd →
  (∀ d' v G' H' c', Evo G H c G' H' c' → Rp K G' v d' → Qd d' c' → Q v H') → r x l u H Q
theorem pd_slice {r : V → Option Int → Option Int → Hp → VK → Prop} {rd : RDs} (hr : SlR Y.X r) (br : BrS Y.X.K r rd) (he : PD Y e ee te) (hl : PDO Y lo el tl) (hu : PDO Y hi eh th) : PD Y (.Subscript e (.Slice lo hi none p2) pos) (tSl r ee el eh) (dSl rd te tl th) :=
  ⟨pe_slice hr he.p hl.p hu.p, fun G H c ρ σ Qd Q R q k => he.s G H c ρ σ _ _ R q fun d v G1 H1 c1 e1 r1 q1 => hl.s G1 H1 c1 ρ σ _ _ (R.evo' e1) q1 fun l G2 H2 c2 e2 q2 =>
    hu.s G2 H2 c2 ρ σ _ _ (R.evo' (e1.trans e2)) q2 fun u G3 H3 c3 e3 q3 => br G3 H3 c3 v d l u Qd Q e3.ok (r1.mono (e2.le.trans e3.le)) q3 fun d' v' G4 H4 c4 e4 r4 q4 => k d' v' G4 H4 c4 ((e1.trans e2).trans (e3.trans e4)) r4 q4⟩
end
/-- a slice of a tuple, a list, a text -/
def aCut (x : D) (lo : Option Int) (hi : Option Int) (c : Nat) (Q : QD) : Prop := (∃ l, x = .tup l ∧ Q (.tup (cut l lo hi)) c) ∨ ∃ l, x = .lst l ∧ Q (.lst (cut l lo hi)) c
def rCut (K : PySem.W.Frag) : V → Option Int → Option Int → Hp → VK → Prop := fun x lo hi H Q => rSlA K x lo hi H Q ∨ rSlL K x lo hi H Q
theorem sl_cut {X : Cx} : SlR X (rCut X.K) := sl_tupA.or sl_list
theorem br_cut {K : PySem.W.Frag} : BrS K (rCut K) aCut := fun G H c x d lo hi Qd Q ok rx q k => by
  rcases q with ⟨l, rfl, q⟩ | ⟨l, rfl, q⟩
  · cases rx with
    | @tup a xs _ h1 h2 =>
      refine .inl ⟨a, xs, rfl, SqT.same ok.same h1, fun e => ?_, fun _ p np => ?_⟩
      · have e2 : cut l lo hi = l := by
          unfold cut
          rw [h2.length] at e
          rw [e.1, e.2, List.drop_zero, Nat.sub_zero, List.take_length]
        exact k _ _ G H c (Evo.refl ok) (by rw [e2]; exact .tup h1 h2) q
      · have r : RpAll K G (cutV xs lo hi) (cut l lo hi) := by
          unfold cutV cut
          rw [h2.length]
          exact (h2.drop _).take _
        exact k _ _ _ _ c (Evo.laid ok _ np) (Rp.newTup ok np r) q
  · cases rx with
    | @lst a xs _ h1 h2 =>
      refine .inr ⟨a, xs, rfl, ok.sq h1, fun p np => ?_⟩
      have r : RpAll K G (cutV xs lo hi) (cut l lo hi) := by
        unfold cutV cut
        rw [h2.length]
        exact (h2.drop _).take _
      exact k _ _ _ _ c (Evo.laid ok _ np) (Rp.newLst ok np r) q

/-! ### built-ins -/
def bLen (ds : List D) (c : Nat) (Q : QD) : Prop := ∃ d, ds = [d] ∧ ((∃ l, (d = .lst l ∨ d = .tup l) ∧ Q (.int l.length) c) ∨ (∃ z : Str, d = .str z ∧ z.length ≤ sizeLine ∧ Q (.int z.length) c) ∨ ∃ ns, d = .scr ns ∧ Q (.int ns.length) c)
def rLen (K : PySem.W.Frag) : List V → Hp → VK → Prop := fun xs H Q => (∃ p ys, xs = [.ref p] ∧ (SqL K H p ys ∨ SqT K H p ys) ∧ Q (.int ys.length) H) ∨ ∃ z, xs = [.str z] ∧ z.length ≤ sizeLine ∧ Q (.int z.length) H
theorem cr_len {X : Cx} : CallR X (.builtin "len") (rLen X.K) := call_len_seq.or call_len_str
theorem br_len {K : PySem.W.Frag} : BrN K (rLen K) bLen := fun G H c xs ds Qd Q ok r q k => by
  obtain ⟨d, rfl, q⟩ := q
  cases r with
  | cons r rr =>
    cases rr
    rcases q with ⟨l, rfl | rfl, q⟩ | ⟨z, rfl, hz, q⟩ | ⟨ns, rfl, q⟩
    · cases r with
      | @lst a xs _ h1 h2 => exact .inl ⟨a, xs, rfl, .inl (ok.sq h1), k _ _ G H c (Evo.refl ok) (.int _) (by rw [h2.length]; exact q)⟩
    · cases r with
      | @tup a xs _ h1 h2 => exact .inl ⟨a, xs, rfl, .inr (SqT.same ok.same h1), k _ _ G H c (Evo.refl ok) (.int _) (by rw [h2.length]; exact q)⟩
    · cases r
      exact .inr ⟨z, rfl, hz, k _ _ G H c (Evo.refl ok) (.int _) q⟩
    · cases r with
      | @scr a _ h1 => exact .inl ⟨a, _, rfl, .inl (SqL.same ok.same h1), k _ _ G H c (Evo.refl ok) (.int _) (by rw [List.length_map]; exact q)⟩
/-- int(x) of an int, of a bool -/
def b2n : Bool → Int
  | true => 1
  | false => 0
def bInt (ds : List D) (c : Nat) (Q : QD) : Prop := (∃ i, ds = [.int i] ∧ Q (.int i) c) ∨ ∃ b, ds = [.bl b] ∧ Q (.int (b2n b)) c
theorem br_int {K : PySem.W.Frag} : BrN K (fun xs H Q => (∃ i, xs = [.int i] ∧ Q (.int i) H) ∨ ∃ k, xs = [.bl k] ∧ Q (.int (if k then 1 else 0)) H) bInt := fun G H c xs ds Qd Q ok r q k => by
  rcases q with ⟨i, rfl, q⟩ | ⟨b, rfl, q⟩
  · cases r with
    | cons r rr => cases rr; cases r; exact .inl ⟨i, rfl, k _ _ G H c (Evo.refl ok) (.int _) q⟩
  · cases r with
    | cons r rr =>
      cases rr; cases r
      refine .inr ⟨b, rfl, k _ _ G H c (Evo.refl ok) ?_ q⟩
      cases b <;> exact .int _
def b2I (f : Int → Int → Int) (ds : List D) (c : Nat) (Q : QD) : Prop := ∃ i j, ds = [.int i, .int j] ∧ Q (.int (f i j)) c
theorem br_2I {K : PySem.W.Frag} {f : Int → Int → Int} : BrN K (fun xs H Q => ∃ i j, xs = [.int i, .int j] ∧ Q (.int (f i j)) H) (b2I f) := fun G H c xs ds Qd Q ok r q k => by
  obtain ⟨i, j, rfl, q⟩ := q
  cases r with
  | cons r rr =>
    cases rr with
    | cons r' rr => cases rr; cases r; cases r'; exact ⟨i, j, rfl, k _ _ G H c (Evo.refl ok) (.int _) q⟩
abbrev bMax2 : RDn := b2I fun i j => if j > i then j else i
abbrev bMin2 : RDn := b2I fun i j => if j < i then j else i
/-- the truth values of a list that holds nothing else -/
def bools : List D → Option (List Bool)
  | [] => some []
  | .bl b :: l => (bools l).map (b :: ·)
  | _ => none
theorem bools_rp {K : PySem.W.Frag} {G : GS} : ∀ {ds : List D} {bs : List Bool} {xs : List V}, bools ds = some bs → RpAll K G xs ds → xs = bs.map V.bl
  | [], bs, xs, e, r => by cases e; cases r; rfl
  | d :: ds, bs, xs, e, r => by
    cases r with
    | cons r rr =>
      cases d with
      | bl b =>
        cases e2 : bools ds with
        | none => simp [bools, e2] at e
        | some cs =>
          simp [bools, e2] at e
          subst e
          cases r
          rw [bools_rp e2 rr]
          rfl
      | _ => cases e
def bAll (ds : List D) (c : Nat) (Q : QD) : Prop := ∃ l bs, ds = [.lst l] ∧ bools l = some bs ∧ Q (.bl (bs.all id)) c
def bAny (ds : List D) (c : Nat) (Q : QD) : Prop := ∃ l bs, ds = [.lst l] ∧ bools l = some bs ∧ Q (.bl (bs.any id)) c
theorem br_all {K : PySem.W.Frag} : BrN K (rAll K) bAll := fun G H c xs ds Qd Q ok r q k => by
  obtain ⟨l, bs, rfl, e, q⟩ := q
  cases r with
  | cons r rr =>
    cases rr
    cases r with
    | @lst a ys _ h1 h2 =>
      have := bools_rp e h2
      subst this
      exact ⟨a, bs, rfl, ok.sq h1, k _ _ G H c (Evo.refl ok) (.bl _) q⟩
theorem br_any {K : PySem.W.Frag} : BrN K (rAny K) bAny := fun G H c xs ds Qd Q ok r q k => by
  obtain ⟨l, bs, rfl, e, q⟩ := q
  cases r with
  | cons r rr =>
    cases rr
    cases r with
    | @lst a ys _ h1 h2 =>
      have := bools_rp e h2
      subst this
      exact ⟨a, bs, rfl, ok.sq h1, k _ _ G H c (Evo.refl ok) (.bl _) q⟩
/-- list(x) of a list or a tuple -/
def bList (ds : List D) (c : Nat) (Q : QD) : Prop := ∃ l, (ds = [.lst l] ∨ ds = [.tup l]) ∧ Q (.lst l) c
theorem br_list {K : PySem.W.Frag} : BrN K (fun xs H Q => ∃ p ys, xs = [.ref p] ∧ (SqL K H p ys ∨ SqT K H p ys) ∧ ∀ l, H l = none → Q (.ref l) (upd H l (.lst ys))) bList := fun G H c xs ds Qd Q ok r q k => by
  obtain ⟨l, rfl | rfl, q⟩ := q
  · cases r with
    | cons r rr =>
      cases rr
      cases r with
      | @lst a xs _ h1 h2 => exact ⟨a, xs, rfl, .inl (ok.sq h1), fun p np => k _ _ _ _ c (Evo.laid ok _ np) (Rp.newLst ok np h2) q⟩
  · cases r with
    | cons r rr =>
      cases rr
      cases r with
      | @tup a xs _ h1 h2 => exact ⟨a, xs, rfl, .inr (SqT.same ok.same h1), fun p np => k _ _ _ _ c (Evo.laid ok _ np) (Rp.newLst ok np h2) q⟩
/-- tuple(x) of a list or a tuple -/
def bTuple (ds : List D) (c : Nat) (Q : QD) : Prop := ∃ l, (ds = [.lst l] ∨ ds = [.tup l]) ∧ Q (.tup l) c
theorem br_tuple {K : PySem.W.Frag} : BrN K (fun xs H Q => ∃ p ys, xs = [.ref p] ∧ ((SqL K H p ys ∧ ∀ l, H l = none → Q (.ref l) (upd H l (.tup ys))) ∨ (SqT K H p ys ∧ Q (.ref p) H))) bTuple := fun G H c xs ds Qd Q ok r q k => by
  obtain ⟨l, rfl | rfl, q⟩ := q
  · cases r with
    | cons r rr =>
      cases rr
      cases r with
      | @lst a xs _ h1 h2 => exact ⟨a, xs, rfl, .inl ⟨ok.sq h1, fun p np => k _ _ _ _ c (Evo.laid ok _ np) (Rp.newTup ok np h2) q⟩⟩
  · cases r with
    | cons r rr =>
      cases rr
      cases r with
      | @tup a xs _ h1 h2 => exact ⟨a, xs, rfl, .inr ⟨SqT.same ok.same h1, k _ _ G H c (Evo.refl ok) (.tup h1 h2) q⟩⟩
end PL

namespace PL
open PySem PySem.Spec PyProof.Rows L2

/-! ### isinstance, a built-in class -/
def basics : List String := ["int", "str", "bool", "tuple", "list", "dict"]
/-- an own class whose instances are none of the basic kinds -/
structure ICls (K : PySem.W.Frag) (C : Addr) : Prop where
  cl : Cls K C
  ha : PySem.W.findIn K (.ref C) "__class__" = some (some (.builtin "object.__class__"))
  hn : PySem.W.specialIn K (.builtin "object.__class__") "__get__" = some (some (.builtin "getset_descriptor.__get__"))
  ht : PySem.W.takesIn K (.builtin "object.__class__") = some true
  hm : PySem.W.mroIn K C (.type "object") = some true
  no : ∀ T ∈ basics, PySem.W.kitOne K (.ref C) (.type T) = some false
/-- the kind of a value, by name -/
def kind : D → Option String
  | .non => some "NoneType"
  | .bl _ => some "bool"
  | .int _ => some "int"
  | .str _ => some "str"
  | .tup _ => some "tuple"
  | .lst _ => some "list"
  | .dct _ _ => some "dict"
  | _ => none
def isaB (T : String) : D → Bool
  | .bl _ => T == "bool" || T == "int"
  | .int _ => T == "int"
  | .str _ => T == "str"
  | .tup _ => T == "tuple"
  | .lst _ => T == "list"
  | .dct _ _ => T == "dict"
  | _ => false
theorem kind_isa {T : String} (hT : T ∈ basics) : ∀ {d : D} {k : String}, kind d = some k → kitB k T = some (isaB T d) := by
  have h : ∀ k ∈ ["NoneType", "bool", "int", "str", "tuple", "list", "dict"], ∀ T ∈ basics, kitB k T = some (if k == "bool" then (T == "bool" || T == "int") else k == T) := by decide +kernel
  have key : ∀ a b : String, (a == b) = (b == a) := fun a b => by
    by_cases e : a = b
    · subst e; rfl
    · rw [beq_eq_false_iff_ne.mpr e, beq_eq_false_iff_ne.mpr (Ne.symm e)]
  intro d k e
  cases d with
  | non => cases e; rw [h _ (by simp) T hT]; show some ("NoneType" == T) = some false; rcases List.mem_cons.mp hT with rfl | hT; rfl; rcases List.mem_cons.mp hT with rfl | hT; rfl; rcases List.mem_cons.mp hT with rfl | hT; rfl; rcases List.mem_cons.mp hT with rfl | hT; rfl; rcases List.mem_cons.mp hT with rfl | hT; rfl; rcases List.mem_cons.mp hT with rfl | hT; rfl; cases hT
  | bl b => cases e; rw [h _ (by simp) T hT]; rfl
  | int i => cases e; rw [h _ (by simp) T hT]; show some ("int" == T) = some (T == "int"); rw [key]
  | str i => cases e; rw [h _ (by simp) T hT]; show some ("str" == T) = some (T == "str"); rw [key]
  | tup i => cases e; rw [h _ (by simp) T hT]; show some ("tuple" == T) = some (T == "tuple"); rw [key]
  | lst i => cases e; rw [h _ (by simp) T hT]; show some ("list" == T) = some (T == "list"); rw [key]
  | dct i j => cases e; rw [h _ (by simp) T hT]; show some ("dict" == T) = some (T == "dict"); rw [key]
  | _ => cases e
section
variable {K : PySem.W.Frag} {G : GS} {H : Hp} {c : Nat}
theorem tyX_of (ok : G.Ok H c) {x : V} {d : D} {k : String} (r : Rp K G x d) (e : kind d = some k) : TyX K H x (.type k) := by
  cases r with
  | non => cases e; exact .base .non
  | bl b => cases e; exact .base (.bl b)
  | int b => cases e; exact .base (.int b)
  | str b => cases e; exact .base (.str b)
  | tup h1 h2 =>
    cases e
    rcases h1 with (h | ⟨o, h⟩) | ⟨o, its, n, hk, hc, _⟩
    · exact .base (.tup (ok.same _ _ h))
    · exact .fTuple (ok.same _ _ h)
    · exact .kTuple hk hc
  | lst h1 h2 =>
    cases e
    exact .base (.lst (ok.same _ _ h1))
  | dct h1 h2 h3 =>
    cases e
    rcases h1 with h | ⟨o, h⟩
    · exact .base (.dK (ok.same _ _ h))
    · exact .fDict (ok.same _ _ h)
  | _ => cases e
end
/-- isinstance(x, T), T basic; IC: the own classes whose instances x may be -/
def bIsa (IC : Addr → Prop) (ds : List D) (c : Nat) (Q : QD) : Prop := ∃ x T, ds = [x, .ty T] ∧ T ∈ basics ∧ ((∃ k, kind x = some k) ∨ ∃ C ns es, x = .ins C ns es ∧ IC C) ∧ Q (.bl (isaB T x)) c
theorem br_isa {K : PySem.W.Frag} {IC : Addr → Prop} (hI : ∀ C, IC C → ICls K C) : BrN K (rIsi K) (bIsa IC) := fun G H c xs ds Qd Q ok r q k => by
  obtain ⟨x, T, rfl, hT, hx, q⟩ := q
  cases r with
  | cons r rr =>
    cases rr with
    | cons r' rr =>
      cases rr
      cases r'
      rcases hx with ⟨m, e⟩ | ⟨C, ns, es, rfl, hC⟩
      · exact ⟨_, _, _, .type T, isaB T x, rfl, .ty T, tyX_of ok r e, kit_ty (kind_isa hT e), k _ _ G H c (Evo.refl ok) (.bl _) q⟩
      · have I := hI C hC
        cases r with
        | ins h1 h2 h3 => exact ⟨_, _, _, .type T, false, rfl, .ty T, .base (.ins (ok.same _ _ h1) I.cl I.ha I.hn I.ht I.hm), I.no T hT, k _ _ G H c (Evo.refl ok) (.bl _) q⟩

/-! ### == of plain data -/
mutual
def toP : D → Option PyData
  | .non => some .none
  | .bl b => some (.bool b)
  | .int i => some (.int i)
  | .str x => some (.str x)
  | .tup l => (toPs l).map .tuple
  | .lst l => (toPs l).map .list
  | _ => none
def toPs : List D → Option (List PyData)
  | [] => some []
  | d :: l => (toP d).bind fun p => (toPs l).map (p :: ·)
end
mutual
theorem dp_of {K : PySem.W.Frag} {G : GS} {H : Hp} (s : Same G.f H) : ∀ {d : D} {p : PyData} {x : V}, toP d = some p → Rp K G x d → Dp K H x p
  | .non, p, x, e, r => by unfold toP at e; cases e; cases r; exact .non
  | .bl b, p, x, e, r => by unfold toP at e; cases e; cases r; exact .bl b
  | .int i, p, x, e, r => by unfold toP at e; cases e; cases r; exact .int i
  | .str i, p, x, e, r => by unfold toP at e; cases e; cases r; exact .str i
  | .tup l, p, x, e, r => by
    unfold toP at e
    cases e2 : toPs l with
    | none => rw [e2] at e; cases e
    | some ps =>
      rw [e2] at e
      cases e
      cases r with
      | tup h1 h2 => exact .tup (SqT.same s h1) (dps_of s e2 h2)
  | .lst l, p, x, e, r => by
    unfold toP at e
    cases e2 : toPs l with
    | none => rw [e2] at e; cases e
    | some ps =>
      rw [e2] at e
      cases e
      cases r with
      | lst h1 h2 => exact .lst (SqL.of (s _ _ h1)) (dps_of s e2 h2)
  | .ty _, _, _, e, _ => by unfold toP at e; cases e
  | .cls _, _, _, e, _ => by unfold toP at e; cases e
  | .dct _ _, _, _, e, _ => by unfold toP at e; cases e
  | .ins _ _ _, _, _, e, _ => by unfold toP at e; cases e
  | .exc _ _ _, _, _, e, _ => by unfold toP at e; cases e
  | .opq, _, _, e, _ => by unfold toP at e; cases e
  | .scr _, _, _, e, _ => by unfold toP at e; cases e
theorem dps_of {K : PySem.W.Frag} {G : GS} {H : Hp} (s : Same G.f H) : ∀ {l : List D} {ps : List PyData} {xs : List V}, toPs l = some ps → RpAll K G xs l → DpAll K H xs ps
  | [], ps, xs, e, r => by unfold toPs at e; cases e; cases r; exact .nil
  | d :: l, ps, xs, e, r => by
    unfold toPs at e
    cases e1 : toP d with
    | none => rw [e1] at e; cases e
    | some p =>
      rw [e1] at e
      cases e2 : toPs l with
      | none => rw [e2] at e; cases e
      | some qs =>
        rw [e2] at e
        cases e
        cases r with
        | cons r1 r2 => exact .cons (dp_of s e1 r1) (dps_of s e2 r2)
end
/-- data that can be compared: plain, its texts of bearable length, not too deep -/
def plainP (d : D) (p : PyData) : Prop := toP d = some p ∧ SeqAt.shaped p = true
def aEq (x : D) (y : D) (c : Nat) (Q : QD) : Prop := ∃ p q, plainP x p ∧ plainP y q ∧ Q (.bl (PyData.eqv p q)) c
def aNe (x : D) (y : D) (c : Nat) (Q : QD) : Prop := ∃ p q, plainP x p ∧ plainP y q ∧ Q (.bl (!PyData.eqv p q)) c
theorem br_eq {K : PySem.W.Frag} : Br2 K (rEqD K) aEq := fun G H c x y d e Qd Q ok rx ry q k => by
  obtain ⟨p, p2, ⟨h1, s1⟩, ⟨h2, s2⟩, q⟩ := q
  exact ⟨p, p2, dp_of ok.same h1 rx, dp_of ok.same h2 ry, s1, s2, k _ _ G H c (Evo.refl ok) (.bl _) q⟩
theorem br_ne {K : PySem.W.Frag} : Br2 K (rNeD K) aNe := fun G H c x y d e Qd Q ok rx ry q k => by
  obtain ⟨p, p2, ⟨h1, s1⟩, ⟨h2, s2⟩, q⟩ := q
  exact ⟨p, p2, dp_of ok.same h1 rx, dp_of ok.same h2 ry, s1, s2, k _ _ G H c (Evo.refl ok) (.bl _) q⟩
section
variable {Y : Ctx} {a b : Expr} {ea eb : TE} {ta tb : DE} {pos : Pos} {k : Nat}
end

/-! ### purses -/
/-- a new list of three numbers, held as a purse -/
def dPurse (t : DA) (ρ : DEnv) (c : Nat) (Q : QD) : Prop := t ρ c fun ds c1 => ∃ x y z : Int, ds = [.int x, .int y, .int z] ∧ 0 ≤ y ∧ y < 2 ^ 31 ∧ 0 ≤ z ∧ z ≤ 1000000 ∧ Q .opq c1
section
variable {Y : Ctx} {es : List Expr} {e : Expr} {fa : TA} {t : DA} {pos p1 p2 p3 : Pos} {ee : TE} {te : DE}
theorem rp3 {K : PySem.W.Frag} {G : GS} {vs : List V} {x y z : Int} (r : RpAll K G vs [.int x, .int y, .int z]) : vs = [.int x, .int y, .int z] := by
  cases r with
  | cons r1 r =>
    cases r with
    | cons r2 r =>
      cases r with
      | cons r3 r => cases r; cases r1; cases r2; cases r3; rfl
theorem pd_purse (ha : PDA Y es fa t) : PD Y (.List es pos) (tLst fa) (dPurse t) := by
  refine ⟨pe_lst ha.p, fun G H c ρ σ Qd Q R h k => ?_⟩
  refine ha.s G H c ρ σ _ _ R h fun ds vs G1 H1 c1 e1 r1 q1 => ?_
  obtain ⟨x, y, z, rfl, h1, h2, h3, h4, q⟩ := q1
  have e := rp3 r1
  subst e
  refine ⟨by show 3 ≤ sizeLine; decide, fun p np => ?_⟩
  have nf : G1.f p = none := e1.ok.fnone np
  have ev : Evo G1 H1 c1 { G1 with pu := fun b => G1.pu b ∨ b = p } (upd H1 p (.lst [.int x, .int y, .int z])) c1 := by
    have ev := Evo.laidU e1.ok (.lst [.int x, .int y, .int z]) np
    refine ⟨⟨ev.ok.same, fun b hb => ?_, fun b hb => ?_⟩, ⟨Same.refl _, fun _ h => .inl h⟩, Nat.le_refl _, ev.keep, ev.pus, ev.new, fun b o e hb => ?_⟩
    · rcases hb with hb | rfl
      · exact e1.ok.npu b hb
      · exact nf
    · rcases hb with hb | rfl
      · exact ev.ok.pu b hb
      · rw [upd_same]; exact ⟨x, y, z, rfl, h1, h2, h3, by omega⟩
    · rcases hb with hb | rfl
      · exact hb
      · rw [np] at e; cases e
  exact k .opq _ _ _ c1 (e1.trans ev) (.opq (.inr rfl)) q
/-- purse[n], the purse in slot i -/
def dPIx (i : Nat) (n : Nat) (ρ : DEnv) (c : Nat) (Q : QD) : Prop := ρ[i]? = some (.fz .opq) ∧ ∀ x : Int, (n = 1 → 0 ≤ x ∧ x < 2 ^ 31) → (n = 2 → 0 ≤ x ∧ x ≤ 1000000 + (c : Int)) → Q (.int x) c
theorem pd_purseIx (i n : Nat) {x : Str} {j : Nat} {nn : Int} (hn : nn = (n : Int)) (hn3 : n < 3) (hN : Y.X.N[i]? = some x := by rfl) (hv : Vis Y.X.env.scope x := by first | exact Or.inl rfl | exact Or.inr (Or.inl rfl) | exact Or.inr (Or.inr rfl)) (hd : (x == ("__debug__" : Str)) = false := by decide)
    (hcd : (x == ("__classdict__" : Str)) = false := by decide) : PD Y (.Subscript (.Name x p1) (.Constant (.int nn) j p2) pos) (tOp (rIx Y.X.K) (tVar i) (tC (.int nn))) (dPIx i n) := by
  refine ⟨pe_ix ix_seq (pe_var hN hv hd hcd) pe_int (fun _ _ => rfl), fun G H c ρ σ Qd Q R h k => ?_⟩
  obtain ⟨e, h⟩ := h
  obtain ⟨o, e1, v, rfl, r⟩ := R.sl i _ e
  subst hn
  cases r with
  | @opq a hp =>
    obtain ⟨x, y, z, e2, h1, h2, h3, h4⟩ := R.ok.pu a hp
    refine ⟨_, e1, .inl ⟨a, _, (n : Int), ([.int x, .int y, .int z] : List V)[n]'(by simpa using hn3), rfl, rfl, SqL.of e2, ?_, ?_⟩⟩
    · exact atI_nat (by simp)
    · match n, hn3 with
      | 0, _ => exact k _ _ G H c (Evo.refl R.ok) (.int _) (h x (fun z => nomatch z) fun z => nomatch z)
      | 1, _ => exact k _ _ G H c (Evo.refl R.ok) (.int _) (h y (fun _ => ⟨h1, h2⟩) fun z => nomatch z)
      | 2, _ => exact k _ _ G H c (Evo.refl R.ok) (.int _) (h z (fun z => nomatch z) fun _ => ⟨h3, h4⟩)
/-- purse[n] = e: the counter is raised with the last number -/
def sPSet (i : Nat) (n : Nat) (te : DE) (DD : DEnds) (ρ : DEnv) (c : Nat) : Prop := te ρ c fun d c1 => ρ[i]? = some (.fz .opq) ∧ ∃ x : Int, d = .int x ∧ ((n = 0 ∧ DD.nx ρ c1) ∨ (n = 2 ∧ 0 ≤ x ∧ x ≤ 1000000 + ((c1 + 1 : Nat) : Int) ∧ DD.nx ρ (c1 + 1)))
theorem evo_purse {G : GS} {H : Hp} {c c' : Nat} (ok : G.Ok H c) {a : Addr} (hp : G.pu a) (hc : c ≤ c') {u : HO} (hu : PurseV c' (some u)) : Evo G H c G (upd H a u) c' where
  ok := ⟨fun b o e => by
      have : b ≠ a := fun z => by subst z; rw [ok.npu b hp] at e; cases e
      rw [upd_ne this]; exact ok.same b o e, ok.npu, fun b hb => by
      by_cases e : b = a
      · subst e; rw [upd_same]; exact hu
      · rw [upd_ne e]; exact (ok.pu b hb).mono hc⟩
  le := GS.Le.refl _
  c := hc
  keep := fun b o e n => by
    have : b ≠ a := fun z => n (z ▸ hp)
    rw [upd_ne this]; exact e
  pus := fun b hb => by
    by_cases e : b = a
    · subst e; exact ⟨u, upd_same⟩
    · rw [upd_ne e]; exact (ok.pu b hb).some
  new := fun _ _ _ n => n
  npu := fun _ _ _ h => h
theorem pds_purseSet (i n : Nat) {x : Str} {j : Nat} {nn : Int} (hn : nn = (n : Int)) (he : PD Y e ee te) (hN : Y.X.N[i]? = some x := by rfl) (hv : Vis Y.X.env.scope x := by first | exact Or.inl rfl | exact Or.inr (Or.inl rfl) | exact Or.inr (Or.inr rfl)) (hd : (x == ("__debug__" : Str)) = false := by decide)
    (hcd : (x == ("__classdict__" : Str)) = false := by decide) (hs : swapsWithSole [.Subscript (.Name x p1) (.Constant (.int nn) j p2) p3] e pos.line Y.X.env = pure false := by rfl) (hw : swappedStores [.Subscript (.Name x p1) (.Constant (.int nn) j p2) p3] e Y.X.env = pure none := by rfl)
    (h1 : (assignEach [.Subscript (.Name x p1) (.Constant (.int nn) j p2) p3] Y.X.env).map (·.2) = [assign (.Subscript (.Name x p1) (.Constant (.int nn) j p2) p3) Y.X.env] := by rfl) :
    PDS Y (.Assign [.Subscript (.Name x p1) (.Constant (.int nn) j p2) p3] e pos) (tAsg ee (gSub (tVar i) (tC (.int nn)) rSetL)) (sPSet i n te) := by
  refine ⟨ps_asg he.p (pg_sub (pe_var hN hv hd hcd) pe_int set_list) hs hw h1, fun P G H c ρ σ DD EE K R q => ?_⟩
  refine he.s G H c ρ σ _ _ R.r q fun d v G1 H1 c1 ev r q => ?_
  obtain ⟨e, m, rfl, q⟩ := q
  have R1 := R.evo ev
  obtain ⟨o, e1, u, rfl, ru⟩ := R1.r.sl i _ e
  cases r
  cases ru with
  | @opq a hp =>
    obtain ⟨x, y, z, e2, g1, g2, g3, g4⟩ := R1.r.ok.pu a hp
    subst hn
    refine ⟨_, e1, a, _, (n : Int), n, rfl, rfl, e2, ?_, ?_⟩
    · have hn3 : n < 3 := by rcases q with ⟨rfl, _⟩ | ⟨rfl, _⟩ <;> decide
      show ixN 3 (n : Int) = some n
      match n, hn3 with
      | 0, _ => rfl
      | 1, _ => rfl
      | 2, _ => rfl
    · rcases q with ⟨rfl, q5⟩ | ⟨rfl, b1, b2, q5⟩
      · exact K.nx _ _ _ _ _ (R1.evo (evo_purse R1.r.ok hp (Nat.le_refl _) (u := .lst [.int m, .int y, .int z]) ⟨m, y, z, rfl, g1, g2, g3, g4⟩)) q5
      · exact K.nx _ _ _ _ _ (R1.evo (evo_purse R1.r.ok hp (Nat.le_succ _) (u := .lst [.int x, .int y, .int m]) ⟨x, y, m, rfl, g1, g2, b1, b2⟩)) q5
end
end PL

namespace PL
open PySem PySem.Spec PyProof.Rows L2

/-- a def's scope, looked at by the kernel -/
def scopeB (N P : List Str) (sc : Scope) : Bool :=
  (match sc.kind with | .function => true | _ => false) && !sc.isCoroutine && !sc.isGenerator && decide N.Nodup && decide (N.take P.length = P) &&
    P.all (fun x => match sc.names.lookup x with | some .local => true | some .cell => true | _ => false) && sc.names.all fun y => match y.2 with | .free => false | _ => true
theorem scope_of {N P : List Str} {sc : Scope} (h : scopeB N P sc = true) : FnScope N P sc := by
  simp only [scopeB, Bool.and_eq_true, decide_eq_true_eq, List.all_eq_true, Bool.not_eq_true'] at h
  obtain ⟨⟨⟨⟨⟨⟨h1, h2⟩, h3⟩, h4⟩, h5⟩, h6⟩, h7⟩ := h
  refine ⟨?_, h2, h3, h4, h5, fun x hx => ?_, fun y hy e => ?_⟩
  · split at h1
    · assumption
    · cases h1
  · have q := h6 x hx
    split at q
    · exact .inl (by assumption)
    · exact .inr (by assumption)
    · cases q
  · have q := h7 y hy
    rw [e] at q
    cases q
/-- a def of the top, named by x, its statement st, its defaults dvs -/
structure Df (K : PySem.W.Frag) (mg : Str → Option Value) (x : Str) (st : Stmt) (dvs : List V) (kws : List (Str × V)) (f : Addr) (fd : FuncData) : Prop where
  F : FunD K x x (defArgs st) (defBody st) (defScope st) dvs kws f fd
  m : mg x = some (.ref f)
/-- how it is called with values for all parameters but the last ones, which dvs fill -/
structure Cal (K : PySem.W.Frag) (mg : Str → Option Value) (x : Str) (f : Addr) (fd : FuncData) (ps : List Str) (dvs : List V) : Prop where
  m : mg x = some (.ref f)
  k : PySem.W.keepIn K (.ref f) = true
  b : ∃ ds, Vals dvs ds ∧ Binds K fd ps ds
section
variable {K : PySem.W.Frag} {mg : Str → Option Value} {x : Str} {st : Stmt} {dvs : List V} {kws : List (Str × V)} {f : Addr} {fd : FuncData} {ps : List Str}
theorem Df.cal0 (D : Df K mg x st [] kws f fd) (h : ∀ (kV doc pm : Value) (an : Option Addr) (cdv ct : Value) (us : List Value), us.length = ps.length → bindArgs (PySem.W.fnOf x x (defArgs st) (defBody st) (defScope st) .none kV doc pm an cdv ct) ⟨us, []⟩ = pure (ps.zip us)) : Cal K mg x f fd ps [] :=
  ⟨D.m, D.F.kp, [], .nil, D.F.bindsN h⟩
theorem Df.cal1 (D : Df K mg x st dvs kws f fd) (n j : Nat) (hd : dvs ≠ []) (hn : n + (dvs.length - j) = ps.length)
    (h : ∀ (T : Addr) (kV doc pm : Value) (an : Option Addr) (cdv ct : Value) (us its : List Value), us.length = n → its.length = dvs.length →
      ∃ k, bindArgs (PySem.W.fnOf x x (defArgs st) (defBody st) (defScope st) (.ref T) kV doc pm an cdv ct) ⟨us, []⟩ = seqItems? (.ref T) >>= k ∧ k (some its.toArray) = pure (ps.zip (us ++ its.drop j))) : Cal K mg x f fd ps (dvs.drop j) :=
  ⟨D.m, D.F.kp, D.F.binds1 n j hd hn h⟩
end
section
variable {Y : Ctx} {k : Nat} {f : Addr} {fd : FuncData} {ps : List Str} {sp : SpD} {dvs : List V} {dds : List D} {x : Str} {p pos : Pos} {e : Expr} {es : List Expr} {fa : TA} {t : DA}
theorem pd_callC (g : Y.Good k) (F : FnOk Y.X.prog Y.X.w Y.X.K Y.X.mg Y.X.base (L2.CX Y.X.prog Y.X.w) k f fd ps (spOf Y.X.K sp)) (C : Cal Y.X.K Y.X.mg x f fd ps dvs) (hdd : ∀ G, RpAll Y.X.K G dvs dds)
    (ha : PDA Y (e :: es) fa t) (hg : Gl Y.X x := by rfl) (hdb : (x == ("__debug__" : Str)) = false := by decide) (he : starEach (e :: es) Y.X.env = (false, eval e Y.X.env) :: starEach es Y.X.env := by rfl) (hpl : (backTo pos (starEach es Y.X.env)).any (·.1) = false := by rfl) :
    PD Y (.Call (.Name x p) (e :: es) [] pos) (tCallE (spOf Y.X.K sp) dvs Y.E fa) (dCall Y.ED sp dds t) := by
  obtain ⟨ds, hd, hb⟩ := C.b
  exact pd_call g F C.m C.k hb hd hdd ha hg hdb he hpl
theorem pd_callC0 (g : Y.Good k) (F : FnOk Y.X.prog Y.X.w Y.X.K Y.X.mg Y.X.base (L2.CX Y.X.prog Y.X.w) k f fd ps (spOf Y.X.K sp)) (C : Cal Y.X.K Y.X.mg x f fd ps dvs) (hdd : ∀ G, RpAll Y.X.K G dvs dds)
    (hg : Gl Y.X x := by rfl) (hdb : (x == ("__debug__" : Str)) = false := by decide) : PD Y (.Call (.Name x p) [] [] pos) (tCallE (spOf Y.X.K sp) dvs Y.E tNil) (dCall Y.ED sp dds dNil) := by
  obtain ⟨ds, hd, hb⟩ := C.b
  exact pd_call0 g F C.m C.k hb hd hdd hg hdb
/-! ### keywords -/
structure PDK (Y : Ctx) (kws : List Keyword) (ta : TA) (t : DA) : Prop where
  p : PK Y.X kws ta
  s : SimA Y ta t
theorem pdk_nil : PDK Y [] tNil dNil := ⟨pk_nil, pda_nil.s⟩
theorem pdk_cons {ee : TE} {te : DE} {kws : List Keyword} {kpos : Pos} {nm : Option Str} (ha : PD Y e ee te) (hr : PDK Y kws fa t) : PDK Y (⟨nm, e, kpos⟩ :: kws) (tCons ee fa) (dCons te t) :=
  ⟨pk_cons ha.p hr.p, fun G H c ρ σ Qd Q R h k => ha.s G H c ρ σ _ _ R h fun d v G1 H1 c1 e1 r1 q1 => hr.s G1 H1 c1 ρ σ _ _ (R.evo' e1) q1 fun ds vs G2 H2 c2 e2 r2 q2 => k _ _ G2 H2 c2 (e1.trans e2) (.cons (r1.mono e2.le) r2) q2⟩
/-- a call with n positional values and the keywords ks: g (of any kind of value) puts all in the parameters' order -/
structure CalK (K : PySem.W.Frag) (mg : Str → Option Value) (x : Str) (f : Addr) (fd : FuncData) (ps : List Str) (n : Nat) (ks : List Str) (gV : List V → List V → List V) (gD : List D → List D → List D) : Prop where
  m : mg x = some (.ref f)
  k : PySem.W.keepIn K (.ref f) = true
  b : ∃ g, KBn K fd ps n ks g gV
  r : ∀ G vs ds zs es, RpAll K G vs ds → RpAll K G zs es → RpAll K G (gV vs zs) (gD ds es)
def dCallK (ED : DEnv → EDt) (n m : Nat) (sp : SpD) (gD : List D → List D → List D) (t tk : DA) (ρ : DEnv) (c : Nat) (Q : QD) : Prop := t ρ c fun ds c1 => tk ρ c1 fun es c2 => ds.length = n ∧ es.length = m ∧ sp (gD ds es) c2 Q (ED ρ)
variable {n : Nat} {ks : List Str} {gV : List V → List V → List V} {gD : List D → List D → List D} {kws : List Keyword} {fk : TA} {tk : DA}
theorem callK_sim (g : Y.Good k) (C : CalK Y.X.K Y.X.mg x f fd ps n ks gV gD) (ha : SimA Y fa t) (hk : SimA Y fk tk) : SimE Y (tCallNE n ks.length (spOf Y.X.K sp) gV Y.E fa fk) (dCallK Y.ED n ks.length sp gD t tk) := fun G H c ρ σ Qd Q R q kk =>
  ha G H c ρ σ _ _ R q fun ds vs G1 H1 c1 ev r q => hk G1 H1 c1 ρ σ _ _ (R.evo' ev) q fun es zs G2 H2 c2 ev2 r2 q => by
    obtain ⟨l1, l2, q⟩ := q
    refine ⟨by rw [r.length]; exact l1, by rw [r2.length]; exact l2, G2, c2, gD ds es, Qd, Y.ED ρ, ev2.ok, C.r G2 vs ds zs es (r.mono ev2.le) r2, q, fun d v G' H' c' e' r' q' => kk d v G' H' c' ((ev.trans ev2).trans e') r' q', ?_⟩
    exact fun C ns es dx G' H' c' e' r' q' => g.err ρ σ G H c R C ns es dx G' H' c' ((ev.trans ev2).trans e') r' q'
theorem pd_callK (g : Y.Good k) (F : FnOk Y.X.prog Y.X.w Y.X.K Y.X.mg Y.X.base (L2.CX Y.X.prog Y.X.w) k f fd ps (spOf Y.X.K sp)) (C : CalK Y.X.K Y.X.mg x f fd ps n ks gV gD) (ha : PDA Y (e :: es) fa t) (hk : PDK Y kws fk tk)
    (hall : (backToKw pos (keywordEach kws Y.X.env)).all (·.1.isSome) = true := by rfl) (hks : (backToKw pos (keywordEach kws Y.X.env)).filterMap (·.1) = ks := by rfl) (hg : Gl Y.X x := by rfl)
    (hdb : (x == ("__debug__" : Str)) = false := by decide) (he : starEach (e :: es) Y.X.env = (false, eval e Y.X.env) :: starEach es Y.X.env := by rfl)
    (hpl : ((backTo pos (starEach (e :: es) Y.X.env)).any (·.1) || (backToKw pos (keywordEach kws Y.X.env)).any (·.1.isNone)) = false := by rfl) :
    PD Y (.Call (.Name x p) (e :: es) kws pos) (tCallNE n ks.length (spOf Y.X.K sp) gV Y.E fa fk) (dCallK Y.ED n ks.length sp gD t tk) := by
  obtain ⟨gg, hb⟩ := C.b
  exact ⟨pe_callNE F g.room hg C.m C.k g.pass hdb hb ha.p hk.p hall hks he hpl, callK_sim g C ha.s hk.s⟩
theorem pd_callK0 (g : Y.Good k) (F : FnOk Y.X.prog Y.X.w Y.X.K Y.X.mg Y.X.base (L2.CX Y.X.prog Y.X.w) k f fd ps (spOf Y.X.K sp)) (C : CalK Y.X.K Y.X.mg x f fd ps 0 ks gV gD) (hk : PDK Y kws fk tk)
    (hall : (backToKw pos (keywordEach kws Y.X.env)).all (·.1.isSome) = true := by rfl) (hks : (backToKw pos (keywordEach kws Y.X.env)).filterMap (·.1) = ks := by rfl) (hg : Gl Y.X x := by rfl)
    (hdb : (x == ("__debug__" : Str)) = false := by decide) (hpl : (backToKw pos (keywordEach kws Y.X.env)).any (·.1.isNone) = false := by rfl) (hne : (backToKw pos (keywordEach kws Y.X.env)).isEmpty = false := by rfl) :
    PD Y (.Call (.Name x p) [] kws pos) (tCallNE 0 ks.length (spOf Y.X.K sp) gV Y.E tNil fk) (dCallK Y.ED 0 ks.length sp gD dNil tk) := by
  obtain ⟨gg, hb⟩ := C.b
  exact ⟨pe_kw0E F g.room hg C.m C.k g.pass hdb hb hk.p hall hks hpl, callK_sim g C pda_nil.s hk.s⟩
/-- without defaults: all parameters are given -/
theorem Df.calK {K : PySem.W.Frag} {mg : Str → Option Value} {st : Stmt} {kw : List (Str × V)} (Dd : Df K mg x st [] kw f fd) (n : Nat) (ks : List Str) (g : {α : Type} → List α → List α → List α)
    (hr : ∀ {α β : Type} {R : α → β → Prop} {vs : List α} {us : List β} {zs : List α} {ws : List β}, Paired R vs us → Paired R zs ws → Paired R (g vs zs) (g us ws))
    (hp : ∀ {G : GS} {vs ds zs es}, RpAll K G vs ds → RpAll K G zs es → RpAll K G (g vs zs) (g ds es))
    (h : ∀ (kV doc pm : Value) (an : Option Addr) (cdv ct : Value) (us ws : List Value), us.length = n → ws.length = ks.length → bindArgs (PySem.W.fnOf x x (defArgs st) (defBody st) (defScope st) .none kV doc pm an cdv ct) ⟨us, ks.zip ws⟩ = pure (ps.zip (g us ws))) : CalK K mg x f fd ps n ks g g := by
  refine ⟨Dd.m, Dd.F.kp, ⟨g, fun s us ws X l1 l2 => ?_, fun r1 r2 => hr r1 r2⟩, fun G vs ds zs es r1 r2 => hp r1 r2⟩
  obtain ⟨oc, od, dV, kV, doc, pm, an, cdv, ct, osl, rfl, lk, hcd, hD, hK⟩ := Dd.F.ex
  rcases hD with ⟨_, rfl⟩ | ⟨e, _⟩
  · exact .of_eq (h kV doc pm an cdv ct us ws l1 l2)
  · exact absurd rfl e
end
end PL

namespace PL
open PySem PySem.Spec PyProof.Rows L2

/-! ### operators of several kinds of values -/
theorem Br2.or {K : PySem.W.Frag} {r r' : R2} {rd rd' : RD2} (h : Br2 K r rd) (h' : Br2 K r' rd') : Br2 K (fun x y H Q => r x y H Q ∨ r' x y H Q) (fun x y c Q => rd x y c Q ∨ rd' x y c Q) := fun G H c x y d e Qd Q ok rx ry q k =>
  q.elim (fun q => .inl (h G H c x y d e Qd Q ok rx ry q k)) fun q => .inr (h' G H c x y d e Qd Q ok rx ry q k)
theorem Br2.imp {K : PySem.W.Frag} {r : R2} {rd rd' : RD2} (h : Br2 K r rd) (i : ∀ x y c Q, rd' x y c Q → rd x y c Q) : Br2 K r rd' := fun G H c x y d e Qd Q ok rx ry q k => h G H c x y d e Qd Q ok rx ry (i _ _ _ _ q) k
def aAddS (x : D) (y : D) (c : Nat) (Q : QD) : Prop := ∃ i j : Str, x = .str i ∧ y = .str j ∧ i.length + j.length ≤ sizeLine ∧ Q (.str (i ++ j)) c
theorem br_addS {K : PySem.W.Frag} : Br2 K (fun x y H Q => ∃ i j, x = .str i ∧ y = .str j ∧ i.length + j.length ≤ sizeLine ∧ Q (.str (i ++ j)) H) aAddS := fun G H c x y d e Qd Q ok rx ry q k => by
  obtain ⟨i, j, rfl, rfl, hz, q⟩ := q
  cases rx; cases ry
  exact ⟨i, j, rfl, rfl, hz, k _ _ G H c (Evo.refl ok) (.str _) q⟩
def rPlus (K : PySem.W.Frag) : R2 := fun x y H Q => rI0 (fun i j => V.int (i + j)) x y H Q ∨ (∃ i j, x = .str i ∧ y = .str j ∧ i.length + j.length ≤ sizeLine ∧ Q (.str (i ++ j)) H) ∨ rCatA K x y H Q
/-- x + y of numbers, texts, tuples -/
def aPlus (x : D) (y : D) (c : Nat) (Q : QD) : Prop := match x, y with
  | .int i, .int j => Q (.int (i + j)) c
  | .str i, .str j => i.length + j.length ≤ sizeLine ∧ Q (.str (i ++ j)) c
  | .tup l, .tup m => l.length + m.length ≤ sizeLine ∧ Q (.tup (l ++ m)) c
  | _, _ => False
theorem op_plus {X : Cx} : OpR X (binaryOp .Add) (rPlus X.K) := op_add.or (op_add_str.or op_catA)
theorem br_plus {K : PySem.W.Frag} : Br2 K (rPlus K) aPlus := ((br_I0 fun _ _ _ => .int _).or (br_addS.or br_cat)).imp fun x y c Q q => by
  unfold aPlus at q
  split at q
  · exact .inl ⟨_, _, rfl, rfl, q⟩
  · exact .inr (.inl ⟨_, _, rfl, rfl, q⟩)
  · exact .inr (.inr ⟨_, _, rfl, rfl, q⟩)
  · exact q.elim
def rLeP : R2 := fun x y H Q => rI0 (fun i j => V.bl (decide (i ≤ j))) x y H Q ∨ ∃ i j, x = .str i ∧ y = .str j ∧ Q (.bl (!decide (j.cps.toList < i.cps.toList))) H
def aLeP (x : D) (y : D) (c : Nat) (Q : QD) : Prop := match x, y with
  | .int i, .int j => Q (.bl (decide (i ≤ j))) c
  | .str i, .str j => Q (.bl (!decide (j.cps.toList < i.cps.toList))) c
  | _, _ => False
theorem op_leP {X : Cx} : OpR X (compareOp .LtE) rLeP := op_le.or op_le_str
theorem br_leP {K : PySem.W.Frag} : Br2 K rLeP aLeP := ((br_I0 fun _ _ _ => .bl _).or br_leS).imp fun x y c Q q => by
  unfold aLeP at q
  split at q
  · exact .inl ⟨_, _, rfl, rfl, q⟩
  · exact .inr ⟨_, _, rfl, rfl, q⟩
  · exact q.elim
/-- x[i] -/
def aItem (x : D) (y : D) (c : Nat) (Q : QD) : Prop := match x, y with
  | .lst l, .int i => ∃ d, atI l i = some d ∧ Q d c
  | .tup l, .int i => ∃ d, atI l i = some d ∧ Q d c
  | .str z, .int i => z.length ≤ sizeLine ∧ ∃ k, atI z.cps.toList i = some k ∧ Q (.str ⟨#[k]⟩) c
  | .scr ns, .int i => ∃ j, atI ns i = some j ∧ Q (.int j) c
  | _, _ => False
theorem br_item {K : PySem.W.Frag} : Br2 K (rIx K) aItem := br_ix.imp fun x y c Q q => by
  unfold aItem at q
  split at q
  · obtain ⟨d, h, q⟩ := q; exact ⟨_, rfl, .inl ⟨_, d, rfl, h, q⟩⟩
  · obtain ⟨d, h, q⟩ := q; exact ⟨_, rfl, .inr (.inl ⟨_, d, rfl, h, q⟩)⟩
  · obtain ⟨hz, d, h, q⟩ := q; exact ⟨_, rfl, .inr (.inr (.inl ⟨_, d, rfl, hz, h, q⟩))⟩
  · obtain ⟨j, h, q⟩ := q; exact ⟨_, rfl, .inr (.inr (.inr ⟨_, j, rfl, h, q⟩))⟩
  · exact q.elim
/-- x[lo:hi] -/
def aSlice (x : D) (lo : Option Int) (hi : Option Int) (c : Nat) (Q : QD) : Prop := match x with
  | .tup l => Q (.tup (cut l lo hi)) c
  | .lst l => Q (.lst (cut l lo hi)) c
  | _ => False
theorem br_slice {K : PySem.W.Frag} : BrS K (rCut K) aSlice := fun G H c x d lo hi Qd Q ok rx q k => br_cut G H c x d lo hi Qd Q ok rx (by
  unfold aSlice at q
  split at q
  · exact .inl ⟨_, rfl, q⟩
  · exact .inr ⟨_, rfl, q⟩
  · exact q.elim) k
/-- len(x) -/
def aLen (ds : List D) (c : Nat) (Q : QD) : Prop := match ds with
  | [.lst l] => Q (.int l.length) c
  | [.tup l] => Q (.int l.length) c
  | [.str z] => z.length ≤ sizeLine ∧ Q (.int z.length) c
  | [.scr ns] => Q (.int ns.length) c
  | _ => False
theorem BrN.imp {K : PySem.W.Frag} {r : List V → Hp → VK → Prop} {rd rd' : RDn} (h : BrN K r rd) (i : ∀ ds c Q, rd' ds c Q → rd ds c Q) : BrN K r rd' := fun G H c xs ds Qd Q ok rx q k => h G H c xs ds Qd Q ok rx (i _ _ _ q) k
theorem br_lenA {K : PySem.W.Frag} : BrN K (rLen K) aLen := br_len.imp fun ds c Q q => by
  unfold aLen at q
  split at q
  · exact ⟨_, rfl, .inl ⟨_, .inl rfl, q⟩⟩
  · exact ⟨_, rfl, .inl ⟨_, .inr rfl, q⟩⟩
  · exact ⟨_, rfl, .inr (.inl ⟨_, rfl, q⟩)⟩
  · exact ⟨_, rfl, .inr (.inr ⟨_, rfl, q⟩)⟩
  · exact q.elim
def aInt (ds : List D) (c : Nat) (Q : QD) : Prop := match ds with
  | [.int i] => Q (.int i) c
  | [.bl b] => Q (.int (b2n b)) c
  | _ => False
theorem br_intA {K : PySem.W.Frag} : BrN K (fun xs H Q => (∃ i, xs = [.int i] ∧ Q (.int i) H) ∨ ∃ k, xs = [.bl k] ∧ Q (.int (if k then 1 else 0)) H) aInt := br_int.imp fun ds c Q q => by
  unfold aInt at q
  split at q
  · exact .inl ⟨_, rfl, q⟩
  · exact .inr ⟨_, rfl, q⟩
  · exact q.elim
def isIns : D → Option Addr
  | .ins C _ _ => some C
  | _ => none
def aIsa (IC : Addr → Prop) (ds : List D) (c : Nat) (Q : QD) : Prop := match ds with
  | [x, .ty T] => T ∈ basics ∧ ((kind x).isSome = true ∨ ∃ C, isIns x = some C ∧ IC C) ∧ Q (.bl (isaB T x)) c
  | _ => False
theorem br_isaA {K : PySem.W.Frag} {IC : Addr → Prop} (hI : ∀ C, IC C → ICls K C) : BrN K (rIsi K) (aIsa IC) := (br_isa hI).imp fun ds c Q q => by
  unfold aIsa at q
  split at q
  · obtain ⟨h1, h2, q⟩ := q
    refine ⟨_, _, rfl, h1, ?_, q⟩
    rcases h2 with h | ⟨C, h, i⟩
    · exact .inl (Option.isSome_iff_exists.mp h)
    · rename_i x T
      cases x with
      | ins C' ns es => cases h; exact .inr ⟨_, _, _, rfl, i⟩
      | _ => cases h
  · exact q.elim
def aListA (ds : List D) (c : Nat) (Q : QD) : Prop := match ds with
  | [.lst l] => Q (.lst l) c
  | [.tup l] => Q (.lst l) c
  | _ => False
theorem br_listA {K : PySem.W.Frag} : BrN K (fun xs H Q => ∃ p ys, xs = [.ref p] ∧ (SqL K H p ys ∨ SqT K H p ys) ∧ ∀ l, H l = none → Q (.ref l) (upd H l (.lst ys))) aListA := br_list.imp fun ds c Q q => by
  unfold aListA at q
  split at q
  · exact ⟨_, .inl rfl, q⟩
  · exact ⟨_, .inr rfl, q⟩
  · exact q.elim
def aTupleA (ds : List D) (c : Nat) (Q : QD) : Prop := match ds with
  | [.lst l] => Q (.tup l) c
  | [.tup l] => Q (.tup l) c
  | _ => False
theorem br_tupleA {K : PySem.W.Frag} : BrN K (fun xs H Q => ∃ p ys, xs = [.ref p] ∧ ((SqL K H p ys ∧ ∀ l, H l = none → Q (.ref l) (upd H l (.tup ys))) ∨ (SqT K H p ys ∧ Q (.ref p) H))) aTupleA := br_tuple.imp fun ds c Q q => by
  unfold aTupleA at q
  split at q
  · exact ⟨_, .inl rfl, q⟩
  · exact ⟨_, .inr rfl, q⟩
  · exact q.elim
def aMax2 (ds : List D) (c : Nat) (Q : QD) : Prop := match ds with
  | [.int i, .int j] => Q (.int (if j > i then j else i)) c
  | _ => False
theorem br_max2 {K : PySem.W.Frag} : BrN K (fun xs H Q => ∃ i j, xs = [.int i, .int j] ∧ Q (.int (if j > i then j else i)) H) aMax2 := (br_2I (f := fun i j => if j > i then j else i)).imp fun ds c Q q => by
  unfold aMax2 at q
  split at q
  · exact ⟨_, _, rfl, q⟩
  · exact q.elim
def aMin2 (ds : List D) (c : Nat) (Q : QD) : Prop := match ds with
  | [.int i, .int j] => Q (.int (if j < i then j else i)) c
  | _ => False
theorem br_min2 {K : PySem.W.Frag} : BrN K (fun xs H Q => ∃ i j, xs = [.int i, .int j] ∧ Q (.int (if j < i then j else i)) H) aMin2 := (br_2I (f := fun i j => if j < i then j else i)).imp fun ds c Q q => by
  unfold aMin2 at q
  split at q
  · exact ⟨_, _, rfl, q⟩
  · exact q.elim
/-! ### comparisons: as values, as tests -/
structure PDC (Y : Ctx) (op : CmpOp) (a b : Expr) (ee : TE) (te : DE) : Prop where
  p : PC Y.X op a b ee
  s : SimE Y ee te
section
variable {Y : Ctx} {a b f : Expr} {ea eb ef ee : TE} {ta tb tf te : DE} {pos p2 : Pos} {lo hi : Option Expr} {el eh : TO} {tl th : DO} {op : CmpOp} {k : Nat}
theorem pdc_op {r : R2} {rd : RD2} (ho : OpR Y.X (compareOp op) r) (br : Br2 Y.X.K r rd) (ha : PD Y a ea ta) (hb : PD Y b eb tb) : PDC Y op a b (tOp r ea eb) (dOp rd ta tb) :=
  ⟨⟨fun pins s σ H Q I h => bin ha.p hb.p I h fun v u s2 x y H2 I2 r1 r2 q => ho pins s2 σ H2 x y v u Q I2 r1 r2 q⟩,
   fun G H c ρ σ Qd Q R h k => two R ha.s hb.s h fun d e x y G' H' c' ev r1 r2 q => br G' H' c' x y d e Qd Q ev.ok r1 r2 q fun d' v G2 H2 c2 e2 r q => k d' v G2 H2 c2 (ev.trans e2) r q⟩
theorem pd_cm (h : PDC Y op a b ee te) (h1 : behindInMarks op b = false := by first | exact nobehind _ (by decide) (by decide) | rfl) : PD Y (.Compare a [op] [b] pos) ee te := ⟨pe_cmp h.p h1, h.s⟩
theorem pdt_cm (h : PDC Y op a b ee te) (h1 : behindInMarks op b = false := by first | exact nobehind _ (by decide) (by decide) | rfl) : PDT Y (.Compare a [op] [b] pos) (L2.tB ee) (dB te) :=
  ⟨pt_cmp h.p h1, fun G H c ρ σ Qd Q R h2 k => h.s G H c ρ σ _ _ R h2 fun d v G1 H1 c1 e1 r1 q1 => by
    obtain ⟨b, rfl, q1⟩ := q1
    cases r1
    exact ⟨b, rfl, k b G1 H1 c1 e1 q1⟩⟩
theorem pd_plus (ha : PD Y a ea ta) (hb : PD Y b eb tb) : PD Y (.BinOp a .Add b pos) (tOp (rPlus Y.X.K) ea eb) (dOp aPlus ta tb) := pd_op op_plus br_plus ha hb
theorem pdc_leP (ha : PD Y a ea ta) (hb : PD Y b eb tb) : PDC Y .LtE a b (tOp rLeP ea eb) (dOp aLeP ta tb) := pdc_op op_leP br_leP ha hb
theorem pdc_lt (ha : PD Y a ea ta) (hb : PD Y b eb tb) : PDC Y .Lt a b (tOp (rI0 fun i j => .bl (decide (i < j))) ea eb) (dOp aLt ta tb) := pdc_op op_lt (br_I0 fun _ _ _ => .bl _) ha hb
theorem pdc_gt (ha : PD Y a ea ta) (hb : PD Y b eb tb) : PDC Y .Gt a b (tOp (rI0 fun i j => .bl (decide (j < i))) ea eb) (dOp aGt ta tb) := pdc_op op_gt (br_I0 fun _ _ _ => .bl _) ha hb
theorem pdc_ge (ha : PD Y a ea ta) (hb : PD Y b eb tb) : PDC Y .GtE a b (tOp (rI0 fun i j => .bl (decide (j ≤ i))) ea eb) (dOp aGe ta tb) := pdc_op op_ge (br_I0 fun _ _ _ => .bl _) ha hb
theorem pdc_eq (g : Y.Good k) (ha : PD Y a ea ta) (hb : PD Y b eb tb) : PDC Y .Eq a b (tOp (rEqD Y.X.K) ea eb) (dOp aEq ta tb) := pdc_op (op_eqD g.room.units) br_eq ha hb
theorem pdc_ne (g : Y.Good k) (ha : PD Y a ea ta) (hb : PD Y b eb tb) : PDC Y .NotEq a b (tOp (rNeD Y.X.K) ea eb) (dOp aNe ta tb) := pdc_op (op_neD g.room.units) br_ne ha hb
theorem pdc_isN {j pos'} (ha : PD Y a ea ta) : PDC Y .Is a (.Constant .none j pos') (tOp (fun x y H Q => y = .non ∧ Q (.bl (decide (x = .non))) H) ea (tC .non)) (dOp aIsN ta (dC .non)) := pdc_op op_isN br_isN ha pd_non
theorem pdc_notN {j pos'} (ha : PD Y a ea ta) : PDC Y .IsNot a (.Constant .none j pos') (tOp (fun x y H Q => y = .non ∧ Q (.bl (!decide (x = .non))) H) ea (tC .non)) (dOp aNotN ta (dC .non)) := pdc_op op_notN br_notN ha pd_non
theorem pd_leP2 (ha : PD Y a ea ta) (hb : PD Y b eb tb) (hf : PD Y f ef tf) (hm : lastMarks [.LtE, .LtE] [b, f] = false := by with_unfolding_all rfl) : PD Y (.Compare a [.LtE, .LtE] [b, f] pos) (tChain rLeP rLeP ea eb ef) (dChain aLeP aLeP ta tb tf) := pd_chain op_leP br_leP op_leP br_leP ha hb hf hm
def dtChain (rd rd' : RD2) (ta tb tc : DE) (ρ : DEnv) (c : Nat) (Q : Bool → Nat → Prop) : Prop := ta ρ c fun x c1 => tb ρ c1 fun y c2 => rd x y c2 fun z c3 => ∃ k, z = .bl k ∧ if k = true then tc ρ c3 fun w c4 => rd' y w c4 fun u c5 => ∃ m, u = .bl m ∧ Q m c5 else Q false c3
theorem pdt_leP2 (ha : PD Y a ea ta) (hb : PD Y b eb tb) (hc : PD Y f ef tf) (hm : lastMarks [.LtE, .LtE] [b, f] = false := by with_unfolding_all rfl) : PDT Y (.Compare a [.LtE, .LtE] [b, f] pos) (tTest (tChain rLeP rLeP ea eb ef)) (dtChain aLeP aLeP ta tb tf) := by
  refine ⟨pt_chain op_leP op_leP ha.p hb.p hc.p hm, fun G H c ρ σ Qd Q R h k => ?_⟩
  refine two R ha.s hb.s h fun d e x y G1 H1 c1 e1 r1 r2 q => br_leP G1 H1 c1 x y d e _ _ e1.ok r1 r2 q fun d' v G2 H2 c2 e2 r3 q => ?_
  obtain ⟨b, rfl, q⟩ := q
  cases r3
  refine ⟨b, rfl, ?_⟩
  cases b with
  | false => rw [if_neg Bool.false_ne_true] at q ⊢; exact ⟨false, rfl, k _ G2 H2 c2 (e1.trans e2) q⟩
  | true =>
    rw [if_pos rfl] at q ⊢
    refine hc.s G2 H2 c2 ρ σ _ _ (R.evo' (e1.trans e2)) q fun d4 v4 G4 H4 c4 e4 r4 q4 => ?_
    refine br_leP G4 H4 c4 y v4 e d4 _ _ e4.ok (r2.mono (e2.le.trans e4.le)) r4 q4 fun d' v G5 H5 c5 e5 r q => ?_
    obtain ⟨m, rfl, q⟩ := q
    cases r
    exact ⟨m, rfl, k m G5 H5 c5 ((e1.trans e2).trans (e4.trans e5)) q⟩
theorem pd_at (ha : PD Y a ea ta) (hb : PD Y b eb tb) (hs : PlainIx b := by exact fun _ _ => rfl) : PD Y (.Subscript a b pos) (tOp (rIx Y.X.K) ea eb) (dOp aItem ta tb) := pd_ix ix_seq br_item ha hb hs
theorem pd_part (ha : PD Y a ea ta) (hl : PDO Y lo el tl) (hu : PDO Y hi eh th) : PD Y (.Subscript a (.Slice lo hi none p2) pos) (tSl (rCut Y.X.K) ea el eh) (dSl aSlice ta tl th) := pd_slice sl_cut br_slice ha hl hu
end
theorem bt_len : bootBuiltins "len" = some (.builtin "len") := by decide +kernel
theorem bt_isinstance : bootBuiltins "isinstance" = some (.builtin "isinstance") := by decide +kernel
theorem bt_all : bootBuiltins "all" = some (.builtin "all") := by decide +kernel
theorem bt_any : bootBuiltins "any" = some (.builtin "any") := by decide +kernel
theorem bt_max : bootBuiltins "max" = some (.builtin "max") := by decide +kernel
theorem bt_min : bootBuiltins "min" = some (.builtin "min") := by decide +kernel
theorem bt_sum : bootBuiltins "sum" = some (.builtin "sum") := by decide +kernel
theorem bt_sorted : bootBuiltins "sorted" = some (.builtin "sorted") := by decide +kernel
theorem bt_int : bootBuiltins "int" = some (.type "int") := by decide +kernel
theorem bt_str : bootBuiltins "str" = some (.type "str") := by decide +kernel
theorem bt_bool : bootBuiltins "bool" = some (.type "bool") := by decide +kernel
theorem bt_tuple : bootBuiltins "tuple" = some (.type "tuple") := by decide +kernel
theorem bt_list : bootBuiltins "list" = some (.type "list") := by decide +kernel
theorem bt_dict : bootBuiltins "dict" = some (.type "dict") := by decide +kernel
theorem bt_set : bootBuiltins "set" = some (.type "set") := by decide +kernel
theorem bt_enumerate : bootBuiltins "enumerate" = some (.type "enumerate") := by decide +kernel
end PL

namespace PL
open PySem PySem.Spec PyProof.Rows L2

/-! ### enumerate over a tuple -/
set_option maxHeartbeats 1000000 in
theorem enum_new {v : Value} {o : Obj} {φ : Heap → Prop} (B : Begins v o φ) :
    Meets (Builtin.«enumerate.__new__» ⟨[.type "enumerate", v], []⟩) (fun _ R s => φ s.heap ∧
      R (.ok (.ret (.ref (s.heap.push o).objs.size))) { s with heap := (s.heap.push o).push { cls := .type "enumerate", data := .fields #[.none, .bool false, .ref s.heap.objs.size, rawInt 0, .none, .none] } }) :=
  .of_wp fun prog w A R s h => by
    obtain ⟨hp, g, d, tk, os⟩ := s
    obtain ⟨h1, h⟩ := h
    have hsub := sub_enumerate
    have begun : ∀ {A' : Around} {E : Value → Shared → Prop} {Q : Value → Shared → Prop}, Q (.ref hp.objs.size) ⟨hp.push o, g, d, tk, os⟩ → wpAny (model prog w) A' (pyIter v) Q E ⟨hp, g, d, tk, os⟩ :=
      fun {A' E Q} z => B.iter prog w A' E ⟨hp, g, d, tk, os⟩ Q h1 z
    wp_walk using begun
    refine wpAny_stack_any fun st => wpAny_pure ?_
    split
    · rename_i c _ _ _ _ _
      cases (c == Value.type "enumerate") <;> (wp_walk using begun; exact ⟨_, rfl, h⟩)
    · wp_walk using begun
      exact ⟨_, rfl, h⟩
theorem enum_call {prog : Program} {w : World} {A : Around} {E : Value → Shared → Prop} {s : Shared} {v : Value} {o : Obj} {φ : Heap → Prop} {Q : Value → Shared → Prop} (B : Begins v o φ) (h1 : φ s.heap)
    (h : ∀ h', IsEnum h' (s.heap.objs.size + 1) s.heap.objs.size 0 .none → h'.get? s.heap.objs.size = some o → (∀ b o, s.heap.get? b = some o → h'.get? b = some o) → Q (.ref (s.heap.objs.size + 1)) { s with heap := h' }) :
    wpAny (model prog w) A (call (.type "enumerate") [v]) Q E s := by
  refine callType_new F.called_enumerate (by decide) (F.typeCall_enumerate_1 _) (F.newCall_enumerate_1 _) (fun obj => F.args_object_init_2 obj _) F.entry_enumerate_new (enum_new B) ⟨h1, ?_⟩
  have hz : (s.heap.push o).objs.size = s.heap.objs.size + 1 := Heap.size_push ..
  show _ ∧ _
  rw [hz]
  have he := Heap.get?_push_size (s.heap.push o) (o := { cls := .type "enumerate", data := .fields #[.none, .bool false, .ref s.heap.objs.size, rawInt 0, .none, .none] }) rfl
  rw [hz] at he
  exact ⟨⟨_, he, rfl⟩, h _ he (Heap.get?_push_of_some _ (Heap.get?_push_size _ B.free)) fun b o x => Heap.get?_push_of_some _ (Heap.get?_push_of_some _ x)⟩
/-- the tuple at a, each item in a new pair -/
def IteT (K : PySem.W.Frag) (a : Addr) : It :=
  ⟨fun i H => ∃ (xs : List V) (x : V), SqT K H a xs ∧ xs[i]? = some x, fun i H v H' => ∃ T x, v = .ref T ∧ H T = none ∧ H' = upd H T (.tup [.int (i : Nat), x]) ∧ ∀ xs, SqT K H a xs → xs[i]? = some x, fun i H => ∃ xs : List V, SqT K H a xs ∧ xs.length = i⟩
theorem turn_enumT {P : Program} {w : World} {K : PySem.W.Frag} {elts : List Expr} {kk : Nat} {tpos : Pos} (a e it : Addr) (hai : a ≠ it) (hae : a ≠ e) :
    Turn P w K (.Tuple elts kk tpos) (IteT K a) [e, it] e (fun i h => (∃ old, IsEnum h e it ((i : Nat) : Int) old) ∧ h.IsTupleIter it a i ∧ e ≠ it) := by
  have two : ∀ {b : Addr}, b ∈ [e, it] → b = e ∨ b = it := fun h => by simpa using h
  refine ⟨by simp, fun i h ⟨⟨old, he⟩, ⟨o, ho, hc, hd⟩, _⟩ b hb => ?_, fun i h h' ⟨⟨old, he⟩, hi, hne⟩ k => ⟨⟨old, k e (by simp) _ he⟩, hi.at fun o q => k it (by simp) o q, hne⟩, ?_, ?_, fun A i s Q E ⟨⟨_, he⟩, _⟩ h => wpAny_pyIter_enum he h⟩
  · rcases two hb with z | z
    · subst z; exact ⟨_, he, fun v q => nomatch q⟩
    · subst z; exact ⟨o, ho, fun v q => by rw [hd] at q; cases q⟩
  · intro X hP hw hK hc i pins s σ H E I hf st hg
    subst hP hw hK
    obtain ⟨⟨old, he⟩, hit, hne⟩ := st
    obtain ⟨xs, x, hq, hx⟩ := hg
    obtain ⟨its, rv, p, hz⟩ := I.tuple hq
    obtain ⟨u, hu, ru⟩ := rv.get hx
    have hi : i < its.toArray.size := by
      have := (List.getElem?_eq_some_iff.mp hu).1
      simpa using this
    have hel : e < s.heap.objs.size := Heap.lt_size he
    have hil : it < s.heap.objs.size := by obtain ⟨_, q, _⟩ := hit; exact Heap.lt_size q
    have Dr := Draws.tuple (prog := X.prog) (w := X.w) (A := X.A.in1) (I.ok.hd hc) it a hai its.toArray
    refine wpAny_pyNext_enum_itemD Dr he ⟨hit, show s.heap.IsTuple a its.toArray from p⟩ hi hne (by simp [hne, Ne.symm hae]) fun y h' tk hy ho hs' hT hsz hk => ?_
    have ey : y = u := by
      have hy' : its[i]? = some y := by simpa using hy
      rw [hu] at hy'
      exact (Option.some.inj hy').symm
    subst ey
    refine ⟨_, rfl, wpAny_letOwnedTupleGo_enum (s := { s with heap := h', toks := tk + 1 }) ho fun h'' he' sb => ?_⟩
    have hT2 : h''.get? s.heap.objs.size = some { cls := .type "tuple", data := .seq #[.int i tk, y] } := (sb.2 _ (Nat.ne_of_gt hel)).trans hT
    have new : ObjOk X.prog X.w (upd H s.heap.objs.size (.tup [.int (i : Nat), x])) h'' s.heap.objs.size (.tup [.int (i : Nat), x]) :=
      ⟨by show 2 ≤ sizeLine; decide, [.int i tk, y], .cons ⟨_, rfl⟩ (.cons ru .nil), ⟨_, hT2, rfl, _, rfl⟩⟩
    have kept : ∀ b ob, b ∉ [e, it] → s.heap.get? b = some ob → h''.get? b = some ob := fun b ob hb q => by
      simp only [List.mem_cons, List.not_mem_nil, or_false, not_or] at hb
      exact (sb.2 b hb.1).trans (hk b ob hb.1 hb.2 q)
    have I1 : Inv X pins σ (upd H s.heap.objs.size (.tup [.int (i : Nat), x])) { s with heap := h'', toks := tk + 1 } := I.turnedNew (ch := [e, it]) kept hf (Nat.le_refl _) new
    refine ⟨.ref s.heap.objs.size, _, I1, rfl, ⟨_, x, rfl, I.hok.fresh (Nat.le_refl _), rfl, fun ys hy => by rw [I.tuple_inj hy hq]; exact hx⟩, ⟨⟨y, ?_⟩, hs'.1.at fun o q => (sb.2 it (Ne.symm hne)).trans q, hne⟩, fun b hb => ?_⟩
    · rw [show ((i + 1 : Nat) : Int) = (i : Int) + 1 by omega]; exact he'
    · have lt : b < s.heap.objs.size := by
        rcases two hb with z | z
        · rw [z]; exact hel
        · rw [z]; exact hil
      rw [upd_ne (Nat.ne_of_lt lt)]
      exact (hf b hb).1
  · intro X hP hw hK hc i pins s σ H E I hf st hg
    subst hP hw hK
    obtain ⟨⟨old, he⟩, hit, hne⟩ := st
    obtain ⟨xs, hq, hx⟩ := hg
    obtain ⟨its, rv, p, hz⟩ := I.tuple hq
    obtain ⟨f0, f1, f2, f3, f4, f5⟩ := hf it (by simp)
    have hl := rv.length
    have hfin : its.toArray.size = i := by simp; omega
    subst hx
    have Dr := Draws.tuple (prog := X.prog) (w := X.w) (A := X.A.in1) (I.ok.hd hc) it a hai its.toArray
    rw [← hfin] at hit he
    exact wpAny_pyNext_enum_endD Dr he ⟨hit, show s.heap.IsTuple a its.toArray from p⟩ fun h' eb => ⟨rfl, I.turned (t' := s.toks) (fun b o hb q => eb b o hb q) f0 f1 f3 f4 f5⟩
/-- enumerate of a list or a tuple -/
def iEnumA (K : PySem.W.Frag) (ta : TA) : TI := fun σ H R => ta σ H fun vs H1 => (∃ a xs, vs = [.ref a] ∧ SqL K H1 a xs ∧ R (Ite K a) H1) ∨ ∃ a xs, vs = [.ref a] ∧ SqT K H1 a xs ∧ R (IteT K a) H1
theorem pi_enumA {X : Cx} {e : Expr} {ta : TA} {p pos tpos : Pos} {elts : List Expr} {kk : Nat} (hg : Gl X "enumerate") (hm : X.mg "enumerate" = none) (ha : PA X [e] ta) (hs : starEach [e] X.env = [(false, eval e X.env)]) :
    PI X (.Tuple elts kk tpos) (.Call (.Name "enumerate" p) [e] [] pos) (iEnumA X.K ta) := by
  refine ⟨fun pins s σ H R I h => ?_⟩
  refine Call_ (ld_blt I hg hm bt_enumerate (PyProof.Rows.callWith_type1 (thn (ha.run pos pins s σ H _ I h) fun us s1 ⟨vs, H1, I1, r1, q1⟩ => ?_) hs rfl))
  have le2 : ∀ {b : Addr}, b ∈ [s1.heap.objs.size + 1, s1.heap.objs.size] → s1.heap.objs.size ≤ b := fun {b} hb => by
    have z : b = s1.heap.objs.size + 1 ∨ b = s1.heap.objs.size := by simpa using hb
    rcases z with z | z <;> rw [z]
    · exact Nat.le_succ _
    · exact Nat.le_refl _
  rcases q1 with ⟨a, xs, rfl, hq, q⟩ | ⟨a, xs, rfl, hq, q⟩
  · obtain ⟨u, rfl, r⟩ := vals1 r1
    cases r
    obtain ⟨its, rv, p', hz⟩ := I1.list hq
    exact call_enumerate_list p'.isList fun h' he hit hsz hk => wpAny_pyIter_enum he ⟨s1.heap.objs.size + 1, _, _, _, H1, rfl, I1.kept (t' := s1.toks) hk, turn_enum a (s1.heap.objs.size + 1) s1.heap.objs.size, ⟨⟨.none, he⟩, hit, Nat.succ_ne_self _⟩,
      fun b hb => I1.fpOk (le2 hb) (I1.hok.fresh (le2 hb)), q⟩
  · obtain ⟨u, rfl, r⟩ := vals1 r1
    cases r
    obtain ⟨its, rv, p', hz⟩ := I1.tuple hq
    have alt : a < s1.heap.objs.size := p'.lt
    exact enum_call (begins_tuple a its.toArray) (show s1.heap.IsTuple a its.toArray from p') fun h' he ho hk => wpAny_pyIter_enum he ⟨s1.heap.objs.size + 1, _, _, _, H1, rfl, I1.kept (t' := s1.toks) hk,
      turn_enumT a (s1.heap.objs.size + 1) s1.heap.objs.size (Nat.ne_of_lt alt) (Nat.ne_of_lt (Nat.lt_succ_of_lt alt)), ⟨⟨.none, he⟩, ⟨_, ho, rfl, rfl⟩, Nat.succ_ne_self _⟩, fun b hb => I1.fpOk (le2 hb) (I1.hok.fresh (le2 hb)), q⟩
def diEnum (t : DA) (ρ : DEnv) (c : Nat) (Q : List D → Nat → Prop) : Prop := t ρ c fun ds c1 => match ds with
  | [.lst l] => Q (numbered 0 l) c1
  | [.tup l] => Q (numbered 0 l) c1
  | _ => False
theorem walkD_enumL {K : PySem.W.Frag} {a : Addr} {xs : List V} {ds : List D} {G0 : GS} (h : SqL K G0.f a xs) (r : RpAll K G0 xs ds) : WalkD K (Ite K a) (numbered 0 ds) G0 :=
  walkD_enum r (fun i x G H le s e => ⟨xs, x, SqL.same (le.f.trans s) h, e⟩) (fun G H le s => ⟨xs, SqL.same (le.f.trans s) h, Nat.le_refl _⟩) fun i v G H H' le s ⟨T, x, e1, e2, e3, e4⟩ => ⟨T, x, e1, e2, e3, e4 xs (SqL.same (le.f.trans s) h)⟩
theorem walkD_enumT {K : PySem.W.Frag} {a : Addr} {xs : List V} {ds : List D} {G0 : GS} (h : SqT K G0.f a xs) (r : RpAll K G0 xs ds) : WalkD K (IteT K a) (numbered 0 ds) G0 :=
  walkD_enum r (fun i x G H le s e => ⟨xs, x, SqT.same (le.f.trans s) h, e⟩) (fun G H le s => ⟨xs, SqT.same (le.f.trans s) h, rfl⟩) fun i v G H H' le s ⟨T, x, e1, e2, e3, e4⟩ => ⟨T, x, e1, e2, e3, e4 xs (SqT.same (le.f.trans s) h)⟩
theorem pdi_enum {Y : Ctx} {e : Expr} {fa : TA} {t : DA} {p pos tpos : Pos} {elts : List Expr} {kk : Nat} (hm : Y.X.mg "enumerate" = none) (ha : PDA Y [e] fa t) (hg : Gl Y.X "enumerate" := by rfl) (hs : starEach [e] Y.X.env = [(false, eval e Y.X.env)] := by rfl) :
    PDI Y (.Tuple elts kk tpos) (.Call (.Name "enumerate" p) [e] [] pos) (iEnumA Y.X.K fa) (diEnum t) := by
  refine ⟨pi_enumA hg hm ha.p hs, fun G H c ρ σ Qd R Rl q k => ?_⟩
  refine ha.s G H c ρ σ _ _ Rl q fun ds vs G1 H1 c1 ev r q => ?_
  split at q
  · cases r with
    | cons r rr =>
      cases rr
      cases r with
      | lst h1 h2 => exact .inl ⟨_, _, rfl, ev.ok.sq h1, k _ _ G1 H1 c1 ev (walkD_enumL (SqL.of h1) h2) q⟩
  · cases r with
    | cons r rr =>
      cases rr
      cases r with
      | tup h1 h2 => exact .inr ⟨_, _, rfl, SqT.same ev.ok.same h1, k _ _ G1 H1 c1 ev (walkD_enumT h1 h2) q⟩
  · exact q.elim
end PL

namespace PL
open PySem PySem.Spec PyProof.Rows L2

/-- a comprehension whose element is f of the item (none: left out), and that draws nothing -/
theorem lc_by {L : List D} {c : Nat} {g : DG} {tt : DT} {te : DE} {vs : List Nat} {ρ : DEnv} {Q : QD} (f : D → Option D) (hL : L.length ≤ sizeLine)
    (step : ∀ x, x ∈ L → ∀ (R : QD) (R0 : Nat → Prop), (∀ y, f x = some y → R y c) → (f x = none → R0 c) → g x (wipeD ρ vs) c fun ρ2 c2 => tt ρ2 c2 fun b c3 => if b = true then te ρ2 c3 R else R0 c3) (hq : Q (.lst (L.filterMap f)) c) : LcB g tt te vs ρ L c Q := by
  refine ⟨fun k acc c' => c' = c ∧ acc = (L.take k).filterMap f, ⟨rfl, by simp⟩, ?_, ?_⟩
  · rintro k x acc c' hk ⟨rfl, rfl⟩
    have hlt : k < L.length := (List.getElem?_eq_some_iff.mp hk).1
    have tk : L.take (k + 1) = L.take k ++ [x] := by rw [List.take_succ, hk]; rfl
    refine step x (List.mem_of_getElem? hk) _ _ (fun y hy => ⟨?_, rfl, ?_⟩) fun hn => ⟨rfl, ?_⟩
    · have h1 : ((L.take k).filterMap f).length ≤ (L.take k).length := List.length_filterMap_le _ _
      have h2 : (L.take k).length ≤ k := List.length_take_le _ _
      omega
    · rw [tk, List.filterMap_append]
      simp [hy]
    · rw [tk, List.filterMap_append]
      simp [hn]
  · rintro acc c' ⟨rfl, rfl⟩
    rw [List.take_length]
    exact hq
theorem mb_int : ("int" ∈ basics) = True := eq_true (by decide +kernel)
theorem mb_str : ("str" ∈ basics) = True := eq_true (by decide +kernel)
theorem mb_bool : ("bool" ∈ basics) = True := eq_true (by decide +kernel)
theorem mb_tuple : ("tuple" ∈ basics) = True := eq_true (by decide +kernel)
theorem mb_list : ("list" ∈ basics) = True := eq_true (by decide +kernel)
theorem mb_dict : ("dict" ∈ basics) = True := eq_true (by decide +kernel)
theorem b2n_nonneg (b : Bool) : 0 ≤ b2n b ∧ b2n b ≤ 1 := by cases b <;> decide
/-- the items of a list by their place, with a place that is a number -/
theorem atI_lt {α : Type} {xs : List α} {i : Int} (h0 : 0 ≤ i) (h : i < xs.length) : ∃ v, atI xs i = some v ∧ v ∈ xs := by
  obtain ⟨j, rfl⟩ : ∃ j : Nat, i = (j : Int) := ⟨i.toNat, by omega⟩
  have hj : j < xs.length := by omega
  exact ⟨xs[j], atI_nat (by simp [hj]), List.getElem_mem hj⟩
theorem bools_map {α : Type} (p : α → Bool) : ∀ l : List α, bools (l.map fun x => .bl (p x)) = some (l.map p)
  | [] => rfl
  | x :: l => by simp [bools, bools_map p l]
theorem filterMap_some {α β : Type} (f : α → β) (l : List α) : l.filterMap (fun x => some (f x)) = l.map f := by
  induction l with
  | nil => rfl
  | cons x l ih => simp [ih]
/-- a sign lies between the blank and the tilde -/
def signOk : D → Bool
  | .str z => !decide (z.cps.toList < (" " : Str).cps.toList) && !decide (("~" : Str).cps.toList < z.cps.toList)
  | _ => false
def okStr (x : Str) : Bool := (signs x).all signOk
def isStr : D → Bool
  | .str x => okStr x
  | _ => false
theorem signs_length (x : Str) : (signs x).length = x.length := by simp [signs, Str.length]
theorem signs_str {x : Str} {d : D} (h : d ∈ signs x) : ∃ z, d = .str z := by
  unfold signs at h
  obtain ⟨c, _, rfl⟩ := List.mem_map.mp h
  exact ⟨_, rfl⟩
end PL

namespace PL
open PySem PySem.Spec PyProof.Rows L2

/-! ### == of data by data alone -/
mutual
def eqD : D → D → Bool
  | .non, .non => true
  | .bl a, .bl b => a == b
  | .bl a, .int j => b2n a == j
  | .int i, .bl b => i == b2n b
  | .int i, .int j => i == j
  | .str x, .str y => x == y
  | .tup l, .tup m => eqDs l m
  | .lst l, .lst m => eqDs l m
  | _, _ => false
def eqDs : List D → List D → Bool
  | [], [] => true
  | x :: l, y :: m => eqD x y && eqDs l m
  | _, _ => false
end
/-- plain data, at most n deep, no text longer than a thousand -/
def Pl : Nat → D → Prop
  | _, .non => True
  | _, .bl _ => True
  | _, .int _ => True
  | _, .str x => x.length ≤ 1000 ∧ PyData.strOk x = true
  | n + 1, .tup l => ∀ d, d ∈ l → Pl n d
  | n + 1, .lst l => ∀ d, d ∈ l → Pl n d
  | _, _ => False
theorem toPs_pl {n : Nat} (ih : ∀ d, Pl n d → ∃ p, toP d = some p ∧ p.canLay0 = true ∧ p.depth ≤ n) : ∀ {l : List D}, (∀ d, d ∈ l → Pl n d) → ∃ ps, toPs l = some ps ∧ PyData.canLayAll0 ps = true ∧ PyData.depthAll ps ≤ n
  | [], _ => ⟨[], by unfold toPs; rfl, rfl, by simp [PyData.depthAll]⟩
  | d :: l, h => by
    obtain ⟨p, h1, h2, h3⟩ := ih d (h d List.mem_cons_self)
    obtain ⟨ps, g1, g2, g3⟩ := toPs_pl ih (l := l) fun d hd => h d (List.mem_cons_of_mem _ hd)
    refine ⟨p :: ps, by unfold toPs; rw [h1, g1]; rfl, by simp [PyData.canLayAll0, h2, g2], by simp [PyData.depthAll]; omega⟩
theorem Pl.toP : ∀ {n : Nat} {d : D}, Pl n d → ∃ p, PL.toP d = some p ∧ p.canLay0 = true ∧ p.depth ≤ n
  | n, .non, _ => ⟨.none, by unfold PL.toP; rfl, rfl, by simp [PyData.depth]⟩
  | n, .bl b, _ => ⟨.bool b, by unfold PL.toP; rfl, rfl, by simp [PyData.depth]⟩
  | n, .int b, _ => ⟨.int b, by unfold PL.toP; rfl, rfl, by simp [PyData.depth]⟩
  | n, .str b, h => ⟨.str b, by unfold PL.toP; rfl, by
      have h : b.length ≤ 1000 ∧ PyData.strOk b = true := by cases n <;> exact h
      exact h.2, by simp [PyData.depth]⟩
  | n + 1, .tup l, h => by
    obtain ⟨ps, g1, g2, g3⟩ := toPs_pl (n := n) (fun d hd => Pl.toP hd) h
    exact ⟨.tuple ps, by unfold PL.toP; rw [g1]; rfl, g2, by simp [PyData.depth]; omega⟩
  | n + 1, .lst l, h => by
    obtain ⟨ps, g1, g2, g3⟩ := toPs_pl (n := n) (fun d hd => Pl.toP hd) h
    exact ⟨.list ps, by unfold PL.toP; rw [g1]; rfl, g2, by simp [PyData.depth]; omega⟩
  | 0, .tup l, h => h.elim
  | 0, .lst l, h => h.elim
  | n, .ty _, h => by cases n <;> exact h.elim
  | n, .cls _, h => by cases n <;> exact h.elim
  | n, .dct _ _, h => by cases n <;> exact h.elim
  | n, .ins _ _ _, h => by cases n <;> exact h.elim
  | n, .exc _ _ _, h => by cases n <;> exact h.elim
  | n, .opq, h => by cases n <;> exact h.elim
  | n, .scr _, h => by cases n <;> exact h.elim
mutual
theorem eqv_eqD : ∀ (x y : D) {p q : PyData}, toP x = some p → toP y = some q → PyData.eqv p q = eqD x y
  | .tup l, y, p, q, h1, h2 => by
    unfold toP at h1
    obtain ⟨ps, e, rfl⟩ := Option.map_eq_some_iff.mp h1
    cases y <;> unfold toP at h2 <;> first
      | (cases h2; done)
      | (cases h2; simp [PyData.eqv, eqD]; done)
      | (obtain ⟨qs, e2, rfl⟩ := Option.map_eq_some_iff.mp h2; first | (simp [PyData.eqv, eqD]; done) | (simp only [PyData.eqv, eqD]; exact eqvAll_eqDs l _ e e2))
  | .lst l, y, p, q, h1, h2 => by
    unfold toP at h1
    obtain ⟨ps, e, rfl⟩ := Option.map_eq_some_iff.mp h1
    cases y <;> unfold toP at h2 <;> first
      | (cases h2; done)
      | (cases h2; simp [PyData.eqv, eqD]; done)
      | (obtain ⟨qs, e2, rfl⟩ := Option.map_eq_some_iff.mp h2; first | (simp [PyData.eqv, eqD]; done) | (simp only [PyData.eqv, eqD]; exact eqvAll_eqDs l _ e e2))
  | .non, y, p, q, h1, h2 => by
    unfold toP at h1; cases h1
    cases y <;> unfold toP at h2 <;> first | (cases h2; done) | (cases h2; simp [PyData.eqv, eqD]; done) | (obtain ⟨qs, e2, rfl⟩ := Option.map_eq_some_iff.mp h2; simp [PyData.eqv, eqD])
  | .bl b, y, p, q, h1, h2 => by
    unfold toP at h1; cases h1
    cases y <;> unfold toP at h2 <;> first | (cases h2; done) | (cases h2; cases b <;> simp [PyData.eqv, eqD, b2n]; done) | (obtain ⟨qs, e2, rfl⟩ := Option.map_eq_some_iff.mp h2; simp [PyData.eqv, eqD])
  | .int b, y, p, q, h1, h2 => by
    unfold toP at h1; cases h1
    cases y <;> unfold toP at h2 <;> first | (cases h2; done) | (cases h2; simp [PyData.eqv, eqD, b2n]; done) | (cases h2; rename_i k; cases k <;> simp [PyData.eqv, eqD, b2n]; done) | (obtain ⟨qs, e2, rfl⟩ := Option.map_eq_some_iff.mp h2; simp [PyData.eqv, eqD])
  | .str b, y, p, q, h1, h2 => by
    unfold toP at h1; cases h1
    cases y <;> unfold toP at h2 <;> first | (cases h2; done) | (cases h2; simp [PyData.eqv, eqD]; done) | (obtain ⟨qs, e2, rfl⟩ := Option.map_eq_some_iff.mp h2; simp [PyData.eqv, eqD])
  | .ty _, _, _, _, h1, _ => by unfold toP at h1; cases h1
  | .cls _, _, _, _, h1, _ => by unfold toP at h1; cases h1
  | .dct _ _, _, _, _, h1, _ => by unfold toP at h1; cases h1
  | .ins _ _ _, _, _, _, h1, _ => by unfold toP at h1; cases h1
  | .exc _ _ _, _, _, _, h1, _ => by unfold toP at h1; cases h1
  | .opq, _, _, _, h1, _ => by unfold toP at h1; cases h1
  | .scr _, _, _, _, h1, _ => by unfold toP at h1; cases h1
theorem eqvAll_eqDs : ∀ (l m : List D) {ps qs : List PyData}, toPs l = some ps → toPs m = some qs → PyData.eqvAll ps qs = eqDs l m
  | [], [], ps, qs, h1, h2 => by unfold toPs at h1 h2; cases h1; cases h2; simp [PyData.eqvAll, eqDs]
  | [], y :: m, ps, qs, h1, h2 => by
    unfold toPs at h1 h2
    cases h1
    obtain ⟨p, e1, e2⟩ := Option.bind_eq_some_iff.mp h2
    obtain ⟨r, e3, rfl⟩ := Option.map_eq_some_iff.mp e2
    simp [PyData.eqvAll, eqDs]
  | x :: l, [], ps, qs, h1, h2 => by
    unfold toPs at h1 h2
    cases h2
    obtain ⟨p, e1, e2⟩ := Option.bind_eq_some_iff.mp h1
    obtain ⟨r, e3, rfl⟩ := Option.map_eq_some_iff.mp e2
    simp [PyData.eqvAll, eqDs]
  | x :: l, y :: m, ps, qs, h1, h2 => by
    unfold toPs at h1 h2
    obtain ⟨p, e1, e2⟩ := Option.bind_eq_some_iff.mp h1
    obtain ⟨r, e3, rfl⟩ := Option.map_eq_some_iff.mp e2
    obtain ⟨p', f1, f2⟩ := Option.bind_eq_some_iff.mp h2
    obtain ⟨r', f3, rfl⟩ := Option.map_eq_some_iff.mp f2
    simp only [PyData.eqvAll, eqDs]
    rw [eqv_eqD x y e1 f1, eqvAll_eqDs l m e3 f3]
end
theorem Pl.succ : ∀ {n : Nat} {d : D}, Pl n d → Pl (n + 1) d
  | n, .non, _ => trivial
  | n, .bl b, _ => trivial
  | n, .int b, _ => trivial
  | n, .str b, h => by cases n <;> exact h
  | n + 1, .tup l, h => fun d hd => Pl.succ (h d hd)
  | n + 1, .lst l, h => fun d hd => Pl.succ (h d hd)
  | 0, .tup l, h => h.elim
  | 0, .lst l, h => h.elim
  | n, .ty _, h => by cases n <;> exact h.elim
  | n, .cls _, h => by cases n <;> exact h.elim
  | n, .dct _ _, h => by cases n <;> exact h.elim
  | n, .ins _ _ _, h => by cases n <;> exact h.elim
  | n, .exc _ _ _, h => by cases n <;> exact h.elim
  | n, .opq, h => by cases n <;> exact h.elim
  | n, .scr _, h => by cases n <;> exact h.elim
theorem Pl.mono {n m : Nat} {d : D} (h : Pl n d) (le : n ≤ m) : Pl m d := by
  obtain ⟨k, rfl⟩ : ∃ k, m = n + k := ⟨m - n, by omega⟩
  clear le
  induction k with
  | zero => exact h
  | succ k ih => exact ih.succ
theorem Pl_int (n : Nat) (i : Int) : Pl n (.int i) = True := eq_true (by cases n <;> trivial)
theorem Pl_bl (n : Nat) (i : Bool) : Pl n (.bl i) = True := eq_true (by cases n <;> trivial)
theorem Pl_non (n : Nat) : Pl n .non = True := eq_true (by cases n <;> trivial)
theorem Pl_tup (n : Nat) (l : List D) : Pl (n + 1) (.tup l) = ∀ d, d ∈ l → Pl n d := rfl
theorem Pl_lst (n : Nat) (l : List D) : Pl (n + 1) (.lst l) = ∀ d, d ∈ l → Pl n d := rfl
theorem atI_0 {α : Type} (x : α) (l : List α) : atI (x :: l) 0 = some x := atI_nat (j := 0) rfl
theorem atI_1 {α : Type} (x y : α) (l : List α) : atI (x :: y :: l) 1 = some y := atI_nat (j := 1) rfl
theorem atI_2 {α : Type} (x y z : α) (l : List α) : atI (x :: y :: z :: l) 2 = some z := atI_nat (j := 2) rfl
def aEqD (x y : D) (c : Nat) (Q : QD) : Prop := Pl 60 x ∧ Pl 60 y ∧ Q (.bl (eqD x y)) c
def aNeD (x y : D) (c : Nat) (Q : QD) : Prop := Pl 60 x ∧ Pl 60 y ∧ Q (.bl (!eqD x y)) c
theorem Pl.plain {d : D} (h : Pl 60 d) : ∃ p, plainP d p := by
  obtain ⟨p, h1, h2, h3⟩ := h.toP
  exact ⟨p, h1, by simp only [SeqAt.shaped, h2, Bool.true_and, decide_eq_true_eq]; omega⟩
theorem br_eqD {K : PySem.W.Frag} : Br2 K (rEqD K) aEqD := br_eq.imp fun x y c Q ⟨h1, h2, q⟩ => by
  obtain ⟨p, hp⟩ := h1.plain
  obtain ⟨r, hr⟩ := h2.plain
  exact ⟨p, r, hp, hr, by rw [eqv_eqD x y hp.1 hr.1]; exact q⟩
theorem br_neD {K : PySem.W.Frag} : Br2 K (rNeD K) aNeD := br_ne.imp fun x y c Q ⟨h1, h2, q⟩ => by
  obtain ⟨p, hp⟩ := h1.plain
  obtain ⟨r, hr⟩ := h2.plain
  exact ⟨p, r, hp, hr, by rw [eqv_eqD x y hp.1 hr.1]; exact q⟩
section
variable {Y : Ctx} {a b : Expr} {ea eb : TE} {ta tb : DE} {pos : Pos} {k : Nat}
theorem pdc_eqD (g : Y.Good k) (ha : PD Y a ea ta) (hb : PD Y b eb tb) : PDC Y .Eq a b (tOp (rEqD Y.X.K) ea eb) (dOp aEqD ta tb) := pdc_op (op_eqD g.room.units) br_eqD ha hb
theorem pdc_neD (g : Y.Good k) (ha : PD Y a ea ta) (hb : PD Y b eb tb) : PDC Y .NotEq a b (tOp (rNeD Y.X.K) ea eb) (dOp aNeD ta tb) := pdc_op (op_neD g.room.units) br_neD ha hb
end
end PL

namespace PL
open PySem PySem.Spec PyProof.Rows L2

/-! ### readings evaluated: what simp goes through, in the order of the run -/
def Nx [u : DEnv → Nat → Prop] (ρ : DEnv) (c : Nat) : Prop := u ρ c
theorem ev_nx {u : DEnv → Nat → Prop} {ρ : DEnv} {c : Nat} : @Nx u ρ c = u ρ c := propext Iff.rfl
/-- two ways, none of them looked at ahead of the test -/
def Br (b : Bool) [A : Prop] [B : Prop] : Prop := if b = true then A else B
theorem ev_brT {A B : Prop} : @Br true A B = A := by simp [Br]
theorem ev_brF {A B : Prop} : @Br false A B = B := by simp [Br]
theorem Br.by {b : Bool} {A B : Prop} (h1 : b = true → A) (h2 : b = false → B) : @Br b A B := by
  cases b with
  | true => rw [ev_brT]; exact h1 rfl
  | false => rw [ev_brF]; exact h2 rfl
theorem Br.t {b : Bool} {A B : Prop} (h : b = true) (k : A) : @Br b A B := by rw [h, ev_brT]; exact k
theorem Br.f {b : Bool} {A B : Prop} (h : b = false) (k : B) : @Br b A B := by rw [h, ev_brF]; exact k
def asB (x : D) [P : Bool → Prop] : Prop := ∃ b, x = .bl b ∧ P b
theorem ev_asB {b : Bool} {P : Bool → Prop} : @asB (.bl b) P = P b := by simp [asB]
def atP (o : Option D) [P : D → Prop] : Prop := ∃ d, o = some d ∧ P d
theorem ev_atP {d : D} {P : D → Prop} : @atP (some d) P = P d := by simp [atP]
theorem atP.mk {o : Option D} {P : D → Prop} {d : D} (h : o = some d) (k : P d) : @atP o P := ⟨d, h, k⟩
def itP (d : D) (P : List D → Prop) : Prop := ∃ L, items d = some L ∧ P L
/-- a def is called -/
def Run [sp : SpD] (ds : List D) [c : Nat] [Q : QD] [E : EDt] : Prop := sp ds c Q E
def isNon : D → Bool
  | .non => true
  | _ => false
section
variable {i n k : Nat} {ρ : DEnv} {c : Nat} {Q : QD} {QL : List D → Nat → Prop} {QB : Bool → Nat → Prop} {QE : DEnv → Nat → Prop} {QO : Option Int → Nat → Prop} {d e : D} {s : Sl} {ta tb tc te : DE} {t tr tk : DA} {rd rd' : RD2} {rd1 : RD1} {rn : RDn} {rs : RDs} {tA tB : DT} {a b : Int} {x y : Str} {l m : List D} {p q : Bool}
  {st su : DS} {DD : DEnds} {g : DG} {gs : DGs} {ti : DI} {vs : List Nat} {tl th : DO} {lo hi : Option Int} {sp : SpD} {ED : DEnv → EDt} {IC : Addr → Prop} {T : String} {gD : List D → List D → List D}
theorem ev_var0 : dVar 0 (.fz d :: ρ) c Q = Q d c := by simp [dVar]
theorem ev_varS : dVar (i + 1) (s :: ρ) c Q = dVar i ρ c Q := by simp [dVar]
theorem ev_c : dC d ρ c Q = Q d c := propext Iff.rfl
theorem ev_op : dOp rd ta tb ρ c Q = ta ρ c fun x c1 => tb ρ c1 fun y c2 => rd x y c2 Q := propext Iff.rfl
theorem ev_un : dUn rd1 ta ρ c Q = ta ρ c fun x c1 => rd1 x c1 Q := propext Iff.rfl
theorem ev_chain : dChain rd rd' ta tb tc ρ c Q = ta ρ c fun x c1 => tb ρ c1 fun y c2 => rd x y c2 fun z c3 => @asB z fun k => @Br k (tc ρ c3 fun w c4 => rd' y w c4 Q) (Q (.bl false) c3) := propext Iff.rfl
theorem ev_tchain : dtChain rd rd' ta tb tc ρ c QB = ta ρ c fun x c1 => tb ρ c1 fun y c2 => rd x y c2 fun z c3 => @asB z fun k => @Br k (tc ρ c3 fun w c4 => rd' y w c4 fun u c5 => @asB u fun m => QB m c5) (QB false c3) := propext Iff.rfl
theorem ev_nil : dNil ρ c QL = QL [] c := propext Iff.rfl
theorem ev_cons : dCons ta t ρ c QL = ta ρ c fun x c1 => t ρ c1 fun xs c2 => QL (x :: xs) c2 := propext Iff.rfl
theorem ev_cb : dCB rn t ρ c Q = t ρ c fun ds c1 => rn ds c1 Q := propext Iff.rfl
theorem ev_tup : dTup t ρ c Q = t ρ c fun ds c1 => ds.length ≤ 16777216 ∧ Q (.tup ds) c1 := by rw [← sizeLine_eq]; rfl
theorem ev_lst : dLst t ρ c Q = t ρ c fun ds c1 => ds.length ≤ 16777216 ∧ Q (.lst ds) c1 := by rw [← sizeLine_eq]; rfl
theorem ev_b : dB ta ρ c QB = ta ρ c fun x c1 => @asB x fun b => QB b c1 := propext Iff.rfl
theorem ev_andV : dAndV ta tb ρ c Q = ta ρ c fun x c1 => @asB x fun b => @Br b (tb ρ c1 Q) (Q (.bl false) c1) := propext Iff.rfl
theorem ev_orV : dOrV ta tb ρ c Q = ta ρ c fun x c1 => @asB x fun b => @Br b (Q (.bl true) c1) (tb ρ c1 Q) := propext Iff.rfl
theorem ev_notV : dNotV ta ρ c Q = ta ρ c fun x c1 => @asB x fun b => Q (.bl (!b)) c1 := propext Iff.rfl
theorem ev_if : dIf tA ta tb ρ c Q = tA ρ c fun b c1 => @Br b (ta ρ c1 Q) (tb ρ c1 Q) := propext Iff.rfl
theorem ev_tand : dtAnd tA tB ρ c QB = tA ρ c fun b c1 => @Br b (tB ρ c1 QB) (QB false c1) := propext Iff.rfl
theorem ev_tor : dtOr tA tB ρ c QB = tA ρ c fun b c1 => @Br b (QB true c1) (tB ρ c1 QB) := propext Iff.rfl
theorem ev_tnot : dtNot tA ρ c QB = tA ρ c fun b c1 => QB (!b) c1 := propext Iff.rfl
theorem ev_yes : dtYes ρ c QB = QB true c := propext Iff.rfl
theorem ev_next : sNext DD ρ c = DD.nx ρ c := propext Iff.rfl
theorem ev_seq : sSeq st su DD ρ c = st { DD with nx := su DD } ρ c := propext Iff.rfl
theorem ev_ret : sRet te DD ρ c = te ρ c DD.rt := propext Iff.rfl
theorem ev_retN : sRetN DD ρ c = DD.rt .non c := propext Iff.rfl
theorem ev_brk : sBreak DD ρ c = DD.bk ρ c := propext Iff.rfl
theorem ev_cnt : sCont DD ρ c = DD.ct ρ c := propext Iff.rfl
theorem ev_sif : sIf tA st su DD ρ c = tA ρ c fun b c1 => @Br b (st DD ρ c1) (su DD ρ c1) := propext Iff.rfl
theorem ev_drop : sDrop te DD ρ c = te ρ c fun _ c1 => DD.nx ρ c1 := propext Iff.rfl
theorem ev_set : sSet i te DD ρ c = te ρ c fun d c1 => @Nx DD.nx (ρ.set i (.fz d)) c1 := propext Iff.rfl
theorem ev_asg : sAsg te g DD ρ c = te ρ c fun d c1 => g d ρ c1 DD.nx := propext Iff.rfl
theorem ev_kname : kName i d ρ c QE = @Nx QE (ρ.set i (.fz d)) c := propext Iff.rfl
theorem ev_knil : kNil [] ρ c QE = QE ρ c := by simp [kNil]
theorem ev_kcons : kCons g gs (d :: l) ρ c QE = g d ρ c fun ρ' c' => gs l ρ' c' QE := by
  apply propext; constructor
  · rintro ⟨_, _, e, q⟩; cases e; exact q
  · intro q; exact ⟨_, _, rfl, q⟩
theorem ev_ktup : kTup n gs (.tup l) ρ c QE = (l.length = n ∧ gs l ρ c QE) := by simp [kTup]
theorem ev_for : sFor ti g st DD ρ c = ti ρ c fun L c1 => ForB g st DD ρ L c1 := propext Iff.rfl
theorem ev_lc : dLc ti g tA te vs ρ c Q = ti ρ c fun L c1 => LcB g tA te vs ρ L c1 Q := propext Iff.rfl
theorem ev_any : diAny te ρ c QL = te ρ c fun d c1 => itP d fun L => QL L c1 := propext Iff.rfl
theorem ev_anyL {P : List D → Prop} : itP (.lst l) P = P l := by simp [itP, items]
theorem ev_anyT {P : List D → Prop} : itP (.tup l) P = P l := by simp [itP, items]
theorem ev_anyS {P : List D → Prop} : itP (.str x) P = P (signs x) := by simp [itP, items]
def rg1 (ds : List D) (P : Int → Prop) : Prop := ∃ j : Int, ds = [.int j] ∧ -(2 ^ 62) ≤ j ∧ j < 2 ^ 62 ∧ P j
theorem ev_rng1 : diRng1 t ρ c QL = t ρ c fun ds c1 => rg1 ds fun j => QL (upInts 0 j.toNat) c1 := propext Iff.rfl
theorem ev_rng1i {P : Int → Prop} : rg1 [D.int a] P = (-(2 ^ 62) ≤ a ∧ a < 2 ^ 62 ∧ P a) := by simp [rg1]
theorem ev_rng2 : diRng2 t ρ c QL = t ρ c fun ds c1 => ∃ i j : Int, ds = [.int i, .int j] ∧ (-(2 ^ 62) ≤ i ∧ i < 2 ^ 62 ∧ -(2 ^ 62) ≤ j ∧ j < 2 ^ 62) ∧ QL (upInts i (j - i).toNat) c1 := propext Iff.rfl
theorem ev_rng2i : (∃ i j : Int, [D.int a, D.int b] = [.int i, .int j] ∧ (-(2 ^ 62) ≤ i ∧ i < 2 ^ 62 ∧ -(2 ^ 62) ≤ j ∧ j < 2 ^ 62) ∧ QL (upInts i (j - i).toNat) c) = ((-(2 ^ 62) ≤ a ∧ a < 2 ^ 62 ∧ -(2 ^ 62) ≤ b ∧ b < 2 ^ 62) ∧ QL (upInts a (b - a).toNat) c) := by
  apply propext
  constructor
  · rintro ⟨i, j, h, q⟩
    cases h
    exact q
  · intro q
    exact ⟨a, b, rfl, q⟩
theorem ev_enum : diEnum t ρ c QL = t ρ c fun ds c1 => match ds with | [.lst l] => QL (numbered 0 l) c1 | [.tup l] => QL (numbered 0 l) c1 | _ => False := propext Iff.rfl
theorem ev_sl : dSl rs te tl th ρ c Q = te ρ c fun x c1 => tl ρ c1 fun l c2 => th ρ c2 fun u c3 => rs x l u c3 Q := propext Iff.rfl
theorem ev_nop : dNoPart ρ c QO = QO none c := propext Iff.rfl
def asI (d : D) (P : Int → Prop) : Prop := ∃ i, d = .int i ∧ P i
theorem ev_part : dPart te ρ c QO = te ρ c fun d c1 => asI d fun i => QO (some i) c1 := propext Iff.rfl
theorem ev_asI {P : Int → Prop} : asI (.int a) P = P a := by simp [asI]
theorem ev_call {dds : List D} : dCall ED sp dds t ρ c Q = t ρ c fun ds c1 => @Run sp (ds ++ dds) c1 Q (ED ρ) := propext Iff.rfl
theorem ev_callK : dCallK ED n k sp gD t tk ρ c Q = t ρ c fun ds c1 => tk ρ c1 fun es c2 => ds.length = n ∧ es.length = k ∧ @Run sp (gD ds es) c2 Q (ED ρ) := propext Iff.rfl
theorem ev_plusI : aPlus (.int a) (.int b) c Q = Q (.int (a + b)) c := propext Iff.rfl
theorem ev_plusS : aPlus (.str x) (.str y) c Q = (x.length + y.length ≤ 16777216 ∧ Q (.str (x ++ y)) c) := by rw [← sizeLine_eq]; rfl
theorem ev_plusT : aPlus (.tup l) (.tup m) c Q = (l.length + m.length ≤ 16777216 ∧ Q (.tup (l ++ m)) c) := by rw [← sizeLine_eq]; rfl
theorem ev_i0 {f : Int → Int → D} : rdI0 f (.int a) (.int b) c Q = Q (f a b) c := by
  apply propext; constructor
  · rintro ⟨i, j, e1, e2, q⟩; cases e1; cases e2; exact q
  · intro q; exact ⟨a, b, rfl, rfl, q⟩
theorem ev_iC {C : Int → Int → Prop} {f : Int → Int → D} : rdI C f (.int a) (.int b) c Q = (C a b ∧ Q (f a b) c) := by
  apply propext; constructor
  · rintro ⟨i, j, e1, e2, q⟩; cases e1; cases e2; exact q
  · intro q; exact ⟨a, b, rfl, rfl, q⟩
theorem ev_leI : aLeP (.int a) (.int b) c Q = Q (.bl (decide (a ≤ b))) c := propext Iff.rfl
theorem ev_leS : aLeP (.str x) (.str y) c Q = Q (.bl (!decide (y.cps.toList < x.cps.toList))) c := propext Iff.rfl
theorem ev_isN : aIsN d .non c Q = Q (.bl (isNon d)) c := by cases d <;> simp [aIsN, isNon]
theorem ev_notN : aNotN d .non c Q = Q (.bl (!isNon d)) c := by cases d <;> simp [aNotN, isNon]
theorem ev_itL : aItem (.lst l) (.int a) c Q = @atP (atI l a) fun d => Q d c := propext Iff.rfl
theorem ev_itT : aItem (.tup l) (.int a) c Q = @atP (atI l a) fun d => Q d c := propext Iff.rfl
theorem ev_itScr {ns : List Int} : aItem (.scr ns) (.int a) c Q = ∃ j, atI ns a = some j ∧ Q (.int j) c := propext Iff.rfl
theorem ev_lenScr {ns : List Int} : aLen [.scr ns] c Q = Q (.int ns.length) c := propext Iff.rfl
theorem ev_slT : aSlice (.tup l) lo hi c Q = Q (.tup (cut l lo hi)) c := propext Iff.rfl
theorem ev_slL : aSlice (.lst l) lo hi c Q = Q (.lst (cut l lo hi)) c := propext Iff.rfl
theorem ev_lenL : aLen [.lst l] c Q = Q (.int l.length) c := propext Iff.rfl
theorem ev_lenT : aLen [.tup l] c Q = Q (.int l.length) c := propext Iff.rfl
theorem ev_lenS : aLen [.str x] c Q = (x.length ≤ 16777216 ∧ Q (.int x.length) c) := by rw [← sizeLine_eq]; rfl
theorem ev_intI : aInt [.int a] c Q = Q (.int a) c := propext Iff.rfl
theorem ev_intB : aInt [.bl p] c Q = Q (.int (b2n p)) c := propext Iff.rfl
theorem ev_isa : aIsa IC [d, .ty T] c Q = (T ∈ basics ∧ ((kind d).isSome = true ∨ ∃ C, isIns d = some C ∧ IC C) ∧ Q (.bl (isaB T d)) c) := propext Iff.rfl
theorem ev_listL : aListA [.lst l] c Q = Q (.lst l) c := propext Iff.rfl
theorem ev_listT : aListA [.tup l] c Q = Q (.lst l) c := propext Iff.rfl
theorem ev_tupL : aTupleA [.lst l] c Q = Q (.tup l) c := propext Iff.rfl
theorem ev_tupT : aTupleA [.tup l] c Q = Q (.tup l) c := propext Iff.rfl
theorem ev_max : aMax2 [.int a, .int b] c Q = Q (.int (if b > a then b else a)) c := propext Iff.rfl
theorem ev_min : aMin2 [.int a, .int b] c Q = Q (.int (if b < a then b else a)) c := propext Iff.rfl
theorem ev_eq : aEqD d e c Q = (Pl 60 d ∧ Pl 60 e ∧ Q (.bl (eqD d e)) c) := propext Iff.rfl
theorem ev_ne : aNeD d e c Q = (Pl 60 d ∧ Pl 60 e ∧ Q (.bl (!eqD d e)) c) := propext Iff.rfl
theorem ev_neg : dUn (fun x c Q => ∃ i, x = .int i ∧ Q (.int (-i)) c) ta ρ c Q = ta ρ c fun x c1 => asI x fun i => Q (.int (-i)) c1 := propext Iff.rfl
def allP (ds : List D) (P : Bool → Prop) : Prop := ∃ l bs, ds = [.lst l] ∧ bools l = some bs ∧ P (bs.all id)
theorem ev_all : bAll l c Q = allP l fun b => Q (.bl b) c := propext Iff.rfl
theorem allP.mk {P : Bool → Prop} {l : List D} {bs : List Bool} (h : bools l = some bs) (k : P (bs.all id)) : allP [.lst l] P := ⟨l, bs, rfl, h, k⟩
theorem ev_purse : dPurse t ρ c Q = t ρ c fun ds c1 => ∃ x y z : Int, ds = [.int x, .int y, .int z] ∧ 0 ≤ y ∧ y < 2 ^ 31 ∧ 0 ≤ z ∧ z ≤ 1000000 ∧ Q .opq c1 := propext Iff.rfl
theorem ev_pix : dPIx i n ρ c Q = (ρ[i]? = some (.fz .opq) ∧ ∀ x : Int, (n = 1 → 0 ≤ x ∧ x < 2 ^ 31) → (n = 2 → 0 ≤ x ∧ x ≤ 1000000 + (c : Int)) → Q (.int x) c) := propext Iff.rfl
theorem ev_pset : sPSet i n te DD ρ c = te ρ c fun d c1 => ρ[i]? = some (.fz .opq) ∧ ∃ x : Int, d = .int x ∧ ((n = 0 ∧ DD.nx ρ c1) ∨ (n = 2 ∧ 0 ≤ x ∧ x ≤ 1000000 + ((c1 + 1 : Nat) : Int) ∧ DD.nx ρ (c1 + 1))) := propext Iff.rfl
theorem n_non : isNon .non = true := rfl
theorem n_bl : isNon (.bl p) = false := rfl
theorem n_int : isNon (.int a) = false := rfl
theorem n_str : isNon (.str x) = false := rfl
theorem n_tup : isNon (.tup l) = false := rfl
theorem n_lst : isNon (.lst l) = false := rfl
theorem k_non : kind .non = some "NoneType" := rfl
theorem k_bl : kind (.bl p) = some "bool" := rfl
theorem k_int : kind (.int a) = some "int" := rfl
theorem k_str : kind (.str x) = some "str" := rfl
theorem k_tup : kind (.tup l) = some "tuple" := rfl
theorem k_lst : kind (.lst l) = some "list" := rfl
theorem i_non : isaB T .non = false := rfl
theorem i_bl : isaB T (.bl p) = (T == "bool" || T == "int") := rfl
theorem i_int : isaB T (.int a) = (T == "int") := rfl
theorem i_str : isaB T (.str x) = (T == "str") := rfl
theorem i_tup : isaB T (.tup l) = (T == "tuple") := rfl
theorem i_lst : isaB T (.lst l) = (T == "list") := rfl
end
theorem startD_eq {N : List Str} {ds : List D} : startD N ds = ds.map .fz ++ List.replicate (N.length - ds.length) .no := rfl
theorem cut_to {α : Type} (l : List α) {i : Int} (h0 : 0 ≤ i) : cut l none (some i) = l.take i.toNat := by
  obtain ⟨k, rfl⟩ : ∃ k : Nat, i = (k : Int) := ⟨i.toNat, by omega⟩
  unfold cut
  rw [HT.sIx_none, HT.sIx_nat, List.drop_zero, Nat.sub_zero, Int.toNat_natCast]
  by_cases h : k ≤ l.length
  · rw [Nat.min_eq_left h]
  · rw [Nat.min_eq_right (by omega), List.take_length, List.take_of_length_le (by omega)]
theorem cut_from {α : Type} (l : List α) {i : Int} (h0 : 0 ≤ i) : cut l (some i) none = l.drop i.toNat := by
  obtain ⟨k, rfl⟩ : ∃ k : Nat, i = (k : Int) := ⟨i.toNat, by omega⟩
  unfold cut
  rw [HT.sIx_none, HT.sIx_nat, Int.toNat_natCast]
  by_cases h : k ≤ l.length
  · rw [Nat.min_eq_left h, List.take_of_length_le (by simp)]
  · rw [Nat.min_eq_right (by omega), List.drop_of_length_le (Nat.le_refl _), List.drop_of_length_le (by omega)]
    simp
end PL

namespace PL
open PySem PySem.Spec PyProof.Rows L2

/-! ### the ends -/
theorem rp_ints {K : PySem.W.Frag} {G : GS} : ∀ ns : List Int, RpAll K G (ns.map V.int) (ns.map D.int)
  | [] => .nil
  | n :: ns => .cons (.int n) (rp_ints ns)
/-- the law's promise of data, at its script -/
theorem law_start {K : PySem.W.Frag} {sp : SpD} {H : Hp} {a : Addr} {ns : List Int} (hS : SqL K H a (ns.map V.int)) (h : sp [.scr ns] 0 (fun d _ => d = .bl true) fun _ _ _ _ => False) :
    spOf K sp [.ref a] H (fun v _ => v = .bl true) fun _ _ _ => False := by
  refine ⟨⟨H, fun _ => False⟩, 0, [.scr ns], _, _, ⟨fun _ _ h => h, fun _ h => h.elim, fun _ h => h.elim⟩, .cons (.scr hS) .nil, h, fun d v G' H' c' _ r e => ?_, fun _ _ _ _ _ _ _ _ _ z => z⟩
  have e' : d = .bl true := e
  subst e'
  cases r
  rfl
/-- the law's call, the promise told at a world -/
theorem walk_at_world {l : PySem.W.OpenLaw} {n k : Nat} {q : Program} {loose : List Str} {XP : (Str → Option Value) → Heap → Prop} {YP : World → Heap → Prop} {d : DefRec} {x : Str}
    (hn : l.most = some n) (hn2 : n ≤ sizeLine) (hdf : d.params.defaults = []) (hr : Room k callerA)
    (F : ∀ (w : World) (mg : Str → Option Value) (fa : Addr) (h : Heap), YP w h → h.Ns mainGlobals mg → mg d.name = some (.ref fa) →
      ∃ (K : PySem.W.Frag) (fd : FuncData) (sp : SpD), K.In h ∧ (∀ (s : Shared) (u : Value), BindsTo s fd ⟨[u], []⟩ [(x, u)]) ∧
        (∀ ns : List Int, ns.length ≤ n → sp [.scr ns] 0 (fun d _ => d = .bl true) fun _ _ _ _ => False) ∧
        ∀ base : Heap, K.In base → base.Ns mainGlobals mg → FnOk l.prog w K mg base (L2.CX l.prog w) k fa fd [x] (spOf K sp)) :
    PySem.W.WalkO q loose XP YP l.row.toRowW d [] (fun f vs => PySem.call f vs) := by
  refine Att.attach_call hn hdf fun w s₀ s₁ mg mb fa o pm cd doc a vs ns G Y ho hd hcd hmg hobj hints hlen hg => ?_
  obtain ⟨K, fd, sp, KX, hb, hsp, hF⟩ := F w mg fa _ Y G.T.g hmg
  exact law_call KX G.T.g G.T.b G.T.builtins G.T.nolimit hg hobj hints (Nat.le_trans hlen hn2) hr hF hb (fun H _ hS => law_start hS (hsp ns hlen)) fun H e s' h => by
    obtain ⟨_, _, _, _, _, _, _, _, _, _, _, _, z⟩ := h
    exact z
end PL

namespace PL
open PySem PySem.Spec PyProof.Rows L2

/-! ### a caught exception is kept -/
section
variable {X : Cx} {pins : List (Addr × Obj)} {σ : L2.St} {H : Hp} {s sI : Shared} {a : Addr} {φ : Heap → Prop}
/-- a thing that is new since sI, known to nobody, becomes known -/
theorem track (J : L2.Inv X pins σ H sI) (I : L2.Inv X pins σ H s) (hx : X.ex = []) (na : sI.heap.get? a = none) (ha : H a = none) (new : φ s.heap) (obj : ∃ o, s.heap.get? a = some o) (st : ∀ h1 h2 : Heap, φ h1 → (∀ o, h1.get? a = some o → h2.get? a = some o) → φ h2) : L2.Inv X pins σ (upd H a (.ext φ)) s := by
  have n0 : ∀ b o, X.s_0.heap.get? b = some o → b ≠ a := fun b o e z => by
    obtain ⟨o', q⟩ := J.base.there b o e (by rw [hx]; exact fun z => nomatch z)
    rw [z, na] at q
    cases q
  have keepU : ∀ {b : Addr} {u : HO}, H b = some u → upd H a (.ext φ) b = some u := fun {b u} e => by rw [upd_ne (ne_of_none e ha)]; exact e
  have freeU : ∀ {b : Addr}, b ≠ a → H b = none → upd H a (.ext φ) b = none := fun {b} n e => by rw [upd_ne n]; exact e
  refine ⟨I.ok, I.os, I.bare, ⟨I.base.keep, I.base.slot, fun b o e n hq => freeU (n0 b o e) (I.base.free b o e n hq), I.base.there, fun b xs e => keepU (I.base.tups b xs e), fun b o u e => keepU (I.base.frzs b o u e), fun b ps e => ?_⟩, I.loc, I.cell, ?_, fun x c e => ?_, fun p hp => ?_, fun b u e => ?_, I.len⟩
  · obtain ⟨m, q⟩ := I.base.tbls b ps e
    exact ⟨m, keepU q⟩
  · refine freeU (fun z => ?_) I.free
    obtain ⟨m, ⟨o, es, ep, ho, _⟩, _⟩ := J.loc
    rw [z, na] at ho
    cases ho
  · refine freeU (fun z => ?_) (I.freeC x c e)
    obtain ⟨v, o, ho, _⟩ := J.cell x c e
    rw [z, na] at ho
    cases ho
  · obtain ⟨e, n, ne, nf, d⟩ := I.pin p hp
    refine ⟨e, freeU (fun z => ?_) n, ne, nf, d⟩
    have q := (J.pin p hp).1
    rw [z, na] at q
    cases q
  · by_cases hb : b = a
    · rw [hb, upd_same] at e
      cases e
      rw [hb]
      exact ⟨new, obj, st⟩
    · rw [upd_ne hb] at e
      exact (I.hok b u e).stay (fun c v _ q => q) (fun c q => keepU q) fun c xs q => keepU q
theorem exT_new {h : Heap} {C a : Addr} {d : Option Addr} {oe : Obj} {vs : Array Value} (e : h.get? a = some oe) (z : Zc (.ref C) d oe) (hd : oe.data = .fields vs) :
    (fun h : Heap => ∃ (oe : Obj) (vs : Array Value), h.get? a = some oe ∧ oe.cls = .ref C ∧ oe.dict = d ∧ oe.data = .fields vs) h := ⟨oe, vs, e, z.1, z.2, hd⟩
theorem exT_st {C a : Addr} {d : Option Addr} (h1 h2 : Heap) (e : (fun h : Heap => ∃ (oe : Obj) (vs : Array Value), h.get? a = some oe ∧ oe.cls = .ref C ∧ oe.dict = d ∧ oe.data = .fields vs) h1) (k : ∀ o, h1.get? a = some o → h2.get? a = some o) :
    (fun h : Heap => ∃ (oe : Obj) (vs : Array Value), h.get? a = some oe ∧ oe.cls = .ref C ∧ oe.dict = d ∧ oe.data = .fields vs) h2 := by
  obtain ⟨oe, vs, e1, e2⟩ := e
  exact ⟨oe, vs, k oe e1, e2⟩
end
/-- what the clause 'except x as n' (slot i) wishes of an exception of the body; its object stays known -/
def wKeep (K : PySem.W.Frag) (c : Value) (i : Nat) (ts : TS) (Wout : WX) (D : Ends) : WX := fun cls d σ H =>
  ∃ b C, cls = .ref C ∧ PySem.W.exmOne K cls c = some b ∧ (b = true → ∀ a, H a = none → ts { nx := fun σ' H' => D.nx (σ'.set i none) H', rt := D.rt, bk := fun σ' H' => D.bk (σ'.set i none) H', ct := fun σ' H' => D.ct (σ'.set i none) H' } (σ.set i (some (.ref a))) (upd H a (exT C a d))) ∧
    (b = false → Wout cls d σ H)
section
variable {X : Cx} {x n : Str} {c : Value} {i : Nat} {body suite : List Stmt} {b₀ : Stmt} {np pos pos' : Pos} {tb : WX → TS} {ts : TS} {Wout : WX}
theorem ps_try_keep (hs : X.stack = X.env :: X.outer) (hf : X.env.frame = some X.env.locals) (hex : X.ex = []) (hN : X.N.Nodup) (hi : X.N[i]? = some n) (hln : X.env.kindOf n = some .local) (hc : Names X x c) (tk : Takes X Wout)
    (hb : ∀ (W : WX) (pn : List (Addr × Obj)) (xe : Value → Shared → Prop), Takes (X.tr pn xe) W → PSs (X.tr pn xe) body (tb W))
    (hsu : ∀ (a : Addr) (pn : List (Addr × Obj)), PSs (X.suite a pn) (b₀ :: suite) ts) :
    PS X (.Try body [.ExceptHandler (some (.Name x np)) (some n) (b₀ :: suite) pos'] [] [] pos) (fun D σ H => tb (wKeep X.K c i ts Wout D) D σ H) := by
  refine ⟨fun pins s σ H D I h => ?_⟩
  have ok := I.ok
  have hfr : X.A.frames = some (X.env :: X.outer) := by rw [ok.frames, hs]
  have hloc : Loc X.env.scope n := .inl hln
  refine wpAny_Try_except ?_
  refine wpAny_mono ((hb (wKeep X.K c i ts Wout D) (X.pn ++ pins) (fun e s₁ => wpAny (model X.prog X.w) X.A (noteFrame e X.env) (fun _ s₂ => wpAny (model X.prog X.w) X.A (setFlight e none) (fun _ s₃ =>
    wpAny (model X.prog X.w) X.A (handleBy e X.env [.ExceptHandler (some (.Name x np)) (some n) (b₀ :: suite) pos']) (SP X pins D) X.xe s₃) X.xe s₂) X.xe s₁) (fun u s' xx => ?_)).run [] s σ H D (I.toTry _) h) (fun f s1 hsp => ?_) (fun e s1 he => he)
  · -- the catch
    obtain ⟨a, B, sI, pins', σ', H', cls, d, rfl, J', nb, up, sky, na, os, ag, b, C, rfl, hb1, hyes, hno⟩ := xx
    have J : L2.Inv X pins σ' H' sI := J'.ofTry ok
    have sky' : Sky B (X.env :: X.outer) a (Zc (.ref C) d) X.env.locals s'.heap := by rw [← hs]; exact sky
    show wpAny (model X.prog X.w) X.A (noteFrame (.ref a) X.env) _ _ _
    refine Sky.land Zc.steady hfr hf sky' fun h3 fl3 up3 => ?_
    have J3 : L2.Inv X pins σ' H' { s' with heap := h3 } := J.landed nb fl3.1 (up.trans up3) os ag
    obtain ⟨oe3, vs3, he3, hz3, hd3⟩ := fl3.there
    have notFr : ∀ {h : Heap} {o : Obj} {vs : Array Value}, h.FunFrames B (X.env :: X.outer) → h.get? a = some o → o.data = .fields vs → a ∉ frs (X.env :: X.outer) := fun {h o vs} ff e dd hm => by
      obtain ⟨_, o', e', hnf⟩ := ff.mem hm
      rw [e] at e'; cases e'
      exact hnf _ dd
    have nfr := notFr fl3.2.2.1 he3 hd3
    have nL : a ≠ X.env.locals := fun z => nfr (List.mem_filterMap.mpr ⟨X.env, List.mem_cons_self, by rw [hf, z]⟩)
    have nF : a ∉ X.fs := fun hm => by
      obtain ⟨e, he, q⟩ := List.mem_filterMap.mp hm
      exact nfr (List.mem_filterMap.mpr ⟨e, List.mem_cons_of_mem _ he, q⟩)
    have nI : sI.heap.get? a = none := by
      cases e : sI.heap.get? a with
      | none => rfl
      | some o =>
        have q := nb a o e (by rw [hs]; exact nfr)
        rw [fl3.2.1] at q
        cases q
    have S3 := J3.suite he3 hd3 na nL nF
    refine wpAny_handleBy_cons (codeAny_handlers_test ?_) (by intro q; cases q)
    have LT : PySem.W.Looks (model X.prog X.w) h3 (typeOf (.ref a)) (.ref C) := fun A Q E s k q => wpAny_typeOf_ref (k _ _ he3) (by rw [hz3.1]; exact q)
    have LM := PySem.W.exm_one (M := model X.prog X.w) (J3.kIn) LT hb1
    have test : ∀ {Q : Value → Shared → Prop} {E : Value → Shared → Prop}, Q c { s' with heap := h3 } → wpAny (model X.prog X.w) (X.A.mark (some (.ref a))) (eval (.Name x np) X.env) Q E { s' with heap := h3 } := fun {Q E} q => by
      obtain ⟨hg, hdbg, hm | ⟨hm, hv, hnn⟩⟩ := hc
      · exact ld_glob (X := X.suite a ((a, oe3) :: (X.pn ++ pins))) S3 hg hm q hdbg
      · exact ld_blt (X := X.suite a ((a, oe3) :: (X.pn ++ pins))) S3 hg hm hv q hnn hdbg
    refine test (LM.here ?_)
    cases b with
    | true =>
      refine codeAny_handlers_suite_as ?_
      refine HandSPX.lands_againZ fl3 fun h4 fl4 up4 => ?_
      have J4 : L2.Inv X pins σ' H' { s' with heap := h4 } := J.landed nb fl4.1 ((up.trans up3).trans up4) os ag
      obtain ⟨oe4, vs4, he4, hz4, hd4⟩ := fl4.there
      have T4 : L2.Inv X pins σ' (upd H' a (exT C a d)) { s' with heap := h4 } := track J J4 hex nI na (exT_new he4 hz4 hd4) ⟨_, he4⟩ exT_st
      have S4 : L2.Inv (X.suite a (X.pn ++ pins)) [] σ' (upd H' a (exT C a d)) { s' with heap := h4 } :=
        ⟨ok.suite _ _, T4.os, T4.bare, T4.base, T4.loc, T4.cell, T4.free, T4.freeC, fun p hp => T4.pin p (by rw [List.append_nil] at hp; exact hp), T4.hok, T4.len⟩
      refine store_ok (X := X.suite a (X.pn ++ pins)) (v := .ref a) S4 hN hi hloc rfl (fun s5 S5 => ?_) (.inr hln)
      refine wpAny_mono ((hsu a (X.pn ++ pins)).run [] s5 _ _ _ S5 (hyes rfl a na)) (fun f s6 hsp => ?_) (fun _ _ z => False.elim z)
      have end_ : ∀ {σ6 : L2.St} {H6 : Hp} {Q : Shared → Prop}, L2.Inv (X.suite a (X.pn ++ pins)) [] σ6 H6 s6 → (∀ s7, L2.Inv X pins (σ6.set i none) H6 s7 → Q s7) →
          wpAny (model X.prog X.w) X.A (do bindName X.env n .none; unbindBehindTheSuite X.env n pos') (fun _ s7 => Q s7) X.xe s6 := fun {σ6 H6 Q} S6 hq =>
        gone_ok (X := X) (pins := pins) ⟨ok, S6.os, S6.bare, S6.base, S6.loc, S6.cell, S6.free, S6.freeC, fun p hp => S6.pin p (List.mem_append_left _ hp), S6.hok, S6.len⟩ hN hi hln hq
      cases f with
      | next =>
        obtain ⟨σ6, H6, S6, q6⟩ := hsp
        exact end_ S6 fun s7 J7 => ⟨_, _, J7, q6⟩
      | brk =>
        obtain ⟨σ6, H6, S6, q6⟩ := hsp
        exact end_ S6 fun s7 J7 => ⟨_, _, J7, q6⟩
      | cont =>
        obtain ⟨σ6, H6, S6, q6⟩ := hsp
        exact end_ S6 fun s7 J7 => ⟨_, _, J7, q6⟩
      | ret u =>
        obtain ⟨v6, σ6, H6, S6, r6, q6⟩ := hsp
        exact end_ S6 fun s7 J7 => ⟨_, _, _, J7, r6, q6⟩
    | false =>
      show wpAny _ X.A (handleBy (.ref a) X.env []) _ _ _
      refine wpAny_handleBy_nil ?_
      obtain ⟨k1, k2, k3, oe, vs, T, oT, ts', he, hz, hd, h1, hr⟩ := id fl3
      unfold PySem.passOn
      refine wpAny_bind (wpAny_field he hd h1 ?_)
      rw [if_neg (show ¬ ((Value.ref T == Value.none) = true) from by simp)]
      have fin : wpAny (model X.prog X.w) X.A (setFlight (.ref a) X.env.frame) (fun _ s4 => wpAny (model X.prog X.w) X.A (throw (.ref a) : Sem Flow) (SP X pins D) X.xe s4) X.xe { s' with heap := h3 } := by
        rw [hf]
        refine HandSPX.setFlight_upZ fl3 fun h4 hh4 up4 => wpAny_throw (tk _ _ ?_)
        exact ⟨a, B, sI, pins, σ', H', .ref C, d, rfl, J, nb, (up.trans up3).trans up4, .inr (.inr (by rw [hs]; exact hh4)), na, os, ag, hno rfl⟩
      first
        | exact wpAny_bind (wpAny_pure (wpAny_bind fin))
        | exact wpAny_bind fin
  · cases f with
    | next =>
      obtain ⟨σ', H', J', q⟩ := hsp
      exact wpAny_execs_nil ⟨σ', H', J'.ofTry ok, q⟩
    | brk =>
      obtain ⟨σ', H', J', q⟩ := hsp
      exact ⟨σ', H', J'.ofTry ok, q⟩
    | cont =>
      obtain ⟨σ', H', J', q⟩ := hsp
      exact ⟨σ', H', J'.ofTry ok, q⟩
    | ret u =>
      obtain ⟨v, σ', H', J', r, q⟩ := hsp
      exact ⟨v, σ', H', J'.ofTry ok, r, q⟩
end
end PL

namespace PL
open PySem PySem.Spec PyProof.Rows L2

/-! ### try: .. except C as n: .. over data -/
/-- the ends behind a suite whose name (slot i) goes -/
def DEnds.gone (DD : DEnds) (i : Nat) : DEnds := { nx := fun ρ c => DD.nx (ρ.set i .no) c, rt := DD.rt, bk := fun ρ c => DD.bk (ρ.set i .no) c, ct := fun ρ c => DD.ct (ρ.set i .no) c }
def sTry (K : PySem.W.Frag) (cl : Addr) (i : Nat) (sb : (DEnv → EDt) → DS) (ss : DS) (ED : DEnv → EDt) : DS := fun DD ρ c =>
  sb (fun ρ1 C ns es c1 => ∃ b, PySem.W.exmOne K (.ref C) (.ref cl) = some b ∧ @Br b (ss (DD.gone i) (ρ1.set i (.fz (.exc C ns es))) c1) (ED ρ1 C ns es c1)) DD ρ c
section
variable {Y : Ctx} {k i : Nat} {x n : Str} {cl : Addr} {body suite : List Stmt} {b₀ : Stmt} {np pos pos' : Pos} {tb : (L2.St → XK) → TS} {ts : TS} {sb : (DEnv → EDt) → DS} {ss : DS}
theorem pds_try_keep (g : Y.Good k) (hN : Y.X.N.Nodup) (hc : Names Y.X x (.ref cl)) (hex : Y.X.ex = [])
    (hb : ∀ pn xe E2 ED2 lo, Ctx.Good ⟨Y.X.tr pn xe, Y.G0, Y.H0, Y.c0, E2, ED2, lo⟩ k → PDSs ⟨Y.X.tr pn xe, Y.G0, Y.H0, Y.c0, E2, ED2, lo⟩ body (tb E2) (sb ED2))
    (hsu : ∀ a pn lo, PDSs ⟨Y.X.suite a pn, Y.G0, Y.H0, Y.c0, fun _ => E0, fun _ _ _ _ _ => False, lo⟩ (b₀ :: suite) ts ss)
    (hi : Y.X.N[i]? = some n := by rfl) (hln : Y.X.env.kindOf n = some .local := by rfl) (hs : Y.X.stack = Y.X.env :: Y.X.outer := by rfl) (hf : Y.X.env.frame = some Y.X.env.locals := by rfl) :
    PDS Y (.Try body [.ExceptHandler (some (.Name x np)) (some n) (b₀ :: suite) pos'] [] [] pos)
      (fun D σ H => tb (fun σ1 cls d H1 => wKeep Y.X.K (.ref cl) i ts (fun cls d σ H => Y.E σ cls d H) D cls d σ1 H1) D σ H) (sTry Y.X.K cl i sb ss Y.ED) := by
  refine ⟨ps_try_keep (tb := fun W => tb fun σ cls d H => W cls d σ H) hs hf hex hN hi hln hc g.tk (fun W pn xe tk => (hb pn xe (fun σ cls d H => W cls d σ H) (fun _ _ _ _ _ => False) ⟨fun _ => none, fun _ => False⟩ ⟨tk, fun _ _ _ _ _ _ _ _ _ _ _ _ _ _ _ z => z.elim, g.room, g.calm⟩).p) (fun a pn => (hsu a pn ⟨fun _ => none, fun _ => False⟩).p), ?_⟩
  intro P G H c ρ σ DD EE K R q
  -- the lower end of the body's states: P and Y.lo, both below G
  refine (hb Y.X.pn (fun _ _ => True) _ _ G ⟨fun _ _ _ => trivial, ?_, g.room, g.calm⟩).s P G H c ρ σ DD EE ⟨?_, K.rt, ?_, ?_⟩ ⟨⟨R.r.ok, R.r.evo, R.r.len, R.r.sl, R.r.sep, GS.Le.refl _⟩, R.le⟩ q
  · intro ρ1 σ1 G1 H1 c1 R1 C ns es dx G2 H2 c2 ev re z
    obtain ⟨b, hb1, z⟩ := z
    have R1' : Rel Y G1 H1 c1 ρ1 σ1 := ⟨R1.ok, R1.evo, R1.len, R1.sl, R1.sep, R.r.lo.trans R1.lo⟩
    refine ⟨b, C, rfl, hb1, fun e a ha => ?_, fun e => ?_⟩
    · rw [e, ev_brT] at z
      have ev2 := Evo.laid ev.ok (exT C a dx) ha
      have R2 := R1'.evo' (ev.trans ev2)
      have rp : Rp Y.X.K { G2 with f := upd G2.f a (exT C a dx) } (.ref a) (.exc C ns es) := by
        rcases re with ⟨rfl, rfl, rfl⟩ | ⟨d, fs, rfl, hd, hn, hr⟩
        · exact .exc (fs := []) upd_same (.inl ⟨rfl, rfl⟩) rfl .nil
        · exact .exc upd_same (.inr ⟨d, rfl, ev2.le.f _ _ hd⟩) hn (hr.mono ev2.le)
      have R3 := R2.set_fz rp i
      refine (hsu a [] G).s P _ _ _ _ _ (DD.gone i) _ ⟨fun G' H' c' ρ' σ' R' w => ?_, K.rt, fun G' H' c' ρ' σ' R' w => ?_, fun G' H' c' ρ' σ' R' w => ?_⟩ ⟨⟨R3.ok, R3.evo, R3.len, R3.sl, R3.sep, R1.lo.trans (ev.le.trans ev2.le)⟩, R.le.trans (R1.lo.trans (ev.le.trans ev2.le))⟩ z
      · exact K.nx _ _ _ _ _ ⟨Rel.set_no (Y := Y) ⟨R'.r.ok, R'.r.evo, R'.r.len, R'.r.sl, R'.r.sep, R.r.lo.trans R'.r.lo⟩ i none, R'.le⟩ w
      · exact K.bk _ _ _ _ _ ⟨Rel.set_no (Y := Y) ⟨R'.r.ok, R'.r.evo, R'.r.len, R'.r.sl, R'.r.sep, R.r.lo.trans R'.r.lo⟩ i none, R'.le⟩ w
      · exact K.ct _ _ _ _ _ ⟨Rel.set_no (Y := Y) ⟨R'.r.ok, R'.r.evo, R'.r.len, R'.r.sl, R'.r.sep, R.r.lo.trans R'.r.lo⟩ i none, R'.le⟩ w
    · rw [e, ev_brF] at z
      exact g.err ρ1 σ1 G1 H1 c1 R1' C ns es dx G2 H2 c2 ev re z
  · exact fun G' H' c' ρ' σ' R' w => K.nx _ _ _ _ _ ⟨⟨R'.r.ok, R'.r.evo, R'.r.len, R'.r.sl, R'.r.sep, R.r.lo.trans R'.r.lo⟩, R'.le⟩ w
  · exact fun G' H' c' ρ' σ' R' w => K.bk _ _ _ _ _ ⟨⟨R'.r.ok, R'.r.evo, R'.r.len, R'.r.sl, R'.r.sep, R.r.lo.trans R'.r.lo⟩, R'.le⟩ w
  · exact fun G' H' c' ρ' σ' R' w => K.ct _ _ _ _ _ ⟨⟨R'.r.ok, R'.r.evo, R'.r.len, R'.r.sl, R'.r.sep, R.r.lo.trans R'.r.lo⟩, R'.le⟩ w
end
end PL

namespace PySem.W
open PySem PySem.Spec PySem.Calls PyProof.Rows
section
variable {prog : Program} {w : World} {A : Around} {E : Value → Shared → Prop} {s : Shared} {K : Frag} {x D : Addr} {ox : Obj} {od : Option Obj}
theorem find_dataD {C : Addr} {name : Str} {a g : Value} (hc : (clsIn K C).isSome = true) (ha : findIn K (.ref C) name = some (some a)) (hg : specialIn K a "__get__" = some (some g)) (ht : takesIn K a = some true) : findObj K C od name = some (.bind g a) := by
  obtain ⟨cd, hc⟩ := Option.isSome_iff_exists.mp hc
  unfold findObj
  rw [hc, Option.bind_some, ha, Option.bind_some]
  simp [hg, ht]
/-- x.__class__ of an exception that may have its dict -/
theorem class_excD {Q : Option Value → Shared → Prop} (T : L2.ExcC K D) (X : K.In s.heap) (I : InstAt s.heap x ox D od) (h : Q (some (.ref D)) { s with toks := s.toks + 1 }) : wpAny (model prog w) A (getAttr? (.ref x) "__class__") Q E s := by
  have hf : findObj K D od "__class__" = some (.bind (.builtin "getset_descriptor.__get__") (.builtin "object.__class__")) := find_dataD (by obtain ⟨cd, hc, _⟩ := any_some T.hd; rw [hc]; rfl) T.ha T.hn T.ht
  obtain ⟨hp, g, d, t, os⟩ := s
  have L0 := I.type (M := model prog w)
  have L1 := looks_findIn (M := model prog w) X T.hg
  have L2 := looks_findIn (M := model prog w) X T.hk
  have L3 := looks_find (M := model prog w) X I hf
  have sub : Looks (model prog w) hp (isInstance (.ref x) (.type "BaseException")) true := L0.andThen (looks_subIn X T.hs)
  have hx0 : (false && onTheHeap (Value.builtin "BaseException.__getattribute__")) = false := rfl
  have hx2 : (Value.builtin "BaseException.__getattribute__" == Value.builtin "object.__getattribute__") = false := by decide +kernel
  have hx1 : (onTheHeap (Value.ref D) && Value.builtin "BaseException.__getattribute__" == Value.builtin "object.__getattribute__") = false := by rw [hx2]; rfl
  unfold getAttr? getAttrBy? getAttrBy
  refine wpAny_bind (wpAny_mkText (wpAny_bind (wpAny_attempt (wpAny_holding (wpAny_bind (L0.at (wpAny_bind (L1.at ?_))))))))
  show wpAny _ _ (if (onTheHeap (Value.ref D) && Value.builtin "BaseException.__getattribute__" == Value.builtin "object.__getattribute__") = true then _ else _) _ _ _
  rw [hx1, if_neg Bool.false_ne_true]
  unfold getAttrByItsOwn hookBefore
  refine wpAny_bind ?_
  rw [if_pos (show onTheHeap (Value.ref D) = true from rfl)]
  refine L2.at ?_
  refine wpAny_bind (wpAny_attempt (wpAny_holding ?_))
  unfold callGetattribute
  rw [hx0, if_neg Bool.false_ne_true]
  unfold boundAndCalled
  rw [PySem.F.excAttr_ValueError.ga.bind (.ref x)]
  refine wpAny_bind (wpAny_pure ?_)
  show wpAny _ _ (call (.builtin "BaseException.__getattribute__") [.ref x, .str "__class__" t]) _ _ _
  refine wpAny_call (codeAny_call_builtin PySem.F.excAttr_ValueError.ga.plain PySem.F.entry_bexc_ga ?_)
  refine @check_slot (model prog w) _ _ ⟨hp, g, d, t + 1, os⟩ "BaseException.__getattribute__" "BaseException" "__getattribute__" (.ref x) [.str "__class__" t] [] _ (by decide +kernel) (by decide +kernel) sub (PySem.F.args_bexc_ga (.ref x) (.str "__class__" t)) ?_
  unfold Builtin.«object.__getattribute__»
  refine wpAny_bind (wpAny_of_eq (a := ((Value.ref x : Value), [Value.str "__class__" t])) (by first | rfl | (simp only [slotArgs]; rfl)) ?_)
  refine wpAny_bind (wpAny_pure (wpAny_bind (L0.at (wpAny_bind (L3.at ?_)))))
  show wpAny _ _ (holding [Value.builtin "object.__class__"] (call (.builtin "getset_descriptor.__get__") [.builtin "object.__class__", .ref x, .ref D]) >>= ret) _ _ _
  refine wpAny_bind (wpAny_holding (wpAny_call (class_get (s := ⟨hp, g, d, t + 1, os⟩) (ox := ox) (od := od) X I T.hm ?_)))
  refine wpAny_pure ?_
  show wpAny _ _ (handedOut (.ref D)) _ _ _
  rw [handedOut_of (v := .ref D) rfl]
  first
    | exact wpAny_pure (wpAny_pure h)
    | exact wpAny_pure h
    | exact wpAny_pure (wpAny_bind (wpAny_pure (wpAny_pure h)))
theorem kitx_excD (T : L2.ExcC K D) : KitX K (.ref x) (.ref D) (fun h => InstAt h x ox D od) where
  ty := fun _ _ _ I => I.type
  it := fun M h X _ => by
    obtain ⟨cdD, hcD, _⟩ := any_some T.hd
    unfold clsIn at hcD
    split at hcD
    · rename_i c1 d1 cd1 sl1 ho
      exact fun A1 Q1 E1 s1 k q => by
        unfold isType loadHead
        exact wpAny_bind (wpAny_loadPart (k _ _ (X _ _ ho)) (wpAny_pure q))
    · cases hcD
  ne := (handS_kitx_exc (x := x) (ox := ox) T.hg T.hk T.hs T.hd T.ha T.hn T.ht T.hm).ne
  ca := fun X I k => class_excD T X I k
end
end PySem.W
namespace PL
open PySem PySem.Spec PyProof.Rows L2
/-- the object of a caught exception -/
theorem inst_exT {P : Program} {w : World} {H : Hp} {h : Heap} {C a : Addr} {d : Option Addr} (hok : HOk P w H h) (e : H a = some (exT C a d)) (hd : d = none ∨ ∃ dd fs, d = some dd ∧ H dd = some (.xd fs)) :
    ∃ oe od, PySem.W.InstAt h a oe C od ∧ (d = none → od = none) := by
  obtain ⟨⟨oe, vs, e1, hc, hdi, hda⟩, _, _⟩ := (show ObjOk P w H h a (.ext _) from hok a _ e)
  rcases hd with rfl | ⟨dd, fs, rfl, ed⟩
  · exact ⟨oe, none, ⟨e1, hc, by unfold PySem.W.notCls; rw [hda] <;> rfl, by rw [hdi]; trivial⟩, fun _ => rfl⟩
  · obtain ⟨mA, hns, _⟩ := (show ObjOk P w H h dd (.xd fs) from hok dd _ ed)
    obtain ⟨od, ho, _⟩ := lookIn_ns hns
    exact ⟨oe, some od, ⟨e1, hc, by unfold PySem.W.notCls; rw [hda] <;> rfl, by rw [hdi]; exact ho⟩, fun z => nomatch z⟩
/-- what is known of a caught exception's dict -/
def DictX (H : Hp) (d : Option Addr) : Prop := d = none ∨ ∃ dd fs, d = some dd ∧ H dd = some (.xd fs)
/-- isinstance(x, C), C one class: x a caught exception -/
def rIsX (K : PySem.W.Frag) : List V → Hp → VK → Prop := fun xs H Q => ∃ (a C : Addr) (d : Option Addr) (c : V) (cv : Value) (b : Bool), xs = [.ref a, c] ∧ H a = some (exT C a d) ∧ DictX H d ∧ ExcC K C ∧ ClsV c cv ∧ PySem.W.kitOne K (.ref C) cv = some b ∧ Q (.bl b) H
def rIsO (K : PySem.W.Frag) : List V → Hp → VK → Prop := fun xs H Q => rIsi K xs H Q ∨ rIsX K xs H Q
theorem call_isO {X : Cx} : CallR X (.builtin "isinstance") (rIsO X.K) := by
  intro pins s σ H xs us Q I r h
  rcases h with h | ⟨a, C, d, c, cv, b, rfl, e1, e2, T, k, e, q⟩
  · exact call_isi pins s σ H xs us Q I r h
  · obtain ⟨u1, u2, rfl, r1, r2⟩ := vals2 r
    have ec := k.eq r2
    subst ec
    cases (show u1 = Value.ref a from r1)
    obtain ⟨oe, od, J, _⟩ := inst_exT I.hok e1 e2
    exact PySem.W.kia_one (PySem.W.kitx_excD T) I.kIn J e (fun z => nomatch z) fun tk => ⟨.bl b, H, I.tok tk, rfl, q⟩
/-- the answer to isinstance(x, C) for an own class C -/
def typD (K : PySem.W.Frag) (IC : Addr → Prop) : D → Value → Prop
  | .exc C _ _, t => ExcC K C ∧ t = .ref C
  | .ins C _ _, t => IC C ∧ t = .ref C
  | d, t => ∃ k, kind d = some k ∧ t = .type k
def aIsO (K : PySem.W.Frag) (IC : Addr → Prop) (ds : List D) (c : Nat) (Q : QD) : Prop := match ds with
  | [x, .cls C] => ∃ t b, typD K IC x t ∧ PySem.W.kitOne K t (.ref C) = some b ∧ Q (.bl b) c
  | _ => False
theorem br_isO {K : PySem.W.Frag} {IC : Addr → Prop} (hI : ∀ C, IC C → ICls K C) : BrN K (rIsO K) (aIsO K IC) := fun G H c xs ds Qd Q ok r q k => by
  unfold aIsO at q
  split at q
  · obtain ⟨t, b, ht, hk, q⟩ := q
    rename_i x C
    cases r with
    | cons r rr =>
      cases rr with
      | cons r2 rr =>
        cases rr
        cases r2
        have fin := k _ _ G H c (Evo.refl ok) (.bl b) q
        have base : ∀ kk, kind x = some kk → t = .type kk → rIsO K [_, .ref C] H Q := fun kk e1 e2 => by
          subst e2
          exact .inl ⟨_, _, _, .ref C, b, rfl, .own C, tyX_of ok r e1, hk, fin⟩
        cases x with
        | exc C2 ns es =>
          obtain ⟨T, rfl⟩ := ht
          cases r with
          | exc h1 h2 h3 h4 =>
            exact .inr ⟨_, _, _, _, .ref C, b, rfl, ok.same _ _ h1, h2.imp (fun z => z.1) (fun ⟨d, z1, z2⟩ => ⟨d, _, z1, ok.same _ _ z2⟩), T, .own C, hk, fin⟩
        | ins C2 ns es =>
          obtain ⟨h, rfl⟩ := ht
          have I := hI C2 h
          cases r with
          | ins h1 h2 h3 => exact .inl ⟨_, _, _, .ref C, b, rfl, .own C, .base (.ins (ok.same _ _ h1) I.cl I.ha I.hn I.ht I.hm), hk, fin⟩
        | non => obtain ⟨kk, e1, e2⟩ := ht; exact base kk e1 e2
        | bl _ => obtain ⟨kk, e1, e2⟩ := ht; exact base kk e1 e2
        | int _ => obtain ⟨kk, e1, e2⟩ := ht; exact base kk e1 e2
        | str _ => obtain ⟨kk, e1, e2⟩ := ht; exact base kk e1 e2
        | ty _ => obtain ⟨kk, e1, e2⟩ := ht; exact base kk e1 e2
        | cls _ => obtain ⟨kk, e1, e2⟩ := ht; exact base kk e1 e2
        | tup _ => obtain ⟨kk, e1, e2⟩ := ht; exact base kk e1 e2
        | lst _ => obtain ⟨kk, e1, e2⟩ := ht; exact base kk e1 e2
        | dct _ _ => obtain ⟨kk, e1, e2⟩ := ht; exact base kk e1 e2
        | opq => obtain ⟨kk, e1, e2⟩ := ht; exact base kk e1 e2
        | scr _ => obtain ⟨kk, e1, e2⟩ := ht; exact base kk e1 e2
  · exact q.elim
/-! ### a field of a caught exception -/
def tFldX (K : PySem.W.Frag) (f : Str) (te : TE) : TE := fun σ H Q => te σ H fun x H1 => ∃ (a C : Addr) (dd : Addr) (fs : List (Str × V)) (v : V), x = .ref a ∧ H1 a = some (exT C a (some dd)) ∧ XfC K C ∧ PySem.W.findIn K (.ref C) f = some none ∧ H1 dd = some (.xd fs) ∧ fs.lookup f = some v ∧ Q v H1
theorem pe_fldX {X : Cx} {e : Expr} {te : TE} {pos : Pos} {n : Str} (he : PE X e te) (hb : attributeBase e n X.env (eval e X.env) = eval e X.env) : PE X (.Attribute e n pos) (tFldX X.K n te) := by
  refine ⟨fun pins s σ H Q I h => attr_of hb (thn (he.run pins s σ H _ I h) fun u s1 hh => ?_)⟩
  obtain ⟨x, H1, I1, rx, a, C, dd, fs, v, rfl, ea, T, hno, ed, l, q⟩ := hh
  obtain rfl : u = Value.ref a := rx
  obtain ⟨⟨oe, vs, e1, hc, hdi, hda⟩, _, _⟩ := (show ObjOk X.prog X.w H1 s1.heap a (.ext _) from I1.hok a _ ea)
  obtain ⟨mA, hns, hr⟩ := (show ObjOk X.prog X.w H1 s1.heap dd (.xd fs) from I1.hok dd _ ed)
  obtain ⟨od, ho, hl⟩ := lookIn_ns hns
  obtain ⟨u, hu, ru⟩ := RelO.some_of (v := v) (o := mA n) (by rw [← l]; exact hr n)
  have J : PySem.W.InstAt s1.heap a oe C (some od) := ⟨e1, hc, by unfold PySem.W.notCls; rw [hda] <;> rfl, by rw [hdi]; exact ho⟩
  exact HandSPX.exc_get I1.kIn J T.ga T.gg T.exC (PySem.W.findObj_own T.hdC hno rfl (by rw [hl, hu])) (handed_of ru) ⟨v, H1, I1.tok _, ru, q⟩
/-- the value that stands by a name -/
def fldD (f : Str) : List Str → List D → Option D
  | n :: ns, d :: ds => if f = n then some d else fldD f ns ds
  | _, _ => none
theorem fldD_rp {K : PySem.W.Frag} {G : GS} {f : Str} : ∀ {fs : List (Str × V)} {ns : List Str} {ds : List D} {d : D}, fs.map (·.1) = ns → RpAll K G (fs.map (·.2)) ds → fldD f ns ds = some d → ∃ v, fs.lookup f = some v ∧ Rp K G v d
  | [], ns, ds, d, h, r, e => by subst h; simp [fldD] at e
  | (n, v) :: fs, ns, ds, d, h, r, e => by
    subst h
    cases r with
    | cons r1 r2 =>
      rename_i d1 ds1
      simp only [List.map_cons, fldD] at e
      by_cases hn : f = n
      · rw [if_pos hn] at e
        cases e
        exact ⟨v, by rw [List.lookup_cons, hn]; simp, r1⟩
      · rw [if_neg hn] at e
        obtain ⟨u, h1, h2⟩ := fldD_rp rfl r2 e
        refine ⟨u, ?_, h2⟩
        rw [List.lookup_cons, beq_eq_false_iff_ne.mpr hn]
        exact h1
def dFldX (K : PySem.W.Frag) (f : Str) (t : DE) : DE := fun ρ c Q => t ρ c fun x c1 => ∃ C ns es d, x = .exc C ns es ∧ XfC K C ∧ PySem.W.findIn K (.ref C) f = some none ∧ fldD f ns es = some d ∧ Q d c1
theorem pd_fldX {Y : Ctx} {e : Expr} {te : TE} {t : DE} {pos : Pos} {n : Str} (he : PD Y e te t) (hb : attributeBase e n Y.X.env (eval e Y.X.env) = eval e Y.X.env := by rfl) : PD Y (.Attribute e n pos) (tFldX Y.X.K n te) (dFldX Y.X.K n t) :=
  ⟨pe_fldX he.p hb, fun G H c ρ σ Qd Q R q k => he.s G H c ρ σ _ _ R q fun x v G1 H1 c1 ev r q => by
    obtain ⟨C, ns, es, d, rfl, T, hno, hf, q⟩ := q
    cases r with
    | exc h1 h2 h3 h4 =>
      obtain ⟨u, hl, ru⟩ := fldD_rp h3 h4 hf
      rcases h2 with ⟨rfl, rfl⟩ | ⟨dd, rfl, ed⟩
      · cases hl
      · exact ⟨_, _, dd, _, u, rfl, ev.ok.same _ _ h1, T, hno, ev.ok.same _ _ ed, hl, k d u G1 H1 c1 ev ru q⟩⟩
end PL

namespace PL
open PySem PySem.Spec PyProof.Rows L2

/-! ### own exceptions of one field: made and raised -/
/-- __init__(self, p): self.f = p -/
def spXI (K : PySem.W.Frag) (f : Str) : Sp := fun vs H Q _ => ∃ (a C : Addr) (y : V), vs = [.ref a, y] ∧ OexC K C ∧ PySem.W.findIn K (.ref C) f = some none ∧ H a = some (exo a C none) ∧
  ∀ d, H d = none → d ≠ a → Q .non (upd (upd H d (exd d [(f, y)])) a (exo a C (some d)))
section
variable {P : Program} {w : World} {K : PySem.W.Frag} {mg : Str → Option Value} {base : Heap} {x qual p f : Str} {params : Arguments} {body : List Stmt} {scope : Scope} {dvs : List V} {kws : List (Str × V)} {fI : Addr} {fd : FuncData} {CX : CXT}
theorem okXI (F : FunD K x qual params body scope dvs kws fI fd) (S : FnScope ["self", p] ["self", p] scope)
    (hb : ∀ cdv A outer s H E, PSs (cxOf CX P w K mg base ["self", p] qual scope fI cdv A outer s H E) body (tOst K f (tVar 0) (tVar 1))) : FnOk P w K mg base CX 1 fI fd ["self", p] (spXI K f) := by
  refine F.ok S (fun vs H Q E h => ?_) fun cdv A outer s H vs Q E hr h => ?_
  · obtain ⟨a, C, y, rfl, _⟩ := h; rfl
  · obtain ⟨a, C, y, rfl, T, hno, e, k⟩ := h
    exact ⟨_, hb cdv A outer s H E, y, rfl, .ref a, rfl, a, C, rfl, T, hno, .inl ⟨e, fun d n ne => k d n ne⟩⟩
end
section
variable {Y : Ctx} {k : Nat} {C fI : Addr} {fd : FuncData} {x p f : Str} {e : Expr} {ta : TA} {t : DA} {p0 pc pos : Pos}
/-- raise C(e): one field, named f -/
def sRaise1 (C : Addr) (f : Str) (ED : DEnv → EDt) (t : DA) : DS := fun _ ρ c => t ρ c fun ds c1 => ∃ d, ds = [d] ∧ ED ρ C [f] [d] c1
theorem pds_raise1 (g : Y.Good k) (h2 : 2 ≤ k) (T : OexC Y.X.K C) (hno : PySem.W.findIn Y.X.K (.ref C) f = some none) (iC : PySem.W.findIn Y.X.K (.ref C) "__init__" = some (some (.ref fI))) (tI : PySem.W.typeIn Y.X.K (.ref fI) = some (.type "function"))
    (F : FnOk Y.X.prog Y.X.w Y.X.K Y.X.mg Y.X.base (L2.CX Y.X.prog Y.X.w) 1 fI fd ["self", p] (spXI Y.X.K f)) (hb : Binds Y.X.K fd ["self", p] []) (hm : Y.X.mg x = some (.ref C)) (ha : PDA Y [e] ta t)
    (hg : Gl Y.X x := by rfl) (hdb : (x == ("__debug__" : Str)) = false := by decide) (he : starEach [e] Y.X.env = (false, eval e Y.X.env) :: starEach [] Y.X.env := by rfl) (hpl : (backTo pc (starEach [] Y.X.env)).any (·.1) = false := by rfl) :
    PDS Y (.Raise (some (.Call (.Name x p0) [e] [] pc)) none pos) (fun _ σ H => tMkO C (spXI Y.X.K f) [] ta σ H fun cls d H' => Y.E σ cls d H') (sRaise1 C f Y.ED t) := by
  refine ⟨ps_raise g.calm g.tk (pmk_oex T iC tI F (g.room.mono h2) hb .nil (fun _ _ _ _ _ _ _ ⟨_, _, _, _, _, _, _, _, _, _, _, _, z⟩ => z.elim) hg hm ha.p hdb he hpl), ?_⟩
  intro P G H c ρ σ DD EE K R q
  refine ha.s G H c ρ σ _ _ R.r q fun ds vs G1 H1 c1 ev rr q => ?_
  obtain ⟨d, rfl, q⟩ := q
  cases rr with
  | cons r1 rr =>
    rename_i v _
    cases rr
    refine ⟨by simp, fun a na => ⟨a, C, v, rfl, T, hno, upd_same, fun dx nd ne => ⟨rfl, dx, [(f, v)], upd_same, ?_, ?_, ?_⟩⟩⟩
    · rw [upd_ne ne, upd_same]
    · rw [upd_ne ne] at nd
      exact nd
    · rw [upd_ne ne] at nd
      have eH : upd (L2.del (upd (upd (upd H1 a (exo a C none)) dx (exd dx [(f, v)])) a (exo a C (some dx))) a) dx (.xd [(f, v)]) = upd H1 dx (.xd [(f, v)]) := by
        funext b
        by_cases h1 : b = dx
        · rw [h1, upd_same, upd_same]
        · rw [upd_ne h1, upd_ne h1]
          by_cases h3 : b = a
          · rw [h3, del_same, na]
          · rw [del_ne h3, upd_ne h3, upd_ne h1, upd_ne h3]
      rw [eH]
      have ev2 := Evo.laid ev.ok (.xd [(f, v)]) nd
      exact g.err ρ σ G1 H1 c1 (R.r.evo' ev) C [f] [d] (some dx) _ _ c1 ev2 (.inr ⟨dx, [(f, v)], rfl, upd_same, rfl, .cons (r1.mono ev2.le) .nil⟩) q
end
end PL

namespace PL
open PySem PySem.Spec PyProof.Rows L2

/-! ### lists of the frame's own: made, appended to -/
section
variable {Y : Ctx} {P G : GS} {H : Hp} {c : Nat} {ρ : DEnv} {σ : L2.St}
theorem Rel.entry_none {a : Addr} (R : Rel Y G H c ρ σ) (h : H a = none) : Y.H0 a = none := by
  cases q : Y.H0 a with
  | none => rfl
  | some u =>
    by_cases hp : Y.G0.pu a
    · obtain ⟨o, e⟩ := R.evo.pus a hp
      rw [h] at e; cases e
    · have e := R.evo.keep a u q hp
      rw [h] at e; cases e
/-- a new list, the frame's own, in slot i -/
theorem Rel.set_new {a : Addr} {xs : List V} {ds : List D} (R : Rel Y G H c ρ σ) (h : H a = none) (r : RpAll Y.X.K G xs ds) (i : Nat) : Rel Y G (upd H a (.lst xs)) c (ρ.set i (.ol ds)) (σ.set i (some (.ref a))) := by
  refine (R.evo' (Evo.laidU R.ok (.lst xs) h)).set_sl ⟨a, xs, rfl, R.ok.fnone h, R.ok.punone h, R.entry_none h, upd_same, r⟩ fun _ j _ ⟨t, e, q⟩ z => ?_
  obtain ⟨o, e1, r1⟩ := R.sl j t e
  rw [z] at e1
  cases e1
  cases t with
  | no => cases q
  | fz d => cases q
  | ol ds =>
    obtain ⟨b, ys, eb, g1, g2, g3, g4, g5⟩ := r1
    cases eb
    rw [h] at g4; cases g4
end
section
variable {Y : Ctx} {es : List Expr} {e : Expr} {fa : TA} {t : DA} {x : Str} {p pos pos' apos cpos : Pos}
def sNewL (i : Nat) (t : DA) : DS := fun DD ρ c => t ρ c fun ds c1 => ds.length ≤ sizeLine ∧ DD.nx (ρ.set i (.ol ds)) c1
theorem pds_newL (i : Nat) (hN : Y.X.N.Nodup) (ha : PDA Y es fa t) (hi : Y.X.N[i]? = some x := by rfl) (hx : Loc Y.X.env.scope x := by first | exact Or.inl rfl | exact Or.inr rfl) (hs : swapsWith (.List es pos) (some (.Name x pos')) p.line Y.X.env = pure false := by rfl)
    (hf : Y.X.fn x = true ∨ Y.X.env.scope.names.lookup x = some .local := by first | exact .inl rfl | exact .inr rfl) : PDS Y (.Assign [.Name x pos'] (.List es pos) p) (tAsg (tLst fa) (gName i)) (sNewL i t) :=
  ⟨ps_set hN hi hx (pe_lst ha.p) hs hf, fun P G H c ρ σ DD EE K R q => ha.s G H c ρ σ _ _ R.r q fun ds vs G1 H1 c1 ev rr ⟨hl, q⟩ => ⟨by rw [rr.length]; exact hl, fun a na =>
    K.nx G1 _ c1 _ _ ⟨(R.r.evo' ev).set_new na rr i, R.le.trans ev.le⟩ q⟩⟩
def sAppend (i : Nat) (t : DA) : DS := fun DD ρ c => ∃ l, ρ[i]? = some (.ol l) ∧ l.length < sizeLine ∧ t ρ c fun ds c1 => ∃ d, ds = [d] ∧ DD.nx (ρ.set i (.ol (l ++ [d]))) c1
theorem pds_append (i : Nat) (hp : PE Y.X (.Name x p) (tVar i)) (ha : PDA Y [e] fa t)
    (hfew : ((backTo cpos (starEach [e] Y.X.env)).all (fun x => !x.1) && (backToKw cpos (keywordEach [] Y.X.env)).all (fun x => x.1.isSome)
      && decide ([e].length + ([] : List Keyword).length + (if ([] : List Keyword).isEmpty then 0 else 1) < 30)) = true := by rfl)
    (hline : (apos.endLine == cpos.line) = true := by rfl) (hs : starEach [e] Y.X.env = (false, eval e Y.X.env) :: starEach [] Y.X.env := by rfl) (hplain : (backTo cpos (starEach [] Y.X.env)).any (·.1) = false := by rfl)
    (hbase : attributeBase (.Name x p) "append" Y.X.env (eval (.Name x p) Y.X.env) = eval (.Name x p) Y.X.env := by rfl) (hsw : swapsWith (.Call (.Attribute (.Name x p) "append" apos) [e] [] cpos) none pos.line Y.X.env = pure false := by rfl) :
    PDS Y (.Expr (.Call (.Attribute (.Name x p) "append" apos) [e] [] cpos) pos) (tDrop (tBM Y.X.K "list" rAppend (tVar i) fa)) (sAppend i t) := by
  refine ⟨ps_expr (pe_bm PySem.F.plainAttrs_list PySem.F.slot_list_append PySem.F.type_list_append mt_append hp ha.p hbase hfew hline hs hplain) hsw, ?_⟩
  intro P G H c ρ σ DD EE K R q
  obtain ⟨l, hi, hl, q⟩ := q
  obtain ⟨o, e1, a, xs, rfl, h1, h2, h3, h4, h5⟩ := R.r.sl i _ hi
  refine ⟨.ref a, e1, .inl ⟨rfl, _, SqL.of h4⟩, ?_⟩
  refine ha.s G H c ρ σ _ _ R.r q fun ds vs G1 H1 c1 ev rr ⟨d, ed, q⟩ => ?_
  subst ed
  cases rr with
  | cons r1 rr =>
    cases rr
    have R1 := R.r.evo' ev
    have h4' : H1 a = some (.lst xs) := ev.keep a _ h4 h2
    refine ⟨a, xs, _, rfl, rfl, h4', by rw [h5.length]; exact hl, K.nx G1 _ c1 _ _ ⟨R1.put hi e1 ((h5.mono ev.le).append (.cons r1 .nil)), R.le.trans ev.le⟩ q⟩
end
end PL

namespace PL
open PySem PySem.Spec PyProof.Rows L2

/-! ### own exception classes of one field: what the top has left of them -/
def oexB (K : PySem.W.Frag) (C : Addr) : Bool := match K.lookup C with
  | some ⟨.type "type", _, .cls cd, sl⟩ => (match cd.mro, sl.toList with
    | .ref C2 :: bm, [_, _, _, _, some (.builtin n), _] => C2 == C && n == "ValueError.__new__" && !cd.hasDel && cd.hasDict && PySem.HandSPX.refsVE bm
    | _, _ => false)
  | _ => false
theorem oexB_ok {K : PySem.W.Frag} {C : Addr} (q : oexB K C = true) : ∃ nm q N bs bm sn sub ab col dd k0 k1 k2 k3 k5, K.lookup C = some (excClassObj nm q C N bs bm true sn sub ab col dd k0 k1 k2 k3 k5 "ValueError.__new__") ∧ PySem.HandSPX.refsVE bm = true := by
  unfold oexB at q
  split at q
  · rename_i dd cd sl ho
    split at q
    · rename_i C2 bm k0 k1 k2 k3 n k5 hm hs
      simp only [Bool.and_eq_true, beq_iff_eq, Bool.not_eq_true'] at q
      obtain ⟨⟨⟨⟨rfl, rfl⟩, hdel⟩, hdi⟩, ht⟩ := q
      obtain ⟨nm, bs, mro, ns, qn, hd, sn, sub, ab, col, del⟩ := cd
      dsimp only at hm hdel hdi
      subst hm hdel hdi
      have hsl : sl = #[k0, k1, k2, k3, some (.builtin "ValueError.__new__"), k5] := by
        obtain ⟨l⟩ := sl
        simp only at hs
        rw [hs]
      subst hsl
      exact ⟨nm, qn, ns, bs, bm, sn, sub, ab, col, dd, k0, k1, k2, k3, k5, ho, ht⟩
    · cases q
  · cases q
/-- the facts of the class at C, its one field f, its __init__ at fI -/
structure XCls (K : PySem.W.Frag) (mg : Str → Option Value) (x f : Str) (C fI : Addr) : Prop where
  m : mg x = some (.ref C)
  o : OexC K C
  xc : ExcC K C
  xf : XfC K C
  no : PySem.W.findIn K (.ref C) f = some none
  iC : PySem.W.findIn K (.ref C) "__init__" = some (some (.ref fI))
  tI : PySem.W.typeIn K (.ref fI) = some (.type "function")
/-- any exception class: what isinstance asks -/
def xcB (K : PySem.W.Frag) (C : Addr) : Bool :=
  He.eqO (PySem.W.findIn K (.ref C) "__getattribute__") (some (some (.builtin "BaseException.__getattribute__"))) && He.eqO (PySem.W.findIn K (.ref C) "__getattr__") (some none) && decide (PySem.W.subIn K (.ref C) (.type "BaseException") = some true) && PySem.W.hasDictIn K C &&
    He.eqO (PySem.W.findIn K (.ref C) "__class__") (some (some (.builtin "object.__class__"))) && decide (PySem.W.specialIn K (.builtin "object.__class__") "__get__" = some (some (.builtin "getset_descriptor.__get__"))) && decide (PySem.W.takesIn K (.builtin "object.__class__") = some true) &&
    decide (PySem.W.mroIn K C (.type "object") = some true)
theorem xcB_ok {K : PySem.W.Frag} {C : Addr} (h : xcB K C = true) : ExcC K C := by
  simp only [xcB, Bool.and_eq_true, decide_eq_true_eq] at h
  obtain ⟨⟨⟨⟨⟨⟨⟨h1, h2⟩, h3⟩, h4⟩, h5⟩, h6⟩, h7⟩, h8⟩ := h
  exact ⟨He.eqO_ok h1, He.eqO_ok h2, h3, h4, He.eqO_ok h5, h6, h7, h8⟩
def xclsB (K : PySem.W.Frag) (f : Str) (C fI : Addr) : Bool :=
  oexB K C && He.eqO (PySem.W.findIn K (.ref C) "__setattr__") (some (some (.builtin "object.__setattr__"))) && decide (PySem.W.typeIn K (.ref C) = some (.type "type")) && PySem.W.keepIn K (.ref C) && xcB K C &&
    He.eqO (PySem.W.findIn K (.ref C) f) (some none) && He.eqO (PySem.W.findIn K (.ref C) "__init__") (some (some (.ref fI))) && decide (PySem.W.typeIn K (.ref fI) = some (.type "function"))
theorem xclsB_ok {K : PySem.W.Frag} {mg : Str → Option Value} {x f : Str} {C fI : Addr} (m : mg x = some (.ref C)) (h : xclsB K f C fI = true) : XCls K mg x f C fI := by
  simp only [xclsB, Bool.and_eq_true, decide_eq_true_eq] at h
  obtain ⟨⟨⟨⟨⟨⟨⟨h1, h2⟩, h3⟩, h4⟩, h5⟩, h6⟩, h7⟩, h8⟩ := h
  have e := xcB_ok h5
  exact ⟨m, ⟨oexB_ok h1, He.eqO_ok h2, e.hs, h3, h4⟩, e, ⟨e.hg, e.hk, e.hs, e.hd⟩, He.eqO_ok h6, He.eqO_ok h7, h8⟩
/-! ### a head with one more look at the written part -/
def hookE (n : Nat) (fa : List He.Fa) (fn : List He.DefD) (ex : PySem.W.Frag → Bool) : PySem.W.Hook where
  α := He.AlD × Bool
  obs := fun s => (He.obsDG n fa fn s.heap.get?, ex (He.frG s.heap.get? (He.asD s.heap.get? n)))
  val := fun _ => (He.valD fn, true)
  says := fun _ h => ∃ K : PySem.W.Frag, K.In h ∧ He.SaysD fa fn K ∧ ex K = true
  of := fun _ _ e => ⟨_, He.frG_in, congrArg Prod.fst e, congrArg Prod.snd e⟩
  keeps := fun _ _ _ ⟨K, hK, c, d⟩ k => ⟨K, PySem.W.Frag.In.keeps hK k, c, d⟩
theorem hookE_eq {n : Nat} {fa : List He.Fa} {fn : List He.DefD} {ex : PySem.W.Frag → Bool} {g : Addr → Option Obj} {s : Shared} (h : ∀ a, g a = s.heap.get? a) : ((He.obsDG n fa fn g, ex (He.frG g (He.asD g n))) : He.AlD × Bool) = (hookE n fa fn ex).obs s := by
  have e : g = s.heap.get? := funext h
  rw [e] <;> rfl
/-! ### evaluated -/
section
variable {K : PySem.W.Frag} {IC : Addr → Prop} {i : Nat} {ρ : DEnv} {c : Nat} {Q : QD} {DD : DEnds} {t : DA} {te : DE} {x : D} {C cl : Addr} {f : Str} {ns : List Str} {es l : List D} {ED : DEnv → EDt} {sb : (DEnv → EDt) → DS} {ss : DS}
theorem ev_newL : sNewL i t DD ρ c = t ρ c fun ds c1 => ds.length ≤ 16777216 ∧ @Nx DD.nx (ρ.set i (.ol ds)) c1 := by rw [← sizeLine_eq]; rfl
theorem ev_raise1 : sRaise1 C f ED t DD ρ c = t ρ c fun ds c1 => ∃ d, ds = [d] ∧ ED ρ C [f] [d] c1 := propext Iff.rfl
theorem ev_try : sTry K cl i sb ss ED DD ρ c = sb (fun ρ1 C ns es c1 => ∃ b, PySem.W.exmOne K (.ref C) (.ref cl) = some b ∧ @Br b (ss (DD.gone i) (ρ1.set i (.fz (.exc C ns es))) c1) (ED ρ1 C ns es c1)) DD ρ c := propext Iff.rfl
theorem ev_fldX : dFldX K f te ρ c Q = te ρ c fun x c1 => ∃ C ns es d, x = .exc C ns es ∧ XfC K C ∧ PySem.W.findIn K (.ref C) f = some none ∧ fldD f ns es = some d ∧ Q d c1 := propext Iff.rfl
theorem ev_isO : aIsO K IC [x, .cls C] c Q = ∃ t b, typD K IC x t ∧ PySem.W.kitOne K t (.ref C) = some b ∧ Q (.bl b) c := propext Iff.rfl
end
end PL

namespace PL
open PySem PySem.Spec PyProof.Rows L2

/-! ### keyword-only parameters with defaults, no other defaults -/
section
variable {K : PySem.W.Frag} {mg : Str → Option Value} {x qual : Str} {params : Arguments} {body : List Stmt} {scope : Scope} {kws : List (Str × V)} {f : Addr} {fd : FuncData} {ps : List Str} {st : Stmt}
theorem kbinds0 (F : FunD K x qual params body scope [] kws f fd) (n : Nat) (ks : List Str) (ms : List (Str × V)) (g : {α : Type} → List α → List α → List α → List α) (hk : kws ≠ []) (hms : ∀ q ∈ ms, q ∈ kws)
    (hrel : ∀ {vs mz zs : List V} {us mv ws : List Value}, Vals vs us → Vals mz mv → Vals zs ws → Vals (g vs mz zs) (g us mv ws))
    (h : ∀ (D : Addr) (doc pm : Value) (an : Option Addr) (cdv ct : Value) (us mv ws : List Value), us.length = n → mv.length = ms.length → ws.length = ks.length →
      KwChain D ((ms.map (·.1)).zip mv) (bindArgs (PySem.W.fnOf x qual params body scope .none (.ref D) doc pm an cdv ct) ⟨us, ks.zip ws⟩) (ps.zip (g us mv ws))) :
    ∃ mv : List Value, KBn K fd ps n ks (fun us ws => g us mv ws) (fun vs zs => g vs (ms.map (·.2)) zs) := by
  obtain ⟨oc, od, dV, kV, doc, pm, an, cdv, ct, osl, rfl, lk, hcd, hD, hK⟩ := F.ex
  rcases hD with ⟨_, rfl⟩ | ⟨e, _⟩
  · rcases hK with e | ⟨D, rfl, hq⟩
    · exact absurd e hk
    · obtain ⟨mv, hl, rk, hks⟩ := kwd_vals (ms := ms) fun q hm => hq q (hms q hm)
      exact ⟨mv, ⟨fun s us ws X l1 l2 => BindsTo.of_looks fun M => KwChain.looks X hks (h D doc pm an cdv ct us mv ws l1 hl l2), fun r1 r2 => hrel r1 rk r2⟩⟩
  · exact absurd rfl e
theorem Df.calK0 (Dd : Df K mg x st [] kws f fd) (n : Nat) (ks : List Str) (ms : List (Str × V)) (md : List D) (hmd : ∀ G, RpAll K G (ms.map (·.2)) md) (g : {α : Type} → List α → List α → List α → List α) (hk : kws ≠ []) (hms : ∀ q ∈ ms, q ∈ kws)
    (hrel : ∀ {α β : Type} {R : α → β → Prop} {vs mz zs : List α} {us mv ws : List β}, Paired R vs us → Paired R mz mv → Paired R zs ws → Paired R (g vs mz zs) (g us mv ws))
    (hp : ∀ {G : GS} {vs mz zs : List V} {ds me es : List D}, RpAll K G vs ds → RpAll K G mz me → RpAll K G zs es → RpAll K G (g vs mz zs) (g ds me es))
    (h : ∀ (D : Addr) (doc pm : Value) (an : Option Addr) (cdv ct : Value) (us mv ws : List Value), us.length = n → mv.length = ms.length → ws.length = ks.length →
      KwChain D ((ms.map (·.1)).zip mv) (bindArgs (PySem.W.fnOf x x (defArgs st) (defBody st) (defScope st) .none (.ref D) doc pm an cdv ct) ⟨us, ks.zip ws⟩) (ps.zip (g us mv ws))) :
    CalK K mg x f fd ps n ks (fun vs zs => g vs (ms.map (·.2)) zs) (fun ds es => g ds md es) := by
  obtain ⟨mv, hb⟩ := kbinds0 Dd.F n ks ms g hk hms (fun r1 r2 r3 => hrel r1 r2 r3) h
  exact ⟨Dd.m, Dd.F.kp, ⟨_, hb⟩, fun G vs ds zs es r1 r2 => hp r1 (hmd G) r2⟩
end
end PL

namespace PL
open PySem PySem.Spec PyProof.Rows L2

/-! ### sum of a list of ints, x.bit_length() -/
/-- the ints of a list of ints -/
def intsD : List D → Option (List Int)
  | [] => some []
  | .int i :: l => (intsD l).map (i :: ·)
  | _ => none
theorem intsD_rp {K : PySem.W.Frag} {G : GS} : ∀ {l : List D} {ns : List Int} {xs : List V}, intsD l = some ns → RpAll K G xs l → xs = ns.map V.int
  | [], ns, xs, e, r => by unfold intsD at e; cases e; cases r; rfl
  | .int i :: l, ns, xs, e, r => by
    unfold intsD at e
    cases e2 : intsD l with
    | none => rw [e2] at e; cases e
    | some ms =>
      rw [e2] at e
      cases e
      cases r with
      | cons r1 r2 =>
        cases r1
        rw [intsD_rp e2 r2]
        rfl
theorem intsD_map (ns : List Int) : intsD (ns.map .int) = some ns := by
  induction ns with
  | nil => rfl
  | cons n ns ih => rw [List.map_cons, intsD, ih]; rfl
def aSum (ds : List D) (c : Nat) (Q : QD) : Prop := match ds with
  | [.lst l] => ∃ ns, intsD l = some ns ∧ Q (.int ns.sum) c
  | _ => False
theorem br_sumA {K : PySem.W.Frag} : BrN K (rSum K) aSum := fun G H c xs ds Qd Q ok r q k => by
  unfold aSum at q
  split at q
  · obtain ⟨ns, e, q⟩ := q
    cases r with
    | cons r rr =>
      cases rr
      cases r with
      | @lst a xs _ h1 h2 => exact ⟨a, ns, rfl, by rw [← intsD_rp e h2]; exact ok.sq h1, k _ _ G H c (Evo.refl ok) (.int _) q⟩
  · exact q.elim
section
variable {Y : Ctx} {e : Expr} {te : TE} {t : DE} {apos pos : Pos}
def dBits (t : DE) : DE := fun ρ c Q => t ρ c fun x c1 => ∃ i, x = .int i ∧ Q (.int (Builtin.Int.intBits i : Nat)) c1
theorem pd_bits (he : PD Y e te t) (hbase : attributeBase e "bit_length" Y.X.env (eval e Y.X.env) = eval e Y.X.env := by rfl) (hline : (apos.endLine == pos.line) = true := by rfl) : PD Y (.Call (.Attribute e "bit_length" apos) [] [] pos) (tBits te) (dBits t) :=
  ⟨pe_bits he.p hbase hline, fun G H c ρ σ Qd Q R q k => he.s G H c ρ σ _ _ R q fun x v G1 H1 c1 ev r ⟨i, ex, q⟩ => by
    subst ex
    cases r
    exact ⟨i, rfl, k _ _ G1 H1 c1 ev (.int _) q⟩⟩
theorem ev_bits {ρ : DEnv} {c : Nat} {Q : QD} {t : DE} : dBits t ρ c Q = t ρ c fun x c1 => ∃ i, x = .int i ∧ Q (.int (Builtin.Int.intBits i : Nat)) c1 := propext Iff.rfl
end
end PL

namespace PL
open PySem PySem.Spec PyProof.Rows L2

/-! ### values put into the parameters' order -/
def pickL {α : Type} (idx : List Nat) (l : List α) : List α := idx.filterMap (l[·]?)
theorem paired_app {α β : Type} {R : α → β → Prop} : ∀ {l l2 : List α} {m m2 : List β}, Paired R l m → Paired R l2 m2 → Paired R (l ++ l2) (m ++ m2)
  | _, _, _, _, .nil, h => h
  | _, _, _, _, .cons r t, h => .cons r (paired_app t h)
theorem paired_get {α β : Type} {R : α → β → Prop} : ∀ {l : List α} {m : List β}, Paired R l m → ∀ i : Nat, (l[i]? = none ∧ m[i]? = none) ∨ ∃ x y, l[i]? = some x ∧ m[i]? = some y ∧ R x y
  | _, _, .nil, i => .inl ⟨by simp, by simp⟩
  | _, _, .cons r t, 0 => .inr ⟨_, _, rfl, rfl, r⟩
  | _, _, .cons r t, i + 1 => by simpa using paired_get t i
theorem pickL_paired {α β : Type} {R : α → β → Prop} {l : List α} {m : List β} (h : Paired R l m) : ∀ idx : List Nat, Paired R (pickL idx l) (pickL idx m)
  | [] => .nil
  | i :: idx => by
    have ih := pickL_paired h idx
    unfold pickL at ih ⊢
    rw [List.filterMap_cons, List.filterMap_cons]
    rcases paired_get h i with ⟨e1, e2⟩ | ⟨x, y, e1, e2, r⟩
    · rw [e1, e2]; exact ih
    · rw [e1, e2]; exact .cons r ih
theorem pickL_rp {K : PySem.W.Frag} {G : GS} {l : List V} {m : List D} (h : RpAll K G l m) : ∀ idx : List Nat, RpAll K G (pickL idx l) (pickL idx m)
  | [] => .nil
  | i :: idx => by
    have ih := pickL_rp h idx
    unfold pickL at ih ⊢
    rw [List.filterMap_cons, List.filterMap_cons]
    cases e2 : m[i]? with
    | none =>
      have e1 : l[i]? = none := by
        rw [List.getElem?_eq_none_iff] at e2 ⊢
        rw [h.length]; exact e2
      rw [e1]; exact ih
    | some d =>
      obtain ⟨v, e1, r⟩ := h.get e2
      rw [e1]; exact .cons r ih
/-- an own class as a value -/
theorem pd_cls {Y : Ctx} {x : Str} {C : Addr} {pos : Pos} (hm : Y.X.mg x = some (.ref C)) (hg : Gl Y.X x := by rfl) (hd : (x == ("__debug__" : Str)) = false := by decide) : PD Y (.Name x pos) (tC (.ref C)) (dC (.cls C)) := pd_glob hm (show RelV (.ref C) (.ref C) from rfl) (fun _ => .cls C) hg hd
theorem pdss_cast {Y : Ctx} {b : List Stmt} {ts ts2 : TS} {t t2 : DS} (h : PDSs Y b ts t) (e1 : ts = ts2) (e2 : t = t2) : PDSs Y b ts2 t2 := by subst e1 e2; exact h
end PL

namespace PL
open PySem PySem.Spec PyProof.Rows L2

/-! ### terms freed of the block they stand in -/
theorem pd_cast {Y : Ctx} {e : Expr} {te te2 : TE} {t t2 : DE} (h : PD Y e te t) (e1 : te = te2) (e2 : t = t2) : PD Y e te2 t2 := by subst e1 e2; exact h
theorem pdts_cast {Y : Ctx} {e : List Expr} {te te2 : TT} {t t2 : DT} (h : PDTs Y e te t) (e1 : te = te2) (e2 : t = t2) : PDTs Y e te2 t2 := by subst e1 e2; exact h
theorem pdg_cast {Y : Ctx} {e : Expr} {te te2 : TG} {t t2 : DG} {vs : List Nat} (h : PDG Y e te t vs) (e1 : te = te2) (e2 : t = t2) : PDG Y e te2 t2 vs := by subst e1 e2; exact h
end PL

namespace PL
open PySem PySem.Spec PyProof.Rows L2

/-! ### x * y of numbers, texts, lists, tuples -/
def rMulS : R2 := fun x y H Q => ∃ a n, x = .str a ∧ y = .int n ∧ n ≤ 1000000 ∧ -1000000 ≤ n ∧ a.length ≤ 16 ∧ Q (.str (Txt.mul a n)) H
theorem mulOk {a : Str} {n : Int} (h1 : n ≤ 1000000) (h2 : -1000000 ≤ n) (h3 : a.length ≤ 16) : MulOk a n := by
  refine ⟨by rw [decide_eq_false (by omega), decide_eq_false (by omega)]; rfl, fun h _ => ?_, fun h _ => ?_⟩
  · have : (2 ^ 63 - 1 : Int) / n ≥ (2 ^ 63 - 1) / 1000000 := by
      have a : (2 ^ 63 - 1 : Int) / 1000000 * n ≤ 2 ^ 63 - 1 := by
        have : (2 ^ 63 - 1 : Int) / 1000000 * n ≤ (2 ^ 63 - 1 : Int) / 1000000 * 1000000 := Int.mul_le_mul_of_nonneg_left h1 (by decide)
        exact Int.le_trans this (by decide)
      exact (Int.le_ediv_iff_mul_le (by omega)).mpr a
    have b : (16 : Int) ≤ (2 ^ 63 - 1) / 1000000 := by decide
    omega
  · have : a.length * n.toNat ≤ 16 * 1000000 := Nat.mul_le_mul h3 (by omega)
    unfold Builtin.Str.tooLong
    rw [sizeLine_eq]
    exact decide_eq_false (by omega)
theorem op_mulS {X : Cx} : OpR X (binaryOp .Mult) rMulS := by
  intro pins s σ H x y v u Q I rx ry h
  obtain ⟨a, n, rfl, rfl, h1, h2, h3, q⟩ := h
  obtain ⟨t, rfl⟩ := rx
  obtain ⟨t', rfl⟩ := ry
  exact SB.mul (mulOk h1 h2 h3) fun t' k => ⟨.str _, H, I.tok _, ⟨_, rfl⟩, q⟩
def aTimes (x : D) (y : D) (c : Nat) (Q : QD) : Prop := match x, y with
  | .int i, .int j => CMul i j ∧ Q (.int (i * j)) c
  | .str a, .int n => n ≤ 1000000 ∧ -1000000 ≤ n ∧ a.length ≤ 16 ∧ Q (.str (Txt.mul a n)) c
  | .lst l, .int n => -(2 ^ 63) ≤ n ∧ n < 2 ^ 63 ∧ l.length * n.toNat ≤ 16777216 ∧ Q (.lst (List.replicate n.toNat l).flatten) c
  | .tup l, .int n => l ≠ [] ∧ 2 ≤ n ∧ n ≤ 1000 ∧ l.length ≤ 1000 ∧ Q (.tup (List.replicate n.toNat l).flatten) c
  | _, _ => False
def rTimes (K : PySem.W.Frag) : R2 := fun x y H Q => rI CMul (fun i j => V.int (i * j)) x y H Q ∨ rMulS x y H Q ∨ rRep x y H Q ∨ rRepT K x y H Q
theorem op_times {X : Cx} : OpR X (binaryOp .Mult) (rTimes X.K) := op_mul.or (op_mulS.or (op_rep.or op_repT))
theorem rep_rp {K : PySem.W.Frag} {G : GS} {xs : List V} {ds : List D} (h : RpAll K G xs ds) : ∀ n : Nat, RpAll K G (List.replicate n xs).flatten (List.replicate n ds).flatten
  | 0 => .nil
  | n + 1 => by
    rw [List.replicate_succ, List.replicate_succ, List.flatten_cons, List.flatten_cons]
    exact h.append (rep_rp h n)
theorem br_times {K : PySem.W.Frag} : Br2 K (rTimes K) aTimes := fun G H c x y d e Qd Q ok rx ry q k => by
  unfold aTimes at q
  split at q
  · cases rx; cases ry
    exact .inl ⟨_, _, rfl, rfl, q.1, k _ _ G H c (Evo.refl ok) (.int _) q.2⟩
  · cases rx; cases ry
    obtain ⟨h1, h2, h3, q⟩ := q
    exact .inr (.inl ⟨_, _, rfl, rfl, h1, h2, h3, k _ _ G H c (Evo.refl ok) (.str _) q⟩)
  · cases ry
    obtain ⟨h1, h2, h3, q⟩ := q
    cases rx with
    | lst g1 g2 => exact .inr (.inr (.inl ⟨_, _, _, rfl, rfl, ok.same _ _ g1, h1, h2, by rw [g2.length, sizeLine_eq]; exact h3, fun p np => k _ _ _ _ c (Evo.laid ok _ np) (Rp.newLst ok np (rep_rp g2 _)) q⟩))
  · cases ry
    obtain ⟨h0, h1, h2, h3, q⟩ := q
    cases rx with
    | tup g1 g2 =>
      refine .inr (.inr (.inr ⟨_, _, _, rfl, rfl, SqT.same ok.same g1, fun e => h0 ?_, h1, h2, by rw [g2.length]; exact h3, fun p np => k _ _ _ _ c (Evo.laid ok _ np) (Rp.newTup ok np (rep_rp g2 _)) q⟩))
      subst e
      cases g2
      rfl
  · exact q.elim
/-! ### + with lists, slices with texts -/
def rSum2 (K : PySem.W.Frag) : R2 := fun x y H Q => rPlus K x y H Q ∨ rCat x y H Q
def aSum2 (x : D) (y : D) (c : Nat) (Q : QD) : Prop := match x, y with
  | .int i, .int j => Q (.int (i + j)) c
  | .str i, .str j => i.length + j.length ≤ 16777216 ∧ Q (.str (i ++ j)) c
  | .tup l, .tup m => l.length + m.length ≤ 16777216 ∧ Q (.tup (l ++ m)) c
  | .lst l, .lst m => l.length + m.length ≤ 16777216 ∧ Q (.lst (l ++ m)) c
  | _, _ => False
theorem op_sum2 {X : Cx} : OpR X (binaryOp .Add) (rSum2 X.K) := op_plus.or op_cat
theorem br_sum2 {K : PySem.W.Frag} : Br2 K (rSum2 K) aSum2 := fun G H c x y d e Qd Q ok rx ry q k => by
  unfold aSum2 at q
  split at q
  · exact .inl (br_plus G H c x y _ _ Qd Q ok rx ry q k)
  · exact .inl (br_plus G H c x y _ _ Qd Q ok rx ry (by rw [← sizeLine_eq] at q; exact q) k)
  · exact .inl (br_plus G H c x y _ _ Qd Q ok rx ry (by rw [← sizeLine_eq] at q; exact q) k)
  · obtain ⟨h, q⟩ := q
    cases rx with
    | lst g1 g2 =>
      cases ry with
      | lst g3 g4 => exact .inr ⟨_, _, _, _, rfl, rfl, ok.same _ _ g1, ok.same _ _ g3, by rw [g2.length, g4.length, sizeLine_eq]; exact h, fun p np => k _ _ _ _ c (Evo.laid ok _ np) (Rp.newLst ok np (g2.append g4)) q⟩
  · exact q.elim
def rCut2 (K : PySem.W.Frag) : V → Option Int → Option Int → Hp → VK → Prop := fun x lo hi H Q => rCut K x lo hi H Q ∨ rSlS x lo hi H Q
def aSlice2 (x : D) (lo : Option Int) (hi : Option Int) (c : Nat) (Q : QD) : Prop := match x with
  | .tup l => Q (.tup (cut l lo hi)) c
  | .lst l => Q (.lst (cut l lo hi)) c
  | .str z => z.length ≤ 16777216 ∧ Q (.str (cutS z lo hi)) c
  | _ => False
theorem sl_cut2 {X : Cx} : SlR X (rCut2 X.K) := sl_cut.or sl_str
theorem br_slice2 {K : PySem.W.Frag} : BrS K (rCut2 K) aSlice2 := fun G H c x d lo hi Qd Q ok rx q k => by
  unfold aSlice2 at q
  split at q
  · exact .inl (br_slice G H c x _ lo hi Qd Q ok rx q k)
  · exact .inl (br_slice G H c x _ lo hi Qd Q ok rx q k)
  · cases rx
    exact .inr ⟨_, rfl, by rw [sizeLine_eq]; exact q.1, k _ _ G H c (Evo.refl ok) (.str _) q.2⟩
  · exact q.elim
/-! ### in -/
def flatD : D → Bool
  | .non => true
  | .bl _ => true
  | .int _ => true
  | .str _ => true
  | _ => false
theorem eqV_eqD {K : PySem.W.Frag} {G : GS} {x y : V} {d e : D} (rx : Rp K G x d) (ry : Rp K G y e) (fd : flatD d = true) (fe : flatD e = true) : eqV x y = eqD d e := by
  cases d <;> cases fd <;> cases rx <;> cases e <;> cases fe <;> cases ry <;> first | rfl | (rename_i a b; cases a <;> simp [eqV, eqD, b2n]; done) | (rename_i a b; cases b <;> simp [eqV, eqD, b2n]; done)
theorem flat_V {K : PySem.W.Frag} {G : GS} {x : V} {d : D} (rx : Rp K G x d) (fd : flatD d = true) : flatV x = true := by
  cases d <;> cases fd <;> cases rx <;> rfl
theorem inV_D {K : PySem.W.Frag} {G : GS} {x : V} {d : D} (rx : Rp K G x d) (fd : flatD d = true) : ∀ {xs : List V} {ds : List D}, RpAll K G xs ds → ds.all flatD = true → xs.all flatV = true ∧ inV x xs = ds.any fun e => eqD e d
  | _, _, .nil, _ => ⟨rfl, rfl⟩
  | _, _, .cons r h, f => by
    rw [List.all_cons, Bool.and_eq_true] at f
    obtain ⟨h1, h2⟩ := inV_D rx fd h f.2
    refine ⟨by rw [List.all_cons, flat_V r f.1, h1]; rfl, ?_⟩
    unfold inV at h2 ⊢
    rw [List.any_cons, List.any_cons, h2, eqV_eqD r rx f.1 fd]
def rInA (K : PySem.W.Frag) : R2 := fun x y H Q => rIn K false x y H Q ∨ (∃ (c : Nat) (z : Str), x = .str ⟨#[c]⟩ ∧ y = .str z ∧ Q (.bl (decide (c ∈ z.cps.toList))) H) ∨ rInD K x y H Q
def rNotInA (K : PySem.W.Frag) : R2 := fun x y H Q => rIn K true x y H Q ∨ (∃ (c : Nat) (z : Str), x = .str ⟨#[c]⟩ ∧ y = .str z ∧ Q (.bl (!decide (c ∈ z.cps.toList))) H) ∨ rNotInD K x y H Q
/-- x in y: y a text (x one sign), a list or tuple of flat things, a list of plain things -/
def aIn (ng : Bool) (x : D) (y : D) (c : Nat) (Q : QD) : Prop := match y with
  | .str z => ∃ c0, x = .str ⟨#[c0]⟩ ∧ Q (.bl (ng != decide (c0 ∈ z.cps.toList))) c
  | .tup l => flatD x = true ∧ l.all flatD = true ∧ Q (.bl (ng != l.any fun e => eqD e x)) c
  | .lst l => (Pl 60 x ∧ Pl 60 (.lst l)) ∧ Q (.bl (ng != l.any fun e => eqD e x)) c
  | _ => False
theorem op_inA {X : Cx} (hu : X.A.units + 65 < cLine) : OpR X (compareOp .In) (rInA X.K) := op_in_seq.or (op_in_sign.or (op_inD hu))
theorem op_notInA {X : Cx} (hu : X.A.units + 65 < cLine) : OpR X (compareOp .NotIn) (rNotInA X.K) := op_notIn_seq.or (op_notIn_sign.or (op_notInD hu))
theorem any_eqv {x : D} {p : PyData} (hx : toP x = some p) : ∀ {l : List D} {ps : List PyData}, toPs l = some ps → (ps.any fun z => PyData.eqv z p) = l.any fun e => eqD e x
  | [], ps, e => by unfold toPs at e; cases e; rfl
  | d :: l, ps, e => by
    unfold toPs at e
    obtain ⟨p2, e1, e2⟩ := Option.bind_eq_some_iff.mp e
    obtain ⟨r, e3, rfl⟩ := Option.map_eq_some_iff.mp e2
    rw [List.any_cons, List.any_cons, eqv_eqD d x e1 hx, any_eqv hx e3]
theorem in_lst {K : PySem.W.Frag} {G : GS} {H : Hp} {c : Nat} {x y : V} {d : D} {l : List D} (ok : G.Ok H c) (rx : Rp K G x d) (ry : Rp K G y (.lst l)) (h1 : Pl 60 d) (h2 : Pl 60 (.lst l)) :
    ∃ p ps, Dp K H x p ∧ Dp K H y (.list ps) ∧ SeqAt.shaped p = true ∧ SeqAt.shaped (.list ps) = true ∧ (ps.any fun z => PyData.eqv z p) = l.any fun e => eqD e d := by
  obtain ⟨p, hp, sp⟩ := h1.plain
  obtain ⟨q, hq, sq⟩ := h2.plain
  have hq' := hq
  unfold toP at hq'
  obtain ⟨ps, e1, rfl⟩ := Option.map_eq_some_iff.mp hq'
  exact ⟨p, ps, dp_of ok.same hp rx, dp_of ok.same hq ry, sp, sq, any_eqv hp e1⟩
theorem br_inA {K : PySem.W.Frag} : Br2 K (rInA K) (aIn false) := fun G H c x y d e Qd Q ok rx ry q k => by
  unfold aIn at q
  split at q
  · obtain ⟨c0, rfl, q⟩ := q
    cases rx; cases ry
    exact .inr (.inl ⟨_, _, rfl, rfl, k _ _ G H c (Evo.refl ok) (.bl _) (by simpa using q)⟩)
  · obtain ⟨h1, h2, q⟩ := q
    cases ry with
    | tup g1 g2 =>
      obtain ⟨a1, a2⟩ := inV_D rx h1 g2 h2
      refine .inl ⟨_, _, rfl, .inr (SqT.same ok.same g1), flat_V rx h1, a1, ?_⟩
      rw [if_neg (by decide), a2]
      exact k _ _ G H c (Evo.refl ok) (.bl _) (by simpa using q)
  · obtain ⟨⟨h1, h2⟩, q⟩ := q
    obtain ⟨p, ps, b1, b2, b3, b4, b5⟩ := in_lst ok rx ry h1 h2
    refine .inr (.inr ⟨p, ps, b1, b2, b3, b4, ?_⟩)
    rw [b5]
    exact k _ _ G H c (Evo.refl ok) (.bl _) (by simpa using q)
  · exact q.elim
theorem br_notInA {K : PySem.W.Frag} : Br2 K (rNotInA K) (aIn true) := fun G H c x y d e Qd Q ok rx ry q k => by
  unfold aIn at q
  split at q
  · obtain ⟨c0, rfl, q⟩ := q
    cases rx; cases ry
    exact .inr (.inl ⟨_, _, rfl, rfl, k _ _ G H c (Evo.refl ok) (.bl _) (by simpa using q)⟩)
  · obtain ⟨h1, h2, q⟩ := q
    cases ry with
    | tup g1 g2 =>
      obtain ⟨a1, a2⟩ := inV_D rx h1 g2 h2
      refine .inl ⟨_, _, rfl, .inr (SqT.same ok.same g1), flat_V rx h1, a1, ?_⟩
      rw [if_pos rfl, a2]
      exact k _ _ G H c (Evo.refl ok) (.bl _) (by simpa using q)
  · obtain ⟨⟨h1, h2⟩, q⟩ := q
    obtain ⟨p, ps, b1, b2, b3, b4, b5⟩ := in_lst ok rx ry h1 h2
    refine .inr (.inr ⟨p, ps, b1, b2, b3, b4, ?_⟩)
    rw [b5]
    exact k _ _ G H c (Evo.refl ok) (.bl _) (by simpa using q)
  · exact q.elim
section
variable {Y : Ctx} {a b : Expr} {ea eb : TE} {ta tb : DE} {pos p2 : Pos} {lo hi : Option Expr} {el eh : TO} {tl th : DO} {k : Nat}
theorem pd_times (ha : PD Y a ea ta) (hb : PD Y b eb tb) : PD Y (.BinOp a .Mult b pos) (tOp (rTimes Y.X.K) ea eb) (dOp aTimes ta tb) := pd_op op_times br_times ha hb
theorem pd_sum2 (ha : PD Y a ea ta) (hb : PD Y b eb tb) : PD Y (.BinOp a .Add b pos) (tOp (rSum2 Y.X.K) ea eb) (dOp aSum2 ta tb) := pd_op op_sum2 br_sum2 ha hb
theorem pd_part2 (ha : PD Y a ea ta) (hl : PDO Y lo el tl) (hu : PDO Y hi eh th) : PD Y (.Subscript a (.Slice lo hi none p2) pos) (tSl (rCut2 Y.X.K) ea el eh) (dSl aSlice2 ta tl th) := pd_slice sl_cut2 br_slice2 ha hl hu
theorem pdc_in (g : Y.Good k) (ha : PD Y a ea ta) (hb : PD Y b eb tb) : PDC Y .In a b (tOp (rInA Y.X.K) ea eb) (dOp (aIn false) ta tb) := pdc_op (op_inA (by have := g.room.un; omega)) br_inA ha hb
theorem pdc_notIn (g : Y.Good k) (ha : PD Y a ea ta) (hb : PD Y b eb tb) : PDC Y .NotIn a b (tOp (rNotInA Y.X.K) ea eb) (dOp (aIn true) ta tb) := pdc_op (op_notInA (by have := g.room.un; omega)) br_notInA ha hb
end
section
variable {a b : Int} {c : Nat} {Q : QD} {x y : Str} {l m : List D} {d : D} {lo hi : Option Int} {ng : Bool}
theorem ev_tmI : aTimes (.int a) (.int b) c Q = (CMul a b ∧ Q (.int (a * b)) c) := propext Iff.rfl
theorem ev_tmS : aTimes (.str x) (.int b) c Q = (b ≤ 1000000 ∧ -1000000 ≤ b ∧ x.length ≤ 16 ∧ Q (.str (Txt.mul x b)) c) := propext Iff.rfl
theorem ev_tmL : aTimes (.lst l) (.int b) c Q = (-(2 ^ 63) ≤ b ∧ b < 2 ^ 63 ∧ l.length * b.toNat ≤ 16777216 ∧ Q (.lst (List.replicate b.toNat l).flatten) c) := propext Iff.rfl
theorem ev_tmT : aTimes (.tup l) (.int b) c Q = (l ≠ [] ∧ 2 ≤ b ∧ b ≤ 1000 ∧ l.length ≤ 1000 ∧ Q (.tup (List.replicate b.toNat l).flatten) c) := propext Iff.rfl
theorem ev_s2I : aSum2 (.int a) (.int b) c Q = Q (.int (a + b)) c := propext Iff.rfl
theorem ev_s2S : aSum2 (.str x) (.str y) c Q = (x.length + y.length ≤ 16777216 ∧ Q (.str (x ++ y)) c) := propext Iff.rfl
theorem ev_s2T : aSum2 (.tup l) (.tup m) c Q = (l.length + m.length ≤ 16777216 ∧ Q (.tup (l ++ m)) c) := propext Iff.rfl
theorem ev_s2L : aSum2 (.lst l) (.lst m) c Q = (l.length + m.length ≤ 16777216 ∧ Q (.lst (l ++ m)) c) := propext Iff.rfl
theorem ev_p2T : aSlice2 (.tup l) lo hi c Q = Q (.tup (cut l lo hi)) c := propext Iff.rfl
theorem ev_p2L : aSlice2 (.lst l) lo hi c Q = Q (.lst (cut l lo hi)) c := propext Iff.rfl
theorem ev_p2S : aSlice2 (.str x) lo hi c Q = (x.length ≤ 16777216 ∧ Q (.str (cutS x lo hi)) c) := propext Iff.rfl
theorem ev_inS {c0 : Nat} : aIn ng (.str ⟨#[c0]⟩) (.str x) c Q = Q (.bl (ng != decide (c0 ∈ x.cps.toList))) c := by
  apply propext; constructor
  · rintro ⟨c1, e, q⟩; cases e; exact q
  · intro q; exact ⟨c0, rfl, q⟩
theorem ev_inT : aIn ng d (.tup l) c Q = (flatD d = true ∧ l.all flatD = true ∧ Q (.bl (ng != l.any fun e => eqD e d)) c) := propext Iff.rfl
theorem ev_inL : aIn ng d (.lst l) c Q = ((Pl 60 d ∧ Pl 60 (.lst l)) ∧ Q (.bl (ng != l.any fun e => eqD e d)) c) := propext Iff.rfl
end
end PL

namespace PL
open PySem PySem.Spec PyProof.Rows L2

/-! ### readings evaluated, further -/
def olP (s : Option Sl) (P : List D → Prop) : Prop := ∃ l, s = some (.ol l) ∧ P l
theorem ev_olP {l : List D} {P : List D → Prop} : olP (some (.ol l)) P = P l := by simp [olP]
def hd1 (ds : List D) (P : D → Prop) : Prop := ∃ d, ds = [d] ∧ P d
theorem ev_hd1 {d : D} {P : D → Prop} : hd1 [d] P = P d := by simp [hd1]
def sumP (ds : List D) (P : Int → Prop) : Prop := ∃ l ns, ds = [.lst l] ∧ intsD l = some ns ∧ P ns.sum
theorem sumP.mk {P : Int → Prop} {l : List D} {ns : List Int} (h : intsD l = some ns) (k : P ns.sum) : sumP [.lst l] P := ⟨l, ns, rfl, h, k⟩
def anyP (ds : List D) (P : Bool → Prop) : Prop := ∃ l bs, ds = [.lst l] ∧ bools l = some bs ∧ P (bs.any id)
theorem anyP.mk {P : Bool → Prop} {l : List D} {bs : List Bool} (h : bools l = some bs) (k : P (bs.any id)) : anyP [.lst l] P := ⟨l, bs, rfl, h, k⟩
/-- a caught exception of one field f: its class, the field -/
def excP (x : D) (f : Str) (P : Addr → D → Prop) : Prop := ∃ C d, x = .exc C [f] [d] ∧ P C d
theorem ev_excP {C : Addr} {d : D} {f : Str} {P : Addr → D → Prop} : excP (.exc C [f] [d]) f P = P C d := by
  apply propext; constructor
  · rintro ⟨_, _, e, h⟩; cases e; exact h
  · exact fun h => ⟨_, _, rfl, h⟩
/-- e.f of a caught exception of one of the classes CS -/
def dFldX1 (CS : Addr → Prop) (f : Str) (t : DE) : DE := fun ρ c Q => t ρ c fun x c1 => excP x f fun C d => CS C ∧ Q d c1
theorem pd_fldX1 {Y : Ctx} {CS : Addr → Prop} {e : Expr} {te : TE} {t : DE} {pos : Pos} {n : Str} (hC : ∀ C, CS C → XfC Y.X.K C ∧ PySem.W.findIn Y.X.K (.ref C) n = some none) (he : PD Y e te t) (hb : attributeBase e n Y.X.env (eval e Y.X.env) = eval e Y.X.env := by rfl) : PD Y (.Attribute e n pos) (tFldX Y.X.K n te) (dFldX1 CS n t) :=
  ⟨(pd_fldX he hb).p, fun G H c ρ σ Qd Q R q k => by
    refine he.s G H c ρ σ _ _ R q fun x v G1 H1 c1 ev r q => ?_
    obtain ⟨C, d, rfl, hc, q⟩ := q
    obtain ⟨T, hno⟩ := hC C hc
    cases r with
    | exc h1 h2 h3 h4 =>
      obtain ⟨u, hl, ru⟩ := fldD_rp (f := n) h3 h4 (show fldD n [n] [d] = some d by simp [fldD])
      rcases h2 with ⟨rfl, rfl⟩ | ⟨dd, rfl, ed⟩
      · cases hl
      · exact ⟨_, _, dd, _, u, rfl, ev.ok.same _ _ h1, T, hno, ev.ok.same _ _ ed, hl, k d u G1 H1 c1 ev ru q⟩⟩
section
variable {K : PySem.W.Frag} {IC : Addr → Prop} {i : Nat} {ρ : DEnv} {c : Nat} {Q : QD} {DD : DEnds} {t : DA} {te : DE} {ta : DE} {st : DS} {x : D} {A B C : Addr} {f : Str} {ns : List Str} {es l : List D} {ED : DEnv → EDt} {rd : RD2} {b : Bool} {CS : Addr → Prop} {tc : DT} {k : String}
theorem ev_append : sAppend i t DD ρ c = olP ρ[i]? fun l => l.length < 16777216 ∧ t ρ c fun ds c1 => hd1 ds fun d => @Nx DD.nx (ρ.set i (.ol (l ++ [d]))) c1 := by rw [← sizeLine_eq]; rfl
theorem ev_freeze : sFreeze i st DD ρ c = olP ρ[i]? fun l => @Nx (st DD) (ρ.set i (.fz (.lst l))) c := propext Iff.rfl
theorem ev_raise : sRaise1 C f ED t DD ρ c = t ρ c fun ds c1 => hd1 ds fun d => ED ρ C [f] [d] c1 := propext Iff.rfl
theorem ev_fldX1 : dFldX1 CS f te ρ c Q = te ρ c fun x c1 => excP x f fun C d => CS C ∧ Q d c1 := propext Iff.rfl
theorem ev_sum : aSum l c Q = sumP l fun n => Q (.int n) c := by
  apply propext
  constructor
  · intro h
    unfold aSum at h
    split at h
    · obtain ⟨ns, e, q⟩ := h; exact ⟨_, ns, rfl, e, q⟩
    · exact h.elim
  · rintro ⟨l, ns, rfl, e, q⟩; exact ⟨ns, e, q⟩
theorem ev_anyB : bAny l c Q = anyP l fun b => Q (.bl b) c := propext Iff.rfl
def fzP (s : Option Sl) (P : D → Prop) : Prop := ∃ x, s = some (.fz x) ∧ P x
theorem ev_fzP {d : D} {P : D → Prop} : fzP (some (.fz d)) P = P d := by simp [fzP]
theorem ev_aug : sAug i te rd DD ρ c = fzP ρ[i]? fun x => te ρ c fun y c1 => rd x y c1 fun z c2 => @Nx DD.nx (ρ.set i (.fz z)) c2 := propext Iff.rfl
theorem isO_exc (hx : ExcC K A) (h : PySem.W.kitOne K (.ref A) (.ref B) = some b) : aIsO K IC [.exc A ns es, .cls B] c Q = Q (.bl b) c := by
  apply propext
  constructor
  · rintro ⟨t, b', ⟨_, rfl⟩, h', q⟩
    rw [h] at h'; cases h'; exact q
  · exact fun q => ⟨_, b, ⟨hx, rfl⟩, h, q⟩
theorem isO_ins (hx : IC A) (h : PySem.W.kitOne K (.ref A) (.ref B) = some b) : aIsO K IC [.ins A ns es, .cls B] c Q = Q (.bl b) c := by
  apply propext
  constructor
  · rintro ⟨t, b', ⟨_, rfl⟩, h', q⟩
    rw [h] at h'; cases h'; exact q
  · exact fun q => ⟨_, b, ⟨hx, rfl⟩, h, q⟩
theorem isO_kind (hx : kind x = some k) (h : PySem.W.kitOne K (.type k) (.ref B) = some b) : aIsO K IC [x, .cls B] c Q = Q (.bl b) c := by
  have e : ∀ t, typD K IC x t ↔ t = .type k := fun t => by
    cases x <;> first | (cases hx; done) | (simp only [kind, Option.some.injEq] at hx; subst hx; simp [typD, kind])
  apply propext
  constructor
  · rintro ⟨t, b', ht, h', q⟩
    rw [(e t).mp ht, h] at h'; cases h'; exact q
  · exact fun q => ⟨_, b, (e _).mpr rfl, h, q⟩
end
/-- what a def gives: a value, or an exception of one field -/
inductive Res where
  | ok (d : D)
  | er (C : Addr) (f : Str) (d : D)
def Res.to (r : Res) (c : Nat) (Q : QD) (E : EDt) : Prop := match r with
  | .ok d => Q d c
  | .er C f d => E C [f] [d] c
end PL

namespace PySem.W
open PySem PySem.Spec PySem.Calls PyProof.Rows
section
variable {prog : Program} {w : World} {A : Around} {E : Value → Shared → Prop} {s : Shared} {K : Frag} {x C L f : Addr} {h₀ : Heap} {m : Str → Option Value} {ox : Obj} {od : Option Obj} {b tb : Value}
theorem on_bind (self : Value) : bindSpecial (.builtin "object.__ne__") self = pure (.builtin "object.__ne__", [self]) :=
  (Slot.of (T := "object") (name := "__ne__") (owner := "object") (n := "__ne__") (by rw [typeLookup_type, builtinLookup_eq_fast]; kernel_rfl) (by decide +kernel) (by decide +kernel) (by decide +kernel)
    (.inl (by decide +kernel)) (by rw [isSubtype_type]; kernel_rfl)).bind self
/-- object.__ne__ by an own __eq__ -/
theorem one_own {Q : Fin → Shared → Prop} (hu : A.units < cLine) (X : K.In s.heap) (I : InstAt s.heap x ox C od) (hs : findIn K (.ref C) "__eq__" = some (some (.ref f))) (hf : isFn K (.ref f) = true)
    (h : wpAny (model prog w) A (call (.ref f) [.ref x, b]) (fun v s' => ∃ k, v = .bool k ∧ Q (.done (.ret (.bool (!k)))) s') E s) :
    wpAny (model prog w) A (Builtin.«object.__ne__» ⟨[.ref x, b], []⟩) Q E s := by
  unfold Builtin.«object.__ne__»
  repeat (first
    | with_reducible refine wpAny_cRoomFor hu ?_
    | (refine wpAny_bind (m := callSpecialIfBound? (.ref x) (Str.ofString "__eq__") [b])
        (ifBound_K X I hs hf (wpAny_mono h (fun r s' hr => by
          obtain ⟨k, rfl, hq⟩ := hr
          repeat (first | exact hq | exact wpAny_pure hq | exact wpAny_truthy_bool hq | (refine wpAny_bind (m := truthy (.bool _)) (wpAny_truthy_bool ?_)) | wp_step)) fun _ _ e => e)))
    | wp_step)
theorem ifBound_B {M : Model} {id : String} {args : List Value} {Q : Option Value → Shared → Prop} {name : Str} (X : K.In s.heap) (I : InstAt s.heap x ox C od) (hs : findIn K (.ref C) name = some (some (.builtin id))) (hb : bindSpecial (.builtin id) (.ref x) = pure (.builtin id, [.ref x]))
    (h : wpAny M A (call (.builtin id) (.ref x :: args)) (fun v => Q (some v)) E s) : wpAny M A (callSpecialIfBound? (.ref x) name args) Q E s := by
  simp only [callSpecialIfBound?, bindSpecialIfBound?]
  refine wpAny_holding (wpAny_bind (wpAny_bind (wpAny_bind (I.type.here ((looks_findIn X hs).here ?_)))))
  refine wpAny_bind (wpAny_askSetting (wpAny_ite ?_))
  have fin : wpAny M A (call (.builtin id) ([.ref x] ++ args) >>= fun v => pure (some v)) Q E s := wpAny_bind (wpAny_mono h (fun v s' h' => wpAny_pure h') fun _ _ h' => h')
  split
  · rw [hb]; exact wpAny_bind (wpAny_pure (wpAny_pure (by exact fin)))
  · rw [hb]; exact wpAny_tryCatch (wpAny_bind (wpAny_pure (wpAny_pure (by exact fin))))
theorem ne_K {Q : Value → Shared → Prop} (hu : A.units + 1 < cLine) (F : Fr h₀ L s.heap m) (X₀ : K.In h₀) (I : InstAt s.heap x ox C od) (hb : Looks (model prog w) s.heap (typeOf b) tb) (hn : notFirst K C tb = true)
    (hs : findIn K (.ref C) "__eq__" = some (some (.ref f))) (hf : isFn K (.ref f) = true) (hne : findIn K (.ref C) "__ne__" = some (some (.builtin "object.__ne__"))) (hso : subIn K (.ref C) (.type "object") = some true)
    (h : wpAny (model prog w) A.in1 (call (.ref f) [.ref x, b]) (fun v s' => ∃ k, v = .bool k ∧ Q (.bool (!k)) s') E s) : wpAny (model prog w) A (richCompare .NotEq (.ref x) b) Q E s := by
  have X := X₀.keeps F.keep
  have sub : Looks (model prog w) s.heap (isInstance (.ref x) (.type "object")) true := I.type.andThen (looks_subIn X hso)
  have one : wpAny (model prog w) A (tryCompare (.ref x) (cmpInfo .NotEq).2.1 b) (fun r s' => ∃ v, r = some v ∧ Q v s') E s := by
    unfold tryCompare
    refine wpAny_bind (ifBound_B X I hne (on_bind _) (wpAny_call (codeAny_call_builtin PySem.F.cmp_object.ne.plain PySem.F.cmpEntry_ne ?_)))
    refine @check_slot (model prog w) _ _ s "object.__ne__" "object" "__ne__" (.ref x) [b] [] _ PySem.F.cmpKind_ne PySem.F.cmpSplit_ne sub (PySem.F.cmpArgs_ne _ _) ?_
    refine one_own (A := A.in1) hu X I hs hf (wpAny_mono h (fun v s' hv => ?_) fun _ _ e => e)
    obtain ⟨k, rfl, hq⟩ := hv
    first | exact ⟨k, rfl, wpAny_pure ⟨_, rfl, hq⟩⟩ | exact ⟨k, rfl, ⟨_, rfl, hq⟩⟩ | exact ⟨k, rfl, wpAny_pure (wpAny_pure ⟨_, rfl, hq⟩)⟩
  unfold richCompare
  simp only [oneThing_ref]
  refine wpAny_holding (wpAny_bind (wpAny_cRoomFor (Nat.lt_of_succ_lt hu) ?_))
  refine wpAny_bind (I.type.here (wpAny_bind (hb.here ?_)))
  split
  · rename_i q
    have e : subIn K tb (.ref C) = some false := by
      rcases Bool.or_eq_true_iff.mp hn with e | e
      · rw [beq_iff_eq.mp e] at q; simp at q
      · exact beq_iff_eq.mp e
    refine wpAny_bind ((looks_subIn X e).here ?_)
    simp only [Bool.false_eq_true, if_false]
    refine wpAny_bind (wpAny_mono one (fun r s' z => ?_) fun _ _ e => e)
    obtain ⟨v, rfl, hq⟩ := z
    exact wpAny_pure hq
  · refine wpAny_bind (wpAny_pure ?_)
    simp only [Bool.false_eq_true, if_false]
    refine wpAny_bind (wpAny_mono one (fun r s' z => ?_) fun _ _ e => e)
    obtain ⟨v, rfl, hq⟩ := z
    exact wpAny_pure hq
end
end PySem.W

namespace PL
open PySem PySem.Spec PyProof.Rows L2

/-! ### own classes of data: one field, set by __init__ -/
structure DCls (K : PySem.W.Frag) (mg : Str → Option Value) (x f : Str) (C fI : Addr) : Prop where
  m : mg x = some (.ref C)
  make : Mk K C fI
  cl : Cls K C
  no : NoAttr K C f
  ic : ICls K C
def spDI (K : PySem.W.Frag) (f : Str) : Sp := fun vs H Q _ => ∃ (a C dx : Addr) (y : V), vs = [.ref a, y] ∧ Cls K C ∧ NoAttr K C f ∧ H a = some (.ins C dx []) ∧ Q .non (upd H a (.ins C dx [(f, y)]))
section
variable {P : Program} {w : World} {K : PySem.W.Frag} {mg : Str → Option Value} {base : Heap} {x qual p f : Str} {params : Arguments} {body : List Stmt} {scope : Scope} {dvs : List V} {kws : List (Str × V)} {fI : Addr} {fd : FuncData} {CX : CXT}
theorem okDI (F : FunD K x qual params body scope dvs kws fI fd) (S : FnScope ["self", p] ["self", p] scope)
    (hb : ∀ cdv A outer s H E, PSs (cxOf CX P w K mg base ["self", p] qual scope fI cdv A outer s H E) body (sFld K (tVar 0) (tVar 1) f)) : FnOk P w K mg base CX 1 fI fd ["self", p] (spDI K f) := by
  refine F.ok S (fun vs H Q E h => ?_) fun cdv A outer s H vs Q E hr h => ?_
  · obtain ⟨a, C, dx, y, rfl, _⟩ := h; rfl
  · obtain ⟨a, C, dx, y, rfl, cl, no, e, k⟩ := h
    exact ⟨_, hb cdv A outer s H E, y, rfl, .ref a, rfl, a, C, dx, [], rfl, e, cl, no, by simp, k⟩
end
theorem noE {X : Cx} {P : Program} {w : World} : Passes (L2.CX P w) X fun _ _ _ => False := fun _ _ _ _ _ _ _ ⟨_, _, _, _, _, _, _, _, _, _, _, _, z⟩ => z.elim
/-- an instance of the class at C: its field f -/
def insP (C : Addr) (f : Str) (x : D) (P : D → Prop) : Prop := ∃ ns es d, x = .ins C ns es ∧ fldD f ns es = some d ∧ P d
def isIP (C : Addr) (x : D) : Prop := ∃ ns es, x = .ins C ns es
theorem ev_insP {C : Addr} {f : Str} {d : D} {P : D → Prop} : insP C f (.ins C [f] [d]) P = P d := by
  apply propext; constructor
  · rintro ⟨_, _, d', e, h, q⟩
    cases e
    simp only [fldD, if_pos] at h
    cases h; exact q
  · exact fun h => ⟨_, _, _, rfl, by simp [fldD], h⟩
theorem ev_isIP {C : Addr} {ns : List Str} {es : List D} : isIP C (.ins C ns es) = True := eq_true ⟨_, _, rfl⟩
section
variable {Y : Ctx} {k : Nat} {C fI f gA p : Addr} {fd : FuncData} {x fn n m pn : Str} {ps ks : List Str} {e o a b : Expr} {es : List Expr} {kws : List Keyword} {te ta tb : TE} {de da db : DE} {ts tk : TA} {t dk : DA} {p0 pc pos apos : Pos} {sp : SpD} {dvs : List V} {dds : List D} {ds : List Value}
def dMake (C : Addr) (f : Str) (t : DA) : DE := fun ρ c Q => t ρ c fun ds c1 => hd1 ds fun d => Q (.ins C [f] [d]) c1
theorem make_sim {sp' : Sp} (hsp : sp' = spDI Y.X.K fn) (T : DCls Y.X.K Y.X.mg x fn C fI) (ha : SimA Y ts t) : SimE Y (tMake C sp' [] (fun _ _ _ => False) ts) (dMake C fn t) := by
  subst hsp
  intro G H c ρ σ Qd Q R q kk
  refine ha G H c ρ σ _ _ R q fun ds vs G1 H1 c1 ev rr ⟨d, ed, q⟩ a dx na nd ne => ?_
  subst ed
  cases rr with
  | @cons v _ _ _ r1 rr =>
    cases rr
    have e1 := Evo.laidU ev.ok (.own a) nd
    have na' : upd H1 dx (.own a) a = none := by rw [upd_ne (Ne.symm ne)]; exact na
    have e2 := Evo.laid e1.ok (.ins C dx [(fn, v)]) na'
    have eH : upd (upd (upd H1 dx (.own a)) a (.ins C dx [])) a (.ins C dx [(fn, v)]) = upd (upd H1 dx (.own a)) a (.ins C dx [(fn, v)]) := by
      funext b
      by_cases h : b = a
      · rw [h, upd_same, upd_same]
      · rw [upd_ne h, upd_ne h, upd_ne h]
    refine ⟨a, C, dx, v, rfl, T.cl, T.no, upd_same, rfl, ?_⟩
    rw [eH]
    exact kk (.ins C [fn] [d]) (.ref a) _ _ c1 ((ev.trans e1).trans e2) (.ins (fs := [(fn, v)]) upd_same rfl (.cons (r1.mono (e1.le.trans e2.le)) .nil)) q
theorem pd_make1 (g : Y.Good k) (h2 : 2 ≤ k) (T : DCls Y.X.K Y.X.mg x fn C fI) (F : FnOk Y.X.prog Y.X.w Y.X.K Y.X.mg Y.X.base (L2.CX Y.X.prog Y.X.w) 1 fI fd ["self", pn] (spDI Y.X.K fn)) (hb : Binds Y.X.K fd ["self", pn] []) (ha : PDA Y [e] ts t)
    (hg : Gl Y.X x := by rfl) (hdb : (x == ("__debug__" : Str)) = false := by decide) (he : starEach [e] Y.X.env = (false, eval e Y.X.env) :: starEach [] Y.X.env := by rfl) (hpl : (backTo pos (starEach [] Y.X.env)).any (·.1) = false := by rfl) :
    PD Y (.Call (.Name x p0) [e] [] pos) (tMake C (spDI Y.X.K fn) [] (fun _ _ _ => False) ts) (dMake C fn t) :=
  ⟨pe_make T.make F (g.room.mono h2) hg T.m hb .nil noE ha.p hdb he hpl, make_sim rfl T ha.s⟩
/-- e.f -/
def dFldI (C : Addr) (f : Str) (t : DE) : DE := fun ρ c Q => t ρ c fun x c1 => insP C f x fun d => Q d c1
theorem pd_fldI (cl : Cls Y.X.K C) (no : NoAttr Y.X.K C fn) (he : PD Y e te de) (hb : attributeBase e fn Y.X.env (eval e Y.X.env) = eval e Y.X.env := by rfl) : PD Y (.Attribute e fn pos) (tFld Y.X.K te fn) (dFldI C fn de) :=
  ⟨pe_fld he.p hb, fun G H c ρ σ Qd Q R q kk => he.s G H c ρ σ _ _ R q fun x v G1 H1 c1 ev r ⟨ns, es, d, ex, hf, q⟩ => by
    subst ex
    cases r with
    | ins h1 h2 h3 =>
      obtain ⟨u, hl, ru⟩ := fldD_rp h2 h3 hf
      exact ⟨_, C, _, _, u, rfl, ev.ok.same _ _ h1, cl, no, hl, kk d u G1 H1 c1 ev ru q⟩⟩
/-- e.f, a property -/
def dProp (C : Addr) (sp : SpD) (t : DE) : DE := fun ρ c Q => t ρ c fun x c1 => isIP C x ∧ @Run sp [x] c1 Q (fun _ _ _ _ => False)
theorem pd_prop (g : Y.Good (k + 1)) (cl : Cls Y.X.K C) (hp : PropOf Y.X.K C fn p gA) (F : FnOk Y.X.prog Y.X.w Y.X.K Y.X.mg Y.X.base (L2.CX Y.X.prog Y.X.w) k gA fd ["self"] (spOf Y.X.K sp)) (hb : Binds Y.X.K fd ["self"] []) (he : PD Y e te de)
    (hab : attributeBase e fn Y.X.env (eval e Y.X.env) = eval e Y.X.env := by rfl) : PD Y (.Attribute e fn pos) (tProp C (spOf Y.X.K sp) [] (fun _ _ _ => False) te) (dProp C sp de) :=
  ⟨pe_prop he.p cl hp F g.room hb .nil noE hab, fun G H c ρ σ Qd Q R q kk => he.s G H c ρ σ _ _ R q fun x v G1 H1 c1 ev r ⟨⟨ns, es, ex⟩, q⟩ => by
    subst ex
    cases r with
    | ins h1 h2 h3 =>
      exact ⟨_, _, _, rfl, ev.ok.same _ _ h1, G1, c1, [.ins C ns es], Qd, fun _ _ _ _ => False, ev.ok, .cons (.ins h1 h2 h3) .nil, q, fun d v G' H' c' e' r' q' => kk d v G' H' c' (ev.trans e') r' q', fun _ _ _ _ _ _ _ _ _ z => z⟩⟩
end
/-! ### o.m(..) -/
section
variable {X : Cx} {CX : CXT} {k : Nat} {f C : Addr} {fd : FuncData} {ps : List Str} {sp : Sp} {dvs : List V} {ds : List Value} {E : L2.St → XK} {x m : Str} {p pos apos : Pos} {e o : Expr} {es : List Expr} {ta : TE} {t tk : TA} {ks : List Str} {kws : List Keyword} {g : List Value → List Value → List Value} {gV : List V → List V → List V}
def tMethE (C : Addr) (m : Str) (sp : Sp) (dvs : List V) (E : L2.St → XK) (ta : TE) (t : TA) : TE := fun σ H Q => ta σ H fun x H1 => ∃ a dx fs, x = .ref a ∧ H1 a = some (.ins C dx fs) ∧ fs.lookup m = none ∧
  t σ H1 fun vs H2 => sp (x :: (vs ++ dvs)) H2 Q (E σ)
theorem pe_methE {pl : Sem Bool} (he : PE X o ta) (c : Cls X.K C) (hm : Meth X.K C m f) (F : FnOk X.prog X.w X.K X.mg X.base CX k f fd ps sp) (hr : Room k X.A) (hb : Binds X.K fd ps ds) (hd : Vals dvs ds) (hx : ∀ σ, PassesAt CX X σ (E σ)) (ha : PA X (e :: es) t)
    (hst : starEach (e :: es) X.env = (false, eval e X.env) :: starEach es X.env := by rfl) (hpl : (backTo pos (starEach es X.env)).any (·.1) = false := by rfl)
    (ht : eval (.Call (.Attribute o m apos) (e :: es) [] pos) X.env = (do
      let ov ← eval o X.env
      standAt apos.atName
      let (f, first) ← holding [ov] (getMethod ov m pl)
      callWith pos f first (backTo pos (starEach (e :: es) X.env)) (backToKw pos (keywordEach [] X.env))) := by rfl) :
    PE X (.Call (.Attribute o m apos) (e :: es) [] pos) (tMethE C m sp dvs E ta t) := by
  refine ⟨fun pins s σ H Q I h => ?_⟩
  refine PySem.W.methodCall_KW (pl := pl) (thn (he.run pins s σ H _ I h) fun u s1 ⟨x, H1, I1, rx, a, dx, fs, ex, ea, l, q⟩ => ?_) ht
  subst ex
  obtain rfl : u = Value.ref a := rx
  refine getmeth_ok I1 ea c hm l ?_
  refine PySem.W.callWith_K (first := [.ref a]) (h₀ := X.base) I.ok.mod.kin hm.kp (thn (ha.run pos pins s1 σ H1 _ I1 q) fun us s2 ⟨vs, H2, I2, r, q2⟩ => ⟨I2.kIn, ?_⟩) hst hpl
  exact at_pos (us := .ref a :: us) (vs := .ref a :: vs) F hr hb hd (hx σ) I2 (.cons rfl r) q2
theorem pe_meth0E {pl : Sem Bool} (he : PE X o ta) (c : Cls X.K C) (hm : Meth X.K C m f) (F : FnOk X.prog X.w X.K X.mg X.base CX k f fd ps sp) (hr : Room k X.A) (hb : Binds X.K fd ps ds) (hd : Vals dvs ds) (hx : ∀ σ, PassesAt CX X σ (E σ))
    (ht : eval (.Call (.Attribute o m apos) [] [] pos) X.env = (do
      let ov ← eval o X.env
      standAt apos.atName
      let (f, first) ← holding [ov] (getMethod ov m pl)
      callWith pos f first (backTo pos (starEach [] X.env)) (backToKw pos (keywordEach [] X.env))) := by rfl) :
    PE X (.Call (.Attribute o m apos) [] [] pos) (tMethE C m sp dvs E ta tNil) := by
  refine ⟨fun pins s σ H Q I h => ?_⟩
  refine PySem.W.methodCall_KW (pl := pl) (thn (he.run pins s σ H _ I h) fun u s1 ⟨x, H1, I1, rx, a, dx, fs, ex, ea, l, q⟩ => ?_) ht
  subst ex
  obtain rfl : u = Value.ref a := rx
  refine getmeth_ok I1 ea c hm l ?_
  exact PySem.W.callWith_K0 (first := [.ref a]) I1.kIn hm.kp (at_pos (us := [.ref a]) (vs := [.ref a]) F hr hb hd (hx σ) I1 (.cons rfl .nil) q)
def tMethKE (C : Addr) (m : Str) (n : Nat) (sp : Sp) (gV : List V → List V → List V) (E : L2.St → XK) (ta : TE) (tk : TA) : TE := fun σ H Q => ta σ H fun x H1 => ∃ a dx fs, x = .ref a ∧ H1 a = some (.ins C dx fs) ∧ fs.lookup m = none ∧
  tk σ H1 fun zs H2 => zs.length = n ∧ sp (gV [x] zs) H2 Q (E σ)
theorem pe_methK0E {pl : Sem Bool} (he : PE X o ta) (c : Cls X.K C) (hm : Meth X.K C m f) (F : FnOk X.prog X.w X.K X.mg X.base CX k f fd ps sp) (hr : Room k X.A) (hb : KBn X.K fd ps 1 ks g gV) (hx : ∀ σ, PassesAt CX X σ (E σ)) (hkw : PK X kws tk)
    (hall : (backToKw pos (keywordEach kws X.env)).all (·.1.isSome) = true := by rfl) (hks : (backToKw pos (keywordEach kws X.env)).filterMap (·.1) = ks := by rfl)
    (hpl : ((backTo pos (starEach [] X.env)).any (·.1) || (backToKw pos (keywordEach kws X.env)).any (·.1.isNone)) = false := by rfl)
    (ht : eval (.Call (.Attribute o m apos) [] kws pos) X.env = (do
      let ov ← eval o X.env
      standAt apos.atName
      let (f, first) ← holding [ov] (getMethod ov m pl)
      callWith pos f first (backTo pos (starEach [] X.env)) (backToKw pos (keywordEach kws X.env))) := by rfl) :
    PE X (.Call (.Attribute o m apos) [] kws pos) (tMethKE C m ks.length sp gV E ta tk) := by
  refine ⟨fun pins s σ H Q I h => ?_⟩
  refine PySem.W.methodCall_KW (pl := pl) (thn (he.run pins s σ H _ I h) fun u s1 ⟨x, H1, I1, rx, a, dx, fs, ex, ea, l, q⟩ => ?_) ht
  subst ex
  obtain rfl : u = Value.ref a := rx
  refine getmeth_ok I1 ea c hm l ?_
  refine PySem.W.callWith_KW0 (first := [.ref a]) (h₀ := X.base) I.ok.mod.kin hm.kp hall (thn (hkw.run pos pins s1 σ H1 _ I1 q) fun ws s2 ⟨zs, H2, I2, rz, l2, q2⟩ => ⟨I2.kIn, ?_⟩) hpl
  rw [hks]
  exact at_kw (us := [.ref a]) (vs := [.ref a]) F hr hb (hx σ) I2 (.cons rfl .nil) rz rfl l2 q2
end
section
variable {Y : Ctx} {k : Nat} {C f : Addr} {fd : FuncData} {m : Str} {ps ks : List Str} {e o : Expr} {es : List Expr} {kws : List Keyword} {te : TE} {de : DE} {fa fk : TA} {t tk : DA} {pos apos : Pos} {sp : SpD} {dvs : List V} {dds : List D} {pl : Sem Bool}
/-- how the method m of the class at C is called: like Cal -/
structure CalM (K : PySem.W.Frag) (C : Addr) (m : Str) (f : Addr) (fd : FuncData) (ps : List Str) (dvs : List V) : Prop where
  c : Cls K C
  m : Meth K C m f
  b : ∃ ds, Vals dvs ds ∧ Binds K fd ps ds
/-- an instance of the class at C, none of its fields named m -/
def noFP (C : Addr) (m : Str) (x : D) : Prop := ∃ ns es, x = .ins C ns es ∧ ns.contains m = false
theorem ev_noFP {ns : List Str} {es : List D} : noFP C m (.ins C ns es) = (ns.contains m = false) := by
  apply propext; constructor
  · rintro ⟨_, _, e, h⟩; cases e; exact h
  · exact fun h => ⟨_, _, rfl, h⟩
theorem lookup_nf {m : Str} : ∀ {fs : List (Str × V)}, (fs.map (·.1)).contains m = false → fs.lookup m = none
  | [], _ => rfl
  | (n, v) :: fs, h => by
    simp only [List.map_cons, List.contains_cons, Bool.or_eq_false_iff] at h
    rw [List.lookup_cons, h.1]
    exact lookup_nf h.2
def dMeth (C : Addr) (m : Str) (ED : DEnv → EDt) (sp : SpD) (dds : List D) (de : DE) (t : DA) : DE := fun ρ c Q => de ρ c fun x c1 => noFP C m x ∧ t ρ c1 fun ds c2 => @Run sp (x :: (ds ++ dds)) c2 Q (ED ρ)
theorem meth_sim (g : Y.Good k) (hd : ∀ G, RpAll Y.X.K G dvs dds) (he : SimE Y te de) (ha : SimA Y fa t) : SimE Y (tMethE C m (spOf Y.X.K sp) dvs Y.E te fa) (dMeth C m Y.ED sp dds de t) := fun G H c ρ σ Qd Q R q kk =>
  he G H c ρ σ _ _ R q fun x v G1 H1 c1 ev r ⟨⟨ns, es, ex, hn⟩, q⟩ => by
    subst ex
    cases r with
    | ins h1 h2 h3 =>
      refine ⟨_, _, _, rfl, ev.ok.same _ _ h1, lookup_nf (by rw [h2]; exact hn), ?_⟩
      exact ha G1 H1 c1 ρ σ _ _ (R.evo' ev) q fun ds vs G2 H2 c2 ev2 r2 q => ⟨G2, c2, .ins C ns es :: (ds ++ dds), Qd, Y.ED ρ, ev2.ok, .cons (Rp.mono ev2.le (.ins h1 h2 h3)) (r2.append (hd _)), q, fun d v G' H' c' e' r' q' => kk d v G' H' c' ((ev.trans ev2).trans e') r' q',
        fun C ns es dx G' H' c' e' r' q' => g.err ρ σ G H c R C ns es dx G' H' c' ((ev.trans ev2).trans e') r' q'⟩
theorem pd_meth (g : Y.Good k) (F : FnOk Y.X.prog Y.X.w Y.X.K Y.X.mg Y.X.base (L2.CX Y.X.prog Y.X.w) k f fd ps (spOf Y.X.K sp)) (cm : CalM Y.X.K C m f fd ps dvs) (hdd : ∀ G, RpAll Y.X.K G dvs dds) (he : PD Y o te de) (ha : PDA Y (e :: es) fa t)
    (hst : starEach (e :: es) Y.X.env = (false, eval e Y.X.env) :: starEach es Y.X.env := by rfl) (hpl : (backTo pos (starEach es Y.X.env)).any (·.1) = false := by rfl)
    (ht : eval (.Call (.Attribute o m apos) (e :: es) [] pos) Y.X.env = (do
      let ov ← eval o Y.X.env
      standAt apos.atName
      let (f, first) ← holding [ov] (getMethod ov m pl)
      callWith pos f first (backTo pos (starEach (e :: es) Y.X.env)) (backToKw pos (keywordEach [] Y.X.env))) := by rfl) :
    PD Y (.Call (.Attribute o m apos) (e :: es) [] pos) (tMethE C m (spOf Y.X.K sp) dvs Y.E te fa) (dMeth C m Y.ED sp dds de t) := by
  obtain ⟨ds, hd, hb⟩ := cm.b
  exact ⟨pe_methE he.p cm.c cm.m F g.room hb hd g.pass ha.p hst hpl ht, meth_sim g hdd he.s ha.s⟩
theorem pd_meth0 (g : Y.Good k) (F : FnOk Y.X.prog Y.X.w Y.X.K Y.X.mg Y.X.base (L2.CX Y.X.prog Y.X.w) k f fd ps (spOf Y.X.K sp)) (cm : CalM Y.X.K C m f fd ps dvs) (hdd : ∀ G, RpAll Y.X.K G dvs dds) (he : PD Y o te de)
    (ht : eval (.Call (.Attribute o m apos) [] [] pos) Y.X.env = (do
      let ov ← eval o Y.X.env
      standAt apos.atName
      let (f, first) ← holding [ov] (getMethod ov m pl)
      callWith pos f first (backTo pos (starEach [] Y.X.env)) (backToKw pos (keywordEach [] Y.X.env))) := by rfl) :
    PD Y (.Call (.Attribute o m apos) [] [] pos) (tMethE C m (spOf Y.X.K sp) dvs Y.E te tNil) (dMeth C m Y.ED sp dds de dNil) := by
  obtain ⟨ds, hd, hb⟩ := cm.b
  exact ⟨pe_meth0E he.p cm.c cm.m F g.room hb hd g.pass ht, meth_sim g hdd he.s pda_nil.s⟩
/-- .. by one keyword -/
structure CalMK (K : PySem.W.Frag) (C : Addr) (m : Str) (f : Addr) (fd : FuncData) (ps : List Str) (ks : List Str) : Prop where
  c : Cls K C
  m : Meth K C m f
  b : ∃ g, KBn K fd ps 1 ks g (fun vs zs => vs ++ zs)
def dMethK (C : Addr) (m : Str) (ED : DEnv → EDt) (n : Nat) (sp : SpD) (de : DE) (t : DA) : DE := fun ρ c Q => de ρ c fun x c1 => noFP C m x ∧ t ρ c1 fun ds c2 => ds.length = n ∧ @Run sp (x :: ds) c2 Q (ED ρ)
theorem pd_methK (g : Y.Good k) (F : FnOk Y.X.prog Y.X.w Y.X.K Y.X.mg Y.X.base (L2.CX Y.X.prog Y.X.w) k f fd ps (spOf Y.X.K sp)) (cm : CalMK Y.X.K C m f fd ps ks) (he : PD Y o te de) (hk : PDK Y kws fk tk)
    (hall : (backToKw pos (keywordEach kws Y.X.env)).all (·.1.isSome) = true := by rfl) (hks : (backToKw pos (keywordEach kws Y.X.env)).filterMap (·.1) = ks := by rfl)
    (hpl : ((backTo pos (starEach [] Y.X.env)).any (·.1) || (backToKw pos (keywordEach kws Y.X.env)).any (·.1.isNone)) = false := by rfl)
    (ht : eval (.Call (.Attribute o m apos) [] kws pos) Y.X.env = (do
      let ov ← eval o Y.X.env
      standAt apos.atName
      let (f, first) ← holding [ov] (getMethod ov m pl)
      callWith pos f first (backTo pos (starEach [] Y.X.env)) (backToKw pos (keywordEach kws Y.X.env))) := by rfl) :
    PD Y (.Call (.Attribute o m apos) [] kws pos) (tMethKE C m ks.length (spOf Y.X.K sp) (fun vs zs => vs ++ zs) Y.E te fk) (dMethK C m Y.ED ks.length sp de tk) := by
  obtain ⟨gg, hb⟩ := cm.b
  refine ⟨pe_methK0E he.p cm.c cm.m F g.room hb g.pass hk.p hall hks hpl ht, fun G H c ρ σ Qd Q R q kk => ?_⟩
  refine he.s G H c ρ σ _ _ R q fun x v G1 H1 c1 ev r ⟨⟨ns, es, ex, hn⟩, q⟩ => ?_
  subst ex
  cases r with
  | ins h1 h2 h3 =>
    refine ⟨_, _, _, rfl, ev.ok.same _ _ h1, lookup_nf (by rw [h2]; exact hn), ?_⟩
    exact hk.s G1 H1 c1 ρ σ _ _ (R.evo' ev) q fun ds vs G2 H2 c2 ev2 r2 ⟨hl, q⟩ => ⟨by rw [r2.length]; exact hl, G2, c2, .ins C ns es :: ds, Qd, Y.ED ρ, ev2.ok, .cons (Rp.mono ev2.le (.ins h1 h2 h3)) r2, q, fun d v G' H' c' e' r' q' => kk d v G' H' c' ((ev.trans ev2).trans e') r' q',
      fun C ns es dx G' H' c' e' r' q' => g.err ρ σ G H c R C ns es dx G' H' c' ((ev.trans ev2).trans e') r' q'⟩
end
end PL

namespace PL
open PySem PySem.Spec PyProof.Rows L2

/-! ### own operators -/
theorem takesF {X : Cx} : Takes X fun _ _ _ _ => False := fun _ _ ⟨_, _, _, _, _, _, _, _, _, _, _, _, _, _, _, _, z⟩ => z.elim
section
variable {X : Cx} {CX : CXT} {k : Nat} {f C : Addr} {fd : FuncData} {ps : List Str} {sp : Sp} {E : L2.St → XK} {a b : Expr} {pos : Pos} {ta tb : TE} {op : Operator} {cop : CmpOp}
/-- an operator by values, its wish about exceptions told at the slots -/
def OpRS (X : Cx) (f : Value → Value → Sem Value) (r : L2.St → R2) : Prop := ∀ (pins : List (Addr × Obj)) (s : Shared) (σ : L2.St) (H : Hp) (x y : V) (v u : Value) (Q : VK), L2.Inv X pins σ H s → RelV x v → RelV y u → r σ x y H Q → wpAny (model X.prog X.w) X.A (f v u) (EP X pins σ Q) X.xe s
def tOpS (r : L2.St → R2) (ta tb : TE) : TE := fun σ H Q => ta σ H fun x H1 => tb σ H1 fun y H2 => r σ x y H2 Q
theorem OpRS.of {g : Value → Value → Sem Value} {r : R2} (h : OpR X g r) : OpRS X g fun _ => r := fun pins s σ H x y v u Q I rx ry q => h pins s σ H x y v u Q I rx ry q
theorem OpRS.or {g : Value → Value → Sem Value} {r r' : L2.St → R2} (h : OpRS X g r) (h' : OpRS X g r') : OpRS X g fun σ x y H Q => r σ x y H Q ∨ r' σ x y H Q := fun pins s σ H x y v u Q I rx ry q =>
  q.elim (fun q => h pins s σ H x y v u Q I rx ry q) fun q => h' pins s σ H x y v u Q I rx ry q
theorem pe_opS {r : L2.St → R2} (ho : OpRS X (binaryOp op) r) (ha : PE X a ta) (hb : PE X b tb) : PE X (.BinOp a op b pos) (tOpS r ta tb) :=
  ⟨fun pins s σ H Q I h => wpAny_BinOp (binT ha hb I h fun v u s2 x y H2 I2 rx ry q => ho pins s2 σ H2 x y v u Q I2 rx ry q)⟩
/-- both instances of the class at C -/
def rBinO (C : Addr) (sp : Sp) (E : L2.St → XK) : L2.St → R2 := fun σ x y H Q => ∃ a dx fs b dy gs, x = .ref a ∧ y = .ref b ∧ H a = some (.ins C dx fs) ∧ H b = some (.ins C dy gs) ∧ sp [x, y] H Q (E σ)
theorem op_binO (h1 : PySem.W.selfFirst X.K C = true) (hs : PySem.W.findIn X.K (.ref C) (PySem.dunder op.info.2) = some (some (.ref f))) (hf : PySem.W.isFn X.K (.ref f) = true) (F : FnOk X.prog X.w X.K X.mg X.base CX k f fd ps sp) (hr : Room k X.A) (hb : Binds X.K fd ps [])
    (hx : ∀ σ, PassesAt CX X σ (E σ)) : OpRS X (binaryOp op) (rBinO C sp E) := by
  intro pins s σ H x y v u Q I rx ry h
  obtain ⟨a, dx, fs, b, dy, gs, rfl, rfl, ha, hb', q⟩ := h
  cases (show v = Value.ref a from rx)
  cases (show u = Value.ref b from ry)
  obtain ⟨mA, O, _⟩ := ins_get I.hok ha
  obtain ⟨mB, O2, _⟩ := ins_get I.hok hb'
  obtain ⟨od, J, _⟩ := O.look
  obtain ⟨od', J', _⟩ := O2.look
  obtain ⟨m, hF⟩ := I.fr
  refine PySem.W.binop_K hF I.ok.mod.kin J J'.type h1 hs hf (wpAny_mono (at_pos (us := [.ref a, .ref b]) (vs := [.ref a, .ref b]) (dvs := []) F hr hb .nil (hx σ) I (.cons rfl (.cons rfl .nil)) (by rw [List.append_nil]; exact q)) (fun w s' z => ?_) fun _ _ x => x)
  obtain ⟨z', H', I', rz, qz⟩ := z
  exact SlX.cmpback rz ⟨z', H', I', rz, qz⟩
/-- x == y, x != y: x an instance of the class at C with an own == -/
def rEqO (K : PySem.W.Frag) (C : Addr) (ng : Bool) (sp : Sp) (E : L2.St → XK) : L2.St → R2 := fun σ x y H Q => ∃ a dx fs t, x = .ref a ∧ H a = some (.ins C dx fs) ∧ TyX K H y t ∧ PySem.W.notFirst K C t = true ∧ sp [x, y] H (fun v H' => ∃ b, v = .bl b ∧ Q (.bl (ng != b)) H') (E σ)
theorem op_eqO (hs : PySem.W.findIn X.K (.ref C) "__eq__" = some (some (.ref f))) (hf : PySem.W.isFn X.K (.ref f) = true) (F : FnOk X.prog X.w X.K X.mg X.base CX k f fd ps sp) (hr : Room k X.A) (hb : Binds X.K fd ps [])
    (hx : ∀ σ, PassesAt CX X σ (E σ)) : OpRS X (compareOp .Eq) (rEqO X.K C false sp E) := by
  intro pins s σ H x y v u Q I rx ry h
  obtain ⟨a, dx, fs, t, rfl, ha, ty, hn, q⟩ := h
  cases (show v = Value.ref a from rx)
  obtain ⟨mA, O, _⟩ := ins_get I.hok ha
  obtain ⟨od, J, _⟩ := O.look
  obtain ⟨m, hF⟩ := I.fr
  obtain ⟨P, kx, hP, _⟩ := kit_of I ry ty
  show wpAny (model X.prog X.w) X.A (richCompare .Eq (.ref a) u) (EP X pins σ Q) X.xe s
  refine PySem.W.cmp_K (op := .Eq) hr.units0 hF I.ok.mod.kin J (kx.ty _ _ I.kIn hP) hn hs hf ?_
  refine wpAny_mono (at_pos (us := [.ref a, u]) (vs := [.ref a, y]) (dvs := []) F hr hb .nil (hx σ) I (.cons rfl (.cons ry .nil)) (by rw [List.append_nil]; exact q)) (fun w s' z => ?_) fun _ _ x => x
  obtain ⟨z', H', I', rz, b, ez, qz⟩ := z
  subst ez
  cases rz
  exact ⟨.bl b, H', I', rfl, by simpa using qz⟩
theorem op_neO (hs : PySem.W.findIn X.K (.ref C) "__eq__" = some (some (.ref f))) (hf : PySem.W.isFn X.K (.ref f) = true) (hne : PySem.W.findIn X.K (.ref C) "__ne__" = some (some (.builtin "object.__ne__"))) (hso : PySem.W.subIn X.K (.ref C) (.type "object") = some true)
    (F : FnOk X.prog X.w X.K X.mg X.base CX k f fd ps sp) (hr : Room (k + 1) X.A) (hb : Binds X.K fd ps []) (hx : Passes CX X.nox fun _ _ _ => False) : OpRS X (compareOp .NotEq) (rEqO X.K C true sp fun _ _ _ _ => False) := by
  intro pins s σ H x y v u Q I rx ry h
  obtain ⟨a, dx, fs, t, rfl, ha, ty, hn, q⟩ := h
  cases (show v = Value.ref a from rx)
  obtain ⟨mA, O, _⟩ := ins_get I.hok ha
  obtain ⟨od, J, _⟩ := O.look
  obtain ⟨m, hF⟩ := I.fr
  obtain ⟨P, kx, hP, _⟩ := kit_of I ry ty
  show wpAny (model X.prog X.w) X.A (richCompare .NotEq (.ref a) u) (EP X pins σ Q) X.xe s
  refine PySem.W.ne_K (by have := hr.un; omega) hF I.ok.mod.kin J (kx.ty _ _ I.kIn hP) hn hs hf hne hso ?_
  have hl := F.len _ _ _ _ q
  refine wpAny_call (codeAny_mono (F.run X.A.in1 X.stack s H ⟨[.ref a, u], []⟩ [.ref a, u] [.ref a, y] _ _ hr.in1 I.env0.in1 (by
    have := hb s [.ref a, u] I.kIn (by simpa using hl)
    simpa using this) (.cons rfl (.cons ry .nil)) q) fun r s' hq => ?_)
  cases r with
  | error e => exact False.elim (hx pins σ H s e s' (I.wish _) hq)
  | ok fl =>
    cases fl with
    | ret w =>
      obtain ⟨z, H', I', rz, b, ez, qz⟩ := I.after hq
      subst ez
      cases rz
      exact ⟨b, rfl, .bl (!b), H', I', rfl, by simpa using qz⟩
    | next => exact False.elim hq
    | brk => exact False.elim hq
    | cont => exact False.elim hq
end
/-! ### over data -/
def Br2S (Y : Ctx) (r : L2.St → R2) (rd : DEnv → RD2) : Prop := ∀ G0 H0 c0 ρ σ G H c x y d e (Qd : QD) (Q : VK), Rel Y G0 H0 c0 ρ σ → Evo G0 H0 c0 G H c → Rp Y.X.K G x d → Rp Y.X.K G y e → rd ρ d e c Qd →
  (∀ d' v G' H' c', Evo G H c G' H' c' → Rp Y.X.K G' v d' → Qd d' c' → Q v H') → r σ x y H Q
theorem Br2S.of {Y : Ctx} {r : R2} {rd : RD2} (h : Br2 Y.X.K r rd) : Br2S Y (fun _ => r) fun _ => rd := fun _ _ _ _ _ G H c x y d e Qd Q _ ev rx ry q k => h G H c x y d e Qd Q ev.ok rx ry q k
def dOpS (rd : DEnv → RD2) (ta tb : DE) (ρ : DEnv) (c : Nat) (Q : QD) : Prop := ta ρ c fun x c1 => tb ρ c1 fun y c2 => rd ρ x y c2 Q
section
variable {Y : Ctx} {k : Nat} {C f : Addr} {fd : FuncData} {ps : List Str} {a b : Expr} {ea eb : TE} {ta tb : DE} {pos : Pos} {sp : SpD} {op : Operator} {cop : CmpOp} {r : L2.St → R2} {rd : DEnv → RD2}
theorem two3 {G H c ρ σ} {Qd : QD} {Q : VK} (R : Rel Y G H c ρ σ) (ha : SimE Y ea ta) (hb : SimE Y eb tb) (br : Br2S Y r rd) (h : dOpS rd ta tb ρ c Qd) (kk : ∀ d v G' H' c', Evo G H c G' H' c' → Rp Y.X.K G' v d → Qd d c' → Q v H') : tOpS r ea eb σ H Q := by
  refine ha G H c ρ σ _ _ R h fun d v G1 H1 c1 e1 r1 q1 => ?_
  refine hb G1 H1 c1 ρ σ _ _ (R.evo' e1) q1 fun d2 v2 G2 H2 c2 e2 r2 q2 => ?_
  exact br G H c ρ σ G2 H2 c2 v v2 d d2 Qd Q R (e1.trans e2) (r1.mono e2.le) r2 q2 fun d' v G3 H3 c3 e3 r q => kk d' v G3 H3 c3 ((e1.trans e2).trans e3) r q
theorem pd_opS (ho : OpRS Y.X (binaryOp op) r) (br : Br2S Y r rd) (ha : PD Y a ea ta) (hb : PD Y b eb tb) : PD Y (.BinOp a op b pos) (tOpS r ea eb) (dOpS rd ta tb) :=
  ⟨pe_opS ho ha.p hb.p, fun G H c ρ σ Qd Q R h kk => two3 R ha.s hb.s br h kk⟩
theorem pdc_opS (ho : OpRS Y.X (compareOp cop) r) (br : Br2S Y r rd) (ha : PD Y a ea ta) (hb : PD Y b eb tb) : PDC Y cop a b (tOpS r ea eb) (dOpS rd ta tb) :=
  ⟨⟨fun pins s σ H Q I h => bin ha.p hb.p I h fun v u s2 x y H2 I2 r1 r2 q => ho pins s2 σ H2 x y v u Q I2 r1 r2 q⟩, fun G H c ρ σ Qd Q R h kk => two3 R ha.s hb.s br h kk⟩
/-- x op y of two instances, or (r0) of other things -/
def aBinO (C : Addr) (ED : DEnv → EDt) (sp : SpD) (r0 : RD2) (ρ : DEnv) (x y : D) (c : Nat) (Q : QD) : Prop := match x with
  | .ins C' ns es => C' = C ∧ isIP C y ∧ @Run sp [.ins C' ns es, y] c Q (ED ρ)
  | x => r0 x y c Q
theorem br_binO {r0 : R2} {rd0 : RD2} (g : Y.Good k) (h0 : Br2 Y.X.K r0 rd0) : Br2S Y (fun σ x y H Q => r0 x y H Q ∨ rBinO C (spOf Y.X.K sp) Y.E σ x y H Q) (aBinO C Y.ED sp rd0) := by
  intro G0 H0 c0 ρ σ G H c x y d e Qd Q R ev rx ry q kk
  cases d with
  | ins C' ns es =>
    obtain ⟨rfl, ⟨ms, fs, rfl⟩, q⟩ := q
    cases rx with
    | ins h1 h2 h3 =>
      cases ry with
      | ins g1 g2 g3 =>
        exact .inr ⟨_, _, _, _, _, _, rfl, rfl, ev.ok.same _ _ h1, ev.ok.same _ _ g1, G, c, _, Qd, Y.ED ρ, ev.ok, .cons (.ins h1 h2 h3) (.cons (.ins g1 g2 g3) .nil), q, kk,
          fun C ns es dx G' H' c' e' r' q' => g.err ρ σ G0 H0 c0 R C ns es dx G' H' c' (ev.trans e') r' q'⟩
  | _ => exact .inl (h0 G H c x y _ e Qd Q ev.ok rx ry q kk)
/-- what a value can be compared with -/
def eqY (K : PySem.W.Frag) (C : Addr) (y : D) : Prop := isIP C y ∨ ∃ T, kind y = some T ∧ PySem.W.notFirst K C (.type T) = true
def aEqO (K : PySem.W.Frag) (C : Addr) (ng : Bool) (sp : SpD) (x y : D) (c : Nat) (Q : QD) : Prop := match x with
  | .ins C' ns es => C' = C ∧ eqY K C y ∧ @Run sp [.ins C' ns es, y] c (fun v c' => @asB v fun b => Q (.bl (ng != b)) c') (fun _ _ _ _ => False)
  | x => Pl 60 x ∧ Pl 60 y ∧ Q (.bl (ng != eqD x y)) c
theorem br_eqO {r0 : R2} {rd0 : RD2} {ng : Bool} {E : L2.St → XK} (I : ICls Y.X.K C) (h0 : Br2 Y.X.K r0 rd0) (hrd : ∀ x y c Q, Pl 60 x ∧ Pl 60 y ∧ Q (.bl (ng != eqD x y)) c → rd0 x y c Q) : Br2S Y (fun σ x y H Q => r0 x y H Q ∨ rEqO Y.X.K C ng (spOf Y.X.K sp) E σ x y H Q) (fun _ => aEqO Y.X.K C ng sp) := by
  intro G0 H0 c0 ρ σ G H c x y d e Qd Q R ev rx ry q kk
  cases d with
  | ins C' ns es =>
    obtain ⟨rfl, hy, q⟩ := q
    cases rx with
    | ins h1 h2 h3 =>
      have ty : ∃ t, TyX Y.X.K H y t ∧ PySem.W.notFirst Y.X.K C' t = true := by
        rcases hy with ⟨ms, fs, rfl⟩ | ⟨T, hk, hn⟩
        · cases ry with
          | ins g1 g2 g3 => exact ⟨.ref C', .base (.ins (ev.ok.same _ _ g1) I.cl I.ha I.hn I.ht I.hm), by simp [PySem.W.notFirst]⟩
        · exact ⟨_, tyX_of ev.ok ry hk, hn⟩
      obtain ⟨t, ty, hn⟩ := ty
      refine .inr ⟨_, _, _, t, rfl, ev.ok.same _ _ h1, ty, hn, G, c, _, _, fun _ _ _ _ => False, ev.ok, .cons (.ins h1 h2 h3) (.cons ry .nil), q, ?_, fun _ _ _ _ _ _ _ _ _ z => z.elim⟩
      rintro d v G' H' c' ev' r' ⟨b, rfl, q'⟩
      cases r'
      exact ⟨b, rfl, kk _ _ G' H' c' ev' (.bl _) q'⟩
  | _ => exact .inl (h0 G H c x y _ e Qd Q ev.ok rx ry (hrd _ _ _ _ q) kk)
/-- the facts of the class at C that its operators ask -/
structure OpsC (K : PySem.W.Frag) (C : Addr) : Prop where
  sf : PySem.W.selfFirst K C = true
  ne : PySem.W.findIn K (.ref C) "__ne__" = some (some (.builtin "object.__ne__"))
  so : PySem.W.subIn K (.ref C) (.type "object") = some true
theorem pd_addO (g : Y.Good k) (O : OpsC Y.X.K C) (m : Meth Y.X.K C "__add__" f) (F : FnOk Y.X.prog Y.X.w Y.X.K Y.X.mg Y.X.base (L2.CX Y.X.prog Y.X.w) k f fd ps (spOf Y.X.K sp)) (hb : Binds Y.X.K fd ps []) (ha : PD Y a ea ta) (hb' : PD Y b eb tb) :
    PD Y (.BinOp a .Add b pos) (tOpS (fun σ x y H Q => rSum2 Y.X.K x y H Q ∨ rBinO C (spOf Y.X.K sp) Y.E σ x y H Q) ea eb) (dOpS (aBinO C Y.ED sp aSum2) ta tb) :=
  pd_opS ((OpRS.of op_sum2).or (op_binO O.sf m.at_ m.fn F g.room hb g.pass)) (br_binO g br_sum2) ha hb'
def aNone : RD2 := fun _ _ _ _ => False
theorem pd_orO (g : Y.Good k) (O : OpsC Y.X.K C) (m : Meth Y.X.K C "__or__" f) (F : FnOk Y.X.prog Y.X.w Y.X.K Y.X.mg Y.X.base (L2.CX Y.X.prog Y.X.w) k f fd ps (spOf Y.X.K sp)) (hb : Binds Y.X.K fd ps []) (ha : PD Y a ea ta) (hb' : PD Y b eb tb) :
    PD Y (.BinOp a .BitOr b pos) (tOpS (fun σ x y H Q => (fun _ _ _ _ => False : R2) x y H Q ∨ rBinO C (spOf Y.X.K sp) Y.E σ x y H Q) ea eb) (dOpS (aBinO C Y.ED sp aNone) ta tb) :=
  pd_opS ((OpRS.of (r := fun _ _ _ _ => False) fun _ _ _ _ _ _ _ _ _ _ _ _ h => h.elim).or (op_binO O.sf m.at_ m.fn F g.room hb g.pass)) (br_binO g (fun _ _ _ _ _ _ _ _ _ _ _ _ h _ => h)) ha hb'
theorem pdc_eqO (g : Y.Good (k + 1)) (I : ICls Y.X.K C) (m : Meth Y.X.K C "__eq__" f) (F : FnOk Y.X.prog Y.X.w Y.X.K Y.X.mg Y.X.base (L2.CX Y.X.prog Y.X.w) k f fd ps (spOf Y.X.K sp)) (hb : Binds Y.X.K fd ps []) (ha : PD Y a ea ta) (hb' : PD Y b eb tb) :
    PDC Y .Eq a b (tOpS (fun σ x y H Q => rEqD Y.X.K x y H Q ∨ rEqO Y.X.K C false (spOf Y.X.K sp) (fun _ _ _ _ => False) σ x y H Q) ea eb) (dOpS (fun _ => aEqO Y.X.K C false sp) ta tb) :=
  pdc_opS ((OpRS.of (op_eqD g.room.units)).or (op_eqO m.at_ m.fn F (g.room.mono (Nat.le_succ _)) hb fun σ => passAt takesF σ)) (br_eqO I br_eqD fun x y c Q h => by simpa [aEqD] using h) ha hb'
theorem pdc_neO (g : Y.Good (k + 1)) (I : ICls Y.X.K C) (O : OpsC Y.X.K C) (m : Meth Y.X.K C "__eq__" f) (F : FnOk Y.X.prog Y.X.w Y.X.K Y.X.mg Y.X.base (L2.CX Y.X.prog Y.X.w) k f fd ps (spOf Y.X.K sp)) (hb : Binds Y.X.K fd ps []) (ha : PD Y a ea ta) (hb' : PD Y b eb tb) :
    PDC Y .NotEq a b (tOpS (fun σ x y H Q => rNeD Y.X.K x y H Q ∨ rEqO Y.X.K C true (spOf Y.X.K sp) (fun _ _ _ _ => False) σ x y H Q) ea eb) (dOpS (fun _ => aEqO Y.X.K C true sp) ta tb) :=
  pdc_opS ((OpRS.of (op_neD g.room.units)).or (op_neO m.at_ m.fn O.ne O.so F g.room hb noE)) (br_eqO I br_neD fun x y c Q h => by simpa [aNeD] using h) ha hb'
end
end PL

namespace PL
open PySem PySem.Spec PyProof.Rows L2

/-! ### what a head tells: defs at addresses, looks -/
structure DefP where
  ad : PySem.W.Frag → Addr
  name : Str
  qual : Str
  params : Arguments
  body : List Stmt
  scope : Scope
  dfl : List He.Dv := []
  kwd : List (Str × He.Dv) := []
def fnP (K : PySem.W.Frag) (f : Addr) : He.FnW := match K.lookup f with
  | some ⟨_, _, .func fd, _⟩ => some (fd.name, fd.qualname, fd.params, fd.body, fd.scope, fd.globals, fd.closure, fd.builtins)
  | _ => none
def DefP.val (d : DefP) : He.FnW := some (d.name, d.qual, d.params, .stmts d.body, d.scope, mainGlobals, [], builtinsNs)
def DefP.dvs (K : PySem.W.Frag) (d : DefP) : List V := d.dfl.map (He.Dv.v K)
def DefP.kws (K : PySem.W.Frag) (d : DefP) : List (Str × V) := d.kwd.map fun q => (q.1, q.2.v K)
def DefP.ok (K : PySem.W.Frag) (d : DefP) : Bool := PySem.W.keepIn K (.ref (d.ad K)) && (match K.lookup (d.ad K) with
  | some ⟨_, _, .func fd, _⟩ => PySem.W.codeIn K fd.code d.qual && (He.dflB K fd.defaults (d.dvs K) && He.kwdB K fd.kwdefaults (d.kws K))
  | _ => false)
theorem DefP.funD {K : PySem.W.Frag} {d : DefP} (e : fnP K (d.ad K) = d.val) (c : d.ok K = true) : ∃ fd, FunD K d.name d.qual d.params d.body d.scope (d.dvs K) (d.kws K) (d.ad K) fd := by
  obtain ⟨kp, c2⟩ := He.ba c
  unfold fnP at e
  cases q : K.lookup (d.ad K) with
  | none => rw [q] at c2; cases c2
  | some o =>
    obtain ⟨oc, od, dt, osl⟩ := o
    rw [q] at c2 e
    cases dt with
    | func fd =>
      obtain ⟨n1, n2, n3, n4, n5, n6, n7, n8, n9, n10, n11, n12, n13, n14, n15⟩ := fd
      have e2 : (some (n1, n2, n3, n4, n5, n6, n7, n15) : He.FnW) = some (d.name, d.qual, d.params, .stmts d.body, d.scope, mainGlobals, [], builtinsNs) := e
      simp only [Option.some.injEq, Prod.mk.injEq] at e2
      obtain ⟨h1, h2, h3, h4, h5, h6, h7, h8⟩ := e2
      subst h1 h2 h3 h4 h5 h6 h7 h8
      have c3 : (PySem.W.codeIn K n13 d.qual && (He.dflB K n8 (d.dvs K) && He.kwdB K n9 (d.kws K))) = true := c2
      obtain ⟨k1, k2⟩ := He.ba c3
      obtain ⟨k3, k4⟩ := He.ba k2
      exact ⟨_, ⟨oc, od, n8, n9, n10, n11, n12, n13, n14, osl, rfl, q, k1, He.dflB_ok k3, He.kwdB_ok k4⟩, kp⟩
    | _ => cases c2
abbrev Looks' : Type := List (PySem.W.Frag → Bool)
abbrev AlP : Type := Bool × List He.FnW
def obsP (fn : List DefP) (ex : Looks') (K : PySem.W.Frag) : AlP := ((ex.all fun f => f K) && fn.all fun d => d.ok K, fn.map fun d => fnP K (d.ad K))
def valP (fn : List DefP) : AlP := (true, fn.map DefP.val)
def SaysP (fn : List DefP) (ex : Looks') (K : PySem.W.Frag) : Prop := obsP fn ex K = valP fn
def obsPG (n : Nat) (fn : List DefP) (ex : Looks') (g : Addr → Option Obj) : AlP := obsP fn ex (He.frG g (He.asD g n))
def hookP (n : Nat) (fn : List DefP) (ex : Looks') : PySem.W.Hook where
  α := AlP
  obs := fun s => obsPG n fn ex s.heap.get?
  val := fun _ => valP fn
  says := fun _ h => ∃ K : PySem.W.Frag, K.In h ∧ SaysP fn ex K
  of := fun _ _ e => ⟨_, He.frG_in, e⟩
  keeps := fun _ _ _ ⟨K, hK, c⟩ k => ⟨K, PySem.W.Frag.In.keeps hK k, c⟩
theorem obsPG_eq {n : Nat} {fn : List DefP} {ex : Looks'} {g : Addr → Option Obj} {s : Shared} (h : ∀ a, g a = s.heap.get? a) : obsPG n fn ex g = (hookP n fn ex).obs s := by
  have e : g = s.heap.get? := funext h
  rw [e] <;> rfl
section
variable {fn : List DefP} {ex : Looks'} {K : PySem.W.Frag}
theorem SaysP.look (c : SaysP fn ex K) (i : Nat) {f : PySem.W.Frag → Bool} (h : ex[i]? = some f := by rfl) : f K = true := by
  have c1 := (He.ba (show ((ex.all fun f => f K) && fn.all fun d => d.ok K) = true from congrArg (fun z : AlP => z.1) c)).1
  exact List.all_eq_true.mp c1 f (List.mem_of_getElem? h)
theorem SaysP.def_ (c : SaysP fn ex K) (i : Nat) {d : DefP} (h : fn[i]? = some d := by rfl) : ∃ fd, FunD K d.name d.qual d.params d.body d.scope (d.dvs K) (d.kws K) (d.ad K) fd := by
  have c2 := (He.ba (show ((ex.all fun f => f K) && fn.all fun d => d.ok K) = true from congrArg (fun z : AlP => z.1) c)).2
  have e : fn.map (fun d => fnP K (d.ad K)) = fn.map DefP.val := congrArg (fun z : AlP => z.2) c
  have e2 : (fn.map fun d => fnP K (d.ad K))[i]? = (fn.map DefP.val)[i]? := by rw [e]
  rw [List.getElem?_map, List.getElem?_map, h] at e2
  exact DefP.funD (Option.some.inj e2) (List.all_eq_true.mp c2 d (List.mem_of_getElem? h))
end
/-! ### looks -/
/-- a property's object, its getter -/
def ppA (K : PySem.W.Frag) (x f : Str) : Addr := He.ma K (He.ga K x) f
def pgA (K : PySem.W.Frag) (x f : Str) : Addr := match PySem.W.recIn K (ppA K x f) "property" with
  | some (.ref g :: _) => g
  | _ => 0
def propB (K : PySem.W.Frag) (x f : Str) : Bool := He.eqO (PySem.W.findIn K (.ref (He.ga K x)) f) (some (some (.ref (ppA K x f)))) && decide (PySem.W.specialIn K (.ref (ppA K x f)) "__get__" = some (some (.builtin "property.__get__"))) &&
  decide (PySem.W.takesIn K (.ref (ppA K x f)) = some true) && (match PySem.W.recIn K (ppA K x f) "property" with
    | some (.ref g :: _) => decide (g = pgA K x f)
    | _ => false)
theorem propB_ok {K : PySem.W.Frag} {x f : Str} (h : propB K x f = true) : PropOf K (He.ga K x) f (ppA K x f) (pgA K x f) := by
  simp only [propB, Bool.and_eq_true, decide_eq_true_eq] at h
  obtain ⟨⟨⟨h1, h2⟩, h3⟩, h4⟩ := h
  refine ⟨He.eqO_ok h1, h2, h3, ?_⟩
  split at h4
  · rename_i g r e
    exact ⟨r, by rw [e, of_decide_eq_true h4]⟩
  · cases h4
def iclsB (K : PySem.W.Frag) (x : Str) : Bool := (He.Fa.cls x).ok K && He.eqO (PySem.W.findIn K (.ref (He.ga K x)) "__class__") (some (some (.builtin "object.__class__"))) &&
  decide (PySem.W.specialIn K (.builtin "object.__class__") "__get__" = some (some (.builtin "getset_descriptor.__get__"))) && decide (PySem.W.takesIn K (.builtin "object.__class__") = some true) &&
  decide (PySem.W.mroIn K (He.ga K x) (.type "object") = some true) && basics.all fun T => decide (PySem.W.kitOne K (.ref (He.ga K x)) (.type T) = some false)
theorem iclsB_ok {K : PySem.W.Frag} {x : Str} (h : iclsB K x = true) : ICls K (He.ga K x) := by
  simp only [iclsB, Bool.and_eq_true, decide_eq_true_eq, List.all_eq_true] at h
  obtain ⟨⟨⟨⟨⟨h1, h2⟩, h3⟩, h4⟩, h5⟩, h6⟩ := h
  exact ⟨He.cls_ok h1, He.eqO_ok h2, h3, h4, h5, h6⟩
def dclsB (K : PySem.W.Frag) (x f : Str) : Bool := (He.Fa.glo x).ok K && (He.Fa.mkr x).ok K && (He.Fa.noat x f).ok K && iclsB K x
theorem dclsB_ok {K : PySem.W.Frag} {h : Heap} {mg : Str → Option Value} (X : K.In h) (G : h.Ns mainGlobals mg) {x f : Str} (q : dclsB K x f = true) : DCls K mg x f (He.ga K x) (He.ma K (He.ga K x) "__init__") := by
  simp only [dclsB, Bool.and_eq_true] at q
  obtain ⟨⟨⟨h1, h2⟩, h3⟩, h4⟩ := q
  exact ⟨He.glo_ok X G h1, He.mkr_ok h2, (iclsB_ok h4).cl, He.noat_ok h3, iclsB_ok h4⟩
def opsB (K : PySem.W.Frag) (x : Str) : Bool := PySem.W.selfFirst K (He.ga K x) && He.eqO (PySem.W.findIn K (.ref (He.ga K x)) "__ne__") (some (some (.builtin "object.__ne__"))) && decide (PySem.W.subIn K (.ref (He.ga K x)) (.type "object") = some true)
theorem opsB_ok {K : PySem.W.Frag} {x : Str} (h : opsB K x = true) : OpsC K (He.ga K x) := by
  simp only [opsB, Bool.and_eq_true, decide_eq_true_eq] at h
  exact ⟨h.1.1, He.eqO_ok h.1.2, h.2⟩
def kinds7 : List String := ["NoneType", "bool", "int", "str", "tuple", "list", "dict"]
theorem kind_7 {d : D} {k : String} (h : kind d = some k) : k ∈ kinds7 := by
  cases d <;> first | (cases h; done) | (cases h; simp [kinds7])
def nfB (K : PySem.W.Frag) (x : Str) : Bool := kinds7.all fun T => PySem.W.notFirst K (He.ga K x) (.type T)
theorem nfB_ok {K : PySem.W.Frag} {x : Str} (h : nfB K x = true) : ∀ T ∈ kinds7, PySem.W.notFirst K (He.ga K x) (.type T) = true := List.all_eq_true.mp h
def ktB (K : PySem.W.Frag) (x : Str) : Bool := kinds7.all fun T => decide (PySem.W.kitOne K (.type T) (.ref (He.ga K x)) = some false)
theorem ktB_ok {K : PySem.W.Frag} {x : Str} (h : ktB K x = true) : ∀ T ∈ kinds7, PySem.W.kitOne K (.type T) (.ref (He.ga K x)) = some false := fun T hT => of_decide_eq_true (List.all_eq_true.mp h T hT)
def kxB (K : PySem.W.Frag) (x y : Str) (b : Bool) : Bool := decide (PySem.W.kitOne K (.ref (He.ga K x)) (.ref (He.ga K y)) = some b)
theorem kxB_ok {K : PySem.W.Frag} {x y : Str} {b : Bool} (h : kxB K x y b = true) : PySem.W.kitOne K (.ref (He.ga K x)) (.ref (He.ga K y)) = some b := of_decide_eq_true h
theorem isO_kd {K : PySem.W.Frag} {IC : Addr → Prop} {B : Addr} {x : D} {c : Nat} {Q : QD} (hk : ∀ T ∈ kinds7, PySem.W.kitOne K (.type T) (.ref B) = some false) (hx : (kind x).isSome = true) : aIsO K IC [x, .cls B] c Q = Q (.bl false) c := by
  obtain ⟨k, hk2⟩ := Option.isSome_iff_exists.mp hx
  exact isO_kind hk2 (hk k (kind_7 hk2))
theorem eqY_kd {K : PySem.W.Frag} {C : Addr} {y : D} (hn : ∀ T ∈ kinds7, PySem.W.notFirst K C (.type T) = true) (hx : (kind y).isSome = true) : eqY K C y := by
  obtain ⟨k, hk2⟩ := Option.isSome_iff_exists.mp hx
  exact .inr ⟨k, hk2, hn k (kind_7 hk2)⟩
end PL

namespace PL
open PySem PySem.Spec PyProof.Rows L2

section
variable {Y : Ctx} {x y z : Str} {a b e : Expr} {ta : TA} {t : DA} {px py pz pt pos pt2 : Pos} {kt k2 k : Nat}
/-! ### a module's constants -/
theorem pd_gint {i : Int} (hm : ∃ t, Y.X.mg x = some (.int i t)) (hg : Gl Y.X x := by rfl) (hd : (x == ("__debug__" : Str)) = false := by decide) : PD Y (.Name x pos) (tC (.int i)) (dC (.int i)) := by
  obtain ⟨t, hm⟩ := hm
  exact pd_glob hm ⟨t, rfl⟩ (fun _ => .int i) hg hd
theorem pd_gstr {i : Str} (hm : ∃ t, Y.X.mg x = some (.str i t)) (hg : Gl Y.X x := by rfl) (hd : (x == ("__debug__" : Str)) = false := by decide) : PD Y (.Name x pos) (tC (.str i)) (dC (.str i)) := by
  obtain ⟨t, hm⟩ := hm
  exact pd_glob hm ⟨t, rfl⟩ (fun _ => .str i) hg hd
/-! ### a, b = x, y -/
def sPar (i j : Nat) (t : DA) : DS := fun DD ρ c => t ρ c fun ds c1 => ∃ d e, ds = [d, e] ∧ @Nx DD.nx ((ρ.set i (.fz d)).set j (.fz e)) c1
theorem pds_par (i j : Nat) (g : Y.Good k) (hN : Y.X.N.Nodup) (ha : PDA Y [a, b] ta t) (hij : i ≠ j := by decide) (hi : Y.X.N[i]? = some x := by rfl) (hj : Y.X.N[j]? = some y := by rfl) (hx : Y.X.env.scope.names.lookup x = some .local := by rfl) (hy : Y.X.env.scope.names.lookup y = some .local := by rfl)
    (hw : swappedStores [.Tuple [.Name x px, .Name y py] kt pt] (.Tuple [a, b] k2 pt2) Y.X.env = pure (some [x, y]) := by rfl) (hs : swapsWithSole [.Tuple [.Name x px, .Name y py] kt pt] (.Tuple [a, b] k2 pt2) pos.line Y.X.env = pure false := by rfl) :
    PDS Y (.Assign [.Tuple [.Name x px, .Name y py] kt pt] (.Tuple [a, b] k2 pt2) pos) (tPar i j ta) (sPar i j t) :=
  ⟨ps_par g.calm hN hi hj hij hx hy ha.p hw hs, fun P G H c ρ σ DD EE K R q => ha.s G H c ρ σ _ _ R.r q fun ds vs G1 H1 c1 ev rr ⟨d, e, ed, q⟩ => by
    subst ed
    cases rr with
    | cons r1 rr =>
      cases rr with
      | cons r2 rr =>
        cases rr
        exact ⟨_, _, rfl, K.nx G1 H1 c1 _ _ ⟨((R.r.evo' ev).set_fz r1 i).set_fz r2 j, R.le.trans ev.le⟩ q⟩⟩
def twoP (ds : List D) (P : D → D → Prop) : Prop := ∃ d e, ds = [d, e] ∧ P d e
theorem ev_twoP {d e : D} {P : D → D → Prop} : twoP [d, e] P = P d e := by
  apply propext; constructor
  · rintro ⟨_, _, h, q⟩; cases h; exact q
  · exact fun q => ⟨_, _, rfl, q⟩
theorem ev_par {i j : Nat} {DD : DEnds} {ρ : DEnv} {c : Nat} : sPar i j t DD ρ c = t ρ c fun ds c1 => twoP ds fun d e => @Nx DD.nx ((ρ.set i (.fz d)).set j (.fz e)) c1 := propext Iff.rfl
end
section
variable {C C' f : Addr} {ED : DEnv → EDt} {sp : SpD} {r0 : RD2} {ρ : DEnv} {x y : D} {c : Nat} {Q : QD} {ns : List Str} {es l : List D} {i : Int} {s : Str} {b : Bool} {K : PySem.W.Frag} {ng : Bool} {ta tb : DE} {t : DA} {te : DE} {rd : DEnv → RD2} {m : Str} {dds : List D} {n : Nat} {fn : Str}
theorem ev_make : dMake C fn t ρ c Q = t ρ c fun ds c1 => hd1 ds fun d => Q (.ins C [fn] [d]) c1 := propext Iff.rfl
theorem ev_fldI : dFldI C fn te ρ c Q = te ρ c fun x c1 => insP C fn x fun d => Q d c1 := propext Iff.rfl
theorem ev_prop : dProp C sp te ρ c Q = te ρ c fun x c1 => isIP C x ∧ @Run sp [x] c1 Q (fun _ _ _ _ => False) := propext Iff.rfl
theorem ev_meth : dMeth C m ED sp dds te t ρ c Q = te ρ c fun x c1 => noFP C m x ∧ t ρ c1 fun ds c2 => @Run sp (x :: (ds ++ dds)) c2 Q (ED ρ) := propext Iff.rfl
theorem ev_methK : dMethK C m ED n sp te t ρ c Q = te ρ c fun x c1 => noFP C m x ∧ t ρ c1 fun ds c2 => ds.length = n ∧ @Run sp (x :: ds) c2 Q (ED ρ) := propext Iff.rfl
theorem ev_opS : dOpS rd ta tb ρ c Q = ta ρ c fun x c1 => tb ρ c1 fun y c2 => rd ρ x y c2 Q := propext Iff.rfl
theorem ev_binI : aBinO C ED sp r0 ρ (.ins C ns es) y c Q = (isIP C y ∧ @Run sp [.ins C ns es, y] c Q (ED ρ)) := by
  apply propext; constructor
  · exact fun h => h.2
  · exact fun h => ⟨rfl, h⟩
theorem ev_bin_i : aBinO C ED sp r0 ρ (.int i) y c Q = r0 (.int i) y c Q := propext Iff.rfl
theorem ev_bin_s : aBinO C ED sp r0 ρ (.str s) y c Q = r0 (.str s) y c Q := propext Iff.rfl
theorem ev_bin_t : aBinO C ED sp r0 ρ (.tup l) y c Q = r0 (.tup l) y c Q := propext Iff.rfl
theorem ev_bin_l : aBinO C ED sp r0 ρ (.lst l) y c Q = r0 (.lst l) y c Q := propext Iff.rfl
theorem ev_eqOI : aEqO K C ng sp (.ins C ns es) y c Q = (eqY K C y ∧ @Run sp [.ins C ns es, y] c (fun v c' => @asB v fun b => Q (.bl (ng != b)) c') (fun _ _ _ _ => False)) := by
  apply propext; constructor
  · exact fun h => h.2
  · exact fun h => ⟨rfl, h⟩
theorem ev_eqO_n : aEqO K C ng sp .non y c Q = (Pl 60 .non ∧ Pl 60 y ∧ Q (.bl (ng != eqD .non y)) c) := propext Iff.rfl
theorem ev_eqO_b : aEqO K C ng sp (.bl b) y c Q = (Pl 60 (.bl b) ∧ Pl 60 y ∧ Q (.bl (ng != eqD (.bl b) y)) c) := propext Iff.rfl
theorem ev_eqO_i : aEqO K C ng sp (.int i) y c Q = (Pl 60 (.int i) ∧ Pl 60 y ∧ Q (.bl (ng != eqD (.int i) y)) c) := propext Iff.rfl
theorem ev_eqO_s : aEqO K C ng sp (.str s) y c Q = (Pl 60 (.str s) ∧ Pl 60 y ∧ Q (.bl (ng != eqD (.str s) y)) c) := propext Iff.rfl
theorem ev_eqO_t : aEqO K C ng sp (.tup l) y c Q = (Pl 60 (.tup l) ∧ Pl 60 y ∧ Q (.bl (ng != eqD (.tup l) y)) c) := propext Iff.rfl
theorem ev_eqO_l : aEqO K C ng sp (.lst l) y c Q = (Pl 60 (.lst l) ∧ Pl 60 y ∧ Q (.bl (ng != eqD (.lst l) y)) c) := propext Iff.rfl
theorem eqY_ins : eqY K C (.ins C ns es) = True := eq_true (.inl ⟨_, _, rfl⟩)
end
/-- a def that is never asked -/
theorem FnOk.no {P : Program} {w : World} {K : PySem.W.Frag} {mg : Str → Option Value} {base : Heap} {CX : CXT} {x qual : Str} {params : Arguments} {body : List Stmt} {scope : Scope} {dvs : List V} {kws : List (Str × V)} {f : Addr} {fd : FuncData} {N ps : List Str} {k : Nat} {sp : Sp}
    (F : FunD K x qual params body scope dvs kws f fd) (S : FnScope N ps scope) (h : ∀ vs H Q E, sp vs H Q E → False) : FnOk P w K mg base CX (k + 1) f fd ps sp :=
  F.ok S (fun vs H Q E q => (h _ _ _ _ q).elim) fun _ _ _ _ _ _ _ _ _ q => (h _ _ _ _ q).elim
theorem spOf_no {K : PySem.W.Frag} {sp : SpD} (h : ∀ ds c Q E, sp ds c Q E → False) : ∀ vs H Q E, spOf K sp vs H Q E → False := fun _ _ _ _ ⟨_, _, _, _, _, _, _, q, _⟩ => h _ _ _ _ q
end PL

namespace PL
open PySem PySem.Spec PyProof.Rows L2

/-! ### plain laws: bounds, texts, layouts -/
def loOk : D → Int → Bool
  | .int l, i => decide (l ≤ i)
  | _, _ => true
def hiOk : D → Int → Bool
  | .int h, i => decide (i ≤ h)
  | _, _ => true
def isIntG : D → D → D → Bool
  | .int i, lo, hi => loOk lo i && hiOk hi i
  | _, _, _ => false
def isIntB (d : D) (lo : Int) : Bool := isIntG d (.int lo) .non
theorem isIntB_int {i lo : Int} : isIntB (.int i) lo = decide (lo ≤ i) := by simp [isIntB, isIntG, loOk, hiOk]
def bnd : D → Bool
  | .non => true
  | .int _ => true
  | _ => false
/-- a line of a layout -/
def lineOk : D → Bool
  | .tup [i, x] => isIntB i 0 && isStr x
  | _ => false
def badAt (k : Nat) : List D → Option Nat
  | [] => none
  | r :: l => if lineOk r then badAt (k + 1) l else some k
def firstOk : D → Bool
  | .tup (i :: _) => eqD i (.int 0)
  | _ => false
def check : D → D
  | .tup (r :: l) => match badAt 0 (r :: l) with
    | some k => .tup [.str "line", .int (k : Nat)]
    | none => match firstOk r with
      | true => .non
      | false => .tup [.str "first"]
  | _ => .tup [.str "form"]
theorem badAt_step {l : List D} {k : Nat} {r : D} (h : l[k]? = some r) (e : badAt 0 l = badAt k (l.drop k)) : if lineOk r then badAt 0 l = badAt (k + 1) (l.drop (k + 1)) else badAt 0 l = some k := by
  have hk : k < l.length := (List.getElem?_eq_some_iff.mp h).1
  have e2 : l.drop k = r :: l.drop (k + 1) := by
    rw [List.drop_eq_getElem_cons hk]
    rw [List.getElem?_eq_getElem hk] at h
    cases h
    rfl
  rw [e2] at e
  have e3 : badAt k (r :: l.drop (k + 1)) = if lineOk r then badAt (k + 1) (l.drop (k + 1)) else some k := by rw [badAt]
  rw [e3] at e
  split
  · rename_i h1; rw [if_pos h1] at e; exact e
  · rename_i h1; rw [if_neg h1] at e; exact e
theorem badAt_none : ∀ {l : List D} {k : Nat}, (∀ r, r ∈ l → lineOk r = true) → badAt k l = none
  | [], _, _ => rfl
  | r :: l, k, h => by rw [badAt, h r List.mem_cons_self, if_pos rfl]; exact badAt_none fun x hx => h x (List.mem_cons_of_mem _ hx)
theorem badAt_all : ∀ {l : List D} {k : Nat}, badAt k l = none → ∀ r, r ∈ l → lineOk r = true
  | [], _, _, r, hr => nomatch hr
  | r :: l, k, h, x, hx => by
    rw [badAt] at h
    cases e : lineOk r with
    | false => rw [e, if_neg Bool.false_ne_true] at h; cases h
    | true =>
      rw [e, if_pos rfl] at h
      rcases List.mem_cons.mp hx with rfl | hx
      · exact e
      · exact badAt_all h x hx
/-! ### plain data, put together -/
theorem pl_nil {n : Nat} : Pl (n + 1) (.tup []) := fun d hd => nomatch hd
theorem pl_cons {n : Nat} {a : D} {l : List D} (h : Pl n a) (k : Pl (n + 1) (.tup l)) : Pl (n + 1) (.tup (a :: l)) := fun d hd => by
  rcases List.mem_cons.mp hd with rfl | hd
  · exact h
  · exact k d hd
theorem pl_lst {n : Nat} {l : List D} (k : Pl (n + 1) (.tup l)) : Pl (n + 1) (.lst l) := k
theorem pl_str {n : Nat} {x : Str} (h : (decide (x.length ≤ 1000) && PyData.strOk x) = true) : Pl n (.str x) := by
  simp only [Bool.and_eq_true, decide_eq_true_eq] at h
  cases n <;> exact h
theorem pl_int {n : Nat} {i : Int} : Pl n (.int i) := by cases n <;> trivial
theorem pl_bl {n : Nat} {i : Bool} : Pl n (.bl i) := by cases n <;> trivial
theorem pl_non {n : Nat} : Pl n .non := by cases n <;> trivial
/-- plain, by looking -/
def plB : Nat → D → Bool
  | _, .non => true
  | _, .bl _ => true
  | _, .int _ => true
  | _, .str x => decide (x.length ≤ 1000) && PyData.strOk x
  | n + 1, .tup l => l.attach.all fun ⟨d, _⟩ => plB n d
  | n + 1, .lst l => l.attach.all fun ⟨d, _⟩ => plB n d
  | _, _ => false
theorem plB_ok : ∀ {n : Nat} {d : D}, plB n d = true → Pl n d
  | n, .non, _ => pl_non
  | n, .bl b, _ => pl_bl
  | n, .int b, _ => pl_int
  | n, .str b, h => pl_str (by cases n <;> simpa [plB] using h)
  | n + 1, .tup l, h => fun d hd => plB_ok (by
    simp only [plB, List.all_eq_true, List.mem_attach, forall_const, Subtype.forall] at h
    exact h d hd)
  | n + 1, .lst l, h => fun d hd => plB_ok (by
    simp only [plB, List.all_eq_true, List.mem_attach, forall_const, Subtype.forall] at h
    exact h d hd)
  | 0, .tup l, h => by simp [plB] at h
  | 0, .lst l, h => by simp [plB] at h
  | n, .ty _, h => by cases n <;> simp [plB] at h
  | n, .cls _, h => by cases n <;> simp [plB] at h
  | n, .dct _ _, h => by cases n <;> simp [plB] at h
  | n, .ins _ _ _, h => by cases n <;> simp [plB] at h
  | n, .exc _ _ _, h => by cases n <;> simp [plB] at h
  | n, .opq, h => by cases n <;> simp [plB] at h
  | n, .scr _, h => by cases n <;> simp [plB] at h
theorem kind_pl {n : Nat} {d : D} (h : Pl n d) : (kind d).isSome = true := by
  cases d <;> first | rfl | (cases n <;> exact h.elim)
mutual
theorem eqD_refl : ∀ {n : Nat} {d : D}, Pl n d → eqD d d = true
  | n, .non, _ => by simp [eqD]
  | n, .bl b, _ => by simp [eqD]
  | n, .int b, _ => by simp [eqD]
  | n, .str b, h => by simp [eqD]
  | n + 1, .tup l, h => by simp only [eqD]; exact eqDs_refl h
  | n + 1, .lst l, h => by simp only [eqD]; exact eqDs_refl h
  | 0, .tup l, h => h.elim
  | 0, .lst l, h => h.elim
  | n, .ty _, h => by cases n <;> exact h.elim
  | n, .cls _, h => by cases n <;> exact h.elim
  | n, .dct _ _, h => by cases n <;> exact h.elim
  | n, .ins _ _ _, h => by cases n <;> exact h.elim
  | n, .exc _ _ _, h => by cases n <;> exact h.elim
  | n, .opq, h => by cases n <;> exact h.elim
  | n, .scr _, h => by cases n <;> exact h.elim
theorem eqDs_refl : ∀ {n : Nat} {l : List D}, (∀ d, d ∈ l → Pl n d) → eqDs l l = true
  | n, [], _ => by simp [eqDs]
  | n, d :: l, h => by simp only [eqDs, eqD_refl (h d List.mem_cons_self), eqDs_refl fun x hx => h x (List.mem_cons_of_mem _ hx)]; rfl
end
theorem check_pl (d : D) : Pl 2 (check d) := by
  have f : Pl 2 (D.tup [D.str "form"]) := plB_ok (by decide +kernel)
  unfold check
  split
  · split
    · exact pl_cons (pl_str (by decide +kernel)) (pl_cons pl_int pl_nil)
    · split
      · exact pl_non
      · exact plB_ok (by decide +kernel)
  · exact f
/-! ### rows: an indent, a text -/
abbrev LRow := Int × Str
def encR (r : LRow) : D := .tup [.int r.1, .str r.2]
def encL (rows : List LRow) : D := .tup (rows.map encR)
def strS (x : Str) : Prop := x.length ≤ 1000 ∧ okStr x = true ∧ PyData.strOk x = true
structure LayOk (rows : List LRow) : Prop where
  ne : rows ≠ []
  first : ∀ r, rows[0]? = some r → r.1 = 0
  rows : ∀ r, r ∈ rows → 0 ≤ r.1 ∧ strS r.2
theorem encR_line {r : LRow} (h : 0 ≤ r.1 ∧ strS r.2) : lineOk (encR r) = true := by
  simp only [encR, lineOk, isIntB_int, isStr, h.2.2.1, Bool.and_true]
  exact decide_eq_true h.1
theorem pl_encR {r : LRow} (h : strS r.2) : Pl 1 (encR r) := pl_cons pl_int (pl_cons (pl_str (by simp [h.1, h.2.2])) pl_nil)
theorem LayOk.pl {rows : List LRow} (h : LayOk rows) : Pl 3 (encL rows) := fun d hd => by
  obtain ⟨r, hr, rfl⟩ := List.mem_map.mp hd
  exact (pl_encR (h.rows r hr).2).succ
theorem LayOk.check {rows : List LRow} (h : LayOk rows) : check (encL rows) = .non := by
  cases rows with
  | nil => exact absurd rfl h.ne
  | cons r l =>
    have e : badAt 0 (encR r :: l.map encR) = none := badAt_none fun x hx => by
      obtain ⟨q, hq, rfl⟩ := List.mem_map.mp (show x ∈ (r :: l).map encR from hx)
      exact encR_line (h.rows q hq)
    have e1 : firstOk (encR r) = true := by
      have := h.first r rfl
      simp [firstOk, encR, eqD, this]
    simp only [encL, List.map_cons, PL.check, e, e1]
/-- the rows of a thing that is a layout -/
theorem lay_rows {d : D} (hc : check d = .non) (hp : Pl 3 d) : ∃ rows, d = encL rows ∧ LayOk rows := by
  have key : ∀ l : List D, (∀ r, r ∈ l → lineOk r = true ∧ Pl 2 r) → ∃ rows : List LRow, l = rows.map encR ∧ ∀ r, r ∈ rows → 0 ≤ r.1 ∧ strS r.2 := by
    intro l
    induction l with
    | nil => exact fun _ => ⟨[], rfl, fun r hr => nomatch hr⟩
    | cons x l ih =>
      intro h
      obtain ⟨rows, e, hr⟩ := ih fun r hr => h r (List.mem_cons_of_mem _ hr)
      obtain ⟨h1, h2⟩ := h x List.mem_cons_self
      match x, h1, h2 with
      | .tup [i, z], h1, h2 =>
        simp only [lineOk, Bool.and_eq_true] at h1
        cases i with
        | int i =>
          cases z with
          | str z =>
            have hz : Pl 1 (.str z) := h2 (.str z) (by simp)
            have h0 := h1.1
            rw [isIntB_int] at h0
            refine ⟨(i, z) :: rows, by rw [e]; rfl, fun r hr2 => ?_⟩
            rcases List.mem_cons.mp hr2 with rfl | hr2
            · exact ⟨of_decide_eq_true h0, hz.1, h1.2, hz.2⟩
            · exact hr r hr2
          | _ => exact absurd h1.2 (by simp [isStr])
        | _ => exact absurd h1.1 (by simp [isIntB, isIntG])
  match d, hc, hp with
  | .tup (r :: l), hc, hp =>
    cases e : badAt 0 (r :: l) with
    | some k => simp only [check, e] at hc; cases hc
    | none =>
      simp only [check, e] at hc
      cases ef : firstOk r with
      | false => rw [ef] at hc; cases hc
      | true =>
        obtain ⟨rows, er, hr⟩ := key (r :: l) fun x hx => ⟨badAt_all e x hx, hp x hx⟩
        refine ⟨rows, by rw [er]; rfl, ?_, fun q hq => ?_, hr⟩
        · intro h; subst h; cases er
        · cases rows with
          | nil => cases er
          | cons q' rows =>
            cases hq
            rw [List.map_cons] at er
            injection er with er _
            rw [er] at ef
            simpa [firstOk, encR, eqD] using ef
  | .tup [], h, _ => cases h
  | .non, h, _ => cases h
  | .bl _, h, _ => cases h
  | .int _, h, _ => cases h
  | .str _, h, _ => cases h
  | .lst _, h, _ => cases h
/-- what is drawn from a list of things -/
theorem pick {P : D → Prop} {R : D → Prop} (m : List D) (hm : ∀ v, v ∈ m → P v) {j : Int} (j0 : 0 ≤ j) (j1 : j < m.length) (fin : ∀ v, P v → R v) : @atP (atI m j) R := by
  obtain ⟨v, hv, hv2⟩ := atI_lt j0 j1
  exact atP.mk hv (fin v (hm v hv2))
theorem intBits_small {n : Int} (h0 : 0 ≤ n) (h : n < 536870912) : Builtin.Int.intBits n < 30 := by
  unfold Builtin.Int.intBits
  split
  · decide
  · rename_i hn
    have hn' : n ≠ 0 := by simpa using hn
    have : n.natAbs.log2 < 29 := (Nat.log2_lt (by omega)).mpr (by omega)
    omega
end PL
namespace PL
theorem isNon_t {d : D} (h : PL.isNon d = true) : d = .non := by cases d <;> first | rfl | cases h
theorem isNon_f {d : D} (h : PL.isNon d = false) : d ≠ .non := fun e => by subst e; cases h
end PL

namespace PL
open PySem PySem.Spec PyProof.Rows L2

/-- a for that draws nothing -/
theorem for_det {g : DG} {tb : DS} {DD : DEnds} {ρ : DEnv} {L : List D} {c1 : Nat} (I : Nat → DEnv → Prop) (h0 : I 0 ρ)
    (hs : ∀ k x ρ, L[k]? = some x → I k ρ → g x ρ c1 fun ρ' c' => tb { DD with nx := fun ρ c => c = c1 ∧ I (k + 1) ρ, ct := fun ρ c => c = c1 ∧ I (k + 1) ρ, bk := DD.nx } ρ' c') (hf : ∀ ρ, I L.length ρ → DD.nx ρ c1) : ForB g tb DD ρ L c1 :=
  ⟨fun k ρ c => c = c1 ∧ I k ρ, ⟨rfl, h0⟩, fun k x ρ c hx ⟨e, h⟩ => by subst e; exact hs k x ρ hx h, fun ρ c ⟨e, h⟩ => by subst e; exact hf ρ h⟩
theorem cut_1 {α : Type} (x : α) (l : List α) : cut (x :: l) (some 1) none = l := by rw [cut_from _ (by decide)]; rfl
theorem take_snoc {α : Type} {l : List α} {k : Nat} {x : α} (h : l[k]? = some x) : l.take (k + 1) = l.take k ++ [x] := by rw [List.take_succ, h]; rfl
/-- a comprehension without a test whose element is f of the item -/
theorem lc_map {L : List D} {c : Nat} {g : DG} {te : DE} {vs : List Nat} {ρ : DEnv} {Q : QD} (f : D → D) (hL : L.length ≤ 16777216)
    (step : ∀ x, x ∈ L → ∀ (R : QD), R (f x) c → g x (wipeD ρ vs) c fun ρ2 c2 => te ρ2 c2 R) (hq : Q (.lst (L.map f)) c) : LcB g dtYes te vs ρ L c Q := by
  refine lc_by (fun x => some (f x)) (by rw [sizeLine_eq]; exact hL) (fun x hx R R0 h1 h0 => ?_) (by rw [filterMap_some]; exact hq)
  have := step x hx R (h1 _ rfl)
  simpa [dtYes] using this
/-- .. of what may be drawn: every item gives a thing of the kind P, with at most m draws -/
theorem lc_draw {L : List D} {c : Nat} {g : DG} {te : DE} {vs : List Nat} {ρ : DEnv} {Q : QD} (P : D → Prop) (m : Nat) (hL : L.length ≤ 16777216)
    (step : ∀ x, x ∈ L → ∀ c', c ≤ c' → c' + m ≤ c + L.length * m → ∀ R : QD, (∀ d c2, P d → c' ≤ c2 → c2 ≤ c' + m → R d c2) → g x (wipeD ρ vs) c' fun ρ2 c2 => te ρ2 c2 R)
    (hq : ∀ l c', l.length = L.length → (∀ d, d ∈ l → P d) → c ≤ c' → c' ≤ c + L.length * m → Q (.lst l) c') : LcB g dtYes te vs ρ L c Q := by
  refine ⟨fun k acc c' => acc.length = k ∧ (∀ d, d ∈ acc → P d) ∧ c ≤ c' ∧ c' ≤ c + k * m, ⟨rfl, (fun d hd => nomatch hd), Nat.le_refl _, by omega⟩, ?_, ?_⟩
  · rintro k x acc c' hk ⟨rfl, ha, h1, h2⟩
    have hlt : acc.length < L.length := (List.getElem?_eq_some_iff.mp hk).1
    have key : c' + m ≤ c + L.length * m := by
      have : (acc.length + 1) * m ≤ L.length * m := Nat.mul_le_mul_right _ hlt
      rw [Nat.succ_mul] at this
      omega
    have := step x (List.mem_of_getElem? hk) c' h1 key (fun y c4 => acc.length < sizeLine ∧ (acc ++ [y]).length = acc.length + 1 ∧ (∀ d, d ∈ acc ++ [y] → P d) ∧ c ≤ c4 ∧ c4 ≤ c + (acc.length + 1) * m) fun d c2 hd h3 h4 => by
      refine ⟨by rw [sizeLine_eq]; omega, by simp, fun e he => ?_, by omega, by rw [Nat.succ_mul]; omega⟩
      rcases List.mem_append.mp he with he | he
      · exact ha e he
      · rw [List.mem_singleton.mp he]; exact hd
    simpa [dtYes] using this
  · rintro acc c' ⟨hl, ha, h1, h2⟩
    exact hq acc c' hl ha h1 h2
end PL
namespace PL
open PySem PySem.Spec PyProof.Rows L2
def strSB (x : Str) : Bool := decide (x.length ≤ 1000) && okStr x && PyData.strOk x
theorem strSB_ok {x : Str} (h : strSB x = true) : strS x := by
  simp only [strSB, Bool.and_eq_true, decide_eq_true_eq] at h
  exact ⟨h.1.1, h.1.2, h.2⟩
def layB (rows : List LRow) : Bool := (match rows with | r :: _ => decide (r.1 = 0) | [] => false) && rows.all fun r => decide (0 ≤ r.1) && strSB r.2
theorem layB_ok {rows : List LRow} (h : layB rows = true) : LayOk rows := by
  cases rows with
  | nil => cases h
  | cons r l =>
    simp only [layB, Bool.and_eq_true, decide_eq_true_eq, List.all_eq_true] at h
    exact ⟨by simp, fun q hq => by cases hq; exact h.1, fun q hq => ⟨(h.2 q hq).1, strSB_ok (h.2 q hq).2⟩⟩
/-- not a tuple of too many things -/
def fewD (d : D) : Prop := ∀ l, d = .tup l → l.length ≤ 1000
theorem fewD_encL {rows : List LRow} (h : rows.length ≤ 1000) : fewD (encL rows) := fun l e => by cases e; simpa using h
theorem LayOk.one {x : Str} (h : strS x) : LayOk [(0, x)] := ⟨by simp, fun q hq => by cases hq; rfl, fun q hq => by
  rw [List.mem_singleton.mp hq]; exact ⟨Int.le_refl _, h⟩⟩
theorem LayOk.snoc {rows : List LRow} (h : LayOk rows) {r : LRow} (h0 : 0 ≤ r.1) (hs : strS r.2) : LayOk (rows ++ [r]) := by
  refine ⟨by simp, fun q hq => ?_, fun q hq => ?_⟩
  · cases rows with
    | nil => exact absurd rfl h.ne
    | cons x l => exact h.first q hq
  · rcases List.mem_append.mp hq with hq | hq
    · exact h.rows q hq
    · rw [List.mem_singleton.mp hq]; exact ⟨h0, hs⟩
theorem encL_snoc (rows : List LRow) (r : LRow) : rows.map encR ++ [D.tup [.int r.1, .str r.2]] = (rows ++ [r]).map encR := by simp [encR]
theorem lim_le {a b : Nat} (h : a ≤ b) (k : b ≤ LIM) : a ≤ LIM := Nat.le_trans h k
theorem nums_range {lo : Int} {n k : Nat} {d : D} (h : (upInts lo n)[k]? = some d) : k < n ∧ d = .int (lo + (k : Nat)) := upInts_get h
end PL
namespace PL
theorem intsD_map' {α : Type} (f : α → Int) (l : List α) : intsD (l.map fun x => .int (f x)) = some (l.map f) := by rw [← intsD_map, List.map_map]; rfl
end PL
namespace PL
open PySem PySem.Spec PyProof.Rows L2
theorem isO.exc {K : PySem.W.Frag} {IC : Addr → Prop} {A B : Addr} {b : Bool} {ns : List Str} {es : List D} {c : Nat} {Q : QD} (hx : ExcC K A) (h : PySem.W.kitOne K (.ref A) (.ref B) = some b) (q : Q (.bl b) c) : aIsO K IC [.exc A ns es, .cls B] c Q := (isO_exc hx h).mpr q
theorem isO.ins {K : PySem.W.Frag} {IC : Addr → Prop} {A B : Addr} {b : Bool} {ns : List Str} {es : List D} {c : Nat} {Q : QD} (hx : IC A) (h : PySem.W.kitOne K (.ref A) (.ref B) = some b) (q : Q (.bl b) c) : aIsO K IC [.ins A ns es, .cls B] c Q := (isO_ins hx h).mpr q
theorem isO.kd {K : PySem.W.Frag} {IC : Addr → Prop} {B : Addr} {x : D} {c : Nat} {Q : QD} (hk : ∀ T ∈ kinds7, PySem.W.kitOne K (.type T) (.ref B) = some false) (hx : (kind x).isSome = true) (q : Q (.bl false) c) : aIsO K IC [x, .cls B] c Q := (isO_kd hk hx).mpr q
end PL
namespace PL
theorem gone_nx {DD : DEnds} {i : Nat} {ρ : DEnv} {c : Nat} : (DD.gone i).nx ρ c = @Nx DD.nx (ρ.set i .no) c := propext Iff.rfl
theorem gone_bk {DD : DEnds} {i : Nat} {ρ : DEnv} {c : Nat} : (DD.gone i).bk ρ c = @Nx DD.bk (ρ.set i .no) c := propext Iff.rfl
theorem gone_ct {DD : DEnds} {i : Nat} {ρ : DEnv} {c : Nat} : (DD.gone i).ct ρ c = @Nx DD.ct (ρ.set i .no) c := propext Iff.rfl
theorem gone_rt {DD : DEnds} {i : Nat} : (DD.gone i).rt = DD.rt := rfl
theorem set_nx' {i : Nat} {t : DE} {DD : DEnds} {ρ : DEnv} {c j : Nat} : sSet i t (DD.gone j) ρ c = t ρ c fun d c1 => @Nx DD.nx ((ρ.set i (.fz d)).set j .no) c1 := propext Iff.rfl
end PL
namespace PL
open PySem PySem.Spec PyProof.Rows L2
section
variable {C : Addr} {ns : List Str} {es : List D} {ks : List Key} {T : String}
theorem n_exc : PL.isNon (.exc C ns es) = false := rfl
theorem n_ins : PL.isNon (.ins C ns es) = false := rfl
theorem n_dct : PL.isNon (.dct ks es) = false := rfl
theorem n_opq : PL.isNon .opq = false := rfl
theorem k_exc : kind (.exc C ns es) = none := rfl
theorem k_ins : kind (.ins C ns es) = none := rfl
theorem k_dct : kind (.dct ks es) = some "dict" := rfl
theorem i_ins : isaB T (.ins C ns es) = false := rfl
theorem i_dct : isaB T (.dct ks es) = (T == "dict") := rfl
theorem is_ins : isIns (.ins C ns es) = some C := rfl
end
end PL

namespace PL
open PySem PySem.Spec PyProof.Rows L2
/-! ### a tuple or a list unpacked -/
def kSeq (n : Nat) (g : DGs) (d : D) (ρ : DEnv) (c : Nat) (Q : DEnv → Nat → Prop) : Prop := match d with
  | .tup ds => ds.length = n ∧ g ds ρ c Q
  | .lst ds => ds.length = n ∧ g ds ρ c Q
  | _ => False
theorem pdg_seq {Y : Ctx} {es : List Expr} {ggs : TGs} {gs : DGs} {vs : List Nat} {pos : Pos} {k n : Nat} (hc : Y.X.calm = true) (h : PDGs Y es ggs gs vs) (hn : (assignEach es Y.X.env).length = n := by rfl) (hst : (assignEach es Y.X.env).findIdx? (·.1) = none := by rfl) :
    PDG Y (.Tuple es k pos) (fun v σ H Q => gTup Y.X.K n ggs v σ H Q ∨ gUnl Y.X.K n ggs v σ H Q) (kSeq n gs) vs :=
  ⟨⟨fun pins s σ H v u Q I r hw => hw.elim (fun hw => (pg_tup hc h.p hn hst).run pins s σ H v u Q I r hw) fun hw => (pg_unl hc h.p hn hst).run pins s σ H v u Q I r hw⟩, fun G H c ρ σ d v Qd Q R r hw kk => by
    cases d with
    | tup ds =>
      cases r with
      | tup h1 h2 => exact .inl ⟨_, _, rfl, SqT.same R.ok.same h1, by rw [h2.length]; exact hw.1, h.s G H c ρ σ ds _ _ _ R h2 hw.2 kk⟩
    | lst ds =>
      cases r with
      | lst h1 h2 => exact .inr ⟨_, _, rfl, R.ok.sq h1, by rw [h2.length]; exact hw.1, h.s G H c ρ σ ds _ _ _ R h2 hw.2 kk⟩
    | _ => exact hw.elim⟩
section
variable {n : Nat} {gs : DGs} {l : List D} {ρ : DEnv} {c : Nat} {Q : DEnv → Nat → Prop}
theorem ev_kseqT : kSeq n gs (.tup l) ρ c Q = (l.length = n ∧ gs l ρ c Q) := propext Iff.rfl
theorem ev_kseqL : kSeq n gs (.lst l) ρ c Q = (l.length = n ∧ gs l ρ c Q) := propext Iff.rfl
end
end PL


namespace K30
open PySem PySem.Spec PyProof.Rows L2 PL
def top (i : Nat) : Stmt := PySem.Challenge.pw_layoutsets_k30_costs_of_layouts.main.body.getD i (.Pass ⟨0, 0, 0, 0⟩)
abbrev s_is_string : Stmt := top 6
abbrev s_is_integer : Stmt := top 7
abbrev s_check_layout : Stmt := top 9
abbrev s_require_layout : Stmt := top 10
abbrev s__law_at : Stmt := top 15
abbrev s__law_mixed : Stmt := top 16
abbrev s__law_purse : Stmt := top 17
abbrev s__law_draw : Stmt := top 18
abbrev s_require_place : Stmt := top 12
abbrev s_cost_of : Stmt := top 13
abbrev s__law_layout : Stmt := top 19
abbrev s__law_due : Stmt := top 20
abbrev s__law_told : Stmt := top 21
abbrev s__law_refused : Stmt := top 22
abbrev s_law : Stmt := top 23
theorem sc_is_string : FnScope ["thing", "sign"] ["thing"] (defScope s_is_string) := scope_of (by decide +kernel)
theorem sc_is_integer : FnScope ["thing", "least", "most"] ["thing", "least", "most"] (defScope s_is_integer) := scope_of (by decide +kernel)
theorem sc_check_layout : FnScope ["thing", "k", "row"] ["thing"] (defScope s_check_layout) := scope_of (by decide +kernel)
theorem sc_require_layout : FnScope ["thing", "problem"] ["thing"] (defScope s_require_layout) := scope_of (by decide +kernel)
theorem sc__law_at : FnScope ["_law_script", "_law_k"] ["_law_script", "_law_k"] (defScope s__law_at) := scope_of (by decide +kernel)
theorem sc__law_mixed : FnScope ["_law_cell", "_law_k", "_law_number"] ["_law_cell", "_law_k"] (defScope s__law_mixed) := scope_of (by decide +kernel)
theorem sc__law_purse : FnScope ["_law_script", "_law_at_here", "_law_cell"] ["_law_script", "_law_at_here"] (defScope s__law_purse) := scope_of (by decide +kernel)
theorem sc__law_draw : FnScope ["_law_purse_here", "_law_out_of", "_law_number", "_law_k", "_law_drawn"] ["_law_purse_here", "_law_out_of"] (defScope s__law_draw) := scope_of (by decide +kernel)
theorem sc_require_place : FnScope ["width", "column", "indent", "value"] ["width", "column", "indent"] (defScope s_require_place) := scope_of (by decide +kernel)
theorem sc_cost_of : FnScope ["layout", "width", "column", "indent", "ends", "own", "string", "end"] ["layout", "width", "column", "indent"] (defScope s_cost_of) := scope_of (by decide +kernel)
theorem sc__law_layout : FnScope ["_law_purse_here", "_law_strings", "_law_found", "_law_turn"] ["_law_purse_here"] (defScope s__law_layout) := scope_of (by decide +kernel)
theorem sc__law_due : FnScope ["_law_row", "_law_wide", "_law_start", "_law_deep", "_law_found", "_law_k", "_law_end", "_law_own", "_law_string"] ["_law_row", "_law_wide", "_law_start", "_law_deep"] (defScope s__law_due) := scope_of (by decide +kernel)
theorem sc__law_told : FnScope ["_law_row", "_law_wide", "_law_start", "_law_deep", "_law_caught", "_law_told_here", "error"] ["_law_row", "_law_wide", "_law_start", "_law_deep"] (defScope s__law_told) := scope_of (by decide +kernel)
theorem sc__law_refused : FnScope ["_law_purse_here", "_law_row", "_law_odd", "_law_bad", "_law_one", "_law_other", "_law_k"] ["_law_purse_here", "_law_row"] (defScope s__law_refused) := scope_of (by decide +kernel)
theorem sc_law : FnScope ["_law_script", "_law_at_here", "_law_purse_here", "_law_turn", "_law_row", "_law_wide", "_law_start", "_law_deep", "_law_k"] ["_law_script"] (defScope s_law) := scope_of (by decide +kernel)
abbrev si_InvalidLayout : Stmt := inClass (top 2) 0
theorem sci_InvalidLayout : FnScope ["self", "problem"] ["self", "problem"] (defScope si_InvalidLayout) := scope_of (by decide +kernel)
abbrev si_InvalidPlace : Stmt := inClass (top 3) 0
theorem sci_InvalidPlace : FnScope ["self", "value"] ["self", "value"] (defScope si_InvalidPlace) := scope_of (by decide +kernel)
abbrev si_InvalidWidth : Stmt := inClass (top 4) 0
theorem sci_InvalidWidth : FnScope ["self", "value"] ["self", "value"] (defScope si_InvalidWidth) := scope_of (by decide +kernel)
structure Ad where
  c_LayoutError : Addr
  c_InvalidLayout : Addr
  c_InvalidPlace : Addr
  c_InvalidWidth : Addr
  i_InvalidLayout : Addr
  i_InvalidPlace : Addr
  i_InvalidWidth : Addr
  f_is_string : Addr
  f_is_integer : Addr
  f_check_layout : Addr
  f_require_layout : Addr
  f__law_at : Addr
  f__law_mixed : Addr
  f__law_purse : Addr
  f__law_draw : Addr
  f_require_place : Addr
  f_cost_of : Addr
  f__law_layout : Addr
  f__law_due : Addr
  f__law_told : Addr
  f__law_refused : Addr
  f_law : Addr
  d_is_string : FuncData
  d_is_integer : FuncData
  d_check_layout : FuncData
  d_require_layout : FuncData
  d__law_at : FuncData
  d__law_mixed : FuncData
  d__law_purse : FuncData
  d__law_draw : FuncData
  d_require_place : FuncData
  d_cost_of : FuncData
  d__law_layout : FuncData
  d__law_due : FuncData
  d__law_told : FuncData
  d__law_refused : FuncData
  d_law : FuncData
  d_init_InvalidLayout : FuncData
  d_init_InvalidPlace : FuncData
  d_init_InvalidWidth : FuncData
structure Txt (K : PySem.W.Frag) (mg : Str → Option Value) (a : Ad) : Prop where
  m_LayoutError : mg "LayoutError" = some (.ref a.c_LayoutError)
  m_InvalidLayout : mg "InvalidLayout" = some (.ref a.c_InvalidLayout)
  m_InvalidPlace : mg "InvalidPlace" = some (.ref a.c_InvalidPlace)
  m_InvalidWidth : mg "InvalidWidth" = some (.ref a.c_InvalidWidth)
  e_LayoutError : ExcC K a.c_LayoutError
  x_InvalidLayout : XCls K mg "InvalidLayout" "problem" a.c_InvalidLayout a.i_InvalidLayout
  x_InvalidPlace : XCls K mg "InvalidPlace" "value" a.c_InvalidPlace a.i_InvalidPlace
  x_InvalidWidth : XCls K mg "InvalidWidth" "value" a.c_InvalidWidth a.i_InvalidWidth
  kt_InvalidLayout : ∀ T ∈ kinds7, PySem.W.kitOne K (.type T) (.ref a.c_InvalidLayout) = some false
  k_LayoutError_InvalidLayout : PySem.W.kitOne K (.ref a.c_LayoutError) (.ref a.c_InvalidLayout) = some false
  k_InvalidLayout_InvalidLayout : PySem.W.kitOne K (.ref a.c_InvalidLayout) (.ref a.c_InvalidLayout) = some true
  k_InvalidPlace_InvalidLayout : PySem.W.kitOne K (.ref a.c_InvalidPlace) (.ref a.c_InvalidLayout) = some false
  k_InvalidWidth_InvalidLayout : PySem.W.kitOne K (.ref a.c_InvalidWidth) (.ref a.c_InvalidLayout) = some false
  kt_InvalidPlace : ∀ T ∈ kinds7, PySem.W.kitOne K (.type T) (.ref a.c_InvalidPlace) = some false
  k_LayoutError_InvalidPlace : PySem.W.kitOne K (.ref a.c_LayoutError) (.ref a.c_InvalidPlace) = some false
  k_InvalidLayout_InvalidPlace : PySem.W.kitOne K (.ref a.c_InvalidLayout) (.ref a.c_InvalidPlace) = some false
  k_InvalidPlace_InvalidPlace : PySem.W.kitOne K (.ref a.c_InvalidPlace) (.ref a.c_InvalidPlace) = some true
  k_InvalidWidth_InvalidPlace : PySem.W.kitOne K (.ref a.c_InvalidWidth) (.ref a.c_InvalidPlace) = some false
  kt_InvalidWidth : ∀ T ∈ kinds7, PySem.W.kitOne K (.type T) (.ref a.c_InvalidWidth) = some false
  k_LayoutError_InvalidWidth : PySem.W.kitOne K (.ref a.c_LayoutError) (.ref a.c_InvalidWidth) = some false
  k_InvalidLayout_InvalidWidth : PySem.W.kitOne K (.ref a.c_InvalidLayout) (.ref a.c_InvalidWidth) = some false
  k_InvalidPlace_InvalidWidth : PySem.W.kitOne K (.ref a.c_InvalidPlace) (.ref a.c_InvalidWidth) = some false
  k_InvalidWidth_InvalidWidth : PySem.W.kitOne K (.ref a.c_InvalidWidth) (.ref a.c_InvalidWidth) = some true
  em_LayoutError_LayoutError : PySem.W.exmOne K (.ref a.c_LayoutError) (.ref a.c_LayoutError) = some true
  em_InvalidLayout_LayoutError : PySem.W.exmOne K (.ref a.c_InvalidLayout) (.ref a.c_LayoutError) = some true
  em_InvalidPlace_LayoutError : PySem.W.exmOne K (.ref a.c_InvalidPlace) (.ref a.c_LayoutError) = some true
  em_InvalidWidth_LayoutError : PySem.W.exmOne K (.ref a.c_InvalidWidth) (.ref a.c_LayoutError) = some true
  z_all : mg "all" = none
  z_bool : mg "bool" = none
  z_enumerate : mg "enumerate" = none
  z_int : mg "int" = none
  z_isinstance : mg "isinstance" = none
  z_len : mg "len" = none
  z_max : mg "max" = none
  z_min : mg "min" = none
  z_range : mg "range" = none
  z_str : mg "str" = none
  z_sum : mg "sum" = none
  z_tuple : mg "tuple" = none
  m_is_string : mg "is_string" = some (.ref a.f_is_string)
  m_is_integer : mg "is_integer" = some (.ref a.f_is_integer)
  m_check_layout : mg "check_layout" = some (.ref a.f_check_layout)
  m_require_layout : mg "require_layout" = some (.ref a.f_require_layout)
  m__law_at : mg "_law_at" = some (.ref a.f__law_at)
  m__law_mixed : mg "_law_mixed" = some (.ref a.f__law_mixed)
  m__law_purse : mg "_law_purse" = some (.ref a.f__law_purse)
  m__law_draw : mg "_law_draw" = some (.ref a.f__law_draw)
  m_require_place : mg "require_place" = some (.ref a.f_require_place)
  m_cost_of : mg "cost_of" = some (.ref a.f_cost_of)
  m__law_layout : mg "_law_layout" = some (.ref a.f__law_layout)
  m__law_due : mg "_law_due" = some (.ref a.f__law_due)
  m__law_told : mg "_law_told" = some (.ref a.f__law_told)
  m__law_refused : mg "_law_refused" = some (.ref a.f__law_refused)
  m_law : mg "law" = some (.ref a.f_law)
  F_is_string : FunD K "is_string" "is_string" (defArgs s_is_string) (defBody s_is_string) (defScope s_is_string) [] [] a.f_is_string a.d_is_string
  F_is_integer : FunD K "is_integer" "is_integer" (defArgs s_is_integer) (defBody s_is_integer) (defScope s_is_integer) [.non, .non] [] a.f_is_integer a.d_is_integer
  F_check_layout : FunD K "check_layout" "check_layout" (defArgs s_check_layout) (defBody s_check_layout) (defScope s_check_layout) [] [] a.f_check_layout a.d_check_layout
  F_require_layout : FunD K "require_layout" "require_layout" (defArgs s_require_layout) (defBody s_require_layout) (defScope s_require_layout) [] [] a.f_require_layout a.d_require_layout
  F__law_at : FunD K "_law_at" "_law_at" (defArgs s__law_at) (defBody s__law_at) (defScope s__law_at) [] [] a.f__law_at a.d__law_at
  F__law_mixed : FunD K "_law_mixed" "_law_mixed" (defArgs s__law_mixed) (defBody s__law_mixed) (defScope s__law_mixed) [] [] a.f__law_mixed a.d__law_mixed
  F__law_purse : FunD K "_law_purse" "_law_purse" (defArgs s__law_purse) (defBody s__law_purse) (defScope s__law_purse) [] [] a.f__law_purse a.d__law_purse
  F__law_draw : FunD K "_law_draw" "_law_draw" (defArgs s__law_draw) (defBody s__law_draw) (defScope s__law_draw) [] [] a.f__law_draw a.d__law_draw
  F_require_place : FunD K "require_place" "require_place" (defArgs s_require_place) (defBody s_require_place) (defScope s_require_place) [] [] a.f_require_place a.d_require_place
  F_cost_of : FunD K "cost_of" "cost_of" (defArgs s_cost_of) (defBody s_cost_of) (defScope s_cost_of) [] [("column", .int 0), ("indent", .int 0)] a.f_cost_of a.d_cost_of
  F__law_layout : FunD K "_law_layout" "_law_layout" (defArgs s__law_layout) (defBody s__law_layout) (defScope s__law_layout) [] [] a.f__law_layout a.d__law_layout
  F__law_due : FunD K "_law_due" "_law_due" (defArgs s__law_due) (defBody s__law_due) (defScope s__law_due) [] [] a.f__law_due a.d__law_due
  F__law_told : FunD K "_law_told" "_law_told" (defArgs s__law_told) (defBody s__law_told) (defScope s__law_told) [] [] a.f__law_told a.d__law_told
  F__law_refused : FunD K "_law_refused" "_law_refused" (defArgs s__law_refused) (defBody s__law_refused) (defScope s__law_refused) [] [] a.f__law_refused a.d__law_refused
  F_law : FunD K "law" "law" (defArgs s_law) (defBody s_law) (defScope s_law) [] [] a.f_law a.d_law
  F_init_InvalidLayout : FunD K "__init__" "InvalidLayout.__init__" (defArgs si_InvalidLayout) (defBody si_InvalidLayout) (defScope si_InvalidLayout) [.non] [] a.i_InvalidLayout a.d_init_InvalidLayout
  F_init_InvalidPlace : FunD K "__init__" "InvalidPlace.__init__" (defArgs si_InvalidPlace) (defBody si_InvalidPlace) (defScope si_InvalidPlace) [.non] [] a.i_InvalidPlace a.d_init_InvalidPlace
  F_init_InvalidWidth : FunD K "__init__" "InvalidWidth.__init__" (defArgs si_InvalidWidth) (defBody si_InvalidWidth) (defScope si_InvalidWidth) [.non] [] a.i_InvalidWidth a.d_init_InvalidWidth
def IC0 (a : Ad) : Addr → Prop := fun C => False
theorem hI0 {K : PySem.W.Frag} {mg : Str → Option Value} {a : Ad} (T : Txt K mg a) : ∀ C, IC0 a C → ICls K C := fun _ h => h.elim
local macro_rules | `(tactic| walk_at "ev") => `(tactic| simp only [↓ev_brT, ↓ev_brF, ↓ev_asB, ↓ev_atP, ↓ev_var0, ↓ev_varS, ↓ev_c, ↓ev_op, ↓ev_chain, ↓ev_tchain, ↓ev_nil, ↓ev_cons, ↓ev_cb, ↓ev_tup, ↓ev_lst, ↓ev_b, ↓ev_andV, ↓ev_orV, ↓ev_notV, ↓ev_if, ↓ev_tand, ↓ev_tor, ↓ev_tnot, ↓ev_yes, ↓ev_next, ↓ev_seq, ↓ev_ret, ↓ev_retN, ↓ev_brk, ↓ev_cnt, ↓ev_sif, ↓ev_drop, ↓ev_set, ↓ev_asg, ↓ev_kname, ↓ev_knil, ↓ev_kcons, ↓ev_ktup, ↓ev_kseqT, ↓ev_kseqL, ↓ev_for, ↓ev_lc, ↓ev_any, ↓ev_anyL, ↓ev_anyT, ↓ev_anyS, ↓ev_rng1, ↓ev_rng1i, ↓ev_rng2, ↓ev_rng2i, ↓ev_enum, ↓ev_sl, ↓ev_nop, ↓ev_part, ↓ev_asI, ↓ev_call, ↓ev_callK, ↓ev_plusI, ↓ev_plusS, ↓ev_plusT, ↓ev_i0, ↓ev_iC, ↓ev_leI, ↓ev_leS, ↓ev_isN, ↓ev_notN, ↓ev_itL, ↓ev_itT, ↓ev_slT, ↓ev_slL, ↓ev_lenL, ↓ev_lenT, ↓ev_lenS, ↓ev_intI, ↓ev_intB, ↓ev_isa, ↓ev_listL, ↓ev_listT, ↓ev_tupL, ↓ev_tupT, ↓ev_max, ↓ev_min, ↓ev_eq, ↓ev_ne, ↓ev_neg, ↓ev_all, ↓ev_purse, ↓ev_pix, ↓ev_pset, ↓ev_itScr, ↓ev_lenScr, ↓ev_tmI, ↓ev_tmS, ↓ev_tmL, ↓ev_tmT, ↓ev_s2I, ↓ev_s2S, ↓ev_s2T, ↓ev_s2L, ↓ev_p2T, ↓ev_p2L, ↓ev_p2S, ↓ev_inS, ↓ev_inT, ↓ev_inL, ↓ev_newL, ↓ev_raise, ↓ev_try, ↓ev_fldX1, ↓ev_bits, ↓ev_append, ↓ev_freeze, ↓ev_olP, ↓ev_hd1, ↓ev_excP, ↓ev_sum, ↓ev_aug, ↓ev_fzP, ↓ev_anyB, ↓ev_twoP, ↓set_nx', ↓gone_nx, ↓gone_bk, ↓gone_ct, ↓gone_rt, ↓ev_par, ↓ev_make, ↓ev_fldI, ↓ev_prop, ↓ev_meth, ↓ev_methK, ↓ev_opS, ↓ev_binI, ↓ev_bin_i, ↓ev_bin_s, ↓ev_bin_t, ↓ev_bin_l, ↓ev_eqOI, ↓ev_eqO_n, ↓ev_eqO_b, ↓ev_eqO_i, ↓ev_eqO_s, ↓ev_eqO_t, ↓ev_eqO_l, ↓ev_insP, ev_isIP, ev_noFP, eqY_ins, ev_nx, n_exc, n_ins, n_dct, n_opq, k_exc, k_ins, k_dct, i_ins, i_dct, is_ins, n_non, n_bl, n_int, n_str, n_tup, n_lst, k_non, k_bl, k_int, k_str, k_tup, k_lst, i_non, i_bl, i_int, i_str, i_tup, i_lst,
  startD_eq, List.map_cons, List.map_nil, List.length_cons, List.length_nil, List.replicate, List.cons_append, List.nil_append, List.append_nil, Nat.zero_add, Nat.reduceAdd, Nat.reduceSub, Nat.reduceLeDiff, List.set_cons_zero, List.set_cons_succ, wipeD, List.getElem?_cons_zero, List.getElem?_cons_succ,
  mb_int, mb_str, mb_bool, mb_tuple, mb_list, mb_dict, beq_self_eq_true, String.reduceBEq, Bool.or_true, Bool.or_false, Bool.true_or, Bool.false_or, Bool.and_false, Bool.false_and, Bool.and_true, Bool.true_and, Bool.not_true, Bool.not_false,
  Option.isSome_some, Option.isSome_none, true_and, and_true, true_or, or_true, Pl_int, Pl_bl, Pl_non, atI_0, atI_1, atI_2, cut_1, Int.reduceBEq, Int.reduceNeg, Int.cast_ofNat_Int, Int.natCast_add, Int.reduceAdd, eqD, eqDs])
local macro_rules | `(tactic| walk_at "w") => `(tactic| try (walk_at "ev"))

section
variable {P : Program} {w : World} {K : PySem.W.Frag} {mg : Str → Option Value} {base : Heap} {a : Ad}
theorem ok_init_InvalidLayout (T : Txt K mg a) : FnOk P w K mg base (L2.CX P w) 1 a.i_InvalidLayout a.d_init_InvalidLayout ["self", "problem"] (spXI K "problem") := okXI T.F_init_InvalidLayout sci_InvalidLayout fun cdv A outer s H E => pss_one (ps_ost (pv 0) (pv 1))
theorem b_init_InvalidLayout (T : Txt K mg a) : Binds K a.d_init_InvalidLayout ["self", "problem"] [] := by
  obtain ⟨ds, h1, h2⟩ := T.F_init_InvalidLayout.binds1 (ps := ["self", "problem"]) 2 1 (by simp) rfl fun _ _ _ _ _ _ _ us its h1 h2 => match us, its, h1, h2 with | [_, _], [_], _, _ => ⟨_, rfl, rfl⟩
  cases h1
  exact h2
theorem ok_init_InvalidPlace (T : Txt K mg a) : FnOk P w K mg base (L2.CX P w) 1 a.i_InvalidPlace a.d_init_InvalidPlace ["self", "value"] (spXI K "value") := okXI T.F_init_InvalidPlace sci_InvalidPlace fun cdv A outer s H E => pss_one (ps_ost (pv 0) (pv 1))
theorem b_init_InvalidPlace (T : Txt K mg a) : Binds K a.d_init_InvalidPlace ["self", "value"] [] := by
  obtain ⟨ds, h1, h2⟩ := T.F_init_InvalidPlace.binds1 (ps := ["self", "value"]) 2 1 (by simp) rfl fun _ _ _ _ _ _ _ us its h1 h2 => match us, its, h1, h2 with | [_, _], [_], _, _ => ⟨_, rfl, rfl⟩
  cases h1
  exact h2
theorem ok_init_InvalidWidth (T : Txt K mg a) : FnOk P w K mg base (L2.CX P w) 1 a.i_InvalidWidth a.d_init_InvalidWidth ["self", "value"] (spXI K "value") := okXI T.F_init_InvalidWidth sci_InvalidWidth fun cdv A outer s H E => pss_one (ps_ost (pv 0) (pv 1))
theorem b_init_InvalidWidth (T : Txt K mg a) : Binds K a.d_init_InvalidWidth ["self", "value"] [] := by
  obtain ⟨ds, h1, h2⟩ := T.F_init_InvalidWidth.binds1 (ps := ["self", "value"]) 2 1 (by simp) rfl fun _ _ _ _ _ _ _ us its h1 h2 => match us, its, h1, h2 with | [_, _], [_], _, _ => ⟨_, rfl, rfl⟩
  cases h1
  exact h2
def CF_value (a : Ad) : Addr → Prop := fun C => C = a.c_InvalidPlace ∨ C = a.c_InvalidWidth
theorem fx_value (T : Txt K mg a) : ∀ C, CF_value a C → XfC K C ∧ PySem.W.findIn K (.ref C) "value" = some none := fun C h => by
  rcases h with rfl | rfl
  · exact ⟨T.x_InvalidPlace.xf, T.x_InvalidPlace.no⟩
  · exact ⟨T.x_InvalidWidth.xf, T.x_InvalidWidth.no⟩
theorem CF_value_InvalidPlace : CF_value a a.c_InvalidPlace := by simp [CF_value]
theorem CF_value_InvalidWidth : CF_value a a.c_InvalidWidth := by simp [CF_value]
def CF_problem (a : Ad) : Addr → Prop := fun C => C = a.c_InvalidLayout
theorem fx_problem (T : Txt K mg a) : ∀ C, CF_problem a C → XfC K C ∧ PySem.W.findIn K (.ref C) "problem" = some none := fun C h => by
  rcases h with rfl
  · exact ⟨T.x_InvalidLayout.xf, T.x_InvalidLayout.no⟩
theorem CF_problem_InvalidLayout : CF_problem a a.c_InvalidLayout := by simp [CF_problem]
theorem c__law_at_2 (T : Txt K mg a) : Cal K mg "_law_at" a.f__law_at a.d__law_at ["_law_script", "_law_k"] [] := (⟨T.F__law_at, T.m__law_at⟩ : Df K mg "_law_at" s__law_at [] [] a.f__law_at a.d__law_at).cal0 fun _ _ _ _ _ _ us hl => match us, hl with | [_, _], _ => (by kernel_rfl)
theorem c__law_draw_2 (T : Txt K mg a) : Cal K mg "_law_draw" a.f__law_draw a.d__law_draw ["_law_purse_here", "_law_out_of"] [] := (⟨T.F__law_draw, T.m__law_draw⟩ : Df K mg "_law_draw" s__law_draw [] [] a.f__law_draw a.d__law_draw).cal0 fun _ _ _ _ _ _ us hl => match us, hl with | [_, _], _ => (by kernel_rfl)
theorem c__law_due_4 (T : Txt K mg a) : Cal K mg "_law_due" a.f__law_due a.d__law_due ["_law_row", "_law_wide", "_law_start", "_law_deep"] [] := (⟨T.F__law_due, T.m__law_due⟩ : Df K mg "_law_due" s__law_due [] [] a.f__law_due a.d__law_due).cal0 fun _ _ _ _ _ _ us hl => match us, hl with | [_, _, _, _], _ => (by kernel_rfl)
theorem c__law_layout_1 (T : Txt K mg a) : Cal K mg "_law_layout" a.f__law_layout a.d__law_layout ["_law_purse_here"] [] := (⟨T.F__law_layout, T.m__law_layout⟩ : Df K mg "_law_layout" s__law_layout [] [] a.f__law_layout a.d__law_layout).cal0 fun _ _ _ _ _ _ us hl => match us, hl with | [_], _ => (by kernel_rfl)
theorem c__law_mixed_2 (T : Txt K mg a) : Cal K mg "_law_mixed" a.f__law_mixed a.d__law_mixed ["_law_cell", "_law_k"] [] := (⟨T.F__law_mixed, T.m__law_mixed⟩ : Df K mg "_law_mixed" s__law_mixed [] [] a.f__law_mixed a.d__law_mixed).cal0 fun _ _ _ _ _ _ us hl => match us, hl with | [_, _], _ => (by kernel_rfl)
theorem c__law_purse_2 (T : Txt K mg a) : Cal K mg "_law_purse" a.f__law_purse a.d__law_purse ["_law_script", "_law_at_here"] [] := (⟨T.F__law_purse, T.m__law_purse⟩ : Df K mg "_law_purse" s__law_purse [] [] a.f__law_purse a.d__law_purse).cal0 fun _ _ _ _ _ _ us hl => match us, hl with | [_, _], _ => (by kernel_rfl)
theorem c__law_refused_2 (T : Txt K mg a) : Cal K mg "_law_refused" a.f__law_refused a.d__law_refused ["_law_purse_here", "_law_row"] [] := (⟨T.F__law_refused, T.m__law_refused⟩ : Df K mg "_law_refused" s__law_refused [] [] a.f__law_refused a.d__law_refused).cal0 fun _ _ _ _ _ _ us hl => match us, hl with | [_, _], _ => (by kernel_rfl)
theorem c__law_told_4 (T : Txt K mg a) : Cal K mg "_law_told" a.f__law_told a.d__law_told ["_law_row", "_law_wide", "_law_start", "_law_deep"] [] := (⟨T.F__law_told, T.m__law_told⟩ : Df K mg "_law_told" s__law_told [] [] a.f__law_told a.d__law_told).cal0 fun _ _ _ _ _ _ us hl => match us, hl with | [_, _, _, _], _ => (by kernel_rfl)
theorem c_check_layout_1 (T : Txt K mg a) : Cal K mg "check_layout" a.f_check_layout a.d_check_layout ["thing"] [] := (⟨T.F_check_layout, T.m_check_layout⟩ : Df K mg "check_layout" s_check_layout [] [] a.f_check_layout a.d_check_layout).cal0 fun _ _ _ _ _ _ us hl => match us, hl with | [_], _ => (by kernel_rfl)
theorem c_cost_of_0_layout_indent_width (T : Txt K mg a) : CalK K mg "cost_of" a.f_cost_of a.d_cost_of ["layout", "width", "column", "indent"] 0 ["layout", "indent", "width"] (fun vs zs => pickL [1, 3, 0, 2] (vs ++ ([("column", V.int 0)] : List (Str × V)).map (·.2) ++ zs)) (fun ds es => pickL [1, 3, 0, 2] (ds ++ [D.int 0] ++ es)) := (⟨T.F_cost_of, T.m_cost_of⟩ : Df K mg "cost_of" s_cost_of [] [("column", .int 0), ("indent", .int 0)] a.f_cost_of a.d_cost_of).calK0 0 ["layout", "indent", "width"] [("column", V.int 0)] [D.int 0] (fun _ => .cons (.int _) .nil) (fun vs mz zs => pickL [1, 3, 0, 2] (vs ++ mz ++ zs)) (by simp) (by simp) (fun r1 r2 r3 => pickL_paired (paired_app (paired_app r1 r2) r3) _) (fun r1 r2 r3 => pickL_rp ((r1.append r2).append r3) _) fun _ _ _ _ _ _ us mv ws h1 h2 h3 => match us, mv, ws, h1, h2, h3 with | [], [_], [_, _, _], _, _, _ => ⟨_, _, _, _, _, _, rfl, rfl, rfl⟩
theorem c_cost_of_1_width_column (T : Txt K mg a) : CalK K mg "cost_of" a.f_cost_of a.d_cost_of ["layout", "width", "column", "indent"] 1 ["width", "column"] (fun vs zs => pickL [0, 2, 3, 1] (vs ++ ([("indent", V.int 0)] : List (Str × V)).map (·.2) ++ zs)) (fun ds es => pickL [0, 2, 3, 1] (ds ++ [D.int 0] ++ es)) := (⟨T.F_cost_of, T.m_cost_of⟩ : Df K mg "cost_of" s_cost_of [] [("column", .int 0), ("indent", .int 0)] a.f_cost_of a.d_cost_of).calK0 1 ["width", "column"] [("indent", V.int 0)] [D.int 0] (fun _ => .cons (.int _) .nil) (fun vs mz zs => pickL [0, 2, 3, 1] (vs ++ mz ++ zs)) (by simp) (by simp) (fun r1 r2 r3 => pickL_paired (paired_app (paired_app r1 r2) r3) _) (fun r1 r2 r3 => pickL_rp ((r1.append r2).append r3) _) fun _ _ _ _ _ _ us mv ws h1 h2 h3 => match us, mv, ws, h1, h2, h3 with | [_], [_], [_, _], _, _, _ => ⟨_, _, _, _, _, _, rfl, rfl, rfl⟩
theorem c_cost_of_1_width_column_indent (T : Txt K mg a) : CalK K mg "cost_of" a.f_cost_of a.d_cost_of ["layout", "width", "column", "indent"] 1 ["width", "column", "indent"] (fun vs zs => pickL [0, 1, 2, 3] (vs ++ ([] : List (Str × V)).map (·.2) ++ zs)) (fun ds es => pickL [0, 1, 2, 3] (ds ++ [] ++ es)) := (⟨T.F_cost_of, T.m_cost_of⟩ : Df K mg "cost_of" s_cost_of [] [("column", .int 0), ("indent", .int 0)] a.f_cost_of a.d_cost_of).calK0 1 ["width", "column", "indent"] [] [] (fun _ => .nil) (fun vs mz zs => pickL [0, 1, 2, 3] (vs ++ mz ++ zs)) (by simp) (by simp) (fun r1 r2 r3 => pickL_paired (paired_app (paired_app r1 r2) r3) _) (fun r1 r2 r3 => pickL_rp ((r1.append r2).append r3) _) fun _ _ _ _ _ _ us mv ws h1 h2 h3 => match us, mv, ws, h1, h2, h3 with | [_], [], [_, _, _], _, _, _ => rfl
theorem c_cost_of_1_width (T : Txt K mg a) : CalK K mg "cost_of" a.f_cost_of a.d_cost_of ["layout", "width", "column", "indent"] 1 ["width"] (fun vs zs => pickL [0, 3, 1, 2] (vs ++ ([("column", V.int 0), ("indent", V.int 0)] : List (Str × V)).map (·.2) ++ zs)) (fun ds es => pickL [0, 3, 1, 2] (ds ++ [D.int 0, D.int 0] ++ es)) := (⟨T.F_cost_of, T.m_cost_of⟩ : Df K mg "cost_of" s_cost_of [] [("column", .int 0), ("indent", .int 0)] a.f_cost_of a.d_cost_of).calK0 1 ["width"] [("column", V.int 0), ("indent", V.int 0)] [D.int 0, D.int 0] (fun _ => .cons (.int _) (.cons (.int _) .nil)) (fun vs mz zs => pickL [0, 3, 1, 2] (vs ++ mz ++ zs)) (by simp) (by simp) (fun r1 r2 r3 => pickL_paired (paired_app (paired_app r1 r2) r3) _) (fun r1 r2 r3 => pickL_rp ((r1.append r2).append r3) _) fun _ _ _ _ _ _ us mv ws h1 h2 h3 => match us, mv, ws, h1, h2, h3 with | [_], [_, _], [_], _, _, _ => ⟨_, _, _, _, _, _, rfl, rfl, ⟨_, _, _, _, _, _, rfl, rfl, rfl⟩⟩
theorem c_is_integer_2 (T : Txt K mg a) : Cal K mg "is_integer" a.f_is_integer a.d_is_integer ["thing", "least", "most"] [.non] := (⟨T.F_is_integer, T.m_is_integer⟩ : Df K mg "is_integer" s_is_integer [.non, .non] [] a.f_is_integer a.d_is_integer).cal1 2 1 (by simp) rfl fun _ _ _ _ _ _ _ us its h1 h2 => match us, its, h1, h2 with | [_, _], [_, _], _, _ => ⟨_, rfl, rfl⟩
theorem c_is_string_1 (T : Txt K mg a) : Cal K mg "is_string" a.f_is_string a.d_is_string ["thing"] [] := (⟨T.F_is_string, T.m_is_string⟩ : Df K mg "is_string" s_is_string [] [] a.f_is_string a.d_is_string).cal0 fun _ _ _ _ _ _ us hl => match us, hl with | [_], _ => (by kernel_rfl)
theorem c_require_layout_1 (T : Txt K mg a) : Cal K mg "require_layout" a.f_require_layout a.d_require_layout ["thing"] [] := (⟨T.F_require_layout, T.m_require_layout⟩ : Df K mg "require_layout" s_require_layout [] [] a.f_require_layout a.d_require_layout).cal0 fun _ _ _ _ _ _ us hl => match us, hl with | [_], _ => (by kernel_rfl)
theorem c_require_place_3 (T : Txt K mg a) : Cal K mg "require_place" a.f_require_place a.d_require_place ["width", "column", "indent"] [] := (⟨T.F_require_place, T.m_require_place⟩ : Df K mg "require_place" s_require_place [] [] a.f_require_place a.d_require_place).cal0 fun _ _ _ _ _ _ us hl => match us, hl with | [_, _, _], _ => (by kernel_rfl)
end
section
variable {P : Program} {w : World} {K : PySem.W.Frag} {mg : Str → Option Value} {base : Heap} {a : Ad} (T : Txt K mg a)
include T
def Kd (a : Ad) (d : D) : Prop := (kind d).isSome = true ∨ ∃ C, isIns d = some C ∧ IC0 a C
omit T in
theorem kd_of {d : D} {n : Nat} (h : Pl n d) : Kd a d := .inl (kind_pl h)
def sp_is_string (a : Ad) : SpD := fun ds c Q _ => ∃ d, ds = [d] ∧ Kd a d ∧ (∀ x, d = .str x → x.length ≤ 1000000) ∧ Q (.bl (isStr d)) c
theorem ok_is_string : FnOk P w K mg base (L2.CX P w) 1 a.f_is_string a.d_is_string ["thing"] (spOf K (sp_is_string a)) := by
  refine okD T.F_is_string sc_is_string (fun ds c Q E h => ?_) (fun cdv A outer s H E G0 c0 ED good => ⟨_, _, (pds_one (pds_ret (pd_and (pd_callB call_isi (br_isaA (IC := IC0 a) (hI0 T)) T.z_isinstance bt_isinstance (pda_cons (pd_v 0) (pda_cons (pd_bty T.z_str bt_str) pda_nil))) (pd_one (pd_callB (cr_all good.calm) br_all T.z_all bt_all (pda_cons (pd_lc (own := [("sign", 1)]) good.calm sc_is_string.nd (pdi_any (pd_v 0)) (blkOk_by (N := ["thing", "sign"]) (sc := (defScope s_is_string)) (by decide +kernel)) ⟨fun s1 H1 C1 cl1 fp1 => (pdg_cast (pdg_name 1 sc_is_string.nd) (by first | rfl | (dsimp only [Ctx.blk, Cx.blk] <;> rfl)) (by first | rfl | (dsimp only [Ctx.blk, Cx.blk] <;> rfl))), fun s1 H1 C1 cl1 fp1 => (pdts_cast pdts_nil (by first | rfl | (dsimp only [Ctx.blk, Cx.blk] <;> rfl)) (by first | rfl | (dsimp only [Ctx.blk, Cx.blk] <;> rfl))), fun s1 H1 C1 cl1 fp1 => (pd_cast (pd_leP2 pd_str (pd_v 1) pd_str) (by first | rfl | (dsimp only [Ctx.blk, Cx.blk] <;> rfl)) (by first | rfl | (dsimp only [Ctx.blk, Cx.blk] <;> rfl)))⟩) pda_nil)))))), ?_⟩)
  · obtain ⟨d, rfl, _⟩ := h; rfl
  · rintro ds Qd ⟨d, rfl, hk, hf, q⟩
    cases d with
    | str x =>
      walk_at "w"
      have hf := hf x rfl
      refine lc_by (fun d => some (.bl (signOk d))) (Nat.le_trans (Nat.le_of_eq (signs_length x)) (Nat.le_trans hf (by decide))) (fun d hd R R0 h1 h0 => ?_) ?_
      · obtain ⟨z, rfl⟩ := signs_str hd
        walk_at "w"
        have h1 := h1 _ rfl
        simp only [signOk] at h1
        refine Br.by (fun e => ?_) fun e => ?_ <;> (simp only [Bool.not_eq_true', Bool.not_eq_false'] at e; rw [e] at h1; exact h1)
      · refine allP.mk (by rw [filterMap_some, bools_map]) ?_
        rw [List.all_map]
        exact q
    | _ => walk_at "w"; first | exact q | exact ⟨hk, q⟩
def sp_is_integer (a : Ad) : SpD := fun ds c Q _ => ∃ d lo hi, ds = [d, lo, hi] ∧ Kd a d ∧ bnd lo = true ∧ bnd hi = true ∧ Q (.bl (isIntG d lo hi)) c
theorem ok_is_integer : FnOk P w K mg base (L2.CX P w) 1 a.f_is_integer a.d_is_integer ["thing", "least", "most"] (spOf K (sp_is_integer a)) := by
  refine okD T.F_is_integer sc_is_integer (fun ds c Q E h => ?_) (fun cdv A outer s H E G0 c0 ED good => ⟨_, _, (pds_cons (pds_if (pdw_pt (pdw_or (pdt_not (pdt_val (pd_callB call_isi (br_isaA (IC := IC0 a) (hI0 T)) T.z_isinstance bt_isinstance (pda_cons (pd_v 0) (pda_cons (pd_bty T.z_int bt_int) pda_nil))))) (pdw_or1 (pdt_val (pd_callB call_isi (br_isaA (IC := IC0 a) (hI0 T)) T.z_isinstance bt_isinstance (pda_cons (pd_v 0) (pda_cons (pd_bty T.z_bool bt_bool) pda_nil))))))) (pds_one (pds_ret pd_bl)) pss_nil')
      (pds_one (pds_ret (pd_and (pd_or (pd_cm (pdc_isN (pd_v 1))) (pd_one (pd_cm (pdc_ge (pd_v 0) (pd_v 1))))) (pd_one (pd_or (pd_cm (pdc_isN (pd_v 2))) (pd_one (pd_cm (pdc_leP (pd_v 0) (pd_v 2)))))))))), ?_⟩)
  · obtain ⟨d, lo, hi, rfl, _⟩ := h; rfl
  · rintro ds Qd ⟨d, lo, hi, rfl, hk, h1, h2, q⟩
    cases d with
    | int i =>
      cases lo <;> cases h1 <;> cases hi <;> cases h2 <;> (walk_at "w"; simp only [isIntG, loOk, hiOk, Bool.and_true, Bool.true_and] at q) <;> first | exact q | (refine Br.by (fun e => ?_) fun e => ?_ <;> (rw [e] at q; exact q))
    | _ => walk_at "w"; first | exact q | exact ⟨hk, q⟩

def sp_check_layout : SpD := fun ds c Q _ => ∃ d, ds = [d] ∧ Pl 3 d ∧ Q (check d) c
theorem ok_check_layout : FnOk P w K mg base (L2.CX P w) 3 a.f_check_layout a.d_check_layout ["thing"] (spOf K sp_check_layout) := by
  refine okD T.F_check_layout sc_check_layout (fun ds c Q E h => ?_) (fun cdv A outer s H E G0 c0 ED good => ⟨_, _, (pds_cons (pds_if (pdw_pt (pdw_or (pdt_not (pdt_val (pd_callB call_isi (br_isaA (IC := IC0 a) (hI0 T)) T.z_isinstance bt_isinstance (pda_cons (pd_v 0) (pda_cons (pd_bty T.z_tuple bt_tuple) pda_nil))))) (pdw_or1 (pdt_cm (pdc_eqD good (pd_v 0) (pd_tup pda_nil)))))) (pds_one (pds_ret (pd_tup (pda_cons pd_str pda_nil)))) pss_nil')
      (pds_cons (pds_for PassesOwn.leaving good.calm (pdi_enum T.z_enumerate (pda_cons (pd_v 0) pda_nil)) (pdg_seq (n := 2) good.calm (pdg_cons (pdg_name 1 sc_check_layout.nd) (pdg_cons (pdg_name 2 sc_check_layout.nd) pdg_nil)))
      (pds_one (pds_if (pdw_pt (pdw_or (pdt_not (pdt_val (pd_callB call_isi (br_isaA (IC := IC0 a) (hI0 T)) T.z_isinstance bt_isinstance (pda_cons (pd_v 2) (pda_cons (pd_bty T.z_tuple bt_tuple) pda_nil))))) (pdw_or (pdt_cm (pdc_neD good (pd_callB cr_len br_lenA T.z_len bt_len (pda_cons (pd_v 2) pda_nil)) pd_int)) (pdw_or (pdt_not (pdt_val (pd_callC good ((ok_is_integer T).mono (by omega)) (c_is_integer_2 T) (fun _ => .cons .non .nil) (pda_cons (pd_at (pd_v 2) pd_int) (pda_cons pd_int pda_nil))))) (pdw_or1 (pdt_not (pdt_val (pd_callC good ((ok_is_string T).mono (by omega)) (c_is_string_1 T) (fun _ => .nil) (pda_cons (pd_at (pd_v 2) pd_int) pda_nil))))))))) (pds_one (pds_ret (pd_tup (pda_cons pd_str (pda_cons (pd_v 1) pda_nil))))) pss_nil')))
      (pds_cons (pds_if (pdt_cm (pdc_neD good (pd_at (pd_at (pd_v 0) pd_int) pd_int) pd_int)) (pds_one (pds_ret (pd_tup (pda_cons pd_str pda_nil)))) pss_nil')
      (pds_one (pds_ret pd_non))))), ?_⟩)
  · obtain ⟨d, rfl, _⟩ := h; rfl
  · rintro ds Qd ⟨d, rfl, hf, q⟩
    cases d with
    | tup l =>
      have h60 : Pl 60 (.tup l) := hf.mono (by decide)
      have e60 : Pl 60 (.tup []) := fun d hd => absurd hd (by simp)
      cases l with
      | nil =>
        walk_at "w"
        exact ⟨h60, h60, q⟩
      | cons r l =>
        walk_at "w"
        refine ⟨h60, e60, ?_⟩
        refine ⟨fun k ρ c => c = c0 ∧ (∃ s1 s2, ρ = [.fz (.tup (r :: l)), s1, s2]) ∧ badAt 0 (r :: l) = badAt k ((r :: l).drop k), ⟨rfl, ⟨_, _, rfl⟩, rfl⟩, ?_, ?_⟩
        · rintro k x ρ c hx ⟨rfl, ⟨s1, s2, rfl⟩, hb⟩
          obtain ⟨row, hr, rfl⟩ := numbered_get hx
          have st := badAt_step hr hb
          have hp : Pl 2 row := hf row (List.mem_of_getElem? hr)
          clear hx
          rw [Nat.zero_add]
          have no : lineOk row = false → Qd (.tup [.str "line", .int (k : Nat)]) c := fun e => by
            rw [e, if_neg Bool.false_ne_true] at st
            simp only [check, st] at q
            exact q
          have yes : lineOk row = true → c = c ∧ (∃ s1 s2, [Sl.fz (.tup (r :: l)), .fz (.int (k : Nat)), .fz row] = [Sl.fz (.tup (r :: l)), s1, s2]) ∧ badAt 0 (r :: l) = badAt (k + 1) ((r :: l).drop (k + 1)) := fun e => by
            rw [e, if_pos rfl] at st
            exact ⟨rfl, ⟨_, _, rfl⟩, st⟩
          cases row with
          | tup m =>
            match m, hp with
            | [], _ => walk_at "w"; exact no rfl
            | [a], _ => walk_at "w"; exact no rfl
            | [x, y], hp =>
              have ha := hp x (by simp)
              have hb := hp y (by simp)
              walk_at "w"
              refine ⟨x, .int 0, .non, rfl, kd_of ha, rfl, rfl, ?_⟩
              walk_at "w"
              refine Br.by (fun e => ?_) fun e => ?_
              · simp only [Bool.not_eq_true'] at e
                exact no (by simp only [lineOk, isIntB, e, Bool.false_and])
              · simp only [Bool.not_eq_false'] at e
                refine ⟨y, rfl, kd_of hb, fun z ez => by subst ez; exact Nat.le_trans hb.1 (by decide), ?_⟩
                walk_at "w"
                refine Br.by (fun e2 => ?_) fun e2 => ?_
                · simp only [Bool.not_eq_true'] at e2
                  exact no (by simp only [lineOk, e2, Bool.and_false])
                · simp only [Bool.not_eq_false'] at e2
                  exact (yes (by simp only [lineOk, isIntB, e, e2, Bool.and_true])).2
            | x :: y :: z :: m, _ =>
              walk_at "w"
              refine Br.t ?_ (no rfl)
              simp only [Bool.not_eq_true', beq_eq_false_iff_ne, ne_eq]
              omega
          | _ => first | (exfalso; exact hp; done) | (walk_at "w"; exact no rfl)
        · rintro ρ c ⟨rfl, ⟨s1, s2, rfl⟩, hb⟩
          rw [numbered_length, List.drop_length] at hb
          have hr : lineOk r = true := by
            cases e : lineOk r with
            | true => rfl
            | false => simp [badAt, e] at hb
          have hn : badAt 0 (r :: l) = none := hb
          simp only [check, hn] at q
          have hp : Pl 2 r := hf r List.mem_cons_self
          match r, hr, hp, q with
          | .tup [i, x], hr, hp, q =>
            have hi := hp i (by simp)
            walk_at "w"
            refine ⟨hi.mono (by decide), ?_⟩
            simp only [firstOk] at q
            refine Br.by (fun e => ?_) fun e => ?_ <;> (simp only [Bool.not_eq_true', Bool.not_eq_false'] at e; rw [e] at q; exact q)
    | _ => first | (exfalso; exact hf; done) | (walk_at "w"; exact q)
def sp_require_layout (a : Ad) : SpD := fun ds c Q E => ∃ d, ds = [d] ∧ Pl 3 d ∧ (check d = .non → Q .non c) ∧ (check d ≠ .non → E a.c_InvalidLayout ["problem"] [check d] c)
theorem ok_require_layout : FnOk P w K mg base (L2.CX P w) 5 a.f_require_layout a.d_require_layout ["thing"] (spOf K (sp_require_layout a)) := by
  refine okD T.F_require_layout sc_require_layout (fun ds c Q E h => ?_) (fun cdv A outer s H E G0 c0 ED good => ⟨_, _, (pds_cons (pds_set 1 sc_require_layout.nd (pd_callC good ((ok_check_layout T).mono (by omega)) (c_check_layout_1 T) (fun _ => .nil) (pda_cons (pd_v 0) pda_nil)))
      (pds_one (pds_if (pdt_cm (pdc_notN (pd_v 1))) (pds_one (pds_raise1 good (by omega) T.x_InvalidLayout.o T.x_InvalidLayout.no T.x_InvalidLayout.iC T.x_InvalidLayout.tI (ok_init_InvalidLayout T) (b_init_InvalidLayout T) T.x_InvalidLayout.m (pda_cons (pd_v 1) pda_nil))) pss_nil'))), ?_⟩)
  · obtain ⟨d, rfl, _⟩ := h; rfl
  · rintro ds Qd ⟨d, rfl, hf, q1, q2⟩
    walk_at "w"
    refine ⟨d, rfl, hf, ?_⟩
    walk_at "w"
    refine Br.by (fun e => q2 (isNon_f (by simpa using e))) fun e => q1 (isNon_t (by simpa using e))

def sp__law_at : SpD := fun ds c Q _ => ∃ (ns : List Int) (k : Nat), ds = [.scr ns, .int k] ∧ ∀ i, Q (.int i) c
theorem ok__law_at : FnOk P w K mg base (L2.CX P w) 1 a.f__law_at a.d__law_at ["_law_script", "_law_k"] (spOf K sp__law_at) := by
  refine okD T.F__law_at sc__law_at (fun ds c Q E h => ?_) (fun cdv A outer s H E G0 c0 ED good => ⟨_, _, (pds_cons (pds_if (pdt_cm (pdc_lt (pd_v 1) (pd_callB cr_len br_lenA T.z_len bt_len (pda_cons (pd_v 0) pda_nil)))) (pds_one (pds_ret (pd_at (pd_v 0) (pd_v 1)))) pss_nil')
      (pds_one (pds_ret pd_int))), ?_⟩)
  · obtain ⟨ns, k, rfl, _⟩ := h; rfl
  · rintro ds Qd ⟨ns, k, rfl, q⟩
    walk_at "w"
    refine Br.by (fun e => ?_) fun e => q 0
    simp only [decide_eq_true_eq] at e
    obtain ⟨v, hv, hm⟩ := atI_lt (xs := ns) (i := (k : Int)) (by omega) e
    exact ⟨v, hv, q v⟩
def sp__law_mixed : SpD := fun ds c Q _ => ∃ y z : Int, ds = [.int y, .int z] ∧ 0 ≤ y ∧ y < 2 ^ 31 ∧ 0 ≤ z ∧ z < 2 ^ 62 ∧ ∀ i, Q (.int i) c
theorem ok__law_mixed : FnOk P w K mg base (L2.CX P w) 1 a.f__law_mixed a.d__law_mixed ["_law_cell", "_law_k"] (spOf K sp__law_mixed) := by
  refine okD T.F__law_mixed sc__law_mixed (fun ds c Q E h => ?_) (fun cdv A outer s H E G0 c0 ED good => ⟨_, _, (pds_cons (pds_set 2 sc__law_mixed.nd (pd_mod (pd_callTy call_int1 br_intA T.z_int bt_int (pda_cons (pd_sum2 (pd_sum2 (pd_sum2 (pd_times (pd_v 0) pd_int) (pd_times (pd_times pd_int (pd_v 1)) (pd_v 1))) (pd_v 1)) pd_int) pda_nil)) pd_int))
      (pds_cons (pds_set 2 sc__law_mixed.nd (pd_mod (pd_callTy call_int1 br_intA T.z_int bt_int (pda_cons (pd_sum2 (pd_times (pd_v 2) (pd_v 2)) pd_int) pda_nil)) pd_int))
      (pds_one (pds_ret (pd_mod (pd_callTy call_int1 br_intA T.z_int bt_int (pda_cons (pd_times (pd_v 2) pd_int) pda_nil)) pd_int))))), ?_⟩)
  · obtain ⟨y, z, rfl, _⟩ := h; rfl
  · rintro ds Qd ⟨y, z, rfl, h1, h2, h3, h4, q⟩
    walk_at "w"
    have big : ∀ {m : Int} (x : Int), 0 < m → m < 2 ^ 64 → CMul (x % m) (x % m) := fun {m} x h0 h1 => .inl ⟨by have := Int.emod_nonneg x (Int.ne_of_gt h0); omega, by have := Int.emod_lt_of_pos x h0; omega⟩
    exact ⟨.inr (by decide), .inl (by decide), .inr ⟨by omega, by omega⟩, by decide, big _ (by decide) (by decide), by decide, .inr (by decide), by decide, q _⟩
def sp__law_purse : SpD := fun ds c Q _ => ∃ (ns : List Int) (k : Nat), ds = [.scr ns, .int k] ∧ k ≤ 1000 ∧ Q .opq c
theorem ok__law_purse : FnOk P w K mg base (L2.CX P w) 3 a.f__law_purse a.d__law_purse ["_law_script", "_law_at_here"] (spOf K sp__law_purse) := by
  refine okD T.F__law_purse sc__law_purse (fun ds c Q E h => ?_) (fun cdv A outer s H E G0 c0 ED good => ⟨_, _, (pds_cons (pds_set 2 sc__law_purse.nd (pd_callC good ((ok__law_at T).mono (by omega)) (c__law_at_2 T) (fun _ => .nil) (pda_cons (pd_v 0) (pda_cons (pd_v 1) pda_nil))))
      (pds_one (pds_ret (pd_purse (pda_cons (pd_mod (pd_callTy call_int1 br_intA T.z_int bt_int (pda_cons (pd_callB (call_max2 good.calm) br_max2 T.z_max bt_max (pda_cons (pd_sub (pd_v 2) (pd_pow pd_int pd_int)) (pda_cons pd_int pda_nil))) pda_nil)) (pd_pow (pd_pow pd_int pd_int) pd_int)) (pda_cons (pd_mod (pd_callTy call_int1 br_intA T.z_int bt_int (pda_cons (pd_v 2) pda_nil)) pd_int) (pda_cons (pd_times pd_int (pd_v 1)) pda_nil))))))), ?_⟩)
  · obtain ⟨ns, k, rfl, _⟩ := h; rfl
  · rintro ds Qd ⟨ns, k, rfl, hk, q⟩
    walk_at "w"
    refine ⟨ns, k, rfl, fun i => ?_⟩
    walk_at "w"
    refine ⟨⟨by decide, by decide +kernel⟩, ⟨by decide, by decide +kernel⟩, ⟨by decide, by decide +kernel⟩, by decide +kernel, by decide, .inl (by decide), _, _, _, rfl, Int.emod_nonneg _ (by decide), Int.lt_of_lt_of_le (Int.emod_lt_of_pos _ (by decide)) (by decide), by omega, by omega, q⟩

def sp__law_draw : SpD := fun ds c Q _ => ∃ n : Int, ds = [.opq, .int n] ∧ 0 < n ∧ n < 536870912 ∧ c + 1 ≤ LIM ∧ ∀ i c', 0 ≤ i → i < n → c ≤ c' → c' ≤ c + 1 → Q (.int i) c'
theorem ok__law_draw : FnOk P w K mg base (L2.CX P w) 3 a.f__law_draw a.d__law_draw ["_law_purse_here", "_law_out_of"] (spOf K sp__law_draw) := by
  refine okD T.F__law_draw sc__law_draw (fun ds c Q E h => ?_) (fun cdv A outer s H E G0 c0 ED good => ⟨_, _, (pds_cons (pds_if (pdt_cm (pdc_gt (pd_purseIx 0 0 rfl (by decide)) pd_int)) (pds_cons (pds_set 4 sc__law_draw.nd (pd_mod (pd_callTy call_int1 br_intA T.z_int bt_int (pda_cons (pd_purseIx 0 0 rfl (by decide)) pda_nil)) (pd_v 1)))
      (pds_cons (pds_purseSet 0 0 rfl (pd_fdiv (pd_purseIx 0 0 rfl (by decide)) (pd_v 1)))
      (pds_one (pds_ret (pd_v 4))))) pss_nil')
      (pds_cons (pds_set 2 sc__law_draw.nd pd_int)
      (pds_cons (pds_for PassesOwn.leaving good.calm (pdi_range1 T.z_range (pda_cons (pd_sum2 pd_int (pd_fdiv (pd_bits (pd_v 1)) pd_int)) pda_nil)) (pdg_name 3 sc__law_draw.nd)
      (pds_cons (pds_purseSet 0 2 rfl (pd_sum2 (pd_purseIx 0 2 rfl (by decide)) pd_int))
      (pds_one (pds_set 2 sc__law_draw.nd (pd_sum2 (pd_times (pd_v 2) pd_int) (pd_callC good ((ok__law_mixed T).mono (by omega)) (c__law_mixed_2 T) (fun _ => .nil) (pda_cons (pd_purseIx 0 1 rfl (by decide)) (pda_cons (pd_purseIx 0 2 rfl (by decide)) pda_nil))))))))
      (pds_one (pds_ret (pd_mod (pd_callTy call_int1 br_intA T.z_int bt_int (pda_cons (pd_v 2) pda_nil)) (pd_v 1))))))), ?_⟩)
  · obtain ⟨n, rfl, _⟩ := h; rfl
  · rintro ds Qd ⟨n, rfl, h1, h2, h3, q⟩
    walk_at "w"
    intro x _ _
    refine Br.by (fun _ => fun x _ _ => ⟨h1, fun y _ _ => ⟨⟨h1, by omega⟩, _, rfl, .inl (q _ _ (Int.emod_nonneg _ (Int.ne_of_gt h1)) (Int.emod_lt_of_pos _ h1) (Nat.le_refl _) (Nat.le_succ _))⟩⟩) fun _ => ?_
    have hb := intBits_small (Int.le_of_lt h1) h2
    refine ⟨n, rfl, ⟨by decide, by decide⟩, ?_⟩
    have e0 : (Builtin.Int.intBits n : Int) / 30 = 0 := by omega
    rw [e0]
    refine ⟨by decide, by decide, ?_⟩
    refine ⟨fun k ρ c => (k = 0 ∧ c = c0 ∧ ∃ s s2, ρ = [.fz .opq, .fz (.int n), .fz (.int 0), s, s2]) ∨ (k = 1 ∧ c = c0 + 1 ∧ ∃ i s s2, ρ = [.fz .opq, .fz (.int n), .fz (.int i), s, s2]), .inl ⟨rfl, rfl, _, _, rfl⟩, ?_, ?_⟩
    · rintro k y ρ c hy h
      obtain ⟨hk, rfl⟩ := upInts_get hy
      rcases h with ⟨rfl, rfl, s, s2, rfl⟩ | ⟨rfl, _⟩
      · walk_at "ev"
        intro z _ hz
        obtain ⟨z0, z1⟩ := hz trivial
        refine ⟨z + 1, rfl, .inr ⟨by omega, by omega, ?_⟩⟩
        walk_at "w"
        refine ⟨.inl (by decide), fun y hy _ => fun v _ hv => ?_⟩
        obtain ⟨y0, y1⟩ := hy trivial
        obtain ⟨v0, v1⟩ := hv trivial
        have hc : c + 1 ≤ 2 ^ 60 := h3
        refine ⟨y, v, rfl, y0, y1, v0, by omega, fun i => ?_⟩
        walk_at "w"
        first | exact .inr ⟨rfl, rfl, _, _, _, rfl⟩ | exact .inr ⟨_, _, _, rfl⟩ | exact .inr ⟨rfl, _, _, _, rfl⟩
      · exact absurd hk (by decide)
    · rintro ρ c h
      rcases h with ⟨h, _⟩ | ⟨_, rfl, i, s, s2, rfl⟩
      · cases h
      · walk_at "ev"
        exact ⟨h1, q _ _ (Int.emod_nonneg _ (Int.ne_of_gt h1)) (Int.emod_lt_of_pos _ h1) (Nat.le_succ _) (Nat.le_refl _)⟩

/-- what a layout costs -/
def endsOf (s e : Int) : List LRow → List Int
  | [] => []
  | r :: l => (s + r.2.length) :: l.map fun q => e + q.1 + q.2.length
def over (w x : Int) : Int := if x - w > 0 then x - w else 0
def costD (w s e : Int) (rows : List LRow) : D := .tup [.int ((endsOf s e rows).map (over w)).sum, .int rows.length]
inductive Bad where
  | wid (v : D) | pla (v : D)
inductive Out where
  | told (d : D) | lay (p : D) | bad (b : Bad)
def Bad.to (a : Ad) (o : Bad) (c : Nat) (E : EDt) : Prop := match o with
  | .wid v => E a.c_InvalidWidth ["value"] [v] c
  | .pla v => E a.c_InvalidPlace ["value"] [v] c
def Out.to (a : Ad) (o : Out) (c : Nat) (Q : QD) (E : EDt) : Prop := match o with
  | .told d => Q d c
  | .lay p => E a.c_InvalidLayout ["problem"] [p] c
  | .bad b => b.to a c E
def placeO (w s e : D) : Option Bad := match isIntB w 0 with
  | false => some (.wid w)
  | true => match isIntB s 0 with
    | false => some (.pla s)
    | true => match isIntB e 0 with
      | false => some (.pla e)
      | true => none
def sp_require_place (a : Ad) : SpD := fun ds c Q E => ∃ w s e, ds = [w, s, e] ∧ Kd a w ∧ Kd a s ∧ Kd a e ∧ (match placeO w s e with | none => Q .non c | some o => o.to a c E)
theorem ok_require_place : FnOk P w K mg base (L2.CX P w) 3 a.f_require_place a.d_require_place ["width", "column", "indent"] (spOf K (sp_require_place a)) := by
  refine okD T.F_require_place sc_require_place (fun ds c Q E h => ?_) (fun cdv A outer s H E G0 c0 ED good => ⟨_, _, (pds_cons (pds_if (pdt_not (pdt_val (pd_callC good ((ok_is_integer T).mono (by omega)) (c_is_integer_2 T) (fun _ => .cons .non .nil) (pda_cons (pd_v 0) (pda_cons pd_int pda_nil))))) (pds_one (pds_raise1 good (by omega) T.x_InvalidWidth.o T.x_InvalidWidth.no T.x_InvalidWidth.iC T.x_InvalidWidth.tI (ok_init_InvalidWidth T) (b_init_InvalidWidth T) T.x_InvalidWidth.m (pda_cons (pd_v 0) pda_nil))) pss_nil')
      (pds_one (pds_for PassesOwn.leaving good.calm (pdi_any (pd_tup (pda_cons (pd_v 1) (pda_cons (pd_v 2) pda_nil)))) (pdg_name 3 sc_require_place.nd)
      (pds_one (pds_if (pdt_not (pdt_val (pd_callC good ((ok_is_integer T).mono (by omega)) (c_is_integer_2 T) (fun _ => .cons .non .nil) (pda_cons (pd_v 3) (pda_cons pd_int pda_nil))))) (pds_one (pds_raise1 good (by omega) T.x_InvalidPlace.o T.x_InvalidPlace.no T.x_InvalidPlace.iC T.x_InvalidPlace.tI (ok_init_InvalidPlace T) (b_init_InvalidPlace T) T.x_InvalidPlace.m (pda_cons (pd_v 3) pda_nil))) pss_nil'))))), ?_⟩)
  · obtain ⟨w, s, e, rfl, _⟩ := h; rfl
  · rintro ds Qd ⟨w, s, e, rfl, h1, h2, h3, q⟩
    walk_at "w"
    refine ⟨w, .int 0, .non, rfl, h1, rfl, rfl, ?_⟩
    walk_at "w"
    simp only [placeO, isIntB] at q
    refine Br.by (fun e1 => ?_) fun e1 => ?_ <;> (simp only [Bool.not_eq_true', Bool.not_eq_false'] at e1; simp only [e1] at q)
    · exact q
    refine ⟨fun k ρ c => c = c0 ∧ (∃ v, ρ = [.fz w, .fz s, .fz e, v]) ∧ (1 ≤ k → isIntG s (.int 0) .non = true) ∧ (2 ≤ k → isIntG e (.int 0) .non = true), ⟨rfl, ⟨_, rfl⟩, fun h => absurd h (by decide), fun h => absurd h (by decide)⟩, ?_, ?_⟩
    · rintro k x ρ c hx ⟨rfl, ⟨v, rfl⟩, g1, g2⟩
      have hk : Kd a x := by
        rcases k with _ | _ | k
        · cases hx; exact h2
        · cases hx; exact h3
        · cases hx
      walk_at "w"
      refine ⟨x, .int 0, .non, rfl, hk, rfl, rfl, ?_⟩
      walk_at "w"
      refine Br.by (fun e2 => ?_) fun e2 => ?_ <;> simp only [Bool.not_eq_true', Bool.not_eq_false'] at e2
      · rcases k with _ | _ | k
        · cases hx; simp only [e2] at q; exact q
        · cases hx; simp only [g1 (by omega), e2] at q; exact q
        · cases hx
      · refine ⟨⟨_, rfl⟩, fun _ => ?_, fun h => ?_⟩
        · rcases k with _ | k
          · cases hx; exact e2
          · exact g1 (by omega)
        · rcases k with _ | _ | k
          · exact absurd h (by decide)
          · cases hx; exact e2
          · cases hx
    · rintro ρ c ⟨rfl, ⟨v, rfl⟩, g1, g2⟩
      simp only [g1 (by simp), g2 (by simp)] at q
      walk_at "w"
      exact q
def intOf : D → Int
  | .int i => i
  | _ => 0
def decR : D → LRow
  | .tup [.int i, .str x] => (i, x)
  | _ => (0, "")
def rowsOf : D → List LRow
  | .tup l => l.map decR
  | _ => []
omit T in
theorem rowsOf_enc (rows : List LRow) : rowsOf (encL rows) = rows := by
  simp only [rowsOf, encL, List.map_map]
  have : decR ∘ encR = id := by funext r; rfl
  rw [this, List.map_id]
def costO (d w s e : D) : Out := match PL.isNon (check d) with
  | true => (match placeO w s e with
    | none => .told (costD (intOf w) (intOf s) (intOf e) (rowsOf d))
    | some o => .bad o)
  | false => .lay (check d)
omit T in
theorem placeO_none {w s e : D} (h : placeO w s e = none) : ∃ i j k : Int, w = .int i ∧ s = .int j ∧ e = .int k := by
  simp only [placeO] at h
  cases e1 : isIntB w 0 <;> rw [e1] at h <;> simp only at h
  · cases h
  cases e2 : isIntB s 0 <;> rw [e2] at h <;> simp only at h
  · cases h
  cases e3 : isIntB e 0 <;> rw [e3] at h <;> simp only at h
  · cases h
  have key : ∀ {d : D}, isIntB d 0 = true → ∃ i, d = .int i := fun {d} h => by cases d <;> first | exact ⟨_, rfl⟩ | cases h
  obtain ⟨i, rfl⟩ := key e1
  obtain ⟨j, rfl⟩ := key e2
  obtain ⟨k, rfl⟩ := key e3
  exact ⟨i, j, k, rfl, rfl, rfl⟩
def sp_cost_of (a : Ad) : SpD := fun ds c Q E => ∃ d w s e, ds = [d, w, s, e] ∧ Pl 3 d ∧ fewD d ∧ Kd a w ∧ Kd a s ∧ Kd a e ∧ (costO d w s e).to a c Q E
theorem ok_cost_of : FnOk P w K mg base (L2.CX P w) 7 a.f_cost_of a.d_cost_of ["layout", "width", "column", "indent"] (spOf K (sp_cost_of a)) := by
  refine okD T.F_cost_of sc_cost_of (fun ds c Q E h => ?_) (fun cdv A outer s H E G0 c0 ED good => ⟨_, _, (pds_cons (pds_expr (pd_callC good ((ok_require_layout T).mono (by omega)) (c_require_layout_1 T) (fun _ => .nil) (pda_cons (pd_v 0) pda_nil)))
      (pds_cons (pds_expr (pd_callC good ((ok_require_place T).mono (by omega)) (c_require_place_3 T) (fun _ => .nil) (pda_cons (pd_v 1) (pda_cons (pd_v 2) (pda_cons (pd_v 3) pda_nil)))))
      (pds_cons (pds_newL 4 sc_cost_of.nd (pda_cons (pd_sum2 (pd_v 2) (pd_callB cr_len br_lenA T.z_len bt_len (pda_cons (pd_at (pd_at (pd_v 0) pd_int) pd_int) pda_nil))) pda_nil))
      (pds_cons (pds_for PassesOwn.leaving good.calm (pdi_any (pd_part2 (pd_v 0) (pdo_some pd_int) pdo_none)) (pdg_seq (n := 2) good.calm (pdg_cons (pdg_name 5 sc_cost_of.nd) (pdg_cons (pdg_name 6 sc_cost_of.nd) pdg_nil)))
      (pds_one (pds_append 4 (pv 4) (pda_cons (pd_sum2 (pd_sum2 (pd_v 3) (pd_v 5)) (pd_callB cr_len br_lenA T.z_len bt_len (pda_cons (pd_v 6) pda_nil))) pda_nil))))
      (pds_freeze 4 (pds_one (pds_ret (pd_tup (pda_cons (pd_callB (cr_sum good.calm) br_sumA T.z_sum bt_sum (pda_cons (pd_lc (own := [("end", 7)]) good.calm sc_cost_of.nd (pdi_any (pd_v 4)) (blkOk_by (N := ["layout", "width", "column", "indent", "ends", "own", "string", "end"]) (sc := (defScope s_cost_of)) (by decide +kernel)) ⟨fun s1 H1 C1 cl1 fp1 => (pdg_cast (pdg_name 7 sc_cost_of.nd) (by first | rfl | (dsimp only [Ctx.blk, Cx.blk] <;> rfl)) (by first | rfl | (dsimp only [Ctx.blk, Cx.blk] <;> rfl))), fun s1 H1 C1 cl1 fp1 => (pdts_cast pdts_nil (by first | rfl | (dsimp only [Ctx.blk, Cx.blk] <;> rfl)) (by first | rfl | (dsimp only [Ctx.blk, Cx.blk] <;> rfl))), fun s1 H1 C1 cl1 fp1 => (pd_cast (pd_callB (call_max2 (good.blk s1 H1 _ _ fp1).calm) br_max2 T.z_max bt_max (pda_cons pd_int (pda_cons (pd_sub (pd_v 7) (pd_v 1)) pda_nil))) (by first | rfl | (dsimp only [Ctx.blk, Cx.blk] <;> rfl)) (by first | rfl | (dsimp only [Ctx.blk, Cx.blk] <;> rfl)))⟩) pda_nil)) (pda_cons (pd_callB cr_len br_lenA T.z_len bt_len (pda_cons (pd_v 0) pda_nil)) pda_nil)))))))))), ?_⟩)
  · obtain ⟨d, w, s, e, rfl, _⟩ := h; rfl
  · rintro ds Qd ⟨d, w, s, e, rfl, hp, hf, h1, h2, h3, q⟩
    walk_at "w"
    refine ⟨d, rfl, hp, fun hc => ?_, fun hc => ?_⟩
    rotate_left
    · have : PL.isNon (check d) = false := by cases h : PL.isNon (check d) <;> first | rfl | exact absurd (isNon_t h) hc
      simp only [costO, this] at q
      exact q
    simp only [costO, hc, PL.isNon] at q
    walk_at "w"
    refine ⟨w, s, e, rfl, h1, h2, h3, ?_⟩
    cases hpl : placeO w s e with
    | some o => rw [hpl] at q; exact q
    | none =>
      rw [hpl] at q
      obtain ⟨i, j, k, rfl, rfl, rfl⟩ := placeO_none hpl
      obtain ⟨rows, rfl, ok⟩ := lay_rows hc hp
      rw [rowsOf_enc] at q
      have hlen : rows.length ≤ 1000 := by simpa using hf _ rfl
      cases rows with
      | nil => exact absurd rfl ok.ne
      | cons r l =>
        have hr := ok.rows r List.mem_cons_self
        simp only [encL, List.map_cons]
        walk_at "w"
        simp only [encR]
        walk_at "w"
        refine ⟨by have := hr.2.1; omega, ?_⟩
        refine for_det (fun m ρ => ∃ s1 s2, ρ = [.fz (.tup (encR r :: l.map encR)), .fz (.int i), .fz (.int j), .fz (.int k), .ol ((endsOf j k (r :: l.take m)).map .int), s1, s2, .no]) ⟨_, _, rfl⟩ ?_ ?_
        · rintro m x ρ hx ⟨s1, s2, rfl⟩
          rw [List.getElem?_map] at hx
          obtain ⟨q1, hq1, rfl⟩ := Option.map_eq_some_iff.mp hx
          have hr1 := ok.rows q1 (List.mem_cons_of_mem _ (List.mem_of_getElem? hq1))
          simp only [encR]
          walk_at "w"
          have hm : m < l.length := (List.getElem?_eq_some_iff.mp hq1).1
          have hl : l.length ≤ 1000 := by simp only [List.length_cons] at hlen; omega
          refine ⟨?_, by have := hr1.2.1; omega, _, _, by rw [take_snoc hq1]; simp only [endsOf, List.map_cons, List.map_append, List.map_nil, List.cons_append]; rfl⟩
          simp only [endsOf, List.length_map, List.length_cons, List.length_take]; omega
        · rintro ρ ⟨s1, s2, rfl⟩
          rw [List.length_map, List.take_length]
          walk_at "w"
          have hl : l.length ≤ 1000 := by simp only [List.length_cons] at hlen; omega
          refine lc_map (fun d => .int (over i (intOf d))) (by simp only [endsOf, List.length_map, List.length_cons]; omega) (fun d hd R q => ?_) ?_
          · obtain ⟨x, _, rfl⟩ := List.mem_map.mp hd
            walk_at "w"
            exact q
          · refine sumP.mk (ns := (endsOf j k (r :: l)).map (over i)) (by rw [List.map_map]; exact intsD_map' _ _) ?_
            have e : ((List.map encR l).length : Int) + 1 = (r :: l).length := by simp
            rw [e]
            exact q
omit T in
theorem strs30 : ∀ v, v ∈ [D.str "", D.str "a", D.str "ab", D.str "row of words", D.str (Txt.mul "~" 30), D.str "x y"] → ∃ x, v = .str x ∧ strS x := by
  intro v hv
  simp only [List.mem_cons, List.not_mem_nil, or_false] at hv
  rcases hv with rfl | rfl | rfl | rfl | rfl | rfl <;> exact ⟨_, rfl, strSB_ok (by decide +kernel)⟩
def sp__law_layout : SpD := fun ds c Q _ => ds = [.opq] ∧ c + 12 ≤ LIM ∧ ∀ rows c', LayOk rows → rows.length ≤ 5 → c ≤ c' → c' ≤ c + 12 → Q (encL rows) c'
theorem ok__law_layout : FnOk P w K mg base (L2.CX P w) 5 a.f__law_layout a.d__law_layout ["_law_purse_here"] (spOf K sp__law_layout) := by
  refine okD T.F__law_layout sc__law_layout (fun ds c Q E h => ?_) (fun cdv A outer s H E G0 c0 ED good => ⟨_, _, (pds_cons (pds_set 1 sc__law_layout.nd (pd_lst (pda_cons pd_str (pda_cons pd_str (pda_cons pd_str (pda_cons pd_str (pda_cons (pd_times pd_str pd_int) (pda_cons pd_str pda_nil))))))))
      (pds_cons (pds_newL 2 sc__law_layout.nd (pda_cons (pd_tup (pda_cons pd_int (pda_cons (pd_at (pd_v 1) (pd_callC good ((ok__law_draw T).mono (by omega)) (c__law_draw_2 T) (fun _ => .nil) (pda_cons (pd_v 0) (pda_cons pd_int pda_nil)))) pda_nil))) pda_nil))
      (pds_cons (pds_for PassesOwn.leaving good.calm (pdi_range1 T.z_range (pda_cons (pd_callC good ((ok__law_draw T).mono (by omega)) (c__law_draw_2 T) (fun _ => .nil) (pda_cons (pd_v 0) (pda_cons pd_int pda_nil))) pda_nil)) (pdg_name 3 sc__law_layout.nd)
      (pds_one (pds_append 2 (pv 2) (pda_cons (pd_tup (pda_cons (pd_callC good ((ok__law_draw T).mono (by omega)) (c__law_draw_2 T) (fun _ => .nil) (pda_cons (pd_v 0) (pda_cons pd_int pda_nil))) (pda_cons (pd_at (pd_v 1) (pd_callC good ((ok__law_draw T).mono (by omega)) (c__law_draw_2 T) (fun _ => .nil) (pda_cons (pd_v 0) (pda_cons pd_int pda_nil)))) pda_nil))) pda_nil))))
      (pds_freeze 2 (pds_one (pds_ret (pd_callTy call_tuple_of br_tupleA T.z_tuple bt_tuple (pda_cons (pd_v 2) pda_nil)))))))), ?_⟩)
  · obtain ⟨rfl, _⟩ := h; rfl
  · rintro ds Qd ⟨rfl, hc, q⟩
    walk_at "w"
    refine ⟨by decide, by decide, by decide +kernel, 6, rfl, by decide, by decide, by omega, fun i c1 i0 i1 l1 l2 => ?_⟩
    walk_at "w"
    refine pick _ strs30 i0 i1 ?_
    rintro _ ⟨x, rfl, hx⟩
    refine ⟨5, rfl, by decide, by decide, by omega, fun n c2 n0 n1 l3 l4 => ?_⟩
    walk_at "w"
    refine ⟨by omega, by omega, ?_⟩
    refine ⟨fun k ρ c => (∃ rows s, ρ = [.fz .opq, .fz (.lst [D.str "", D.str "a", D.str "ab", D.str "row of words", D.str (Txt.mul "~" 30), D.str "x y"]), .ol (rows.map encR), s] ∧ LayOk rows ∧ rows.length = k + 1) ∧ c2 ≤ c ∧ c ≤ c2 + 2 * k, ⟨⟨[(0, x)], _, rfl, .one hx, rfl⟩, Nat.le_refl _, by omega⟩, ?_, ?_⟩
    · rintro k y ρ c hy ⟨⟨rows, s, rfl, ok, hl⟩, b0, b1⟩
      obtain ⟨hk, rfl⟩ := upInts_get hy
      walk_at "w"
      refine ⟨by simp only [List.length_map]; omega, 10, rfl, by decide, by decide, by omega, fun i c3 i0 i1 l5 l6 => ?_⟩
      walk_at "w"
      refine ⟨6, rfl, by decide, by decide, by omega, fun j c4 j0 j1 l7 l8 => ?_⟩
      walk_at "w"
      refine pick _ strs30 j0 j1 ?_
      rintro _ ⟨z, rfl, hz⟩
      exact ⟨⟨rows ++ [(i, z)], _, by rw [← encL_snoc], ok.snoc i0 hz, by simp [hl]⟩, by omega, by omega⟩
    · rintro ρ c ⟨⟨rows, s, rfl, ok, hl⟩, b0, b1⟩
      rw [upInts_length] at hl b1
      walk_at "w"
      exact q rows c ok (by omega) (by omega) (by omega)
omit T in
theorem endsOf_snoc {s e : Int} {rows : List LRow} {k : Nat} {r : LRow} (h : rows[k]? = some r) : endsOf s e (rows.take (k + 1)) = endsOf s e (rows.take k) ++ [(if k = 0 then s else e + r.1) + r.2.length] := by
  rw [take_snoc h]
  cases k with
  | zero => rfl
  | succ k =>
    cases rows with
    | nil => cases h
    | cons x l => simp [endsOf]
omit T in
theorem over_max (w x : Int) : (if 0 > x - w then 0 else x - w) = over w x := by unfold over; split <;> split <;> omega
def sp__law_due : SpD := fun ds c Q _ => ∃ rows w s e, ds = [encL rows, .int w, .int s, .int e] ∧ LayOk rows ∧ rows.length ≤ 1000 ∧ Q (costD w s e rows) c
theorem ok__law_due : FnOk P w K mg base (L2.CX P w) 1 a.f__law_due a.d__law_due ["_law_row", "_law_wide", "_law_start", "_law_deep"] (spOf K sp__law_due) := by
  refine okD T.F__law_due sc__law_due (fun ds c Q E h => ?_) (fun cdv A outer s H E G0 c0 ED good => ⟨_, _, (pds_cons (pds_set 4 sc__law_due.nd pd_int)
      (pds_cons (pds_for PassesOwn.leaving good.calm (pdi_enum T.z_enumerate (pda_cons (pd_v 0) pda_nil)) (pdg_seq (n := 2) good.calm (pdg_cons (pdg_name 5 sc__law_due.nd) (pdg_cons (pdg_seq (n := 2) good.calm (pdg_cons (pdg_name 7 sc__law_due.nd) (pdg_cons (pdg_name 8 sc__law_due.nd) pdg_nil))) pdg_nil)))
      (pds_cons (pds_set 6 sc__law_due.nd (pd_sum2 (pd_at (pd_lst (pda_cons (pd_v 2) (pda_cons (pd_sum2 (pd_v 3) (pd_v 7)) pda_nil))) (pd_callTy call_int1 br_intA T.z_int bt_int (pda_cons (pd_cm (pdc_gt (pd_v 5) pd_int)) pda_nil))) (pd_callB cr_len br_lenA T.z_len bt_len (pda_cons (pd_v 8) pda_nil))))
      (pds_one (pds_set 4 sc__law_due.nd (pd_sum2 (pd_v 4) (pd_callB (call_max2 good.calm) br_max2 T.z_max bt_max (pda_cons (pd_sub (pd_v 6) (pd_v 1)) (pda_cons pd_int pda_nil))))))))
      (pds_one (pds_ret (pd_tup (pda_cons (pd_v 4) (pda_cons (pd_callB cr_len br_lenA T.z_len bt_len (pda_cons (pd_v 0) pda_nil)) pda_nil))))))), ?_⟩)
  · obtain ⟨rows, w, s, e, rfl, _⟩ := h; rfl
  · rintro ds Qd ⟨rows, w, s, e, rfl, ok, hl, q⟩
    simp only [encL]
    walk_at "w"
    refine for_det (fun m ρ => ∃ s1 s2 s3 s4, ρ = [.fz (encL rows), .fz (.int w), .fz (.int s), .fz (.int e), .fz (.int ((endsOf s e (rows.take m)).map (over w)).sum), s1, s2, s3, s4]) ⟨_, _, _, _, rfl⟩ ?_ ?_
    · rintro m x ρ hx ⟨s1, s2, s3, s4, rfl⟩
      obtain ⟨y, hy, rfl⟩ := numbered_get hx
      rw [List.getElem?_map] at hy
      obtain ⟨r, hr, rfl⟩ := Option.map_eq_some_iff.mp hy
      rw [Nat.zero_add]
      simp only [encR]
      walk_at "w"
      have hm : m < rows.length := (List.getElem?_eq_some_iff.mp hr).1
      have hlr : r.2.length ≤ 1000 := (ok.rows r (List.mem_of_getElem? hr)).2.1
      have fin : ∀ d : Int, d = (if m = 0 then s else e + r.1) → r.2.length ≤ 16777216 ∧ aSum2 (.int d) (D.int r.2.length) c0 fun d c1 => aSub d (D.int w) c1 fun x c1 => aMax2 [x, D.int 0] c1 fun y c2 =>
          aSum2 (D.int (List.map (over w) (endsOf s e (List.take m rows))).sum) y c2 fun d_1 c1 => c1 = c0 ∧ ∃ s1 s2 s3 s4, [Sl.fz (encL rows), Sl.fz (D.int w), Sl.fz (D.int s), Sl.fz (D.int e), Sl.fz d_1, Sl.fz (D.int (m : Nat)), Sl.fz d, Sl.fz (D.int r.1), Sl.fz (D.str r.2)] =
            [Sl.fz (encL rows), Sl.fz (D.int w), Sl.fz (D.int s), Sl.fz (D.int e), Sl.fz (D.int (List.map (over w) (endsOf s e (List.take (m + 1) rows))).sum), s1, s2, s3, s4] := fun d hd => by
        walk_at "w"
        rw [over_max]
        exact ⟨by omega, _, _, _, _, by rw [endsOf_snoc hr, List.map_append, List.sum_append, List.map_cons, List.map_nil, List.sum_cons, List.sum_nil, Int.add_zero, hd]⟩
      cases m with
      | zero => exact atP.mk (d := .int s) rfl (fin s rfl)
      | succ m => exact atP.mk (d := .int (e + r.1)) (by simp [b2n, atI_1, show (0 : Int) < (m : Int) + 1 by omega]) (fin _ (by simp))
    · rintro ρ ⟨s1, s2, s3, s4, rfl⟩
      rw [numbered_length, List.length_map, List.take_length]
      simp only [encL]
      walk_at "w"
      simp only [List.length_map]
      exact q
def outD : Out → D
  | .told d => .lst [.str "told", d]
  | .lay p => .lst [.str "layout", p]
  | .bad (.wid v) => .lst [.str "width", v]
  | .bad (.pla v) => .lst [.str "place", v]
def sp__law_told (a : Ad) : SpD := fun ds c Q E => ∃ d w s e, ds = [d, w, s, e] ∧ Pl 3 d ∧ fewD d ∧ Kd a w ∧ Kd a s ∧ Kd a e ∧ Q (outD (costO d w s e)) c
theorem ok__law_told : FnOk P w K mg base (L2.CX P w) 9 a.f__law_told a.d__law_told ["_law_row", "_law_wide", "_law_start", "_law_deep"] (spOf K (sp__law_told a)) := by
  refine okD T.F__law_told sc__law_told (fun ds c Q E h => ?_) (fun cdv A outer s H E G0 c0 ED good => ⟨_, _, (pds_cons (pds_set 4 sc__law_told.nd pd_non)
      (pds_cons (pds_set 5 sc__law_told.nd pd_non)
      (pds_cons (show PDS _ ((defBody s__law_told).getD 2 (.Pass ⟨0, 0, 0, 0⟩)) _ _ from by
        refine' pds_try_keep (i := 6) good sc__law_told.nd ?hc rfl ?hb ?hsu
        case hc => exact ⟨rfl, by decide, .inl T.m_LayoutError⟩
        case hb => exact fun pn1 xe1 E1 ED1 lo1 gt1 => pdss_cast (pds_one (pds_set 5 sc__law_told.nd (pd_callK gt1 ((ok_cost_of T).mono (by omega)) (c_cost_of_1_width_column_indent T) (pda_cons (pd_v 0) pda_nil) (pdk_cons (pd_v 1) (pdk_cons (pd_v 2) (pdk_cons (pd_v 3) pdk_nil)))))) (by dsimp only <;> rfl) (by dsimp only <;> rfl)
        case hsu => exact fun a1 pn1 lo1 => pdss_cast (pds_one (pds_set 4 sc__law_told.nd (pd_v 6))) (by first | rfl | (dsimp only <;> rfl)) (by first | rfl | (dsimp only <;> rfl)))
      (pds_cons (pds_if (pdt_cm (pdc_isN (pd_v 4))) (pds_one (pds_ret (pd_lst (pda_cons pd_str (pda_cons (pd_v 5) pda_nil))))) pss_nil')
      (pds_cons (pds_if (pdt_val (pd_callB call_isO (br_isO (IC := IC0 a) (hI0 T)) T.z_isinstance bt_isinstance (pda_cons (pd_v 4) (pda_cons (pd_cls T.m_InvalidLayout) pda_nil)))) (pds_one (pds_ret (pd_lst (pda_cons pd_str (pda_cons (pd_fldX1 (fx_problem T) (pd_v 4)) pda_nil))))) pss_nil')
      (pds_cons (pds_if (pdt_val (pd_callB call_isO (br_isO (IC := IC0 a) (hI0 T)) T.z_isinstance bt_isinstance (pda_cons (pd_v 4) (pda_cons (pd_cls T.m_InvalidWidth) pda_nil)))) (pds_one (pds_ret (pd_lst (pda_cons pd_str (pda_cons (pd_fldX1 (fx_value T) (pd_v 4)) pda_nil))))) pss_nil')
      (pds_one (pds_ret (pd_at (pd_lst (pda_cons (pd_lst (pda_cons pd_str (pda_cons pd_non pda_nil))) (pda_cons (pd_lst (pda_cons pd_str (pda_cons (pd_fldX1 (fx_value T) (pd_v 4)) pda_nil))) pda_nil))) (pd_callTy call_int1 br_intA T.z_int bt_int (pda_cons (pd_callB call_isO (br_isO (IC := IC0 a) (hI0 T)) T.z_isinstance bt_isinstance (pda_cons (pd_v 4) (pda_cons (pd_cls T.m_InvalidPlace) pda_nil))) pda_nil))))))))))), ?_⟩)
  · obtain ⟨d, w, s, e, rfl, _⟩ := h; rfl
  · rintro ds Qd ⟨d, w, s, e, rfl, hp, hf, h1, h2, h3, q⟩
    walk_at "w"
    refine ⟨d, w, s, e, rfl, hp, hf, h1, h2, h3, ?_⟩
    cases ho : costO d w s e with
    | told x => rw [ho] at q; exact q
    | lay p =>
      rw [ho] at q
      refine ⟨true, T.em_InvalidLayout_LayoutError, Br.t rfl ?_⟩
      walk_at "w"
      refine isO.exc T.x_InvalidLayout.xc T.k_InvalidLayout_InvalidLayout ?_
      walk_at "w"
      exact ⟨CF_problem_InvalidLayout, q⟩
    | bad b =>
      rw [ho] at q
      cases b with
      | wid v =>
        refine ⟨true, T.em_InvalidWidth_LayoutError, Br.t rfl ?_⟩
        walk_at "w"
        refine isO.exc T.x_InvalidWidth.xc T.k_InvalidWidth_InvalidLayout ?_
        walk_at "w"
        refine isO.exc T.x_InvalidWidth.xc T.k_InvalidWidth_InvalidWidth ?_
        walk_at "w"
        exact ⟨CF_value_InvalidWidth, q⟩
      | pla v =>
        refine ⟨true, T.em_InvalidPlace_LayoutError, Br.t rfl ?_⟩
        walk_at "w"
        refine isO.exc T.x_InvalidPlace.xc T.k_InvalidPlace_InvalidLayout ?_
        walk_at "w"
        refine isO.exc T.x_InvalidPlace.xc T.k_InvalidPlace_InvalidWidth ?_
        walk_at "w"
        refine ⟨CF_value_InvalidPlace, ?_⟩
        refine isO.exc T.x_InvalidPlace.xc T.k_InvalidPlace_InvalidPlace ?_
        walk_at "w"
        exact atP.mk rfl q
/-- no layout -/
def badL (d : D) : Prop := Pl 3 d ∧ fewD d ∧ PL.isNon (check d) = false
/-- no number from 0 on -/
def oddD (d : D) : Prop := Pl 3 d ∧ isIntB d 0 = false
omit T in
theorem bads : ∀ v, v ∈ [D.non, D.tup [], D.lst [D.tup [D.int 0, D.str "a"]], D.tup [D.tup [D.int 1, D.str "a"]], D.tup [D.tup [D.int 0, D.str "a"], D.tup [D.int 0, D.non]], D.tup [D.tup [D.int 0, D.str "a"], D.int 7], D.tup [D.tup [D.int 0, D.str "a"], D.tup [D.int (-1), D.str "b"]]] → badL v := by
  intro v hv
  have few : ∀ {d : D} {n : Nat}, (match d with | .tup l => l.length | _ => 0) ≤ 1000 → fewD d := fun {d n} h l e => by subst e; exact h
  simp only [List.mem_cons, List.not_mem_nil, or_false] at hv
  rcases hv with rfl | rfl | rfl | rfl | rfl | rfl | rfl <;> exact ⟨plB_ok (by decide +kernel), few (n := 0) (by decide), by decide +kernel⟩
omit T in
theorem odds : ∀ v, v ∈ [D.int (-1), D.non, D.bl true, D.str "0", D.tup [D.int 0], D.int (-(10 ^ Int.toNat 30)), D.lst [D.int 0], D.bl false] → oddD v := by
  intro v hv
  simp only [List.mem_cons, List.not_mem_nil, or_false] at hv
  rcases hv with rfl | rfl | rfl | rfl | rfl | rfl | rfl | rfl <;> exact ⟨plB_ok (by decide +kernel), by decide +kernel⟩
omit T in
theorem pl2 {x d : D} {n : Nat} (h1 : Pl n x) (h2 : Pl n d) : Pl (n + 1) (.lst [x, d]) := pl_lst (pl_cons h1 (pl_cons h2 pl_nil))
omit T in
theorem eq2 {x d : D} {n : Nat} (h1 : Pl n x) (h2 : Pl n d) : eqD (.lst [x, d]) (.lst [x, d]) = true := eqD_refl (pl2 h1 h2)
def sp__law_refused : SpD := fun ds c Q _ => ∃ rows, ds = [.opq, encL rows] ∧ LayOk rows ∧ rows.length ≤ 1000 ∧ c + 3 ≤ LIM ∧ ∀ c', c ≤ c' → c' ≤ c + 3 → Q (.bl true) c'
theorem ok__law_refused : FnOk P w K mg base (L2.CX P w) 11 a.f__law_refused a.d__law_refused ["_law_purse_here", "_law_row"] (spOf K sp__law_refused) := by
  refine okD T.F__law_refused sc__law_refused (fun ds c Q E h => ?_) (fun cdv A outer s H E G0 c0 ED good => ⟨_, _, (pds_cons (pds_set 2 sc__law_refused.nd (pd_lst (pda_cons (pd_neg pd_int) (pda_cons pd_non (pda_cons pd_bl (pda_cons pd_str (pda_cons (pd_tup (pda_cons pd_int pda_nil)) (pda_cons (pd_neg (pd_pow pd_int pd_int)) (pda_cons (pd_lst (pda_cons pd_int pda_nil)) (pda_cons pd_bl pda_nil))))))))))
      (pds_cons (pds_set 3 sc__law_refused.nd (pd_lst (pda_cons pd_non (pda_cons (pd_tup pda_nil) (pda_cons (pd_lst (pda_cons (pd_tup (pda_cons pd_int (pda_cons pd_str pda_nil))) pda_nil)) (pda_cons (pd_tup (pda_cons (pd_tup (pda_cons pd_int (pda_cons pd_str pda_nil))) pda_nil)) (pda_cons (pd_tup (pda_cons (pd_tup (pda_cons pd_int (pda_cons pd_str pda_nil))) (pda_cons (pd_tup (pda_cons pd_int (pda_cons pd_non pda_nil))) pda_nil))) (pda_cons (pd_tup (pda_cons (pd_tup (pda_cons pd_int (pda_cons pd_str pda_nil))) (pda_cons pd_int pda_nil))) (pda_cons (pd_tup (pda_cons (pd_tup (pda_cons pd_int (pda_cons pd_str pda_nil))) (pda_cons (pd_tup (pda_cons (pd_neg pd_int) (pda_cons pd_str pda_nil))) pda_nil))) pda_nil)))))))))
      (pds_cons (pds_set 3 sc__law_refused.nd (pd_at (pd_v 3) (pd_callC good ((ok__law_draw T).mono (by omega)) (c__law_draw_2 T) (fun _ => .nil) (pda_cons (pd_v 0) (pda_cons pd_int pda_nil)))))
      (pds_cons (pds_asg (pd_lc (own := [("_law_k", 6)]) good.calm sc__law_refused.nd (pdi_range1 T.z_range (pda_cons pd_int pda_nil)) (blkOk_by (N := ["_law_purse_here", "_law_row", "_law_odd", "_law_bad", "_law_one", "_law_other", "_law_k"]) (sc := (defScope s__law_refused)) (by decide +kernel)) ⟨fun s1 H1 C1 cl1 fp1 => (pdg_cast (pdg_name 6 sc__law_refused.nd) (by first | rfl | (dsimp only [Ctx.blk, Cx.blk] <;> rfl)) (by first | rfl | (dsimp only [Ctx.blk, Cx.blk] <;> rfl))), fun s1 H1 C1 cl1 fp1 => (pdts_cast pdts_nil (by first | rfl | (dsimp only [Ctx.blk, Cx.blk] <;> rfl)) (by first | rfl | (dsimp only [Ctx.blk, Cx.blk] <;> rfl))), fun s1 H1 C1 cl1 fp1 => (pd_cast (pd_at (pd_v 2) (pd_callC (good.blk s1 H1 _ _ fp1) ((ok__law_draw T).mono (by omega)) (c__law_draw_2 T) (fun _ => .nil) (pda_cons (pd_v 0) (pda_cons pd_int pda_nil)))) (by first | rfl | (dsimp only [Ctx.blk, Cx.blk] <;> rfl)) (by first | rfl | (dsimp only [Ctx.blk, Cx.blk] <;> rfl)))⟩) (pdg_seq (n := 2) good.calm (pdg_cons (pdg_name 4 sc__law_refused.nd) (pdg_cons (pdg_name 5 sc__law_refused.nd) pdg_nil))))
      (pds_cons (pds_if (pdw_pt (pdw_or (pdt_cm (pdc_neD good (pd_callC good ((ok__law_told T).mono (by omega)) (c__law_told_4 T) (fun _ => .nil) (pda_cons (pd_v 3) (pda_cons (pd_v 4) (pda_cons (pd_v 5) (pda_cons (pd_v 5) pda_nil))))) (pd_lst (pda_cons pd_str (pda_cons (pd_callC good ((ok_check_layout T).mono (by omega)) (c_check_layout_1 T) (fun _ => .nil) (pda_cons (pd_v 3) pda_nil)) pda_nil))))) (pdw_or1 (pdt_cm (pdc_isN (pd_callC good ((ok_check_layout T).mono (by omega)) (c_check_layout_1 T) (fun _ => .nil) (pda_cons (pd_v 3) pda_nil))))))) (pds_one (pds_ret pd_bl)) pss_nil')
      (pds_cons (pds_if (pdw_pt (pdw_or (pdt_cm (pdc_neD good (pd_callC good ((ok__law_told T).mono (by omega)) (c__law_told_4 T) (fun _ => .nil) (pda_cons (pd_v 1) (pda_cons (pd_v 4) (pda_cons (pd_v 5) (pda_cons (pd_v 5) pda_nil))))) (pd_lst (pda_cons pd_str (pda_cons (pd_v 4) pda_nil))))) (pdw_or1 (pdt_cm (pdc_neD good (pd_callC good ((ok__law_told T).mono (by omega)) (c__law_told_4 T) (fun _ => .nil) (pda_cons (pd_v 1) (pda_cons pd_int (pda_cons (pd_v 4) (pda_cons (pd_v 5) pda_nil))))) (pd_lst (pda_cons pd_str (pda_cons (pd_v 4) pda_nil)))))))) (pds_one (pds_ret pd_bl)) pss_nil')
      (pds_one (pds_ret (pd_cm (pdc_eqD good (pd_callC good ((ok__law_told T).mono (by omega)) (c__law_told_4 T) (fun _ => .nil) (pda_cons (pd_v 1) (pda_cons pd_int (pda_cons pd_int (pda_cons (pd_v 5) pda_nil))))) (pd_lst (pda_cons pd_str (pda_cons (pd_v 5) pda_nil))))))))))))), ?_⟩)
  · obtain ⟨rows, rfl, _⟩ := h; rfl
  · rintro ds Qd ⟨rows, rfl, ok, hl, hc, q⟩
    walk_at "w"
    refine ⟨⟨by decide, by decide +kernel⟩, 7, rfl, by decide, by decide, by omega, fun i c1 i0 i1 l1 l2 => ?_⟩
    walk_at "w"
    refine pick _ bads i0 i1 ?_
    intro bad hb
    refine ⟨by decide, by decide, ?_⟩
    refine lc_draw oddD 1 (by decide) (fun x hx c' h1 h2 R hR => ?_) fun l c2 hll hP h1 h2 => ?_
    · obtain ⟨j, hj⟩ := List.mem_iff_getElem?.mp hx
      obtain ⟨_, rfl⟩ := upInts_get hj
      have e2 : (upInts 0 (Int.toNat 2)).length = 2 := rfl
      rw [e2] at h2
      walk_at "w"
      refine ⟨8, rfl, by decide, by decide, by omega, fun i c3 i0 i1 l3 l4 => ?_⟩
      walk_at "w"
      exact pick _ odds i0 i1 fun v hv => hR v c3 hv l3 l4
    · have e2 : (upInts 0 (Int.toNat 2)).length = 2 := rfl
      rw [e2] at h2 hll
      obtain ⟨one, other, rfl⟩ : ∃ x y, l = [x, y] := by
        match l, hll with
        | [x, y], _ => exact ⟨x, y, rfl⟩
      obtain ⟨o1, o2⟩ := hP one (by simp)
      obtain ⟨p1, p2⟩ := hP other (by simp)
      obtain ⟨b1, b2, b3⟩ := hb
      walk_at "w"
      have ko1 := kd_of (a := a) o1
      have kp1 := kd_of (a := a) p1
      have l60 : ∀ {x y : D}, Pl 3 x → Pl 3 y → Pl 60 (.lst [x, y]) := fun hx hy => (pl2 hx hy).mono (by decide)
      have sl : ∀ {s : Str}, (decide (s.length ≤ 1000) && PyData.strOk s) = true → Pl 3 (.str s) := fun h => pl_str h
      have e1 : costO bad one other other = .lay (check bad) := by simp only [costO, b3]
      have e2 : ∀ w s e, costO (encL rows) w s e = (match placeO w s e with | none => .told (costD (intOf w) (intOf s) (intOf e) (rowsOf (encL rows))) | some o => .bad o) := fun w s e => by simp only [costO, ok.check, PL.isNon]
      have cb : Pl 3 (check bad) := (check_pl bad).succ
      have cn : check bad = .non → False := fun h => by rw [h] at b3; cases b3
      have i3 : isIntB (.int 3) 0 = true := by decide
      have i0' : isIntB (.int 0) 0 = true := by decide
      refine ⟨bad, one, other, other, rfl, b1, b2, ko1, kp1, kp1, ?_⟩
      rw [e1]
      refine ⟨bad, rfl, b1, ?_⟩
      refine ⟨l60 (sl (by decide +kernel)) cb, l60 (sl (by decide +kernel)) cb, Br.f (by rw [show outD (.lay (check bad)) = .lst [.str "layout", check bad] from rfl, eq2 (sl (by decide +kernel)) cb]; rfl) ?_⟩
      refine ⟨bad, rfl, b1, Br.f b3 ?_⟩
      refine ⟨encL rows, one, other, other, rfl, ok.pl, fewD_encL hl, ko1, kp1, kp1, ?_⟩
      rw [e2, show placeO one other other = some (.wid one) by simp only [placeO, o2]]
      refine ⟨l60 (sl (by decide +kernel)) o1, l60 (sl (by decide +kernel)) o1, Br.f (by rw [show outD (.bad (.wid one)) = .lst [.str "width", one] from rfl, eq2 (sl (by decide +kernel)) o1]; rfl) ?_⟩
      refine ⟨encL rows, .int 3, one, other, rfl, ok.pl, fewD_encL hl, .inl rfl, ko1, kp1, ?_⟩
      rw [e2, show placeO (.int 3) one other = some (.pla one) by simp only [placeO, i3, o2]]
      refine ⟨l60 (sl (by decide +kernel)) o1, l60 (sl (by decide +kernel)) o1, Br.f (by rw [show outD (.bad (.pla one)) = .lst [.str "place", one] from rfl, eq2 (sl (by decide +kernel)) o1]; rfl) ?_⟩
      refine ⟨encL rows, .int 0, .int 0, other, rfl, ok.pl, fewD_encL hl, .inl rfl, .inl rfl, kp1, ?_⟩
      rw [e2, show placeO (.int 0) (.int 0) other = some (.pla other) by simp only [placeO, i0', p2]]
      refine ⟨l60 (sl (by decide +kernel)) p1, l60 (sl (by decide +kernel)) p1, ?_⟩
      rw [show outD (.bad (.pla other)) = .lst [.str "place", other] from rfl, eq2 (sl (by decide +kernel)) p1]
      exact q c2 (by omega) (by omega)
/-- a number from 0 on -/
def natD (d : D) : Prop := ∃ i : Int, d = .int i ∧ 0 ≤ i
omit T in
theorem told_ok {rows : List LRow} (ok : LayOk rows) {w s e : Int} (h1 : 0 ≤ w) (h2 : 0 ≤ s) (h3 : 0 ≤ e) : costO (encL rows) (.int w) (.int s) (.int e) = .told (costD w s e rows) := by
  have key : ∀ {i : Int}, 0 ≤ i → isIntB (.int i) 0 = true := fun h => by rw [isIntB_int]; exact decide_eq_true h
  simp only [costO, ok.check, PL.isNon, placeO, key h1, key h2, key h3, intOf, rowsOf_enc]
omit T in
theorem costD_pl (w s e : Int) (rows : List LRow) : Pl 3 (costD w s e rows) := pl_cons pl_int (pl_cons pl_int pl_nil)
def sp_law : SpD := fun ds c Q _ => ∃ ns : List Int, ds = [.scr ns] ∧ ns.length ≤ 63 ∧ c + 2000 ≤ LIM ∧ ∀ c', Q (.bl true) c'
theorem ok_law : FnOk P w K mg base (L2.CX P w) 13 a.f_law a.d_law ["_law_script"] (spOf K sp_law) := by
  refine okD T.F_law sc_law (fun ds c Q E h => ?_) (fun cdv A outer s H E G0 c0 ED good => ⟨_, _, (pds_cons (pds_for PassesOwn.leaving good.calm (pdi_range1 T.z_range (pda_cons (pd_sum2 pd_int (pd_callB (call_min2 good.calm) br_min2 T.z_min bt_min (pda_cons pd_int (pda_cons (pd_callB cr_len br_lenA T.z_len bt_len (pda_cons (pd_v 0) pda_nil)) pda_nil)))) pda_nil)) (pdg_name 1 sc_law.nd)
      (pds_cons (pds_set 2 sc_law.nd (pd_callC good ((ok__law_purse T).mono (by omega)) (c__law_purse_2 T) (fun _ => .nil) (pda_cons (pd_v 0) (pda_cons (pd_v 1) pda_nil))))
      (pds_one (pds_for PassesOwn.leaving good.calm (pdi_range1 T.z_range (pda_cons pd_int pda_nil)) (pdg_name 3 sc_law.nd)
      (pds_cons (pds_set 4 sc_law.nd (pd_callC good ((ok__law_layout T).mono (by omega)) (c__law_layout_1 T) (fun _ => .nil) (pda_cons (pd_v 2) pda_nil)))
      (pds_cons (pds_set 5 sc_law.nd (pd_at (pd_lst (pda_cons (pd_callC good ((ok__law_draw T).mono (by omega)) (c__law_draw_2 T) (fun _ => .nil) (pda_cons (pd_v 2) (pda_cons pd_int pda_nil))) (pda_cons (pd_callC good ((ok__law_draw T).mono (by omega)) (c__law_draw_2 T) (fun _ => .nil) (pda_cons (pd_v 2) (pda_cons pd_int pda_nil))) (pda_cons pd_int (pda_cons pd_int (pda_cons pd_int pda_nil)))))) (pd_callC good ((ok__law_draw T).mono (by omega)) (c__law_draw_2 T) (fun _ => .nil) (pda_cons (pd_v 2) (pda_cons pd_int pda_nil)))))
      (pds_cons (pds_asg (pd_lc (own := [("_law_k", 8)]) good.calm sc_law.nd (pdi_range1 T.z_range (pda_cons pd_int pda_nil)) (blkOk_by (N := ["_law_script", "_law_at_here", "_law_purse_here", "_law_turn", "_law_row", "_law_wide", "_law_start", "_law_deep", "_law_k"]) (sc := (defScope s_law)) (by decide +kernel)) ⟨fun s1 H1 C1 cl1 fp1 => (pdg_cast (pdg_name 8 sc_law.nd) (by first | rfl | (dsimp only [Ctx.blk, Cx.blk] <;> rfl)) (by first | rfl | (dsimp only [Ctx.blk, Cx.blk] <;> rfl))), fun s1 H1 C1 cl1 fp1 => (pdts_cast pdts_nil (by first | rfl | (dsimp only [Ctx.blk, Cx.blk] <;> rfl)) (by first | rfl | (dsimp only [Ctx.blk, Cx.blk] <;> rfl))), fun s1 H1 C1 cl1 fp1 => (pd_cast (pd_at (pd_lst (pda_cons (pd_callC (good.blk s1 H1 _ _ fp1) ((ok__law_draw T).mono (by omega)) (c__law_draw_2 T) (fun _ => .nil) (pda_cons (pd_v 2) (pda_cons pd_int pda_nil))) (pda_cons pd_int (pda_cons pd_int (pda_cons pd_int (pda_cons pd_int (pda_cons pd_int pda_nil))))))) (pd_callC (good.blk s1 H1 _ _ fp1) ((ok__law_draw T).mono (by omega)) (c__law_draw_2 T) (fun _ => .nil) (pda_cons (pd_v 2) (pda_cons pd_int pda_nil)))) (by first | rfl | (dsimp only [Ctx.blk, Cx.blk] <;> rfl)) (by first | rfl | (dsimp only [Ctx.blk, Cx.blk] <;> rfl)))⟩) (pdg_seq (n := 2) good.calm (pdg_cons (pdg_name 6 sc_law.nd) (pdg_cons (pdg_name 7 sc_law.nd) pdg_nil))))
      (pds_cons (pds_if (pdt_cm (pdc_neD good (pd_callC good ((ok__law_told T).mono (by omega)) (c__law_told_4 T) (fun _ => .nil) (pda_cons (pd_v 4) (pda_cons (pd_v 5) (pda_cons (pd_v 6) (pda_cons (pd_v 7) pda_nil))))) (pd_lst (pda_cons pd_str (pda_cons (pd_callC good ((ok__law_due T).mono (by omega)) (c__law_due_4 T) (fun _ => .nil) (pda_cons (pd_v 4) (pda_cons (pd_v 5) (pda_cons (pd_v 6) (pda_cons (pd_v 7) pda_nil))))) pda_nil))))) (pds_one (pds_ret pd_bl)) pss_nil')
      (pds_cons (pds_if (pdt_cm (pdc_neD good (pd_callK good ((ok_cost_of T).mono (by omega)) (c_cost_of_1_width T) (pda_cons (pd_v 4) pda_nil) (pdk_cons (pd_v 5) pdk_nil)) (pd_callC good ((ok__law_due T).mono (by omega)) (c__law_due_4 T) (fun _ => .nil) (pda_cons (pd_v 4) (pda_cons (pd_v 5) (pda_cons pd_int (pda_cons pd_int pda_nil))))))) (pds_one (pds_ret pd_bl)) pss_nil')
      (pds_cons (pds_if (pdt_cm (pdc_neD good (pd_callK0 good ((ok_cost_of T).mono (by omega)) (c_cost_of_0_layout_indent_width T) (pdk_cons (pd_v 4) (pdk_cons (pd_v 7) (pdk_cons (pd_v 5) pdk_nil)))) (pd_callC good ((ok__law_due T).mono (by omega)) (c__law_due_4 T) (fun _ => .nil) (pda_cons (pd_v 4) (pda_cons (pd_v 5) (pda_cons pd_int (pda_cons (pd_v 7) pda_nil))))))) (pds_one (pds_ret pd_bl)) pss_nil')
      (pds_one (pds_if (pdt_not (pdt_val (pd_callC good ((ok__law_refused T).mono (by omega)) (c__law_refused_2 T) (fun _ => .nil) (pda_cons (pd_v 2) (pda_cons (pd_v 4) pda_nil))))) (pds_one (pds_ret pd_bl)) pss_nil'))))))))))))
      (pds_cons (pds_if (pdw_pt (pdw_or (pdt_cm (pdc_neD good (pd_at (pd_callC good ((ok__law_told T).mono (by omega)) (c__law_told_4 T) (fun _ => .nil) (pda_cons (pd_tup (pda_cons (pd_tup (pda_cons pd_int (pda_cons pd_str pda_nil))) pda_nil)) (pda_cons pd_int (pda_cons pd_int (pda_cons pd_int pda_nil))))) pd_int) pd_str)) (pdw_or1 (pdt_cm (pdc_neD good (pd_at (pd_callC good ((ok__law_told T).mono (by omega)) (c__law_told_4 T) (fun _ => .nil) (pda_cons (pd_tup (pda_cons (pd_tup (pda_cons pd_int (pda_cons pd_str pda_nil))) pda_nil)) (pda_cons (pd_pow pd_int pd_int) (pda_cons pd_int (pda_cons pd_int pda_nil))))) pd_int) pd_str))))) (pds_one (pds_ret pd_bl)) pss_nil')
      (pds_cons (pds_if (pdw_pt (pdw_or (pdt_cm (pdc_neD good (pd_callK good ((ok_cost_of T).mono (by omega)) (c_cost_of_1_width T) (pda_cons (pd_tup (pda_cons (pd_tup (pda_cons pd_int (pda_cons pd_str pda_nil))) (pda_cons (pd_tup (pda_cons pd_int (pda_cons pd_str pda_nil))) pda_nil))) pda_nil) (pdk_cons pd_int pdk_nil)) (pd_tup (pda_cons pd_int (pda_cons pd_int pda_nil))))) (pdw_or1 (pdt_cm (pdc_neD good (pd_callK good ((ok_cost_of T).mono (by omega)) (c_cost_of_1_width_column T) (pda_cons (pd_tup (pda_cons (pd_tup (pda_cons pd_int (pda_cons pd_str pda_nil))) pda_nil)) pda_nil) (pdk_cons pd_int (pdk_cons pd_int pdk_nil))) (pd_tup (pda_cons pd_int (pda_cons pd_int pda_nil)))))))) (pds_one (pds_ret pd_bl)) pss_nil')
      (pds_one (pds_ret (pd_cm (pdc_eqD good (pd_callK good ((ok_cost_of T).mono (by omega)) (c_cost_of_1_width_column T) (pda_cons (pd_tup (pda_cons (pd_tup (pda_cons pd_int (pda_cons pd_str pda_nil))) (pda_cons (pd_tup (pda_cons pd_int (pda_cons pd_str pda_nil))) pda_nil))) pda_nil) (pdk_cons pd_int (pdk_cons pd_int pdk_nil))) (pd_tup (pda_cons pd_int (pda_cons pd_int pda_nil)))))))))), ?_⟩)
  · obtain ⟨d, rfl, _⟩ := h; rfl
  · rintro ds Qd ⟨ns, rfl, hn, hc, q⟩
    walk_at "w"
    have le6 : ∀ z : Int, (if z < 6 then z else 6) ≤ 6 := fun z => by split <;> omega
    have ge0 : ∀ z : Nat, 0 ≤ (if (z : Int) < 6 then (z : Int) else 6) := fun z => by split <;> omega
    have hlim : LIM = 2 ^ 60 := rfl
    refine ⟨by have := ge0 ns.length; omega, by have := le6 ns.length; omega, ?_⟩
    refine ⟨fun k ρ c => (∃ s1 s2 s3 s4 s5 s6 s7 s8, ρ = [.fz (.scr ns), s1, s2, s3, s4, s5, s6, s7, s8]) ∧ c0 ≤ c ∧ c ≤ c0 + 200 * k, ⟨⟨_, _, _, _, _, _, _, _, rfl⟩, by omega, by omega⟩, ?_, ?_⟩
    · rintro k y ρ c hy ⟨⟨s1, s2, s3, s4, s5, s6, s7, s8, rfl⟩, b0, b1⟩
      obtain ⟨hk, rfl⟩ := upInts_get hy
      walk_at "w"
      have k6 := le6 ns.length
      refine ⟨ns, k, by rw [Int.zero_add], by omega, ?_⟩
      walk_at "w"
      refine ⟨by decide, by decide, ?_⟩
      refine ⟨fun j ρ c' => (∃ s4 s5 s6 s7 s8 s9, ρ = [.fz (.scr ns), .fz (.int (0 + (k : Int))), .fz .opq, s4, s5, s6, s7, s8, s9]) ∧ c ≤ c' ∧ c' ≤ c + 30 * j, ⟨⟨_, _, _, _, _, _, rfl⟩, by omega, by omega⟩, ?_, ?_⟩
      · rintro j y ρ c1 hy ⟨⟨s4, s5, s6, s7, s8, s9, rfl⟩, b2, b3⟩
        obtain ⟨hj, rfl⟩ := upInts_get hy
        have hj5 : j < 5 := hj
        walk_at "w"
        refine ⟨rfl, by omega, fun rows c2 ok hl l1 l2 => ?_⟩
        walk_at "w"
        have hl' : rows.length ≤ 1000 := by omega
        refine ⟨41, rfl, by decide, by decide, by omega, fun x1 c3 u0 _ l3 l4 => ?_⟩
        walk_at "w"
        refine ⟨41, rfl, by decide, by decide, by omega, fun x2 c4 v0 _ l5 l6 => ?_⟩
        walk_at "w"
        refine ⟨5, rfl, by decide, by decide, by omega, fun x3 c5 w0 w1 l7 l8 => ?_⟩
        walk_at "w"
        refine pick (P := natD) _ (fun v hv => ?_) w0 w1 ?_
        · simp only [List.mem_cons, List.not_mem_nil, or_false] at hv
          rcases hv with rfl | rfl | rfl | rfl | rfl
          · exact ⟨_, rfl, u0⟩
          · exact ⟨_, rfl, v0⟩
          · exact ⟨_, rfl, by decide⟩
          · exact ⟨_, rfl, by decide⟩
          · exact ⟨_, rfl, by decide⟩
        rintro _ ⟨wd, rfl, hw⟩
        refine ⟨by decide, by decide, ?_⟩
        refine lc_draw natD 2 (by decide) (fun x hx c' h1 h2 R hR => ?_) fun l c6 hll hP h1 h2 => ?_
        · obtain ⟨jj, hjj⟩ := List.mem_iff_getElem?.mp hx
          obtain ⟨_, rfl⟩ := upInts_get hjj
          have e2 : (upInts 0 (Int.toNat 2)).length = 2 := rfl
          rw [e2] at h2
          walk_at "w"
          refine ⟨20, rfl, by decide, by decide, by omega, fun x4 c6 t0 _ l9 l10 => ?_⟩
          walk_at "w"
          refine ⟨6, rfl, by decide, by decide, by omega, fun x5 c7 i0 i1 l11 l12 => ?_⟩
          walk_at "w"
          refine pick (P := natD) _ (fun v hv => ?_) i0 i1 fun v hv => hR v c7 hv (by omega) (by omega)
          simp only [List.mem_cons, List.not_mem_nil, or_false] at hv
          rcases hv with rfl | rfl | rfl | rfl | rfl | rfl
          · exact ⟨_, rfl, t0⟩
          all_goals exact ⟨_, rfl, by decide⟩
        · have e2 : (upInts 0 (Int.toNat 2)).length = 2 := rfl
          rw [e2] at h2 hll
          obtain ⟨st, dp, rfl⟩ : ∃ x y, l = [x, y] := by
            match l, hll with
            | [x, y], _ => exact ⟨x, y, rfl⟩
          obtain ⟨st, rfl, hst⟩ := hP st (by simp)
          obtain ⟨dp, rfl, hdp⟩ := hP dp (by simp)
          walk_at "w"
          have l60 : ∀ {x y : D}, Pl 3 x → Pl 3 y → Pl 60 (.lst [x, y]) := fun hx hy => (pl2 hx hy).mono (by decide)
          have pt : Pl 3 (.str "told") := pl_str (by decide +kernel)
          have p60 := fun w s e => (costD_pl w s e rows).mono (m := 60) (by decide)
          refine ⟨encL rows, .int wd, .int st, .int dp, rfl, ok.pl, fewD_encL hl', .inl rfl, .inl rfl, .inl rfl, ?_⟩
          rw [told_ok ok hw hst hdp]
          refine ⟨rows, wd, st, dp, rfl, ok, hl', ?_⟩
          refine ⟨l60 pt (costD_pl _ _ _ _), l60 pt (costD_pl _ _ _ _), Br.f (by rw [show outD (.told (costD wd st dp rows)) = .lst [.str "told", costD wd st dp rows] from rfl, eq2 pt (costD_pl _ _ _ _)]; rfl) ?_⟩
          refine ⟨encL rows, .int wd, .int 0, .int 0, rfl, ok.pl, fewD_encL hl', .inl rfl, .inl rfl, .inl rfl, ?_⟩
          rw [told_ok ok hw (Int.le_refl 0) (Int.le_refl 0)]
          refine ⟨rows, wd, 0, 0, rfl, ok, hl', ?_⟩
          refine ⟨p60 _ _ _, p60 _ _ _, Br.f (by rw [eqD_refl (costD_pl _ _ _ _)]; rfl) ?_⟩
          refine ⟨encL rows, .int wd, .int 0, .int dp, rfl, ok.pl, fewD_encL hl', .inl rfl, .inl rfl, .inl rfl, ?_⟩
          rw [told_ok ok hw (Int.le_refl 0) hdp]
          refine ⟨rows, wd, 0, dp, rfl, ok, hl', ?_⟩
          refine ⟨p60 _ _ _, p60 _ _ _, Br.f (by rw [eqD_refl (costD_pl _ _ _ _)]; rfl) ?_⟩
          refine ⟨rows, rfl, ok, hl', by omega, fun c7 l9 l10 => ?_⟩
          walk_at "w"
          exact ⟨⟨_, _, _, _, _, _, rfl⟩, by omega, by omega⟩
      · rintro ρ c' ⟨⟨s4, s5, s6, s7, s8, s9, rfl⟩, b2, b3⟩
        have e5 : (upInts 0 (Int.toNat 5)).length = 5 := rfl
        rw [e5] at b3
        exact ⟨⟨_, _, _, _, _, _, _, _, rfl⟩, by omega, by omega⟩
    · rintro ρ c ⟨⟨s1, s2, s3, s4, s5, s6, s7, s8, rfl⟩, b0, b1⟩
      walk_at "w"
      have tl : Pl 60 (.str "told") ∧ eqD (.str "told") (.str "told") = true := ⟨pl_str (by decide +kernel), by simp [eqD]⟩
      have oa : LayOk [(0, "a")] := layB_ok (by decide +kernel)
      refine ⟨encL [(0, "a")], .int 1001, .int 1001, .int 1001, rfl, oa.pl, fewD_encL (by decide), .inl rfl, .inl rfl, .inl rfl, ?_⟩
      rw [told_ok oa (by decide) (by decide) (by decide)]
      refine atP.mk rfl ⟨tl.1, tl.1, Br.f (by rw [tl.2]; rfl) ⟨⟨by decide, by decide +kernel⟩, ?_⟩⟩
      refine ⟨encL [(0, "a")], .int (10 ^ Int.toNat 9), .int 0, .int 0, rfl, oa.pl, fewD_encL (by decide), .inl rfl, .inl rfl, .inl rfl, ?_⟩
      rw [told_ok oa (by decide +kernel) (by decide) (by decide)]
      refine atP.mk rfl ⟨tl.1, tl.1, Br.f (by rw [tl.2]; rfl) ?_⟩
      have o1 : LayOk [(0, ""), (9, "")] := layB_ok (by decide +kernel)
      have o2 : LayOk [(0, "")] := layB_ok (by decide +kernel)
      have o3 : LayOk [(0, "abc"), (2, "de")] := layB_ok (by decide +kernel)
      have p60 := fun w s e rows => (costD_pl w s e rows).mono (m := 60) (by decide)
      have pp : ∀ i j : Int, Pl 60 (.tup [.int i, .int j]) := fun i j => pl_cons pl_int (pl_cons pl_int pl_nil)
      refine ⟨encL [(0, ""), (9, "")], .int 5, .int 0, .int 0, rfl, o1.pl, fewD_encL (by decide), .inl rfl, .inl rfl, .inl rfl, ?_⟩
      rw [told_ok o1 (by decide) (by decide) (by decide)]
      refine ⟨p60 _ _ _ _, pp _ _, Br.f (by decide +kernel) ?_⟩
      refine ⟨encL [(0, "")], .int 5, .int 8, .int 0, rfl, o2.pl, fewD_encL (by decide), .inl rfl, .inl rfl, .inl rfl, ?_⟩
      rw [told_ok o2 (by decide) (by decide) (by decide)]
      refine ⟨p60 _ _ _ _, pp _ _, Br.f (by decide +kernel) ?_⟩
      refine ⟨encL [(0, "abc"), (2, "de")], .int 3, .int 1, .int 0, rfl, o3.pl, fewD_encL (by decide), .inl rfl, .inl rfl, .inl rfl, ?_⟩
      rw [told_ok o3 (by decide) (by decide) (by decide)]
      refine ⟨p60 _ _ _ _, pp _ _, ?_⟩
      rw [show eqD (costD 3 1 0 [(0, "abc"), (2, "de")]) (.tup [.int 2, .int 2]) = true by decide +kernel]
      exact q c
omit T in
theorem law_end (ns : List Int) (h : ns.length ≤ 63) : sp_law [.scr ns] 0 (fun d _ => d = .bl true) fun _ _ _ _ => False := ⟨ns, rfl, h, by decide, fun _ => rfl⟩
end
def dd_is_string : DefP := { ad := fun K => He.ga K "is_string", name := "is_string", qual := "is_string", params := defArgs s_is_string, body := defBody s_is_string, scope := defScope s_is_string, dfl := [], kwd := [] }
def dd_is_integer : DefP := { ad := fun K => He.ga K "is_integer", name := "is_integer", qual := "is_integer", params := defArgs s_is_integer, body := defBody s_is_integer, scope := defScope s_is_integer, dfl := [.non, .non], kwd := [] }
def dd_check_layout : DefP := { ad := fun K => He.ga K "check_layout", name := "check_layout", qual := "check_layout", params := defArgs s_check_layout, body := defBody s_check_layout, scope := defScope s_check_layout, dfl := [], kwd := [] }
def dd_require_layout : DefP := { ad := fun K => He.ga K "require_layout", name := "require_layout", qual := "require_layout", params := defArgs s_require_layout, body := defBody s_require_layout, scope := defScope s_require_layout, dfl := [], kwd := [] }
def dd__law_at : DefP := { ad := fun K => He.ga K "_law_at", name := "_law_at", qual := "_law_at", params := defArgs s__law_at, body := defBody s__law_at, scope := defScope s__law_at, dfl := [], kwd := [] }
def dd__law_mixed : DefP := { ad := fun K => He.ga K "_law_mixed", name := "_law_mixed", qual := "_law_mixed", params := defArgs s__law_mixed, body := defBody s__law_mixed, scope := defScope s__law_mixed, dfl := [], kwd := [] }
def dd__law_purse : DefP := { ad := fun K => He.ga K "_law_purse", name := "_law_purse", qual := "_law_purse", params := defArgs s__law_purse, body := defBody s__law_purse, scope := defScope s__law_purse, dfl := [], kwd := [] }
def dd__law_draw : DefP := { ad := fun K => He.ga K "_law_draw", name := "_law_draw", qual := "_law_draw", params := defArgs s__law_draw, body := defBody s__law_draw, scope := defScope s__law_draw, dfl := [], kwd := [] }
def dd_require_place : DefP := { ad := fun K => He.ga K "require_place", name := "require_place", qual := "require_place", params := defArgs s_require_place, body := defBody s_require_place, scope := defScope s_require_place, dfl := [], kwd := [] }
def dd_cost_of : DefP := { ad := fun K => He.ga K "cost_of", name := "cost_of", qual := "cost_of", params := defArgs s_cost_of, body := defBody s_cost_of, scope := defScope s_cost_of, dfl := [], kwd := [("column", .int 0), ("indent", .int 0)] }
def dd__law_layout : DefP := { ad := fun K => He.ga K "_law_layout", name := "_law_layout", qual := "_law_layout", params := defArgs s__law_layout, body := defBody s__law_layout, scope := defScope s__law_layout, dfl := [], kwd := [] }
def dd__law_due : DefP := { ad := fun K => He.ga K "_law_due", name := "_law_due", qual := "_law_due", params := defArgs s__law_due, body := defBody s__law_due, scope := defScope s__law_due, dfl := [], kwd := [] }
def dd__law_told : DefP := { ad := fun K => He.ga K "_law_told", name := "_law_told", qual := "_law_told", params := defArgs s__law_told, body := defBody s__law_told, scope := defScope s__law_told, dfl := [], kwd := [] }
def dd__law_refused : DefP := { ad := fun K => He.ga K "_law_refused", name := "_law_refused", qual := "_law_refused", params := defArgs s__law_refused, body := defBody s__law_refused, scope := defScope s__law_refused, dfl := [], kwd := [] }
def dd_law : DefP := { ad := fun K => He.ga K "law", name := "law", qual := "law", params := defArgs s_law, body := defBody s_law, scope := defScope s_law, dfl := [], kwd := [] }
def dd_init_InvalidLayout : DefP := { ad := fun K => He.ma K (He.ga K "InvalidLayout") "__init__", name := "__init__", qual := "InvalidLayout.__init__", params := defArgs si_InvalidLayout, body := defBody si_InvalidLayout, scope := defScope si_InvalidLayout, dfl := [.non], kwd := [] }
def dd_init_InvalidPlace : DefP := { ad := fun K => He.ma K (He.ga K "InvalidPlace") "__init__", name := "__init__", qual := "InvalidPlace.__init__", params := defArgs si_InvalidPlace, body := defBody si_InvalidPlace, scope := defScope si_InvalidPlace, dfl := [.non], kwd := [] }
def dd_init_InvalidWidth : DefP := { ad := fun K => He.ma K (He.ga K "InvalidWidth") "__init__", name := "__init__", qual := "InvalidWidth.__init__", params := defArgs si_InvalidWidth, body := defBody si_InvalidWidth, scope := defScope si_InvalidWidth, dfl := [.non], kwd := [] }
def fn : List DefP := [dd_is_string, dd_is_integer, dd_check_layout, dd_require_layout, dd__law_at, dd__law_mixed, dd__law_purse, dd__law_draw, dd_require_place, dd_cost_of, dd__law_layout, dd__law_due, dd__law_told, dd__law_refused, dd_law, dd_init_InvalidLayout, dd_init_InvalidPlace, dd_init_InvalidWidth]
def exl : Looks' := [fun K => (He.Fa.glo "LayoutError").ok K,
  fun K => (He.Fa.glo "InvalidLayout").ok K,
  fun K => (He.Fa.glo "InvalidPlace").ok K,
  fun K => (He.Fa.glo "InvalidWidth").ok K,
  fun K => xcB K (He.ga K "LayoutError"),
  fun K => xclsB K "problem" (He.ga K "InvalidLayout") (He.ma K (He.ga K "InvalidLayout") "__init__"),
  fun K => xclsB K "value" (He.ga K "InvalidPlace") (He.ma K (He.ga K "InvalidPlace") "__init__"),
  fun K => xclsB K "value" (He.ga K "InvalidWidth") (He.ma K (He.ga K "InvalidWidth") "__init__"),
  fun K => ktB K "InvalidLayout",
  fun K => kxB K "LayoutError" "InvalidLayout" false,
  fun K => kxB K "InvalidLayout" "InvalidLayout" true,
  fun K => kxB K "InvalidPlace" "InvalidLayout" false,
  fun K => kxB K "InvalidWidth" "InvalidLayout" false,
  fun K => ktB K "InvalidPlace",
  fun K => kxB K "LayoutError" "InvalidPlace" false,
  fun K => kxB K "InvalidLayout" "InvalidPlace" false,
  fun K => kxB K "InvalidPlace" "InvalidPlace" true,
  fun K => kxB K "InvalidWidth" "InvalidPlace" false,
  fun K => ktB K "InvalidWidth",
  fun K => kxB K "LayoutError" "InvalidWidth" false,
  fun K => kxB K "InvalidLayout" "InvalidWidth" false,
  fun K => kxB K "InvalidPlace" "InvalidWidth" false,
  fun K => kxB K "InvalidWidth" "InvalidWidth" true,
  fun K => (He.Fa.exm "LayoutError" "LayoutError" true).ok K,
  fun K => (He.Fa.exm "InvalidLayout" "LayoutError" true).ok K,
  fun K => (He.Fa.exm "InvalidPlace" "LayoutError" true).ok K,
  fun K => (He.Fa.exm "InvalidWidth" "LayoutError" true).ok K,
  fun K => (He.Fa.free "all").ok K,
  fun K => (He.Fa.free "bool").ok K,
  fun K => (He.Fa.free "enumerate").ok K,
  fun K => (He.Fa.free "int").ok K,
  fun K => (He.Fa.free "isinstance").ok K,
  fun K => (He.Fa.free "len").ok K,
  fun K => (He.Fa.free "max").ok K,
  fun K => (He.Fa.free "min").ok K,
  fun K => (He.Fa.free "range").ok K,
  fun K => (He.Fa.free "str").ok K,
  fun K => (He.Fa.free "sum").ok K,
  fun K => (He.Fa.free "tuple").ok K,
  fun K => (He.Fa.glo "is_string").ok K,
  fun K => (He.Fa.glo "is_integer").ok K,
  fun K => (He.Fa.glo "check_layout").ok K,
  fun K => (He.Fa.glo "require_layout").ok K,
  fun K => (He.Fa.glo "_law_at").ok K,
  fun K => (He.Fa.glo "_law_mixed").ok K,
  fun K => (He.Fa.glo "_law_purse").ok K,
  fun K => (He.Fa.glo "_law_draw").ok K,
  fun K => (He.Fa.glo "require_place").ok K,
  fun K => (He.Fa.glo "cost_of").ok K,
  fun K => (He.Fa.glo "_law_layout").ok K,
  fun K => (He.Fa.glo "_law_due").ok K,
  fun K => (He.Fa.glo "_law_told").ok K,
  fun K => (He.Fa.glo "_law_refused").ok K,
  fun K => (He.Fa.glo "law").ok K]
abbrev R : PySem.W.OpenRow := PySem.W.OpenLaw.row PySem.Challenge.rw_layoutsets_k30_costs_of_layouts
abbrev hk : PySem.W.Hook := hookP 5 fn exl
def ob (s : PySem.W.SharedT) : AlP := obsPG 5 fn exl (HandSHeadRun.getT s)
theorem ob_eq (s : PySem.W.SharedT) : ob s = hk.obs s.abs := obsPG_eq (HandSHeadRun.getT_eq s)
def loose : List PySem.Str := ["LayoutError", "InvalidLayout", "InvalidPlace", "InvalidWidth", "is_string", "is_integer", "check_layout", "require_layout", "require_place", "cost_of", "_law_at", "_law_mixed", "_law_purse", "_law_draw", "_law_layout", "_law_due", "_law_told", "_law_refused"]
theorem run (w : World) : HandSHeadRun.RunEq R (PySem.W.view R.prog [23]) hk ob 6000 loose w := by
  intro os
  kernel_rfl
theorem facts {P : Program} {w : World} {K : PySem.W.Frag} {h : Heap} {mg : Str → Option Value} {f : Addr} (X : K.In h) (G : h.Ns mainGlobals mg) (hfa : mg ("law" : Str) = some (.ref f)) (c : SaysP fn exl K) :
    ∃ fd : FuncData, (∀ (s : Shared) (v : Value), BindsTo s fd ⟨[v], []⟩ [("_law_script", v)]) ∧ ∀ base : Heap, K.In base → base.Ns mainGlobals mg → FnOk P w K mg base (L2.CX P w) 13 f fd ["_law_script"] (spOf K sp_law) := by
  obtain ⟨d0, F0⟩ := c.def_ 0 (d := dd_is_string) rfl
  obtain ⟨d1, F1⟩ := c.def_ 1 (d := dd_is_integer) rfl
  obtain ⟨d2, F2⟩ := c.def_ 2 (d := dd_check_layout) rfl
  obtain ⟨d3, F3⟩ := c.def_ 3 (d := dd_require_layout) rfl
  obtain ⟨d4, F4⟩ := c.def_ 4 (d := dd__law_at) rfl
  obtain ⟨d5, F5⟩ := c.def_ 5 (d := dd__law_mixed) rfl
  obtain ⟨d6, F6⟩ := c.def_ 6 (d := dd__law_purse) rfl
  obtain ⟨d7, F7⟩ := c.def_ 7 (d := dd__law_draw) rfl
  obtain ⟨d8, F8⟩ := c.def_ 8 (d := dd_require_place) rfl
  obtain ⟨d9, F9⟩ := c.def_ 9 (d := dd_cost_of) rfl
  obtain ⟨d10, F10⟩ := c.def_ 10 (d := dd__law_layout) rfl
  obtain ⟨d11, F11⟩ := c.def_ 11 (d := dd__law_due) rfl
  obtain ⟨d12, F12⟩ := c.def_ 12 (d := dd__law_told) rfl
  obtain ⟨d13, F13⟩ := c.def_ 13 (d := dd__law_refused) rfl
  obtain ⟨d14, F14⟩ := c.def_ 14 (d := dd_law) rfl
  obtain ⟨d15, F15⟩ := c.def_ 15 (d := dd_init_InvalidLayout) rfl
  obtain ⟨d16, F16⟩ := c.def_ 16 (d := dd_init_InvalidPlace) rfl
  obtain ⟨d17, F17⟩ := c.def_ 17 (d := dd_init_InvalidWidth) rfl
  have e := hfa.symm.trans (He.glo_ok X G (x := "law") (c.look 53 rfl))
  cases e
  have b := FunD.bindsA (ps := ["_law_script"]) F14 fun _ _ _ _ _ _ us hl => match us, hl with | [_], _ => rfl
  have T : Txt K mg ⟨He.ga K "LayoutError", He.ga K "InvalidLayout", He.ga K "InvalidPlace", He.ga K "InvalidWidth", He.ma K (He.ga K "InvalidLayout") "__init__", He.ma K (He.ga K "InvalidPlace") "__init__", He.ma K (He.ga K "InvalidWidth") "__init__", He.ga K "is_string", He.ga K "is_integer", He.ga K "check_layout", He.ga K "require_layout", He.ga K "_law_at", He.ga K "_law_mixed", He.ga K "_law_purse", He.ga K "_law_draw", He.ga K "require_place", He.ga K "cost_of", He.ga K "_law_layout", He.ga K "_law_due", He.ga K "_law_told", He.ga K "_law_refused", He.ga K "law", d0, d1, d2, d3, d4, d5, d6, d7, d8, d9, d10, d11, d12, d13, d14, d15, d16, d17⟩ := ⟨He.glo_ok X G (c.look 0 rfl), He.glo_ok X G (c.look 1 rfl), He.glo_ok X G (c.look 2 rfl), He.glo_ok X G (c.look 3 rfl), xcB_ok (c.look 4 rfl), xclsB_ok (He.glo_ok X G (c.look 1 rfl)) (c.look 5 rfl), xclsB_ok (He.glo_ok X G (c.look 2 rfl)) (c.look 6 rfl), xclsB_ok (He.glo_ok X G (c.look 3 rfl)) (c.look 7 rfl), ktB_ok (c.look 8 rfl), kxB_ok (c.look 9 rfl), kxB_ok (c.look 10 rfl), kxB_ok (c.look 11 rfl), kxB_ok (c.look 12 rfl), ktB_ok (c.look 13 rfl), kxB_ok (c.look 14 rfl), kxB_ok (c.look 15 rfl), kxB_ok (c.look 16 rfl), kxB_ok (c.look 17 rfl), ktB_ok (c.look 18 rfl), kxB_ok (c.look 19 rfl), kxB_ok (c.look 20 rfl), kxB_ok (c.look 21 rfl), kxB_ok (c.look 22 rfl), He.exm_ok (c.look 23 rfl), He.exm_ok (c.look 24 rfl), He.exm_ok (c.look 25 rfl), He.exm_ok (c.look 26 rfl), He.free_ok X G (c.look 27 rfl), He.free_ok X G (c.look 28 rfl), He.free_ok X G (c.look 29 rfl), He.free_ok X G (c.look 30 rfl), He.free_ok X G (c.look 31 rfl), He.free_ok X G (c.look 32 rfl), He.free_ok X G (c.look 33 rfl), He.free_ok X G (c.look 34 rfl), He.free_ok X G (c.look 35 rfl), He.free_ok X G (c.look 36 rfl), He.free_ok X G (c.look 37 rfl), He.free_ok X G (c.look 38 rfl), He.glo_ok X G (c.look 39 rfl), He.glo_ok X G (c.look 40 rfl), He.glo_ok X G (c.look 41 rfl), He.glo_ok X G (c.look 42 rfl), He.glo_ok X G (c.look 43 rfl), He.glo_ok X G (c.look 44 rfl), He.glo_ok X G (c.look 45 rfl), He.glo_ok X G (c.look 46 rfl), He.glo_ok X G (c.look 47 rfl), He.glo_ok X G (c.look 48 rfl), He.glo_ok X G (c.look 49 rfl), He.glo_ok X G (c.look 50 rfl), He.glo_ok X G (c.look 51 rfl), He.glo_ok X G (c.look 52 rfl), He.glo_ok X G (c.look 53 rfl), F0, F1, F2, F3, F4, F5, F6, F7, F8, F9, F10, F11, F12, F13, F14, F15, F16, F17⟩
  exact ⟨d14, fun s v => b s [v] rfl, fun base _ _ => ok_law T⟩
end K30
open PySem PySem.W PySem.Calls PyProof.Rows
set_option maxRecDepth 100000 in
set_option maxHeartbeats 0 in
theorem PySem.Challenge.cw_layoutsets_k30_costs_of_layouts_holds : PySem.Challenge.rw_layoutsets_k30_costs_of_layouts.Holds := by
  w_on; o_law
  refine HandSHeadRun.head_any (r := OpenLaw.row PySem.Challenge.rw_layoutsets_k30_costs_of_layouts) (q := view (OpenLaw.row PySem.Challenge.rw_layoutsets_k30_costs_of_layouts).prog [23]) (H := K30.hk) (ob := K30.ob) (M := 6000) (loose := K30.loose) (d := HandSHeadRun.topDef (OpenLaw.row PySem.Challenge.rw_layoutsets_k30_costs_of_layouts).prog 23) (kwd := []) K30.ob_eq
    (by kernel_rfl) (fun s => by kernel_rfl) K30.run (by kernel_rfl) (by kernel_rfl) (by kernel_rfl) (by rfl) (by first | assumption | decide +kernel) (by decide +kernel) ⟨rfl, rfl, rfl, rfl, rfl, by decide +kernel⟩ ?hw ?hc
  case hw => w_witness2
  case hc =>
    refine PL.walk_at_world (l := PySem.Challenge.rw_layoutsets_k30_costs_of_layouts) (n := 63) (k := 13) (x := "_law_script") rfl (by decide) (by kernel_rfl) ⟨rfl, by decide, by decide⟩ ?F
    intro w mg fa h Y G hmg0
    obtain ⟨K, KX, c⟩ := Y
    have hmg : mg ("law" : PySem.Str) = some (.ref fa) := by
      have e : (HandSHeadRun.topDef (OpenLaw.row PySem.Challenge.rw_layoutsets_k30_costs_of_layouts).prog 23).name = ("law" : PySem.Str) := by kernel_rfl
      rw [← e]
      exact hmg0
    obtain ⟨fd, hb, hF⟩ := K30.facts (P := (PySem.Challenge.rw_layoutsets_k30_costs_of_layouts).prog) (w := w) KX G hmg c
    exact ⟨K, fd, K30.sp_law, KX, hb, K30.law_end, hF⟩


