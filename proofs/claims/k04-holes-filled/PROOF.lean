import PyProof.Rows.All
import Wide.All
import OpenK.AllK
import Wide.FinOn
import HandS.Base
import HandS.Call
import HandS.List
import HandS.Words
import HandS.Comp
import HandS.Iter
import HandS.Exc
import HandS.Defaults
import HandS.WordsExc
import HandS.IsInst
import HandS.ExcOwn
import HandS.TupAny
import HandS.Text
import HandS.Dict
import PyProof.Rows.RuleB_pow
import KE.GoesMore
import KE.GoesEnum
import HandS.Ends
import HandS.HeadEnd
import HandS.Head0
import HandS.Head1
import HandS.Head2
import HandS.HeadHook1
import HandS.HeadHook2
import HandS.ExcField
import HandS.ExcInit
import HandS.ExcIs
import HandS.WideBits
import HandS.TupMul
import HandS.Deep
import PyProof.StrBlock2
import PyProof.InstNe
import PyProof.Rows.PlainNe
import HandS.Property
import HandS.SlotsOwn
import HandS.MakeKw
import HandS.Style
import HandS.NoneIn
import HandS.Set
import HandS.SetBool
import HandS.Strs
import PyProof.Rows.SortShellAny
import HandS.SetFor
import PyProof.Rows.StrMeet
import HandS.Zip
import HandS.Conv
import HandS.HeadHook3
import HandS.Star
import KE.KParD
import PySem.Challenge.RW_layoutsets_k04_holes_filled
set_option Elab.async false
set_option linter.all false
set_option maxRecDepth 100000
set_option checkBinderAnnotations false
/-! A layer of values without addresses over HandS: what a def computes is told of data alone; the heap is hidden in Rel and Evo. -/
namespace PL
open PySem PySem.Spec PyProof.Rows L2

/-- data: what a value is, through all its parts -/
inductive D where
  | non | bl (b : Bool) | int (i : Int) | str (x : Str) | ty (n : String) | cls (C : Addr)
  | tup (l : List D) | lst (l : List D)
  | scr (ns : List Int)
  | dct (ks : List Key) (l : List D)
  | ins (C : Addr) (ns : List Str) (l : List D)
  | exc (C : Addr) (ns : List Str) (l : List D)
  | opq

/-- at a: a caught exception of the class at C, its dict -/
def exT (C a : Addr) (d : Option Addr) : HO := .ext fun h => ∃ (oe : Obj) (vs : Array Value), h.get? a = some oe ∧ oe.cls = .ref C ∧ oe.dict = d ∧ oe.data = .fields vs
/-- what is settled of the heap: objects that no longer change (f), purses (pu) -/
structure GS where
  f : Hp
  pu : Addr → Prop

mutual
inductive Rp (K : PySem.W.Frag) (G : GS) : V → D → Prop
  | non : Rp K G .non .non
  | bl (b : Bool) : Rp K G (.bl b) (.bl b)
  | int (i : Int) : Rp K G (.int i) (.int i)
  | str (x : Str) : Rp K G (.str x) (.str x)
  | ty (n : String) : Rp K G (.ty n) (.ty n)
  | cls (C : Addr) : Rp K G (.ref C) (.cls C)
  | tup {a : Addr} {xs : List V} {ds : List D} : SqT K G.f a xs → RpAll K G xs ds → Rp K G (.ref a) (.tup ds)
  | lst {a : Addr} {xs : List V} {ds : List D} : G.f a = some (.lst xs) → RpAll K G xs ds → Rp K G (.ref a) (.lst ds)
  | scr {a : Addr} {ns : List Int} : SqL K G.f a (ns.map V.int) → Rp K G (.ref a) (.scr ns)
  | dct {a : Addr} {kvs : List (Key × V)} {ks : List Key} {ds : List D} : Rd G.f a (.dK kvs) → kvs.map (·.1) = ks → RpAll K G (kvs.map (·.2)) ds → Rp K G (.ref a) (.dct ks ds)
  | ins {a C dx : Addr} {fs : List (Str × V)} {ns : List Str} {ds : List D} : G.f a = some (.ins C dx fs) → fs.map (·.1) = ns → RpAll K G (fs.map (·.2)) ds → Rp K G (.ref a) (.ins C ns ds)
  | exc {a C : Addr} {dx : Option Addr} {fs : List (Str × V)} {ns : List Str} {ds : List D} : G.f a = some (exT C a dx) → ((dx = none ∧ fs = []) ∨ ∃ d, dx = some d ∧ G.f d = some (.xd fs)) → fs.map (·.1) = ns → RpAll K G (fs.map (·.2)) ds → Rp K G (.ref a) (.exc C ns ds)
  | opq {a : Addr} : G.pu a → Rp K G (.ref a) .opq
inductive RpAll (K : PySem.W.Frag) (G : GS) : List V → List D → Prop
  | nil : RpAll K G [] []
  | cons {v : V} {vs : List V} {d : D} {ds : List D} : Rp K G v d → RpAll K G vs ds → RpAll K G (v :: vs) (d :: ds)
end

section
variable {K : PySem.W.Frag} {G : GS}
theorem RpAll.length : ∀ {vs : List V} {ds : List D}, RpAll K G vs ds → vs.length = ds.length
  | _, _, .nil => rfl
  | _, _, .cons _ h => congrArg (· + 1) h.length
theorem RpAll.get : ∀ {vs : List V} {ds : List D} {i : Nat} {d : D}, RpAll K G vs ds → ds[i]? = some d → ∃ v, vs[i]? = some v ∧ Rp K G v d
  | _, _, _, _, .nil, e => by simp at e
  | _, _, 0, _, .cons r _, e => by simp at e; subst e; exact ⟨_, rfl, r⟩
  | _, _, i + 1, _, .cons _ h, e => by
    obtain ⟨v, h1, h2⟩ := h.get (i := i) (by simpa using e)
    exact ⟨v, by simpa using h1, h2⟩
theorem RpAll.getV : ∀ {vs : List V} {ds : List D} {i : Nat} {v : V}, RpAll K G vs ds → vs[i]? = some v → ∃ d, ds[i]? = some d ∧ Rp K G v d
  | _, _, _, _, .nil, e => by simp at e
  | _, _, 0, _, .cons r _, e => by simp at e; subst e; exact ⟨_, rfl, r⟩
  | _, _, i + 1, _, .cons _ h, e => by
    obtain ⟨v, h1, h2⟩ := h.getV (i := i) (by simpa using e)
    exact ⟨v, by simpa using h1, h2⟩
theorem RpAll.append : ∀ {vs us : List V} {ds es : List D}, RpAll K G vs ds → RpAll K G us es → RpAll K G (vs ++ us) (ds ++ es)
  | _, _, _, _, .nil, k => k
  | _, _, _, _, .cons r h, k => .cons r (h.append k)
theorem RpAll.take : ∀ {vs : List V} {ds : List D} (n : Nat), RpAll K G vs ds → RpAll K G (vs.take n) (ds.take n)
  | _, _, 0, _ => .nil
  | _, _, _ + 1, .nil => .nil
  | _, _, n + 1, .cons r h => .cons r (h.take n)
theorem RpAll.drop : ∀ {vs : List V} {ds : List D} (n : Nat), RpAll K G vs ds → RpAll K G (vs.drop n) (ds.drop n)
  | _, _, 0, r => r
  | _, _, _ + 1, .nil => .nil
  | _, _, n + 1, .cons _ h => h.drop n
theorem RpAll.snoc {vs : List V} {ds : List D} {v : V} {d : D} (h : RpAll K G vs ds) (r : Rp K G v d) : RpAll K G (vs ++ [v]) (ds ++ [d]) := h.append (.cons r .nil)
theorem RpAll.set {v : V} {d : D} (r : Rp K G v d) : ∀ {vs : List V} {ds : List D} (i : Nat), RpAll K G vs ds → RpAll K G (vs.set i v) (ds.set i d)
  | _, _, _, .nil => .nil
  | _, _, 0, .cons _ h => .cons r h
  | _, _, i + 1, .cons q h => .cons q (RpAll.set r i h)
theorem RpAll.ints : ∀ ns : List Int, RpAll K G (ns.map V.int) (ns.map D.int)
  | [] => .nil
  | n :: ns => .cons (.int n) (RpAll.ints ns)
end

theorem Rd.same {H H' : Hp} {a : Addr} {u : HO} (s : Same H H') (r : Rd H a u) : Rd H' a u := r.elim (fun h => .inl (s _ _ h)) fun ⟨o, h⟩ => .inr ⟨o, s _ _ h⟩
theorem SqT.same {K : PySem.W.Frag} {H H' : Hp} {a : Addr} {xs : List V} (s : Same H H') (r : SqT K H a xs) : SqT K H' a xs := r.elim (fun h => .inl (Rd.same s h)) .inr
theorem SqL.same {K : PySem.W.Frag} {H H' : Hp} {a : Addr} {xs : List V} (s : Same H H') (r : SqL K H a xs) : SqL K H' a xs := r.elim (fun h => .inl (Rd.same s h)) .inr

/-- more is settled -/
structure GS.Le (G G' : GS) : Prop where
  f : Same G.f G'.f
  pu : ∀ a, G.pu a → G'.pu a
theorem GS.Le.refl (G : GS) : G.Le G := ⟨Same.refl _, fun _ h => h⟩
theorem GS.Le.trans {G G1 G2 : GS} (a : G.Le G1) (b : G1.Le G2) : G.Le G2 := ⟨a.f.trans b.f, fun _ h => b.pu _ (a.pu _ h)⟩
mutual
theorem Rp.mono {K : PySem.W.Frag} {G G' : GS} (s : G.Le G') : ∀ {d : D} {v : V}, Rp K G v d → Rp K G' v d
  | .non, _, h => by cases h; exact .non
  | .bl _, _, h => by cases h; exact .bl _
  | .int _, _, h => by cases h; exact .int _
  | .str _, _, h => by cases h; exact .str _
  | .ty _, _, h => by cases h; exact .ty _
  | .cls _, _, h => by cases h; exact .cls _
  | .tup ds, _, h => by cases h with | tup h1 h2 => exact .tup (SqT.same s.f h1) (RpAll.mono s h2)
  | .lst ds, _, h => by cases h with | lst h1 h2 => exact .lst (s.f _ _ h1) (RpAll.mono s h2)
  | .scr ns, _, h => by cases h with | scr h1 => exact .scr (SqL.same s.f h1)
  | .dct ks ds, _, h => by cases h with | dct h1 h2 h3 => exact .dct (Rd.same s.f h1) h2 (RpAll.mono s h3)
  | .ins C ns ds, _, h => by cases h with | ins h1 h2 h3 => exact .ins (s.f _ _ h1) h2 (RpAll.mono s h3)
  | .exc C ns ds, _, h => by cases h with | exc h1 h2 h3 h4 => exact .exc (s.f _ _ h1) (h2.imp id fun ⟨d, e1, e2⟩ => ⟨d, e1, s.f _ _ e2⟩) h3 (RpAll.mono s h4)
  | .opq, _, h => by cases h with | opq h => exact .opq (s.pu _ h)
theorem RpAll.mono {K : PySem.W.Frag} {G G' : GS} (s : G.Le G') : ∀ {ds : List D} {vs : List V}, RpAll K G vs ds → RpAll K G' vs ds
  | [], _, h => by cases h; exact .nil
  | d :: ds, _, h => by cases h with | cons h1 h2 => exact .cons (Rp.mono s h1) (RpAll.mono s h2)
end

/-- the counter of draws stays below this -/
def LIM : Nat := 2 ^ 60
/-- a purse behind c draws -/
def PurseV (c : Nat) (o : Option HO) : Prop := ∃ x y z : Int, o = some (.lst [.int x, .int y, .int z]) ∧ 0 ≤ y ∧ y < 2 ^ 31 ∧ 0 ≤ z ∧ z ≤ 1000000 + (c : Int)
theorem PurseV.mono {c c' : Nat} {o : Option HO} (h : PurseV c o) (l : c ≤ c') : PurseV c' o := by
  obtain ⟨x, y, z, e, h1, h2, h3, h4⟩ := h
  exact ⟨x, y, z, e, h1, h2, h3, by omega⟩
theorem PurseV.some {c : Nat} {o : Option HO} (h : PurseV c o) : ∃ u, o = Option.some u := by
  obtain ⟨x, y, z, e, _⟩ := h
  exact ⟨_, e⟩
structure GS.Ok (G : GS) (H : Hp) (c : Nat) : Prop where
  same : Same G.f H
  npu : ∀ a, G.pu a → G.f a = none
  pu : ∀ a, G.pu a → PurseV c (H a)
/-- from one state to a later one -/
structure Evo (G : GS) (H : Hp) (c : Nat) (G' : GS) (H' : Hp) (c' : Nat) : Prop where
  ok : G'.Ok H' c'
  le : G.Le G'
  c : c ≤ c'
  keep : ∀ b o, H b = some o → ¬ G.pu b → H' b = some o
  pus : ∀ b, G.pu b → ∃ o, H' b = some o
  new : ∀ b o, H b = some o → G.f b = none → G'.f b = none
  npu : ∀ b o, H b = some o → G'.pu b → G.pu b
theorem Evo.refl {G : GS} {H : Hp} {c : Nat} (h : G.Ok H c) : Evo G H c G H c := ⟨h, GS.Le.refl _, Nat.le_refl _, fun _ _ e _ => e, fun b hb => (h.pu b hb).some, fun _ _ _ e => e, fun _ _ _ e => e⟩
theorem Evo.trans {G G1 G2 : GS} {H H1 H2 : Hp} {c c1 c2 : Nat} (a : Evo G H c G1 H1 c1) (b : Evo G1 H1 c1 G2 H2 c2) : Evo G H c G2 H2 c2 where
  ok := b.ok
  le := a.le.trans b.le
  c := Nat.le_trans a.c b.c
  keep := fun x o e n => b.keep x o (a.keep x o e n) fun z => n (a.npu x o e z)
  pus := fun x h => b.pus x (a.le.pu x h)
  new := fun x o e n => by
    by_cases h : G.pu x
    · obtain ⟨o', e'⟩ := a.pus x h
      exact b.new x o' e' (a.new x o e n)
    · exact b.new x o (a.keep x o e h) (a.new x o e n)
  npu := fun x o e h => by
    by_cases q : G.pu x
    · exact q
    · exact a.npu x o e (b.npu x o (a.keep x o e q) h)
theorem Evo.same {G G' : GS} {H H' : Hp} {c c' : Nat} (e : Evo G H c G' H' c') : Same G.f H' := e.le.f.trans e.ok.same
theorem GS.Ok.sq {K : PySem.W.Frag} {G : GS} {H : Hp} {c : Nat} {a : Addr} {xs : List V} (ok : G.Ok H c) (h : G.f a = some (.lst xs)) : SqL K H a xs := SqL.of (ok.same _ _ h)
theorem GS.Ok.fnone {G : GS} {H : Hp} {c : Nat} (ok : G.Ok H c) {p : Addr} (h : H p = none) : G.f p = none := ok.same.free h
theorem GS.Ok.punone {G : GS} {H : Hp} {c : Nat} (ok : G.Ok H c) {p : Addr} (h : H p = none) : ¬ G.pu p := fun z => by
  obtain ⟨o, e⟩ := (ok.pu p z).some
  rw [h] at e; cases e
/-- a new object that is settled at once -/
theorem Evo.laid {G : GS} {H : Hp} {c : Nat} (ok : G.Ok H c) {p : Addr} (o : HO) (h : H p = none) : Evo G H c { G with f := upd G.f p o } (upd H p o) c where
  ok := ⟨fun b u e => by
      have e : upd G.f p o b = some u := e
      by_cases hb : b = p
      · subst hb; rw [upd_same] at e ⊢; exact e
      · rw [upd_ne hb] at e ⊢; exact ok.same b u e,
    fun b hb => by
      have : b ≠ p := fun z => by subst z; exact ok.punone h hb
      show upd G.f p o b = none
      rw [upd_ne this]; exact ok.npu b hb,
    fun b hb => by
      have : b ≠ p := fun z => by subst z; exact ok.punone h hb
      rw [upd_ne this]; exact ok.pu b hb⟩
  le := ⟨fun b u e => by
      have : b ≠ p := fun z => by subst z; rw [ok.fnone h] at e; cases e
      show upd G.f p o b = some u
      rw [upd_ne this]; exact e, fun _ z => z⟩
  c := Nat.le_refl _
  keep := fun b u e _ => by rw [upd_ne (ne_of_none e h)]; exact e
  pus := fun b hb => by
    have : b ≠ p := fun z => by subst z; exact ok.punone h hb
    rw [upd_ne this]; exact (ok.pu b hb).some
  new := fun b u e n => by
    show upd G.f p o b = none
    rw [upd_ne (ne_of_none e h)]; exact n
  npu := fun _ _ _ z => z
/-- a new object that is not settled yet -/
theorem Evo.laidU {G : GS} {H : Hp} {c : Nat} (ok : G.Ok H c) {p : Addr} (o : HO) (h : H p = none) : Evo G H c G (upd H p o) c where
  ok := ⟨fun b u e => by
      have : b ≠ p := fun z => by subst z; rw [ok.fnone h] at e; cases e
      rw [upd_ne this]; exact ok.same b u e, ok.npu,
    fun b hb => by
      have : b ≠ p := fun z => by subst z; exact ok.punone h hb
      rw [upd_ne this]; exact ok.pu b hb⟩
  le := GS.Le.refl _
  c := Nat.le_refl _
  keep := fun b u e _ => by rw [upd_ne (ne_of_none e h)]; exact e
  pus := fun b hb => by
    have : b ≠ p := fun z => by subst z; exact ok.punone h hb
    rw [upd_ne this]; exact (ok.pu b hb).some
  new := fun b u e n => n
  npu := fun _ _ _ z => z

/-! ### the frame's names -/
inductive Sl where
  | no | fz (d : D) | ol (l : List D) | od (ks : List Key) (l : List D)
abbrev DEnv := List Sl
def SlOk (K : PySem.W.Frag) (G : GS) (H0 H : Hp) (s : Sl) (o : Option V) : Prop := match s with
  | .no => True
  | .fz d => ∃ v, o = some v ∧ Rp K G v d
  | .ol ds => ∃ a xs, o = some (.ref a) ∧ G.f a = none ∧ ¬ G.pu a ∧ H0 a = none ∧ H a = some (.lst xs) ∧ RpAll K G xs ds
  | .od ks ds => ∃ a kvs, o = some (.ref a) ∧ G.f a = none ∧ ¬ G.pu a ∧ H0 a = none ∧ H a = some (.dK kvs) ∧ kvs.map (·.1) = ks ∧ RpAll K G (kvs.map (·.2)) ds
def Sl.isOl : Sl → Bool
  | .ol _ => true
  | .od _ _ => true
  | _ => false

/-- the context of a body: HandS's, the entry, what is wanted of an exception -/
structure Ctx where
  X : Cx
  G0 : GS
  H0 : Hp
  c0 : Nat
  E : L2.St → XK
  ED : DEnv → Addr → List Str → List D → Nat → Prop
  lo : GS

structure Rel (Y : Ctx) (G : GS) (H : Hp) (c : Nat) (ρ : DEnv) (σ : L2.St) : Prop where
  ok : G.Ok H c
  evo : Evo Y.G0 Y.H0 Y.c0 G H c
  len : ρ.length = σ.length
  sl : ∀ (i : Nat) (s : Sl), ρ[i]? = some s → ∃ o, σ[i]? = some o ∧ SlOk Y.X.K G Y.H0 H s o
  sep : ∀ (i j : Nat) (s t : Sl), i ≠ j → ρ[i]? = some s → ρ[j]? = some t → s.isOl = true → t.isOl = true → σ[i]? ≠ σ[j]?
  lo : Y.lo.Le G
theorem SlOk.evo {K : PySem.W.Frag} {G G' : GS} {H0 H H' : Hp} {c c' : Nat} {s : Sl} {o : Option V} (h : SlOk K G H0 H s o) (e : Evo G H c G' H' c') : SlOk K G' H0 H' s o := by
  cases s with
  | no => trivial
  | fz d => obtain ⟨v, e1, r⟩ := h; exact ⟨v, e1, r.mono e.le⟩
  | ol ds =>
    obtain ⟨a, xs, e1, h1, h2, h3, h4, h5⟩ := h
    exact ⟨a, xs, e1, e.new a _ h4 h1, fun z => h2 (e.npu a _ h4 z), h3, e.keep a _ h4 h2, h5.mono e.le⟩
  | od ks ds =>
    obtain ⟨a, xs, e1, h1, h2, h3, h4, h5, h6⟩ := h
    exact ⟨a, xs, e1, e.new a _ h4 h1, fun z => h2 (e.npu a _ h4 z), h3, e.keep a _ h4 h2, h5, h6.mono e.le⟩
theorem Rel.evo' {Y : Ctx} {G G' : GS} {H H' : Hp} {c c' : Nat} {ρ : DEnv} {σ : L2.St} (R : Rel Y G H c ρ σ) (e : Evo G H c G' H' c') : Rel Y G' H' c' ρ σ :=
  ⟨e.ok, R.evo.trans e, R.len, fun i s h => let ⟨o, h1, h2⟩ := R.sl i s h; ⟨o, h1, h2.evo e⟩, R.sep, R.lo.trans e.le⟩

/-! ### the judgements -/
abbrev QD := D → Nat → Prop
abbrev DE := DEnv → Nat → QD → Prop
abbrev DT := DEnv → Nat → (Bool → Nat → Prop) → Prop
abbrev DA := DEnv → Nat → (List D → Nat → Prop) → Prop
structure DEnds where
  nx : DEnv → Nat → Prop
  rt : QD
  bk : DEnv → Nat → Prop := fun _ _ => False
  ct : DEnv → Nat → Prop := fun _ _ => False
abbrev DS := DEnds → DEnv → Nat → Prop

/-- a reading over data is carried by a reading over the heap -/
def SimE (Y : Ctx) (te : TE) (t : DE) : Prop := ∀ G H c ρ σ (Qd : QD) (Q : VK), Rel Y G H c ρ σ → t ρ c Qd →
  (∀ d v G' H' c', Evo G H c G' H' c' → Rp Y.X.K G' v d → Qd d c' → Q v H') → te σ H Q
def SimT (Y : Ctx) (te : TT) (t : DT) : Prop := ∀ G H c ρ σ (Qd : Bool → Nat → Prop) (Q : Bool → Hp → Prop), Rel Y G H c ρ σ → t ρ c Qd →
  (∀ b G' H' c', Evo G H c G' H' c' → Qd b c' → Q b H') → te σ H Q
def SimA (Y : Ctx) (ta : TA) (t : DA) : Prop := ∀ G H c ρ σ (Qd : List D → Nat → Prop) (Q : List V → Hp → Prop), Rel Y G H c ρ σ → t ρ c Qd →
  (∀ ds vs G' H' c', Evo G H c G' H' c' → RpAll Y.X.K G' vs ds → Qd ds c' → Q vs H') → ta σ H Q
structure PD (Y : Ctx) (e : Expr) (te : TE) (t : DE) : Prop where
  p : PE Y.X e te
  s : SimE Y te t
structure PDT (Y : Ctx) (e : Expr) (te : TT) (t : DT) : Prop where
  p : PT Y.X e te
  s : SimT Y te t
structure PDW (Y : Ctx) (e : Expr) (te : TT) (t : DT) : Prop where
  p : PW Y.X e te
  s : SimT Y te t
structure PDA (Y : Ctx) (es : List Expr) (ta : TA) (t : DA) : Prop where
  p : PA Y.X es ta
  s : SimA Y ta t
/-- what is pinned (P) stays -/
structure RelP (Y : Ctx) (P : GS) (G : GS) (H : Hp) (c : Nat) (ρ : DEnv) (σ : L2.St) : Prop where
  r : Rel Y G H c ρ σ
  le : P.Le G
/-- what is wanted of the ends, in both languages -/
structure EndOk (Y : Ctx) (P : GS) (DD : DEnds) (EE : Ends) : Prop where
  nx : ∀ G H c ρ σ, RelP Y P G H c ρ σ → DD.nx ρ c → EE.nx σ H
  rt : ∀ G H c d v, Evo Y.G0 Y.H0 Y.c0 G H c → Rp Y.X.K G v d → DD.rt d c → EE.rt v H
  bk : ∀ G H c ρ σ, RelP Y P G H c ρ σ → DD.bk ρ c → EE.bk σ H
  ct : ∀ G H c ρ σ, RelP Y P G H c ρ σ → DD.ct ρ c → EE.ct σ H
def SimS (Y : Ctx) (ts : TS) (t : DS) : Prop := ∀ P G H c ρ σ DD EE, EndOk Y P DD EE → RelP Y P G H c ρ σ → t DD ρ c → ts EE σ H
structure PDS (Y : Ctx) (st : Stmt) (ts : TS) (t : DS) : Prop where
  p : PS Y.X st ts
  s : SimS Y ts t
structure PDSs (Y : Ctx) (st : List Stmt) (ts : TS) (t : DS) : Prop where
  p : PSs Y.X st ts
  s : SimS Y ts t
end PL

namespace PL
open PySem PySem.Spec PyProof.Rows L2

/-! ### rules by values, brought over to data -/
abbrev RD2 := D → D → Nat → QD → Prop
abbrev RD1 := D → Nat → QD → Prop
abbrev RDn := List D → Nat → QD → Prop
def Br2 (K : PySem.W.Frag) (r : R2) (rd : RD2) : Prop := ∀ G H c x y d e (Qd : QD) (Q : VK), G.Ok H c → Rp K G x d → Rp K G y e → rd d e c Qd →
  (∀ d' v G' H' c', Evo G H c G' H' c' → Rp K G' v d' → Qd d' c' → Q v H') → r x y H Q
def Br1 (K : PySem.W.Frag) (r : V → Hp → VK → Prop) (rd : RD1) : Prop := ∀ G H c x d (Qd : QD) (Q : VK), G.Ok H c → Rp K G x d → rd d c Qd →
  (∀ d' v G' H' c', Evo G H c G' H' c' → Rp K G' v d' → Qd d' c' → Q v H') → r x H Q
def BrN (K : PySem.W.Frag) (r : List V → Hp → VK → Prop) (rd : RDn) : Prop := ∀ G H c xs ds (Qd : QD) (Q : VK), G.Ok H c → RpAll K G xs ds → rd ds c Qd →
  (∀ d' v G' H' c', Evo G H c G' H' c' → Rp K G' v d' → Qd d' c' → Q v H') → r xs H Q
def BrM (K : PySem.W.Frag) (r : V → List V → Hp → VK → Prop) (rd : D → RDn) : Prop := ∀ G H c x d xs ds (Qd : QD) (Q : VK), G.Ok H c → Rp K G x d → RpAll K G xs ds → rd d ds c Qd →
  (∀ d' v G' H' c', Evo G H c G' H' c' → Rp K G' v d' → Qd d' c' → Q v H') → r x xs H Q

section
variable {Y : Ctx} {a b e : Expr} {es : List Expr} {pos : Pos} {ea eb ee : TE} {fa : TA} {ta tb te : DE} {t : DA}

/-! ### names, constants -/
def dVar (i : Nat) (ρ : DEnv) (c : Nat) (Q : QD) : Prop := ∃ d, ρ[i]? = some (.fz d) ∧ Q d c
def dC (d : D) (_ : DEnv) (c : Nat) (Q : QD) : Prop := Q d c
theorem pd_v (i : Nat) {x : Str} {pos : Pos} (hN : Y.X.N[i]? = some x := by rfl) (hv : Vis Y.X.env.scope x := by first | exact Or.inl rfl | exact Or.inr (Or.inl rfl) | exact Or.inr (Or.inr rfl)) (hd : (x == ("__debug__" : Str)) = false := by decide)
    (hcd : (x == ("__classdict__" : Str)) = false := by decide) : PD Y (.Name x pos) (tVar i) (dVar i) := by
  refine ⟨pe_var hN hv hd hcd, fun G H c ρ σ Qd Q R h k => ?_⟩
  obtain ⟨d, e, h⟩ := h
  obtain ⟨o, e1, v, rfl, r⟩ := R.sl i _ e
  exact ⟨v, e1, k d v G H c (Evo.refl R.ok) r h⟩
theorem pd_int {i j pos} : PD Y (.Constant (.int i) j pos) (tC (.int i)) (dC (.int i)) := ⟨pe_int, fun _ _ _ _ _ _ _ R h k => k _ _ _ _ _ (Evo.refl R.ok) (.int _) h⟩
theorem pd_bl {b j pos} : PD Y (.Constant (.bool b) j pos) (tC (.bl b)) (dC (.bl b)) := ⟨pe_bl, fun _ _ _ _ _ _ _ R h k => k _ _ _ _ _ (Evo.refl R.ok) (.bl _) h⟩
theorem pd_non {j pos} : PD Y (.Constant .none j pos) (tC .non) (dC .non) := ⟨pe_non, fun _ _ _ _ _ _ _ R h k => k _ _ _ _ _ (Evo.refl R.ok) .non h⟩
theorem pd_str {x j pos} : PD Y (.Constant (.str x) j pos) (tC (.str x)) (dC (.str x)) := ⟨pe_str, fun _ _ _ _ _ _ _ R h k => k _ _ _ _ _ (Evo.refl R.ok) (.str _) h⟩
/-- a module's name that holds a constant or a class -/
theorem pd_glob {x : Str} {v : V} {d : D} {u : Value} {pos : Pos} (hm : Y.X.mg x = some u) (r : RelV v u) (rp : ∀ G, Rp Y.X.K G v d) (hg : Gl Y.X x := by rfl) (hd : (x == ("__debug__" : Str)) = false := by decide) : PD Y (.Name x pos) (tC v) (dC d) :=
  ⟨pe_glob hg hm r hd, fun _ _ _ _ _ _ _ R h k => k _ _ _ _ _ (Evo.refl R.ok) (rp _) h⟩
/-- a built-in type as a value -/
theorem pd_bty {x : Str} {n : String} {pos : Pos} (hm : Y.X.mg x = none) (hv : bootBuiltins x = some (.type n)) (hg : Gl Y.X x := by rfl) (hn : x ≠ "__name__" := by decide) (hd : (x == ("__debug__" : Str)) = false := by decide) : PD Y (.Name x pos) (tC (.ty n)) (dC (.ty n)) :=
  ⟨pe_bltn hg hm hv (v := .ty n) rfl hn hd, fun _ _ _ _ _ _ _ R h k => k _ _ _ _ _ (Evo.refl R.ok) (.ty _) h⟩

/-! ### operators -/
def dOp (rd : RD2) (ta tb : DE) (ρ : DEnv) (c : Nat) (Q : QD) : Prop := ta ρ c fun x c1 => tb ρ c1 fun y c2 => rd x y c2 Q
def dUn (rd : RD1) (ta : DE) (ρ : DEnv) (c : Nat) (Q : QD) : Prop := ta ρ c fun x c1 => rd x c1 Q
/-- two in a row -/
theorem two {G H c ρ σ} {tea teb : TE} {r : V → V → Hp → Prop} {rd : D → D → Nat → Prop} (R : Rel Y G H c ρ σ)
    (ha : ∀ G H c ρ σ (Qd : QD) (Q : VK), Rel Y G H c ρ σ → ta ρ c Qd → (∀ d v G' H' c', Evo G H c G' H' c' → Rp Y.X.K G' v d → Qd d c' → Q v H') → tea σ H Q)
    (hb : ∀ G H c ρ σ (Qd : QD) (Q : VK), Rel Y G H c ρ σ → tb ρ c Qd → (∀ d v G' H' c', Evo G H c G' H' c' → Rp Y.X.K G' v d → Qd d c' → Q v H') → teb σ H Q)
    (h : ta ρ c fun x c1 => tb ρ c1 fun y c2 => rd x y c2)
    (k : ∀ d e x y G' H' c', Evo G H c G' H' c' → Rp Y.X.K G' x d → Rp Y.X.K G' y e → rd d e c' → r x y H') : tea σ H fun x H1 => teb σ H1 fun y H2 => r x y H2 := by
  refine ha G H c ρ σ _ _ R h fun d v G1 H1 c1 e1 r1 q1 => ?_
  refine hb G1 H1 c1 ρ σ _ _ (R.evo' e1) q1 fun d2 v2 G2 H2 c2 e2 r2 q2 => ?_
  exact k d d2 v v2 G2 H2 c2 (e1.trans e2) (r1.mono e2.le) r2 q2
theorem pd_op {op : Operator} {r : R2} {rd : RD2} (ho : OpR Y.X (binaryOp op) r) (br : Br2 Y.X.K r rd) (ha : PD Y a ea ta) (hb : PD Y b eb tb) : PD Y (.BinOp a op b pos) (tOp r ea eb) (dOp rd ta tb) := by
  obtain ⟨pa, ha⟩ := ha
  obtain ⟨pb, hb⟩ := hb
  refine ⟨pe_op ho pa pb, fun G H c ρ σ Qd Q R h k => ?_⟩
  exact two R ha hb h fun d e x y G' H' c' ev r1 r2 q => br G' H' c' x y d e Qd Q ev.ok r1 r2 q fun d' v G2 H2 c2 e2 r q => k d' v G2 H2 c2 (ev.trans e2) r q
theorem pd_un {op : UnaryOp} {r : V → Hp → VK → Prop} {rd : RD1} (ho : UnR Y.X (unaryOp op) r) (br : Br1 Y.X.K r rd) (ha : PD Y a ea ta) : PD Y (.UnaryOp op a pos) (tUn r ea) (dUn rd ta) := by
  obtain ⟨pa, ha⟩ := ha
  refine ⟨pe_un ho pa, fun G H c ρ σ Qd Q R h k => ?_⟩
  exact ha G H c ρ σ _ _ R h fun d v G1 H1 c1 e1 r1 q1 => br G1 H1 c1 v d Qd Q e1.ok r1 q1 fun d' v G2 H2 c2 e2 r q => k d' v G2 H2 c2 (e1.trans e2) r q
theorem pd_cmp {op : CmpOp} {r : R2} {rd : RD2} (ho : OpR Y.X (compareOp op) r) (br : Br2 Y.X.K r rd) (ha : PD Y a ea ta) (hb : PD Y b eb tb) (hm : behindInMarks op b = false := by first | exact nomark _ | rfl) : PD Y (.Compare a [op] [b] pos) (tOp r ea eb) (dOp rd ta tb) := by
  obtain ⟨pa, ha⟩ := ha
  obtain ⟨pb, hb⟩ := hb
  refine ⟨pe_cmpR ho pa pb hm, fun G H c ρ σ Qd Q R h k => ?_⟩
  exact two R ha hb h fun d e x y G' H' c' ev r1 r2 q => br G' H' c' x y d e Qd Q ev.ok r1 r2 q fun d' v G2 H2 c2 e2 r q => k d' v G2 H2 c2 (ev.trans e2) r q
theorem pd_ix {r : R2} {rd : RD2} (ho : IxR Y.X r) (br : Br2 Y.X.K r rd) (ha : PD Y a ea ta) (hb : PD Y b eb tb) (hs : PlainIx b := by exact fun _ _ => rfl) : PD Y (.Subscript a b pos) (tOp r ea eb) (dOp rd ta tb) := by
  obtain ⟨pa, ha⟩ := ha
  obtain ⟨pb, hb⟩ := hb
  refine ⟨pe_ix ho pa pb hs, fun G H c ρ σ Qd Q R h k => ?_⟩
  exact two R ha hb h fun d e x y G' H' c' ev r1 r2 q => br G' H' c' x y d e Qd Q ev.ok r1 r2 q fun d' v G2 H2 c2 e2 r q => k d' v G2 H2 c2 (ev.trans e2) r q
/-- a chain of two comparisons -/
def dChain (rd rd' : RD2) (ta tb tc : DE) (ρ : DEnv) (c : Nat) (Q : QD) : Prop := ta ρ c fun x c1 => tb ρ c1 fun y c2 => rd x y c2 fun z c3 => ∃ k, z = .bl k ∧ if k = true then tc ρ c3 fun w c4 => rd' y w c4 Q else Q (.bl false) c3
theorem pd_chain {f : Expr} {tf : DE} {ef : TE} {op op' : CmpOp} {r r' : R2} {rd rd' : RD2} (ho : OpR Y.X (compareOp op) r) (br : Br2 Y.X.K r rd) (ho' : OpR Y.X (compareOp op') r') (br' : Br2 Y.X.K r' rd') (ha : PD Y a ea ta) (hb : PD Y b eb tb) (hc : PD Y f ef tf) (hm : lastMarks [op, op'] [b, f] = false := by rfl) :
    PD Y (.Compare a [op, op'] [b, f] pos) (tChain r r' ea eb ef) (dChain rd rd' ta tb tf) := by
  obtain ⟨pa, ha⟩ := ha
  obtain ⟨pb, hb⟩ := hb
  obtain ⟨pc, hc⟩ := hc
  refine ⟨pe_chain ho ho' pa pb pc hm, fun G H c ρ σ Qd Q R h k => ?_⟩
  refine two R ha hb h fun d e x y G1 H1 c1 e1 r1 r2 q => br G1 H1 c1 x y d e _ _ e1.ok r1 r2 q fun d' v G2 H2 c2 e2 r3 q => ?_
  obtain ⟨b, rfl, q⟩ := q
  cases r3
  refine ⟨b, rfl, ?_⟩
  cases b with
  | false => rw [if_neg Bool.false_ne_true] at q ⊢; exact k _ _ G2 H2 c2 (e1.trans e2) (.bl _) q
  | true =>
    rw [if_pos rfl] at q ⊢
    refine hc G2 H2 c2 ρ σ _ _ (R.evo' (e1.trans e2)) q fun d4 v4 G4 H4 c4 e4 r4 q4 => ?_
    exact br' G4 H4 c4 y v4 e d4 Qd Q e4.ok (r2.mono (e2.le.trans e4.le)) r4 q4 fun d' v G5 H5 c5 e5 r q => k d' v G5 H5 c5 ((e1.trans e2).trans (e4.trans e5)) r q

/-! ### arguments, calls of built-ins, displays -/
def dNil (_ : DEnv) (c : Nat) (Q : List D → Nat → Prop) : Prop := Q [] c
def dCons (ta : DE) (tr : DA) (ρ : DEnv) (c : Nat) (Q : List D → Nat → Prop) : Prop := ta ρ c fun x c1 => tr ρ c1 fun xs c2 => Q (x :: xs) c2
theorem pda_nil : PDA Y [] tNil dNil := ⟨pa_nil, fun _ _ _ _ _ _ _ R h k => k _ _ _ _ _ (Evo.refl R.ok) .nil h⟩
theorem pda_cons (ha : PD Y e ee te) (hr : PDA Y es fa t) (hs : starEach (e :: es) Y.X.env = (false, eval e Y.X.env) :: starEach es Y.X.env := by rfl) : PDA Y (e :: es) (tCons ee fa) (dCons te t) := by
  obtain ⟨pa, ha⟩ := ha
  obtain ⟨ps, hr⟩ := hr
  refine ⟨pa_cons pa ps hs, fun G H c ρ σ Qd Q R h k => ?_⟩
  refine ha G H c ρ σ _ _ R h fun d v G1 H1 c1 e1 r1 q1 => ?_
  refine hr G1 H1 c1 ρ σ _ _ (R.evo' e1) q1 fun ds vs G2 H2 c2 e2 r2 q2 => ?_
  exact k _ _ G2 H2 c2 (e1.trans e2) (.cons (r1.mono e2.le) r2) q2
def dCB (rd : RDn) (t : DA) (ρ : DEnv) (c : Nat) (Q : QD) : Prop := t ρ c fun ds c1 => rd ds c1 Q
theorem pd_callB {x : Str} {p : Pos} {id : String} {r : List V → Hp → VK → Prop} {rd : RDn} (hc : CallR Y.X (.builtin id) r) (br : BrN Y.X.K r rd) (hm : Y.X.mg x = none) (hv : bootBuiltins x = some (.builtin id)) (ha : PDA Y (e :: es) fa t) (hg : Gl Y.X x := by rfl) (hn : x ≠ "__name__" := by decide) (hdb : (x == ("__debug__" : Str)) = false := by decide)
    (he : starEach (e :: es) Y.X.env = (false, eval e Y.X.env) :: starEach es Y.X.env := by rfl) (hpl : (backTo pos (starEach es Y.X.env)).any (·.1) = false := by rfl) : PD Y (.Call (.Name x p) (e :: es) [] pos) (tCB r fa) (dCB rd t) := by
  obtain ⟨ps, ha⟩ := ha
  refine ⟨pe_callB hc hg hm hv ps hn hdb he hpl, fun G H c ρ σ Qd Q R h k => ?_⟩
  exact ha G H c ρ σ _ _ R h fun ds vs G1 H1 c1 e1 r1 q1 => br G1 H1 c1 vs ds Qd Q e1.ok r1 q1 fun d' v G2 H2 c2 e2 r q => k d' v G2 H2 c2 (e1.trans e2) r q
theorem pd_callTy {x : Str} {p : Pos} {T : String} {r : List V → Hp → VK → Prop} {rd : RDn} (hc : CallR Y.X (.type T) r) (br : BrN Y.X.K r rd) (hm : Y.X.mg x = none) (hv : bootBuiltins x = some (.type T)) (ha : PDA Y (e :: es) fa t) (hg : Gl Y.X x := by rfl) (hn : x ≠ "__name__" := by decide) (hdb : (x == ("__debug__" : Str)) = false := by decide)
    (he : starEach (e :: es) Y.X.env = (false, eval e Y.X.env) :: starEach es Y.X.env := by rfl) (hpl : (backTo pos (starEach es Y.X.env)).any (·.1) = false := by rfl) : PD Y (.Call (.Name x p) (e :: es) [] pos) (tCB r fa) (dCB rd t) := by
  obtain ⟨ps, ha⟩ := ha
  refine ⟨pe_callTy hc hg hm hv ps hn hdb he hpl, fun G H c ρ σ Qd Q R h k => ?_⟩
  exact ha G H c ρ σ _ _ R h fun ds vs G1 H1 c1 e1 r1 q1 => br G1 H1 c1 vs ds Qd Q e1.ok r1 q1 fun d' v G2 H2 c2 e2 r q => k d' v G2 H2 c2 (e1.trans e2) r q
theorem Rp.newTup {K : PySem.W.Frag} {G : GS} {H : Hp} {c : Nat} {p : Addr} {vs : List V} {ds : List D} (ok : G.Ok H c) (h : H p = none) (r : RpAll K G vs ds) : Rp K { G with f := upd G.f p (.tup vs) } (.ref p) (.tup ds) :=
  .tup (SqT.of upd_same) (r.mono (Evo.laid ok (.tup vs) h).le)
theorem Rp.newLst {K : PySem.W.Frag} {G : GS} {H : Hp} {c : Nat} {p : Addr} {vs : List V} {ds : List D} (ok : G.Ok H c) (h : H p = none) (r : RpAll K G vs ds) : Rp K { G with f := upd G.f p (.lst vs) } (.ref p) (.lst ds) :=
  .lst upd_same (r.mono (Evo.laid ok (.lst vs) h).le)
def dTup (t : DA) (ρ : DEnv) (c : Nat) (Q : QD) : Prop := t ρ c fun ds c1 => ds.length ≤ sizeLine ∧ Q (.tup ds) c1
def dLst (t : DA) (ρ : DEnv) (c : Nat) (Q : QD) : Prop := t ρ c fun ds c1 => ds.length ≤ sizeLine ∧ Q (.lst ds) c1
theorem pd_tup {x1} (ha : PDA Y es fa t) : PD Y (.Tuple es x1 pos) (tTup fa) (dTup t) := by
  obtain ⟨ps, ha⟩ := ha
  refine ⟨pe_tup ps, fun G H c ρ σ Qd Q R h k => ?_⟩
  refine ha G H c ρ σ _ _ R h fun ds vs G1 H1 c1 e1 r1 q1 => ⟨by rw [r1.length]; exact q1.1, fun p np => ?_⟩
  exact k _ _ _ _ c1 (e1.trans (Evo.laid e1.ok _ np)) (Rp.newTup e1.ok np r1) q1.2
theorem pd_lst (ha : PDA Y es fa t) : PD Y (.List es pos) (tLst fa) (dLst t) := by
  obtain ⟨ps, ha⟩ := ha
  refine ⟨pe_lst ps, fun G H c ρ σ Qd Q R h k => ?_⟩
  refine ha G H c ρ σ _ _ R h fun ds vs G1 H1 c1 e1 r1 q1 => ⟨by rw [r1.length]; exact q1.1, fun p np => ?_⟩
  exact k _ _ _ _ c1 (e1.trans (Evo.laid e1.ok _ np)) (Rp.newLst e1.ok np r1) q1.2

/-! ### tests -/
/-- a value that is True or False -/
def dB (t : DE) (ρ : DEnv) (c : Nat) (Q : Bool → Nat → Prop) : Prop := t ρ c fun x c1 => ∃ b, x = .bl b ∧ Q b c1
theorem pdt_val (ha : PD Y e ee te) (he : ∀ whole, isTrue e Y.X.env whole = (do let v ← whole; standAt e.pos; holding [v] (truthy v)) := by intro _; rfl) : PDT Y e (tB ee) (dB te) := by
  obtain ⟨pa, ha⟩ := ha
  refine ⟨pt_val pa he, fun G H c ρ σ Qd Q R h k => ?_⟩
  refine ha G H c ρ σ _ _ R h fun d v G1 H1 c1 e1 r1 q1 => ?_
  obtain ⟨b, rfl, q1⟩ := q1
  cases r1
  exact ⟨b, rfl, k b G1 H1 c1 e1 q1⟩
theorem pdt_cmp {op : CmpOp} {r : R2} {rd : RD2} (ho : OpR Y.X (compareOp op) r) (br : Br2 Y.X.K r rd) (ha : PD Y a ea ta) (hb : PD Y b eb tb) (hm : behindInMarks op b = false := by first | exact nomark _ | rfl) : PDT Y (.Compare a [op] [b] pos) (tTest (tOp r ea eb)) (dB (dOp rd ta tb)) := by
  obtain ⟨pa, ha⟩ := ha
  obtain ⟨pb, hb⟩ := hb
  refine ⟨pt_cmpR ho pa pb hm, fun G H c ρ σ Qd Q R h k => ?_⟩
  refine two R ha hb h fun d e x y G' H' c' ev r1 r2 q => br G' H' c' x y d e _ _ ev.ok r1 r2 q fun d' v G2 H2 c2 e2 r q => ?_
  obtain ⟨b, rfl, q⟩ := q
  cases r
  exact ⟨b, rfl, k b G2 H2 c2 (ev.trans e2) q⟩
def dtAnd (t u : DT) (ρ : DEnv) (c : Nat) (Q : Bool → Nat → Prop) : Prop := t ρ c fun b c1 => if b = true then u ρ c1 Q else Q false c1
def dtOr (t u : DT) (ρ : DEnv) (c : Nat) (Q : Bool → Nat → Prop) : Prop := t ρ c fun b c1 => if b = true then Q true c1 else u ρ c1 Q
def dtNot (t : DT) (ρ : DEnv) (c : Nat) (Q : Bool → Nat → Prop) : Prop := t ρ c fun b c1 => Q (!b) c1
variable {tA tB : DT} {eA eB : TT} {rest : List Expr}
theorem pdw_and1 (ha : PDT Y a eA tA) : PDW Y (.BoolOp .And [a] pos) eA tA := by
  obtain ⟨pa, ha⟩ := ha
  exact ⟨pw_and1 pa, ha⟩
theorem pdw_or1 (ha : PDT Y a eA tA) : PDW Y (.BoolOp .Or [a] pos) eA tA := by
  obtain ⟨pa, ha⟩ := ha
  exact ⟨pw_or1 pa, ha⟩
theorem pdw_and (ha : PDT Y a eA tA) (hb : PDW Y (.BoolOp .And (b :: rest) pos) eB tB) : PDW Y (.BoolOp .And (a :: b :: rest) pos) (tAnd eA eB) (dtAnd tA tB) := by
  obtain ⟨pa, ha⟩ := ha
  obtain ⟨pb, hb⟩ := hb
  refine ⟨pw_and pa pb, fun G H c ρ σ Qd Q R h k => ?_⟩
  refine ha G H c ρ σ _ _ R h fun b G1 H1 c1 e1 q1 => ?_
  cases b with
  | true => rw [if_pos rfl] at q1 ⊢; exact hb G1 H1 c1 ρ σ _ _ (R.evo' e1) q1 fun b G2 H2 c2 e2 q2 => k b G2 H2 c2 (e1.trans e2) q2
  | false => rw [if_neg Bool.false_ne_true] at q1 ⊢; exact k _ G1 H1 c1 e1 q1
theorem pdw_or (ha : PDT Y a eA tA) (hb : PDW Y (.BoolOp .Or (b :: rest) pos) eB tB) : PDW Y (.BoolOp .Or (a :: b :: rest) pos) (tOr eA eB) (dtOr tA tB) := by
  obtain ⟨pa, ha⟩ := ha
  obtain ⟨pb, hb⟩ := hb
  refine ⟨pw_or pa pb, fun G H c ρ σ Qd Q R h k => ?_⟩
  refine ha G H c ρ σ _ _ R h fun b G1 H1 c1 e1 q1 => ?_
  cases b with
  | true => rw [if_pos rfl] at q1 ⊢; exact k _ G1 H1 c1 e1 q1
  | false => rw [if_neg Bool.false_ne_true] at q1 ⊢; exact hb G1 H1 c1 ρ σ _ _ (R.evo' e1) q1 fun b G2 H2 c2 e2 q2 => k b G2 H2 c2 (e1.trans e2) q2
theorem pdw_pt (h : PDW Y e eA tA) : PDT Y e eA tA := by
  obtain ⟨p, h⟩ := h
  exact ⟨p.pt, h⟩
theorem pdt_not (ha : PDT Y a eA tA) : PDT Y (.UnaryOp .Not a pos) (tNot eA) (dtNot tA) := by
  obtain ⟨pa, ha⟩ := ha
  exact ⟨pt_not pa, fun G H c ρ σ Qd Q R h k => ha G H c ρ σ _ _ R h fun b G1 H1 c1 e1 q1 => k _ G1 H1 c1 e1 q1⟩
/-- .. as values that are True or False -/
def dAndV (ta tb : DE) (ρ : DEnv) (c : Nat) (Q : QD) : Prop := ta ρ c fun x c1 => ∃ b, x = .bl b ∧ if b = true then tb ρ c1 Q else Q (.bl false) c1
def dOrV (ta tb : DE) (ρ : DEnv) (c : Nat) (Q : QD) : Prop := ta ρ c fun x c1 => ∃ b, x = .bl b ∧ if b = true then Q (.bl true) c1 else tb ρ c1 Q
def dNotV (ta : DE) (ρ : DEnv) (c : Nat) (Q : QD) : Prop := ta ρ c fun x c1 => ∃ b, x = .bl b ∧ Q (.bl (!b)) c1
theorem pd_one {op} (h : PD Y a ea ta) : PD Y (.BoolOp op [a] pos) ea ta := by
  obtain ⟨p, h⟩ := h
  exact ⟨pe_one p, h⟩
theorem pd_and (ha : PD Y a ea ta) (hb : PD Y (.BoolOp .And (b :: rest) pos) eb tb) : PD Y (.BoolOp .And (a :: b :: rest) pos) (tAndV ea eb) (dAndV ta tb) := by
  obtain ⟨pa, ha⟩ := ha
  obtain ⟨pb, hb⟩ := hb
  refine ⟨pe_and pa pb, fun G H c ρ σ Qd Q R h k => ?_⟩
  refine ha G H c ρ σ _ _ R h fun d v G1 H1 c1 e1 r1 q1 => ?_
  obtain ⟨b, rfl, q1⟩ := q1
  cases r1
  refine ⟨b, rfl, ?_⟩
  cases b with
  | true => rw [if_pos rfl] at q1 ⊢; exact hb G1 H1 c1 ρ σ _ _ (R.evo' e1) q1 fun d v G2 H2 c2 e2 r2 q2 => k d v G2 H2 c2 (e1.trans e2) r2 q2
  | false => rw [if_neg Bool.false_ne_true] at q1 ⊢; exact k _ _ G1 H1 c1 e1 (.bl _) q1
theorem pd_or (ha : PD Y a ea ta) (hb : PD Y (.BoolOp .Or (b :: rest) pos) eb tb) : PD Y (.BoolOp .Or (a :: b :: rest) pos) (tOrV ea eb) (dOrV ta tb) := by
  obtain ⟨pa, ha⟩ := ha
  obtain ⟨pb, hb⟩ := hb
  refine ⟨pe_or pa pb, fun G H c ρ σ Qd Q R h k => ?_⟩
  refine ha G H c ρ σ _ _ R h fun d v G1 H1 c1 e1 r1 q1 => ?_
  obtain ⟨b, rfl, q1⟩ := q1
  cases r1
  refine ⟨b, rfl, ?_⟩
  cases b with
  | false => rw [if_neg Bool.false_ne_true] at q1 ⊢; exact hb G1 H1 c1 ρ σ _ _ (R.evo' e1) q1 fun d v G2 H2 c2 e2 r2 q2 => k d v G2 H2 c2 (e1.trans e2) r2 q2
  | true => rw [if_pos rfl] at q1 ⊢; exact k _ _ G1 H1 c1 e1 (.bl _) q1
theorem pd_not (ha : PD Y a ea ta) : PD Y (.UnaryOp .Not a pos) (tNotV ea) (dNotV ta) := by
  obtain ⟨pa, ha⟩ := ha
  refine ⟨pe_not pa, fun G H c ρ σ Qd Q R h k => ?_⟩
  refine ha G H c ρ σ _ _ R h fun d v G1 H1 c1 e1 r1 q1 => ?_
  obtain ⟨b, rfl, q1⟩ := q1
  cases r1
  exact ⟨b, rfl, k _ _ G1 H1 c1 e1 (.bl _) q1⟩
def dIf (t : DT) (ta tb : DE) (ρ : DEnv) (c : Nat) (Q : QD) : Prop := t ρ c fun b c1 => if b = true then ta ρ c1 Q else tb ρ c1 Q
theorem pd_ifExp {f : Expr} (hc : PDT Y f eA tA) (ha : PD Y a ea ta) (hb : PD Y b eb tb) : PD Y (.IfExp f a b pos) (tIf eA ea eb) (dIf tA ta tb) := by
  obtain ⟨pc, hc⟩ := hc
  obtain ⟨pa, ha⟩ := ha
  obtain ⟨pb, hb⟩ := hb
  refine ⟨pe_ifExp pc pa pb, fun G H c ρ σ Qd Q R h k => ?_⟩
  refine hc G H c ρ σ _ _ R h fun b G1 H1 c1 e1 q1 => ?_
  cases b with
  | true => rw [if_pos rfl] at q1 ⊢; exact ha G1 H1 c1 ρ σ _ _ (R.evo' e1) q1 fun d v G2 H2 c2 e2 r2 q2 => k d v G2 H2 c2 (e1.trans e2) r2 q2
  | false => rw [if_neg Bool.false_ne_true] at q1 ⊢; exact hb G1 H1 c1 ρ σ _ _ (R.evo' e1) q1 fun d v G2 H2 c2 e2 r2 q2 => k d v G2 H2 c2 (e1.trans e2) r2 q2
end
end PL

namespace PL
open PySem PySem.Spec PyProof.Rows L2

/-! ### slots -/
theorem getElem?_set_cases {α : Type} {l : List α} {i j : Nat} {a x : α} (h : (l.set i a)[j]? = some x) : (j = i ∧ x = a ∧ i < l.length) ∨ (j ≠ i ∧ l[j]? = some x) := by
  by_cases e : i = j
  · subst e
    by_cases q : i < l.length
    · rw [List.getElem?_set_self q] at h
      exact .inl ⟨rfl, (Option.some.inj h).symm, q⟩
    · rw [List.getElem?_eq_none (by simpa using q)] at h; cases h
  · rw [List.getElem?_set_ne e] at h
    exact .inr ⟨fun z => e z.symm, h⟩
section
variable {Y : Ctx} {P G : GS} {H : Hp} {c : Nat} {ρ : DEnv} {σ : L2.St}
theorem Rel.set_sl {s : Sl} {o : Option V} {i : Nat} (R : Rel Y G H c ρ σ) (r : SlOk Y.X.K G Y.H0 H s o) (hs : s.isOl = true → ∀ j, j ≠ i → (∃ t, ρ[j]? = some t ∧ t.isOl = true) → σ[j]? ≠ some o) : Rel Y G H c (ρ.set i s) (σ.set i o) := by
  refine ⟨R.ok, R.evo, by simp [R.len], fun j t e => ?_, fun j k t u ne e1 e2 h1 h2 => ?_, R.lo⟩
  · rcases getElem?_set_cases e with ⟨rfl, rfl, hl⟩ | ⟨ne, e⟩
    · exact ⟨o, List.getElem?_set_self (by rw [← R.len]; exact hl), r⟩
    · obtain ⟨o', e1, r1⟩ := R.sl j t e
      exact ⟨o', by rw [List.getElem?_set_ne (Ne.symm ne)]; exact e1, r1⟩
  · rcases getElem?_set_cases e1 with ⟨rfl, rfl, hl⟩ | ⟨ne1, f1⟩
    · rcases getElem?_set_cases e2 with ⟨rfl, _, _⟩ | ⟨ne2, f2⟩
      · exact absurd rfl ne
      · rw [List.getElem?_set_self (by rw [← R.len]; exact hl), List.getElem?_set_ne (Ne.symm ne2)]
        exact fun z => hs h1 k ne2 ⟨u, f2, h2⟩ z.symm
    · rcases getElem?_set_cases e2 with ⟨rfl, rfl, hl⟩ | ⟨ne2, f2⟩
      · rw [List.getElem?_set_self (by rw [← R.len]; exact hl), List.getElem?_set_ne (Ne.symm ne1)]
        exact hs h2 j ne1 ⟨t, f1, h1⟩
      · rw [List.getElem?_set_ne (Ne.symm ne1), List.getElem?_set_ne (Ne.symm ne2)]
        exact R.sep j k t u ne f1 f2 h1 h2
theorem Rel.set_fz {d : D} {v : V} (R : Rel Y G H c ρ σ) (r : Rp Y.X.K G v d) (i : Nat) : Rel Y G H c (ρ.set i (.fz d)) (σ.set i (some v)) :=
  R.set_sl ⟨v, rfl, r⟩ fun z => nomatch z
theorem Rel.set_no (R : Rel Y G H c ρ σ) (i : Nat) (o : Option V) : Rel Y G H c (ρ.set i .no) (σ.set i o) :=
  R.set_sl trivial fun z => nomatch z
theorem RelP.evo {G' : GS} {H' : Hp} {c' : Nat} (R : RelP Y P G H c ρ σ) (e : Evo G H c G' H' c') : RelP Y P G' H' c' ρ σ := ⟨R.r.evo' e, R.le.trans e.le⟩
theorem Evo.freeze {G' : GS} {H' : Hp} {c' : Nat} {a : Addr} {o : HO} (e : Evo G H c G' H' c') (h0 : H a = none) (hf : G'.f a = none) (hp : ¬ G'.pu a) (h : H' a = some o) : Evo G H c { G' with f := upd G'.f a o } H' c' where
  ok := ⟨fun b u q => by
      have q : upd G'.f a o b = some u := q
      by_cases hb : b = a
      · subst hb; rw [upd_same] at q; cases q; exact h
      · rw [upd_ne hb] at q; exact e.ok.same b u q,
    fun b hb => by
      have : b ≠ a := fun z => hp (z ▸ hb)
      show upd G'.f a o b = none
      rw [upd_ne this]; exact e.ok.npu b hb, e.ok.pu⟩
  le := e.le.trans ⟨fun b u q => by
    have : b ≠ a := fun z => by subst z; rw [hf] at q; cases q
    show upd G'.f a o b = some u
    rw [upd_ne this]; exact q, fun _ z => z⟩
  c := e.c
  keep := e.keep
  pus := e.pus
  new := fun b u q n => by
    show upd G'.f a o b = none
    rw [upd_ne (ne_of_none q h0)]; exact e.new b u q n
  npu := e.npu
/-- the list of slot i is settled -/
theorem RelP.freeze {ds : List D} {i : Nat} (R : RelP Y P G H c ρ σ) (hi : ρ[i]? = some (.ol ds)) : ∃ G', RelP Y P G' H c (ρ.set i (.fz (.lst ds))) σ := by
  obtain ⟨o, e1, a, xs, rfl, h1, h2, h3, h4, h5⟩ := R.r.sl i _ hi
  have le : G.Le { G with f := upd G.f a (.lst xs) } := ⟨fun b u q => by
    have : b ≠ a := fun z => by subst z; rw [h1] at q; cases q
    show upd G.f a _ b = some u
    rw [upd_ne this]; exact q, fun _ z => z⟩
  refine ⟨{ G with f := upd G.f a (.lst xs) }, ⟨?_, R.r.evo.freeze h3 h1 h2 h4, by simp [R.r.len], fun j s e => ?_, fun j k s t ne e2 e3 q1 q2 => ?_, R.r.lo.trans le⟩, R.le.trans le⟩
  · exact (R.r.evo.freeze h3 h1 h2 h4).ok
  · rcases getElem?_set_cases e with ⟨rfl, rfl, _⟩ | ⟨ne, e⟩
    · exact ⟨_, e1, .ref a, rfl, .lst upd_same (h5.mono le)⟩
    · obtain ⟨o', e2, r⟩ := R.r.sl j s e
      refine ⟨o', e2, ?_⟩
      cases s with
      | no => trivial
      | fz d => obtain ⟨v, q, r⟩ := r; exact ⟨v, q, r.mono le⟩
      | ol es =>
        obtain ⟨b, ys, rfl, g1, g2, g3, g4, g5⟩ := r
        have nab : b ≠ a := fun z => by
          subst z
          exact R.r.sep i j _ _ (Ne.symm ne) hi e rfl rfl (e1.trans e2.symm)
        exact ⟨b, ys, rfl, by show upd G.f a _ b = none; rw [upd_ne nab]; exact g1, g2, g3, g4, g5.mono le⟩
      | od ks es =>
        obtain ⟨b, ys, rfl, g1, g2, g3, g4, g5, g6⟩ := r
        have nab : b ≠ a := fun z => by
          subst z
          exact R.r.sep i j _ _ (Ne.symm ne) hi e rfl rfl (e1.trans e2.symm)
        exact ⟨b, ys, rfl, by show upd G.f a _ b = none; rw [upd_ne nab]; exact g1, g2, g3, g4, g5, g6.mono le⟩
  · rcases getElem?_set_cases e2 with ⟨rfl, rfl, _⟩ | ⟨ne2, e2⟩
    · cases q1
    · rcases getElem?_set_cases e3 with ⟨rfl, rfl, _⟩ | ⟨ne3, e3⟩
      · cases q2
      · exact R.r.sep j k s t ne e2 e3 q1 q2
end

/-! ### statements -/
section
variable {Y : Ctx} {a b e f : Expr} {st : Stmt} {rest body orelse : List Stmt} {pos : Pos} {ea eb ee : TE} {ta tb te : DE} {tA : DT} {eA : TT} {s1 s2 : TS} {t u : DS}
def sNext (DD : DEnds) (ρ : DEnv) (c : Nat) : Prop := DD.nx ρ c
def sSeq (t u : DS) (DD : DEnds) (ρ : DEnv) (c : Nat) : Prop := t { DD with nx := u DD } ρ c
theorem pss_nil' : PDSs Y [] tNext sNext := ⟨pss_nil, fun _ _ _ _ _ _ _ _ K R h => K.nx _ _ _ _ _ R h⟩
theorem pds_cons (h1 : PDS Y st s1 t) (h2 : PDSs Y rest s2 u) : PDSs Y (st :: rest) (tSeq s1 s2) (sSeq t u) :=
  ⟨pss_cons h1.p h2.p, fun P G H c ρ σ DD EE K R h => h1.s P G H c ρ σ { DD with nx := u DD } { EE with nx := s2 EE } ⟨fun G H c ρ σ R h => h2.s P G H c ρ σ DD EE K R h, K.rt, K.bk, K.ct⟩ R h⟩
theorem pds_one (h1 : PDS Y st s1 t) : PDSs Y [st] s1 t := ⟨pss_one h1.p, h1.s⟩
def sRet (te : DE) (DD : DEnds) (ρ : DEnv) (c : Nat) : Prop := te ρ c DD.rt
theorem pds_ret (h : PD Y e ee te) : PDS Y (.Return (some e) pos) (tRet ee) (sRet te) :=
  ⟨ps_ret h.p, fun P G H c ρ σ DD EE K R q => h.s G H c ρ σ _ _ R.r q fun d v G' H' c' ev r q => K.rt G' H' c' d v (R.r.evo.trans ev) r q⟩
def sRetN (DD : DEnds) (_ : DEnv) (c : Nat) : Prop := DD.rt .non c
theorem pds_retN : PDS Y (.Return none pos) tRetN sRetN := ⟨ps_retN, fun P G H c ρ σ DD EE K R q => K.rt G H c .non .non R.r.evo .non q⟩
def sBreak (DD : DEnds) (ρ : DEnv) (c : Nat) : Prop := DD.bk ρ c
def sCont (DD : DEnds) (ρ : DEnv) (c : Nat) : Prop := DD.ct ρ c
theorem pds_pass : PDS Y (.Pass pos) tNext sNext := ⟨ps_pass, fun _ _ _ _ _ _ _ _ K R h => K.nx _ _ _ _ _ R h⟩
theorem pds_break : PDS Y (.Break pos) tBreak sBreak := ⟨ps_break, fun _ _ _ _ _ _ _ _ K R h => K.bk _ _ _ _ _ R h⟩
theorem pds_cont : PDS Y (.Continue pos) tCont sCont := ⟨ps_continue, fun _ _ _ _ _ _ _ _ K R h => K.ct _ _ _ _ _ R h⟩
def sIf (tc : DT) (t u : DS) (DD : DEnds) (ρ : DEnv) (c : Nat) : Prop := tc ρ c fun b c1 => if b = true then t DD ρ c1 else u DD ρ c1
theorem pds_if (hc : PDT Y f eA tA) (ha : PDSs Y body s1 t) (hb : PDSs Y orelse s2 u) : PDS Y (.If f body orelse pos) (tIfS eA s1 s2) (sIf tA t u) :=
  ⟨ps_if hc.p ha.p hb.p, fun P G H c ρ σ DD EE K R q => hc.s G H c ρ σ _ _ R.r q fun b G1 H1 c1 ev q => by
    cases b with
    | true => rw [if_pos rfl] at q ⊢; exact ha.s P G1 H1 c1 ρ σ DD EE K (R.evo ev) q
    | false => rw [if_neg Bool.false_ne_true] at q ⊢; exact hb.s P G1 H1 c1 ρ σ DD EE K (R.evo ev) q⟩
def sDrop (te : DE) (DD : DEnds) (ρ : DEnv) (c : Nat) : Prop := te ρ c fun _ c1 => DD.nx ρ c1
theorem pds_expr (h : PD Y e ee te) (hs : swapsWith e none pos.line Y.X.env = pure false := by rfl) : PDS Y (.Expr e pos) (tDrop ee) (sDrop te) :=
  ⟨ps_expr h.p hs, fun P G H c ρ σ DD EE K R q => h.s G H c ρ σ _ _ R.r q fun d v G' H' c' ev r q => K.nx G' H' c' ρ σ (R.evo ev) q⟩
def sSet (i : Nat) (te : DE) (DD : DEnds) (ρ : DEnv) (c : Nat) : Prop := te ρ c fun d c1 => DD.nx (ρ.set i (.fz d)) c1
theorem pds_set (i : Nat) {x : Str} {pos' : Pos} (hN : Y.X.N.Nodup) (h : PD Y e ee te) (hi : Y.X.N[i]? = some x := by rfl) (hx : Loc Y.X.env.scope x := by first | exact Or.inl rfl | exact Or.inr rfl) (hs : swapsWith e (some (.Name x pos')) pos.line Y.X.env = pure false := by rfl)
    (hf : Y.X.fn x = true ∨ Y.X.env.scope.names.lookup x = some .local := by first | exact .inl rfl | exact .inr rfl) : PDS Y (.Assign [.Name x pos'] e pos) (tAsg ee (gName i)) (sSet i te) :=
  ⟨ps_set hN hi hx h.p hs hf, fun P G H c ρ σ DD EE K R q => h.s G H c ρ σ _ _ R.r q fun d v G' H' c' ev r q => K.nx G' H' c' _ _ ⟨(R.r.evo' ev).set_fz r i, R.le.trans ev.le⟩ q⟩
/-- x op= e -/
def sAug (i : Nat) (te : DE) (rd : RD2) (DD : DEnds) (ρ : DEnv) (c : Nat) : Prop := ∃ x, ρ[i]? = some (.fz x) ∧ te ρ c fun y c1 => rd x y c1 fun z c2 => DD.nx (ρ.set i (.fz z)) c2
theorem pds_aug (i : Nat) {x : Str} {op : Operator} {r : R2} {rd : RD2} {pos' : Pos} (hN : Y.X.N.Nodup) (ho : OpR Y.X (inplaceOp op) r) (br : Br2 Y.X.K r rd) (h : PD Y e ee te) (hi : Y.X.N[i]? = some x := by rfl) (hx : Loc Y.X.env.scope x := by first | exact Or.inl rfl | exact Or.inr rfl)
    (hf : Y.X.fn x = true ∨ Y.X.env.scope.names.lookup x = some .local := by first | exact .inl rfl | exact .inr rfl) : PDS Y (.AugAssign (.Name x pos') op e pos) (tAug i ee r) (sAug i te rd) :=
  ⟨ps_aug hN hi hx h.p ho hf, fun P G H c ρ σ DD EE K R q => by
    obtain ⟨x, e1, q⟩ := q
    obtain ⟨o, e2, v, rfl, rv⟩ := R.r.sl i _ e1
    refine ⟨v, e2, h.s G H c ρ σ _ _ R.r q fun d y G1 H1 c1 ev r1 q1 => ?_⟩
    refine br G1 H1 c1 v y x d _ _ ev.ok (rv.mono ev.le) r1 q1 fun z w G2 H2 c2 ev2 r2 q2 => ?_
    exact K.nx G2 H2 c2 _ _ ⟨(R.r.evo' (ev.trans ev2)).set_fz r2 i, R.le.trans (ev.trans ev2).le⟩ q2⟩
/-- ahead of a block, a list of the frame's own is settled -/
def sFreeze (i : Nat) (t : DS) (DD : DEnds) (ρ : DEnv) (c : Nat) : Prop := ∃ ds, ρ[i]? = some (.ol ds) ∧ t DD (ρ.set i (.fz (.lst ds))) c
theorem pds_freeze (i : Nat) (h : PDSs Y rest s1 t) : PDSs Y rest s1 (sFreeze i t) := ⟨h.p, fun P G H c ρ σ DD EE K R q => by
  obtain ⟨ds, e, q⟩ := q
  obtain ⟨G', R'⟩ := R.freeze e
  exact h.s P G' H c _ σ DD EE K R' q⟩
def sNever (_ : DEnds) (_ : DEnv) (_ : Nat) : Prop := False
theorem pds_never : PDS Y st tNever sNever := ⟨ps_never, fun _ _ _ _ _ _ _ _ _ _ h => h.elim⟩
def sWhile (tc : DT) (tb : DS) (DD : DEnds) (ρ : DEnv) (c : Nat) : Prop := ∃ I : Nat → DEnv → Nat → Prop, (∃ m, I m ρ c) ∧ ∀ m ρ c, I m ρ c →
  tc ρ c fun b c1 => if b = true then tb { DD with nx := fun ρ' c' => ∃ m', m' < m ∧ I m' ρ' c', ct := fun ρ' c' => ∃ m', m' < m ∧ I m' ρ' c', bk := DD.nx } ρ c1 else DD.nx ρ c1
theorem pds_while (hp : PassesOwn (model Y.X.prog Y.X.w) Y.X.A Y.X.env Y.X.xe) (hc : PDT Y f eA tA) (hb : PDSs Y body s1 t) : PDS Y (.While f body [] pos) (tWhile eA s1) (sWhile tA t) :=
  ⟨ps_while hp hc.p hb.p, fun P G H c ρ σ DD EE K R q => by
    obtain ⟨I, ⟨m0, i0⟩, step⟩ := q
    refine ⟨fun m σ H => ∃ G c ρ, RelP Y P G H c ρ σ ∧ I m ρ c, ⟨m0, G, c, ρ, R, i0⟩, ?_⟩
    rintro m σ H ⟨G, c, ρ, R, im⟩
    refine hc.s G H c ρ σ _ _ R.r (step m ρ c im) fun b G1 H1 c1 ev q => ?_
    cases b with
    | false => rw [if_neg Bool.false_ne_true] at q ⊢; exact K.nx G1 H1 c1 ρ σ (R.evo ev) q
    | true =>
      rw [if_pos rfl] at q ⊢
      refine ⟨fun σ' H' => ∃ m', m' < m ∧ ∃ G c ρ, RelP Y P G H' c ρ σ' ∧ I m' ρ c, fun σ' H' ⟨m', l, z⟩ => ⟨m', l, z⟩, ?_⟩
      refine hb.s P G1 H1 c1 ρ σ _ _ ?_ (R.evo ev) q
      exact ⟨fun G H c ρ σ R ⟨m', l, z⟩ => ⟨m', l, G, c, ρ, R, z⟩, K.rt, K.nx, fun G H c ρ σ R ⟨m', l, z⟩ => ⟨m', l, G, c, ρ, R, z⟩⟩⟩
end

/-! ### targets -/
abbrev DG := D → DEnv → Nat → (DEnv → Nat → Prop) → Prop
abbrev DGs := List D → DEnv → Nat → (DEnv → Nat → Prop) → Prop
/-- the slots that are not in vs are left as they were -/
def Off (vs : List Nat) (σ σ' : L2.St) : Prop := ∀ ws : List Nat, (∀ i, i ∈ vs → i ∈ ws) → wipe σ' ws = wipe σ ws
theorem wipe_set {σ : L2.St} {i : Nat} {o : Option V} : ∀ {ws : List Nat}, i ∈ ws → wipe (σ.set i o) ws = wipe σ ws
  | [], h => by cases h
  | w :: ws, h => by
    have key : ∀ ws : List Nat, i ∈ ws ∨ wipe (σ.set i o) ws = (wipe σ ws).set i o := by
      intro ws
      induction ws with
      | nil => exact .inr rfl
      | cons w ws ih =>
        by_cases e : i = w
        · exact .inl (e ▸ List.mem_cons_self)
        · rcases ih with h | h
          · exact .inl (List.mem_cons_of_mem _ h)
          · refine .inr ?_
            show (wipe (σ.set i o) ws).set w none = ((wipe σ ws).set w none).set i o
            rw [h, List.set_comm _ _ e]
    show (wipe (σ.set i o) ws).set w none = (wipe σ ws).set w none
    by_cases hm : i ∈ ws
    · rw [wipe_set hm]
    · have e : i = w := by
        rcases List.mem_cons.mp h with e | e
        · exact e
        · exact absurd e hm
      rcases key ws with h | h
      · exact absurd h hm
      · rw [h, e, List.set_set]
def SimG (Y : Ctx) (gg : TG) (g : DG) (vs : List Nat) : Prop := ∀ G H c ρ σ d v (Qd : DEnv → Nat → Prop) (Q : L2.St → Hp → Prop), Rel Y G H c ρ σ → Rp Y.X.K G v d → g d ρ c Qd →
  (∀ ρ' σ', Rel Y G H c ρ' σ' → Off vs σ σ' → Qd ρ' c → Q σ' H) → gg v σ H Q
structure PDG (Y : Ctx) (tg : Expr) (gg : TG) (g : DG) (vs : List Nat) : Prop where
  p : PG Y.X tg gg
  s : SimG Y gg g vs
def SimGs (Y : Ctx) (gg : TGs) (g : DGs) (vs : List Nat) : Prop := ∀ G H c ρ σ ds xs (Qd : DEnv → Nat → Prop) (Q : L2.St → Hp → Prop), Rel Y G H c ρ σ → RpAll Y.X.K G xs ds → g ds ρ c Qd →
  (∀ ρ' σ', Rel Y G H c ρ' σ' → Off vs σ σ' → Qd ρ' c → Q σ' H) → gg xs σ H Q
structure PDGs (Y : Ctx) (tgs : List Expr) (gg : TGs) (g : DGs) (vs : List Nat) : Prop where
  p : PGs Y.X tgs gg
  s : SimGs Y gg g vs
def kName (i : Nat) (d : D) (ρ : DEnv) (c : Nat) (Q : DEnv → Nat → Prop) : Prop := Q (ρ.set i (.fz d)) c
def kNil (ds : List D) (ρ : DEnv) (c : Nat) (Q : DEnv → Nat → Prop) : Prop := ds = [] ∧ Q ρ c
def kCons (g : DG) (r : DGs) (ds : List D) (ρ : DEnv) (c : Nat) (Q : DEnv → Nat → Prop) : Prop := ∃ d es, ds = d :: es ∧ g d ρ c fun ρ' c' => r es ρ' c' Q
def kTup (n : Nat) (g : DGs) (d : D) (ρ : DEnv) (c : Nat) (Q : DEnv → Nat → Prop) : Prop := ∃ ds, d = .tup ds ∧ ds.length = n ∧ g ds ρ c Q
section
variable {Y : Ctx} {pos : Pos} {e : Expr} {es : List Expr} {gg : TG} {g : DG} {ggs : TGs} {gs : DGs} {vs ws : List Nat} {ee : TE} {te : DE}
theorem pdg_name (i : Nat) {x : Str} (hN : Y.X.N.Nodup) (hi : Y.X.N[i]? = some x := by rfl) (hx : Loc Y.X.env.scope x := by first | exact Or.inl rfl | exact Or.inr rfl) (hf : Y.X.fn x = true ∨ Y.X.env.scope.names.lookup x = some .local := by first | exact .inl rfl | exact .inr rfl) : PDG Y (.Name x pos) (gName i) (kName i) [i] :=
  ⟨pg_name hN hi hx hf, fun G H c ρ σ d v Qd Q R r h k => k _ _ (R.set_fz r i) (fun ws hw => wipe_set (hw i List.mem_cons_self)) h⟩
theorem pdg_nil : PDGs Y [] gNil kNil [] := ⟨pgs_nil, fun G H c ρ σ ds xs Qd Q R r h k => by
  obtain ⟨rfl, h⟩ := h
  cases r
  exact ⟨rfl, k _ _ R (fun _ _ => rfl) h⟩⟩
theorem pdg_cons (h1 : PDG Y e gg g vs) (h2 : PDGs Y es ggs gs ws) (hs : (assignEach (e :: es) Y.X.env).map (·.2) = assign e Y.X.env :: (assignEach es Y.X.env).map (·.2) := by rfl) : PDGs Y (e :: es) (gCons gg ggs) (kCons g gs) (vs ++ ws) :=
  ⟨pgs_cons h1.p h2.p hs, fun G H c ρ σ ds xs Qd Q R r h k => by
    obtain ⟨d, es, rfl, h⟩ := h
    cases r with
    | cons r1 r2 =>
      refine ⟨_, _, rfl, h1.s G H c ρ σ d _ _ _ R r1 h fun ρ1 σ1 R1 o1 q1 => h2.s G H c ρ1 σ1 es _ _ _ R1 r2 q1 fun ρ2 σ2 R2 o2 q2 => k ρ2 σ2 R2 (fun l hl => ?_) q2⟩
      rw [o2 l fun i hi => hl i (List.mem_append_right _ hi), o1 l fun i hi => hl i (List.mem_append_left _ hi)]⟩
theorem pdg_tup {k n : Nat} (hc : Y.X.calm = true) (h : PDGs Y es ggs gs vs) (hn : (assignEach es Y.X.env).length = n := by rfl) (hst : (assignEach es Y.X.env).findIdx? (·.1) = none := by rfl) : PDG Y (.Tuple es k pos) (gTup Y.X.K n ggs) (kTup n gs) vs :=
  ⟨pg_tup hc h.p hn hst, fun G H c ρ σ d v Qd Q R r hw k => by
    obtain ⟨ds, rfl, hl, hw⟩ := hw
    cases r with
    | tup h1 h2 =>
      exact ⟨_, _, rfl, SqT.same R.ok.same h1, by rw [h2.length]; exact hl, h.s G H c ρ σ ds _ _ _ R h2 hw k⟩⟩
/-- target = e -/
def sAsg (te : DE) (g : DG) (DD : DEnds) (ρ : DEnv) (c : Nat) : Prop := te ρ c fun d c1 => g d ρ c1 DD.nx
theorem pds_asg {tg : Expr} (h : PD Y e ee te) (hg : PDG Y tg gg g vs) (hs : swapsWithSole [tg] e pos.line Y.X.env = pure false := by rfl) (hw : swappedStores [tg] e Y.X.env = pure none := by rfl)
    (h1 : (assignEach [tg] Y.X.env).map (·.2) = [assign tg Y.X.env] := by rfl) : PDS Y (.Assign [tg] e pos) (tAsg ee gg) (sAsg te g) :=
  ⟨ps_asg h.p hg.p hs hw h1, fun P G H c ρ σ DD EE K R q => h.s G H c ρ σ _ _ R.r q fun d v G' H' c' ev r q =>
    hg.s G' H' c' ρ σ d v _ _ (R.r.evo' ev) r q fun ρ' σ' R' _ q' => K.nx G' H' c' ρ' σ' ⟨R', R.le.trans ev.le⟩ q'⟩
end

/-! ### what is walked -/
/-- the walk J gives the items L, from G on -/
def WalkD (K : PySem.W.Frag) (J : It) (L : List D) (G0 : GS) : Prop := ∀ G H c, G0.Le G → G.Ok H c →
  (∀ i d, L[i]? = some d → J.go i H ∧ ∀ x H', J.yld i H x H' → ∃ G', Evo G H c G' H' c ∧ Rp K G' x d) ∧ J.stop L.length H
abbrev DI := DEnv → Nat → (List D → Nat → Prop) → Prop
def SimI (Y : Ctx) (wi : TI) (ti : DI) : Prop := ∀ G H c ρ σ (Qd : List D → Nat → Prop) (R : It → Hp → Prop), Rel Y G H c ρ σ → ti ρ c Qd →
  (∀ L J G1 H1 c1, Evo G H c G1 H1 c1 → WalkD Y.X.K J L G1 → Qd L c1 → R J H1) → wi σ H R
structure PDI (Y : Ctx) (tg iter : Expr) (wi : TI) (ti : DI) : Prop where
  p : PI Y.X tg iter wi
  s : SimI Y wi ti
section
variable {Y : Ctx} {pos : Pos} {e tg : Expr} {ee : TE} {te : DE}
theorem walkD_list {K : PySem.W.Frag} {a : Addr} {xs : List V} {ds : List D} {G0 : GS} (h : SqL K G0.f a xs) (r : RpAll K G0 xs ds) : WalkD K (Itl K a) ds G0 := by
  intro G H c le ok
  have hq : SqL K H a xs := SqL.same (le.f.trans ok.same) h
  refine ⟨fun i d hd => ?_, ⟨xs, hq, by rw [r.length]; exact Nat.le_refl _⟩⟩
  obtain ⟨v, hv, rv⟩ := r.get hd
  refine ⟨⟨xs, v, hq, hv⟩, fun x H' y => ?_⟩
  obtain ⟨rfl, y⟩ := y
  have e := y xs hq
  rw [hv] at e
  cases e
  exact ⟨G, Evo.refl ok, rv.mono le⟩
end
end PL

namespace PL
open PySem PySem.Spec PyProof.Rows L2

theorem walkD_tup {K : PySem.W.Frag} {a : Addr} {xs : List V} {ds : List D} {G0 : GS} (h : SqT K G0.f a xs) (r : RpAll K G0 xs ds) : WalkD K (Itt K a) ds G0 := by
  intro G H c le ok
  have hq : SqT K H a xs := SqT.same (le.f.trans ok.same) h
  refine ⟨fun i d hd => ?_, ⟨xs, hq, by rw [r.length]; exact Nat.le_refl _⟩⟩
  obtain ⟨v, hv, rv⟩ := r.get hd
  refine ⟨⟨xs, v, hq, hv⟩, fun x H' y => ?_⟩
  obtain ⟨rfl, y⟩ := y
  have e := y xs hq
  rw [hv] at e
  cases e
  exact ⟨G, Evo.refl ok, rv.mono le⟩
/-- the signs of a text, each a text -/
def signs (x : Str) : List D := x.cps.toList.map fun c => D.str ⟨#[c]⟩
theorem signs_get {x : Str} {i : Nat} {d : D} (h : (signs x)[i]? = some d) : ∃ c, x.cps[i]? = some c ∧ d = .str ⟨#[c]⟩ := by
  unfold signs at h
  rw [List.getElem?_map] at h
  cases e : x.cps.toList[i]? with
  | none => rw [e] at h; cases h
  | some c => rw [e] at h; cases h; exact ⟨c, by simpa using e, rfl⟩
theorem walkD_str {K : PySem.W.Frag} (x : Str) (G0 : GS) : WalkD K (Its x) (signs x) G0 := by
  intro G H c le ok
  have hl : (signs x).length = x.cps.size := by simp [signs]
  refine ⟨fun i d hd => ?_, by show x.cps.size ≤ _; omega⟩
  obtain ⟨k, hk, rfl⟩ := signs_get hd
  have hi : i < x.cps.size := (Array.getElem?_eq_some_iff.mp hk).1
  refine ⟨hi, fun v H' y => ?_⟩
  obtain ⟨rfl, k', hk', rfl⟩ := y
  rw [hk] at hk'
  cases hk'
  exact ⟨G, Evo.refl ok, .str _⟩
/-- lo, lo + 1, .. (n of them) -/
def upInts (lo : Int) (n : Nat) : List D := (List.range n).map fun i => D.int (lo + (i : Nat))
theorem upInts_get {lo : Int} {n i : Nat} {d : D} (h : (upInts lo n)[i]? = some d) : i < n ∧ d = .int (lo + (i : Nat)) := by
  unfold upInts at h
  rw [List.getElem?_map] at h
  by_cases e : i < n
  · rw [List.getElem?_range e] at h
    cases h
    exact ⟨e, rfl⟩
  · rw [List.getElem?_eq_none (by simpa using e)] at h; cases h
theorem upInts_length (lo : Int) (n : Nat) : (upInts lo n).length = n := by simp [upInts]
theorem walkD_range {K : PySem.W.Frag} (lo : Int) (n : Nat) (G0 : GS) : WalkD K (Itr lo n) (upInts lo n) G0 := by
  intro G H c le ok
  refine ⟨fun i d hd => ?_, by show n ≤ _; rw [upInts_length]; exact Nat.le_refl _⟩
  obtain ⟨hi, rfl⟩ := upInts_get hd
  refine ⟨hi, fun v H' y => ?_⟩
  obtain ⟨rfl, rfl⟩ := y
  exact ⟨G, Evo.refl ok, .int _⟩
/-- with their places -/
def numbered (k : Nat) : List D → List D
  | [] => []
  | d :: ds => .tup [.int (k : Nat), d] :: numbered (k + 1) ds
theorem numbered_length : ∀ (k : Nat) (ds : List D), (numbered k ds).length = ds.length
  | _, [] => rfl
  | k, d :: ds => congrArg (· + 1) (numbered_length (k + 1) ds)
theorem numbered_get : ∀ {k : Nat} {ds : List D} {i : Nat} {d : D}, (numbered k ds)[i]? = some d → ∃ e, ds[i]? = some e ∧ d = .tup [.int ((k + i : Nat) : Int), e]
  | k, [], i, d, h => by simp [numbered] at h
  | k, e :: ds, 0, d, h => by
    refine ⟨e, rfl, ?_⟩
    simp [numbered] at h
    exact h.symm
  | k, e :: ds, i + 1, d, h => by
    have h : (numbered (k + 1) ds)[i]? = some d := by simpa [numbered] using h
    obtain ⟨f, h1, h2⟩ := numbered_get h
    refine ⟨f, by simpa using h1, ?_⟩
    rw [h2, show k + 1 + i = k + (i + 1) by omega]
theorem walkD_enum {K : PySem.W.Frag} {J : It} {xs : List V} {ds : List D} {G0 : GS} (r : RpAll K G0 xs ds)
    (hg : ∀ i x G H, G0.Le G → Same G.f H → xs[i]? = some x → J.go i H) (hs : ∀ G H, G0.Le G → Same G.f H → J.stop xs.length H)
    (hy : ∀ i v G H H', G0.Le G → Same G.f H → J.yld i H v H' → ∃ T x, v = .ref T ∧ H T = none ∧ H' = upd H T (.tup [.int (i : Nat), x]) ∧ xs[i]? = some x) : WalkD K J (numbered 0 ds) G0 := by
  intro G H c le ok
  refine ⟨fun i d hd => ?_, by rw [numbered_length, ← r.length]; exact hs G H le ok.same⟩
  obtain ⟨e, he, rfl⟩ := numbered_get hd
  obtain ⟨x, hx, rx⟩ := r.get he
  refine ⟨hg i x G H le ok.same hx, fun v H' y => ?_⟩
  obtain ⟨T, x', rfl, hT, rfl, hx'⟩ := hy i v G H H' le ok.same y
  rw [hx] at hx'
  cases hx'
  refine ⟨_, Evo.laid ok _ hT, ?_⟩
  rw [Nat.zero_add]
  exact Rp.newTup ok hT (.cons (.int _) (.cons (rx.mono le) .nil))

section
variable {Y : Ctx} {pos : Pos} {e tg : Expr} {es : List Expr} {ee : TE} {te : DE} {fa : TA} {t : DA} {wi : TI} {ti : DI}
/-- what is walked by itself: a list, a tuple, a text -/
def iAny (K : PySem.W.Frag) (tl : TE) : TI := fun σ H R => tl σ H fun x H1 =>
  (∃ a, x = .ref a ∧ (∃ xs, SqL K H1 a xs) ∧ R (Itl K a) H1) ∨ (∃ a, x = .ref a ∧ (∃ xs, SqT K H1 a xs) ∧ R (Itt K a) H1) ∨ ∃ z, x = .str z ∧ R (Its z) H1
theorem pi_any {X : Cx} {l : Expr} {tl : TE} (hl : PE X l tl) : PI X tg l (iAny X.K tl) := by
  refine ⟨fun pins s σ H R I h => thn (hl.run pins s σ H _ I h) fun v s1 ⟨x, H1, I1, r1, q1⟩ => ?_⟩
  have one : ∀ {b : Addr} {it : Addr}, b ∈ [it] → b = it := fun h => by simpa using h
  rcases q1 with ⟨a, rfl, ⟨xs, hq⟩, q⟩ | ⟨a, rfl, ⟨xs, hq⟩, q⟩ | ⟨z, rfl, q⟩
  · cases r1
    obtain ⟨its, rv, p, hz⟩ := I1.list hq
    exact wpAny_pyIter_list p.isList ⟨s1.heap.objs.size, _, _, _, H1, rfl, I1.kept (t' := s1.toks) fun b o e => Heap.get?_push_of_some _ e, turn_list a _, ⟨_, Heap.get?_push_size _ rfl, rfl, rfl⟩, fun b hb => by
      rw [one hb]; exact I1.fpOk (Nat.le_refl _) (I1.hok.fresh (Nat.le_refl _)), q⟩
  · cases r1
    obtain ⟨its, rv, p, hz⟩ := I1.tuple hq
    exact wpAny_pyIter_tuple (show s1.heap.IsTuple a its.toArray from p) ⟨s1.heap.objs.size, _, _, _, H1, rfl, I1.kept (t' := s1.toks) fun b o e => Heap.get?_push_of_some _ e, turn_tuple a _, ⟨_, Heap.get?_push_size _ rfl, rfl, rfl⟩, fun b hb => by
      rw [one hb]; exact I1.fpOk (Nat.le_refl _) (I1.hok.fresh (Nat.le_refl _)), q⟩
  · obtain ⟨tk, rfl⟩ := r1
    refine wpAny_pyIter_strU ⟨s1.heap.objs.size, _, _, _, H1, rfl, I1.kept (t' := s1.toks) fun b o e => Heap.get?_push_of_some _ e, turn_str (s1.heap.objs.size) z tk (strIterType z) ?_, ⟨_, Heap.get?_push_size _ rfl, rfl, rfl⟩, fun b hb => by
      rw [one hb]; exact I1.fpOk (Nat.le_refl _) (I1.hok.fresh (Nat.le_refl _)), q⟩
    unfold strIterType
    split
    · exact .inl rfl
    · exact .inr rfl
/-- the items of a value that is walked -/
def items : D → Option (List D)
  | .lst l => some l
  | .tup l => some l
  | .str x => some (signs x)
  | _ => none
def diAny (te : DE) (ρ : DEnv) (c : Nat) (Q : List D → Nat → Prop) : Prop := te ρ c fun d c1 => ∃ L, items d = some L ∧ Q L c1
theorem pdi_any (h : PD Y e ee te) : PDI Y tg e (iAny Y.X.K ee) (diAny te) := by
  refine ⟨pi_any h.p, fun G H c ρ σ Qd R Rl q k => ?_⟩
  refine h.s G H c ρ σ _ _ Rl q fun d v G1 H1 c1 ev r q => ?_
  obtain ⟨L, e, q⟩ := q
  cases r with
  | lst h1 h2 => cases e; exact .inl ⟨_, rfl, ⟨_, ev.ok.sq h1⟩, k _ _ G1 H1 c1 ev (walkD_list (SqL.of h1) h2) q⟩
  | tup h1 h2 => cases e; exact .inr (.inl ⟨_, rfl, ⟨_, SqT.same ev.ok.same h1⟩, k _ _ G1 H1 c1 ev (walkD_tup h1 h2) q⟩)
  | str x => cases e; exact .inr (.inr ⟨_, rfl, k _ _ G1 H1 c1 ev (walkD_str x G1) q⟩)
  | _ => cases e
def diRng1 (t : DA) (ρ : DEnv) (c : Nat) (Q : List D → Nat → Prop) : Prop := t ρ c fun ds c1 => ∃ j : Int, ds = [.int j] ∧ -(2 ^ 62) ≤ j ∧ j < 2 ^ 62 ∧ Q (upInts 0 j.toNat) c1
theorem pdi_range1 {a : Expr} {p : Pos} (hm : Y.X.mg "range" = none) (ha : PDA Y [a] fa t) (hg : Gl Y.X "range" := by rfl) (hs : starEach [a] Y.X.env = [(false, eval a Y.X.env)] := by rfl) :
    PDI Y tg (.Call (.Name "range" p) [a] [] pos) (iRng1 fa) (diRng1 t) := by
  refine ⟨pi_range1 hg hm ha.p hs, fun G H c ρ σ Qd R Rl q k => ?_⟩
  refine ha.s G H c ρ σ _ _ Rl q fun ds vs G1 H1 c1 ev r q => ?_
  obtain ⟨j, rfl, h1, h2, q⟩ := q
  cases r with
  | cons r rr => cases rr; cases r; exact ⟨j, rfl, h1, h2, k _ _ G1 H1 c1 ev (walkD_range 0 _ G1) q⟩
def diRng2 (t : DA) (ρ : DEnv) (c : Nat) (Q : List D → Nat → Prop) : Prop := t ρ c fun ds c1 => ∃ i j : Int, ds = [.int i, .int j] ∧ (-(2 ^ 62) ≤ i ∧ i < 2 ^ 62 ∧ -(2 ^ 62) ≤ j ∧ j < 2 ^ 62) ∧ Q (upInts i (j - i).toNat) c1
theorem pdi_range2 {a b : Expr} {p : Pos} (hm : Y.X.mg "range" = none) (ha : PDA Y [a, b] fa t) (hg : Gl Y.X "range" := by rfl) (hs : starEach [a, b] Y.X.env = [(false, eval a Y.X.env), (false, eval b Y.X.env)] := by rfl)
    (hs2 : starEach [b] Y.X.env = [(false, eval b Y.X.env)] := by rfl) : PDI Y tg (.Call (.Name "range" p) [a, b] [] pos) (iRng2 fa) (diRng2 t) := by
  refine ⟨pi_range2 hg hm ha.p hs hs2, fun G H c ρ σ Qd R Rl q k => ?_⟩
  refine ha.s G H c ρ σ _ _ Rl q fun ds vs G1 H1 c1 ev r q => ?_
  obtain ⟨i, j, rfl, hb, q⟩ := q
  cases r with
  | cons r rr =>
    cases rr with
    | cons r' rr => cases rr; cases r; cases r'; exact ⟨i, j, rfl, hb, k _ _ G1 H1 c1 ev (walkD_range i _ G1) q⟩

/-! ### for -/
def ForB (g : DG) (tb : DS) (DD : DEnds) (ρ : DEnv) (L : List D) (c1 : Nat) : Prop := ∃ I : Nat → DEnv → Nat → Prop, I 0 ρ c1 ∧
  (∀ k x ρ c, L[k]? = some x → I k ρ c → g x ρ c fun ρ' c' => tb { DD with nx := I (k + 1), ct := I (k + 1), bk := DD.nx } ρ' c') ∧ ∀ ρ c, I L.length ρ c → DD.nx ρ c
def sFor (ti : DI) (g : DG) (tb : DS) (DD : DEnds) (ρ : DEnv) (c : Nat) : Prop := ti ρ c fun L c1 => ForB g tb DD ρ L c1
theorem pds_for {body : List Stmt} {gg : TG} {g : DG} {vs : List Nat} {ts : TS} {tb : DS} (hp : PassesOwn (model Y.X.prog Y.X.w) Y.X.A Y.X.env Y.X.xe) (hc : Y.X.calm = true) (hi : PDI Y tg e wi ti) (hg : PDG Y tg gg g vs) (hb : PDSs Y body ts tb)
    (hs : ∀ x, foldedSetIterable e Y.X.env x = pure x := by intro _; rfl) : PDS Y (.For tg e body [] pos) (tFor wi gg ts) (sFor ti g tb) := by
  refine ⟨ps_for hp hc hi.p hg.p hb.p hs, fun P G H c ρ σ DD EE K R q => ?_⟩
  refine hi.s G H c ρ σ _ _ R.r q fun L J G1 H1 c1 ev wk q => ?_
  obtain ⟨I, i0, step, fin⟩ := q
  refine ⟨fun i m σ H => m = L.length - i ∧ i ≤ L.length ∧ ∃ G c ρ, RelP Y G1 G H c ρ σ ∧ I i ρ c, ⟨_, rfl, Nat.zero_le _, G1, c1, ρ, ⟨R.r.evo' ev, GS.Le.refl _⟩, i0⟩, ?_⟩
  rintro i m σ H ⟨rfl, hi, G, c, ρ, R1, ii⟩
  obtain ⟨wgo, wst⟩ := wk G H c R1.le R1.r.ok
  by_cases hlt : i < L.length
  · refine .inr ⟨(wgo i L[i] (by simp [hlt])).1, fun σ' H' => ∃ G c ρ, RelP Y G1 G H' c ρ σ' ∧ I (i + 1) ρ c, fun σ' H' z => ⟨L.length - (i + 1), by omega, rfl, hlt, z⟩, fun x H' y => ?_⟩
    obtain ⟨G', e', r'⟩ := (wgo i L[i] (by simp [hlt])).2 x H' y
    have R2 := R1.evo e'
    refine hg.s G' H' c ρ σ L[i] x _ _ R2.r r' (step i _ ρ c (by simp [hlt]) ii) fun ρ2 σ2 R3 _ q2 => ?_
    refine hb.s G1 G' H' c ρ2 σ2 _ _ ?_ ⟨R3, R2.le⟩ q2
    exact ⟨fun G H c ρ σ R z => ⟨G, c, ρ, R, z⟩, K.rt, fun G H c ρ σ R' z => K.nx G H c ρ σ ⟨R'.r, (GS.Le.trans R.le ev.le).trans R'.le⟩ z, fun G H c ρ σ R z => ⟨G, c, ρ, R, z⟩⟩
  · have e : i = L.length := by omega
    subst e
    exact .inl ⟨wst, K.nx G H c ρ σ ⟨R1.r, GS.Le.trans (GS.Le.trans R.le ev.le) R1.le⟩ (fin ρ c ii)⟩
end
end PL

namespace PL
open PySem PySem.Spec PyProof.Rows L2

/-! ### lists of the frame's own -/
section
variable {Y : Ctx} {P G G1 : GS} {H H1 : Hp} {c c1 : Nat} {ρ : DEnv} {σ : L2.St}
theorem Rel.dropLast {s : Sl} {o : Option V} (R : Rel Y G H c (ρ ++ [s]) (σ ++ [o])) : Rel Y G H c ρ σ := by
  have hl : ρ.length = σ.length := by have := R.len; simpa using this
  have up : ∀ {i : Nat} {t : Sl}, ρ[i]? = some t → (ρ ++ [s])[i]? = some t ∧ (σ ++ [o])[i]? = σ[i]? := fun {i t} e => by
    have hi : i < ρ.length := (List.getElem?_eq_some_iff.mp e).1
    exact ⟨by rw [List.getElem?_append_left hi]; exact e, by rw [List.getElem?_append_left (by omega)]⟩
  refine ⟨R.ok, R.evo, hl, fun i t e => ?_, fun i j t u ne e1 e2 h1 h2 => ?_, R.lo⟩
  · obtain ⟨a, b⟩ := up e
    rw [← b]
    exact R.sl i t a
  · obtain ⟨a1, b1⟩ := up e1
    obtain ⟨a2, b2⟩ := up e2
    rw [← b1, ← b2]
    exact R.sep i j t u ne a1 a2 h1 h2
/-- what a list of the frame's own holds is changed -/
theorem Rel.put {i : Nat} {a : Addr} {xs : List V} {ds es : List D} (R : Rel Y G H c ρ σ) (hi : ρ[i]? = some (.ol ds)) (hs : σ[i]? = some (some (.ref a))) (r : RpAll Y.X.K G xs es) :
    Rel Y G (upd H a (.lst xs)) c (ρ.set i (.ol es)) σ := by
  obtain ⟨o, e1, b, ys, rfl, h1, h2, h3, h4, h5⟩ := R.sl i _ hi
  rw [hs] at e1
  cases e1
  have nf : ∀ b u, G.f b = some u → b ≠ a := fun b u e z => by subst z; rw [h1] at e; cases e
  have np : ∀ b, G.pu b → b ≠ a := fun b e z => h2 (z ▸ e)
  have n0 : ∀ b u, Y.H0 b = some u → b ≠ a := fun b u e z => by subst z; rw [h3] at e; cases e
  have ok : G.Ok (upd H a (.lst xs)) c := ⟨fun b u e => by rw [upd_ne (nf b u e)]; exact R.ok.same b u e, R.ok.npu, fun b hb => by rw [upd_ne (np b hb)]; exact R.ok.pu b hb⟩
  refine ⟨ok, ⟨ok, R.evo.le, R.evo.c, fun b u e n => by rw [upd_ne (n0 b u e)]; exact R.evo.keep b u e n, fun b hb => by rw [upd_ne (np b (R.evo.le.pu b hb))]; exact R.evo.pus b hb, R.evo.new, R.evo.npu⟩, by simp [R.len], fun j s e => ?_, fun j k s t ne e1 e2 q1 q2 => ?_, R.lo⟩
  · rcases getElem?_set_cases e with ⟨rfl, rfl, _⟩ | ⟨ne, e⟩
    · exact ⟨_, hs, a, xs, rfl, h1, h2, h3, upd_same, r⟩
    · obtain ⟨o', e2, q⟩ := R.sl j s e
      refine ⟨o', e2, ?_⟩
      cases s with
      | no => trivial
      | fz d => exact q
      | ol fs =>
        obtain ⟨b, zs, rfl, g1, g2, g3, g4, g5⟩ := q
        have nb : b ≠ a := fun z => by
          subst z
          exact R.sep i j _ _ (Ne.symm ne) hi e rfl rfl (hs.trans e2.symm)
        exact ⟨b, zs, rfl, g1, g2, g3, by rw [upd_ne nb]; exact g4, g5⟩
      | od ks fs =>
        obtain ⟨b, zs, rfl, g1, g2, g3, g4, g5⟩ := q
        have nb : b ≠ a := fun z => by
          subst z
          exact R.sep i j _ _ (Ne.symm ne) hi e rfl rfl (hs.trans e2.symm)
        exact ⟨b, zs, rfl, g1, g2, g3, by rw [upd_ne nb]; exact g4, g5⟩
  · have back : ∀ {j : Nat} {s : Sl}, (ρ.set i (.ol es))[j]? = some s → s.isOl = true → ∃ s', ρ[j]? = some s' ∧ s'.isOl = true := fun {j s} e q => by
      rcases getElem?_set_cases e with ⟨rfl, rfl, _⟩ | ⟨_, e⟩
      · exact ⟨_, hi, rfl⟩
      · exact ⟨_, e, q⟩
    obtain ⟨s', f1, w1⟩ := back e1 q1
    obtain ⟨t', f2, w2⟩ := back e2 q2
    exact R.sep j k s' t' ne f1 f2 w1 w2
theorem Rel.snoc_ol {a : Addr} (R : Rel Y G H c ρ σ) (h : H a = none) : Rel Y G (upd H a (.lst [])) c (ρ ++ [.ol []]) (σ ++ [some (.ref a)]) := by
  have ev : Evo G H c G (upd H a (.lst [])) c := Evo.laidU R.ok _ h
  have R1 := R.evo' ev
  have h0 : Y.H0 a = none := by
    cases q : Y.H0 a with
    | none => rfl
    | some u =>
      by_cases hp : Y.G0.pu a
      · obtain ⟨o, e⟩ := R.evo.pus a hp
        rw [h] at e; cases e
      · have e := R.evo.keep a u q hp
        rw [h] at e; cases e
  have key : ∀ {j : Nat} {s : Sl}, (ρ ++ [Sl.ol []])[j]? = some s → (ρ[j]? = some s ∧ (σ ++ [some (.ref a)])[j]? = σ[j]?) ∨ (s = .ol [] ∧ j = ρ.length ∧ (σ ++ [some (V.ref a)])[j]? = some (some (.ref a))) := fun {j s} e => by
    by_cases hj : j < ρ.length
    · rw [List.getElem?_append_left hj] at e
      exact .inl ⟨e, List.getElem?_append_left (by rw [← R.len]; exact hj)⟩
    · have hl : j < (ρ ++ [Sl.ol []]).length := (List.getElem?_eq_some_iff.mp e).1
      have ej : j = ρ.length := by simp at hl; omega
      subst ej
      rw [List.getElem?_append_right (Nat.le_refl _)] at e
      simp at e
      refine .inr ⟨e.symm, rfl, ?_⟩
      rw [List.getElem?_append_right (by rw [R.len]; exact Nat.le_refl _), R.len]
      simp
  have noa : ∀ (j : Nat) (s : Sl), ρ[j]? = some s → s.isOl = true → σ[j]? ≠ some (some (V.ref a)) := fun j s e q z => by
    obtain ⟨o, e1, r⟩ := R.sl j s e
    rw [z] at e1
    cases e1
    cases s with
    | no => cases q
    | fz d => cases q
    | ol ds =>
      obtain ⟨b, ys, eb, g1, g2, g3, g4, g5⟩ := r
      cases eb
      rw [h] at g4; cases g4
    | od ks ds =>
      obtain ⟨b, ys, eb, g1, g2, g3, g4, g5⟩ := r
      cases eb
      rw [h] at g4; cases g4
  refine ⟨R1.ok, R1.evo, by simp [R.len], fun j s e => ?_, fun j k s t ne e1 e2 q1 q2 => ?_, R1.lo⟩
  · rcases key e with ⟨e, q⟩ | ⟨rfl, _, q⟩
    · obtain ⟨o, e1, r⟩ := R1.sl j s e
      exact ⟨o, by rw [q]; exact e1, r⟩
    · exact ⟨_, q, a, [], rfl, R.ok.fnone h, R.ok.punone h, h0, upd_same, .nil⟩
  · rcases key e1 with ⟨f1, w1⟩ | ⟨rfl, j1, w1⟩
    · rcases key e2 with ⟨f2, w2⟩ | ⟨rfl, j2, w2⟩
      · rw [w1, w2]; exact R.sep j k s t ne f1 f2 q1 q2
      · rw [w1, w2]; exact noa j s f1 q1
    · rcases key e2 with ⟨f2, w2⟩ | ⟨rfl, j2, w2⟩
      · rw [w1, w2]; exact fun z => noa k t f2 q2 z.symm
      · exact absurd (j1.trans j2.symm) ne
theorem Evo.mut {a : Addr} {o : HO} (e : Evo G1 H1 c1 G H c) (h0 : H1 a = none) (hf : G.f a = none) (hp : ¬ G.pu a) : Evo G1 H1 c1 G (upd H a o) c where
  ok := ⟨fun b u q => by
      have : b ≠ a := fun z => by subst z; rw [hf] at q; cases q
      rw [upd_ne this]; exact e.ok.same b u q, e.ok.npu, fun b hb => by
      have : b ≠ a := fun z => hp (z ▸ hb)
      rw [upd_ne this]; exact e.ok.pu b hb⟩
  le := e.le
  c := e.c
  keep := fun b u q n => by rw [upd_ne (ne_of_none q h0)]; exact e.keep b u q n
  pus := fun b hb => by
    have : b ≠ a := fun z => hp (z ▸ e.le.pu b hb)
    rw [upd_ne this]; exact e.pus b hb
  new := e.new
  npu := e.npu
def wipeD (ρ : DEnv) : List Nat → DEnv
  | [] => ρ
  | v :: vs => (wipeD ρ vs).set v .no
theorem Rel.wipe (R : Rel Y G H c ρ σ) : ∀ vs : List Nat, Rel Y G H c (wipeD ρ vs) (L2.wipe σ vs)
  | [] => R
  | v :: vs => (R.wipe vs).set_no v none
theorem wipe_wipe (σ : L2.St) : ∀ (vs ws : List Nat), (∀ i, i ∈ vs → i ∈ ws) → L2.wipe (L2.wipe σ vs) ws = L2.wipe σ ws
  | [], _, _ => rfl
  | v :: vs, ws, h => by
    show L2.wipe ((L2.wipe σ vs).set v none) ws = _
    rw [wipe_set (h v List.mem_cons_self)]
    exact wipe_wipe σ vs ws fun i hi => h i (List.mem_cons_of_mem _ hi)
end

/-! ### comprehensions -/
def Ctx.blk (Y : Ctx) (s : Shared) (H : Hp) (scope : Scope) (cenv : Env) (fp : List Addr) : Ctx := { Y with X := Y.X.blk s H scope cenv fp, E := fun _ => E0, ED := fun _ _ _ _ _ => False }
theorem Rel.toBlk {Y : Ctx} {G : GS} {H : Hp} {c : Nat} {ρ : DEnv} {σ : L2.St} {s : Shared} {H' : Hp} {scope : Scope} {cenv : Env} {fp : List Addr} (R : Rel Y G H c ρ σ) : Rel (Y.blk s H' scope cenv fp) G H c ρ σ := ⟨R.ok, R.evo, R.len, R.sl, R.sep, R.lo⟩
theorem Rel.ofBlk {Y : Ctx} {G : GS} {H : Hp} {c : Nat} {ρ : DEnv} {σ : L2.St} {s : Shared} {H' : Hp} {scope : Scope} {cenv : Env} {fp : List Addr} (R : Rel (Y.blk s H' scope cenv fp) G H c ρ σ) : Rel Y G H c ρ σ := ⟨R.ok, R.evo, R.len, R.sl, R.sep, R.lo⟩
structure PDTs (Y : Ctx) (ifs : List Expr) (te : TT) (t : DT) : Prop where
  p : PTs Y.X ifs te
  s : SimT Y te t
def dtYes (_ : DEnv) (c : Nat) (Q : Bool → Nat → Prop) : Prop := Q true c
theorem pdts_nil {Y : Ctx} : PDTs Y [] tYes dtYes := ⟨pts_nil, fun G H c ρ σ Qd Q R h k => k true G H c (Evo.refl R.ok) h⟩
theorem pdts_one {Y : Ctx} {e : Expr} {eA : TT} {tA : DT} (h : PDT Y e eA tA) : PDTs Y [e] eA tA := ⟨pts_one h.p, h.s⟩
/-- the items L gone through -/
def LcB (g : DG) (tt : DT) (te : DE) (vs : List Nat) (ρ : DEnv) (L : List D) (c1 : Nat) (Q : QD) : Prop := ∃ I : Nat → List D → Nat → Prop, I 0 [] c1 ∧
  (∀ k x acc c, L[k]? = some x → I k acc c → g x (wipeD ρ vs) c fun ρ2 c2 => tt ρ2 c2 fun b c3 => if b = true then te ρ2 c3 fun y c4 => acc.length < sizeLine ∧ I (k + 1) (acc ++ [y]) c4 else I (k + 1) acc c3) ∧ ∀ acc c, I L.length acc c → Q (.lst acc) c
def dLc (ti : DI) (g : DG) (tt : DT) (te : DE) (vs : List Nat) (ρ : DEnv) (c : Nat) (Q : QD) : Prop := ti ρ c fun L c1 => LcB g tt te vs ρ L c1 Q
section
variable {Y : Ctx} {iter tg elt : Expr} {ifs : List Expr} {wi : TI} {ti : DI} {gg : TG} {g : DG} {vs : List Nat} {eA : TT} {tA : DT} {ee : TE} {te : DE} {scope : Scope} {own : List (Str × Nat)} {pos spos : Pos}
/-- what a comprehension's parts are, in every block -/
structure Blk (Y : Ctx) (tg elt : Expr) (ifs : List Expr) (scope : Scope) (gg : TG) (g : DG) (eA : TT) (tA : DT) (ee : TE) (te : DE) (vs : List Nat) : Prop where
  g : ∀ (s : Shared) (H : Hp) (C : Addr) (cl : List (Str × Addr)) (fp : List Addr), PDG (Y.blk s H scope (compEnvC scope cl C Y.X.env) fp) tg gg g vs
  t : ∀ (s : Shared) (H : Hp) (C : Addr) (cl : List (Str × Addr)) (fp : List Addr), PDTs (Y.blk s H scope (compEnvC scope cl C Y.X.env) fp) ifs eA tA
  e : ∀ (s : Shared) (H : Hp) (C : Addr) (cl : List (Str × Addr)) (fp : List Addr), PD (Y.blk s H scope (compEnvC scope cl C Y.X.env) fp) elt ee te
theorem lc_sim (hi : SimI Y wi ti) (b : Blk Y tg elt ifs scope gg g eA tA ee te (own.map (·.2))) : SimE Y (tLc wi gg eA ee (own.map (·.2))) (dLc ti g tA te (own.map (·.2))) := by
  intro G H c ρ σ Qd Q R q k
  have sg := (b.g Y.X.s_0 Y.X.H_0 0 [] []).s
  have st := (b.t Y.X.s_0 Y.X.H_0 0 [] []).s
  have se := (b.e Y.X.s_0 Y.X.H_0 0 [] []).s
  generalize own.map (·.2) = vs at *
  refine hi G H c ρ σ _ _ R q fun L J G1 H1 c1 ev wk q a ha => ?_
  obtain ⟨I, i0, step, fin⟩ := q
  have R1 := ((R.evo' ev).wipe vs).snoc_ol ha
  refine ⟨fun i m H => m = L.length - i ∧ i ≤ L.length ∧ ∃ G c acc, Rel Y G H c (wipeD ρ vs ++ [.ol acc]) (L2.wipe σ vs ++ [some (.ref a)]) ∧ Evo G1 H1 c1 G H c ∧ I i acc c,
    ⟨_, rfl, Nat.zero_le _, G1, c1, [], R1, Evo.laidU ev.ok _ ha, i0⟩, ?_⟩
  rintro i m H ⟨rfl, hil, G, c, acc, R2, e2, ii⟩
  obtain ⟨wgo, wst⟩ := wk G H c e2.le e2.ok
  have at_ : ∀ {ds : List D} {G H c}, Rel Y G H c (wipeD ρ vs ++ [.ol ds]) (L2.wipe σ vs ++ [some (.ref a)]) → G.f a = none ∧ ¬ G.pu a ∧ ∃ xs, H a = some (.lst xs) ∧ RpAll Y.X.K G xs ds := fun {ds G H c} R => by
    have hl : (wipeD ρ vs).length = (L2.wipe σ vs).length := by have := R.len; simpa using this
    obtain ⟨o, e1, b, ys, rfl, h1, h2, h3, h4, h5⟩ := R.sl (wipeD ρ vs).length (.ol ds) (by simp)
    have : (L2.wipe σ vs ++ [some (V.ref a)])[(wipeD ρ vs).length]? = some (some (.ref a)) := by rw [hl]; simp
    rw [this] at e1
    cases e1
    exact ⟨h1, h2, ys, h4, h5⟩
  by_cases hlt : i < L.length
  · have hx : L[i]? = some L[i] := by simp [hlt]
    refine .inr ⟨(wgo i L[i] hx).1, fun H' => ∃ G c acc, Rel Y G H' c (wipeD ρ vs ++ [.ol acc]) (L2.wipe σ vs ++ [some (.ref a)]) ∧ Evo G1 H1 c1 G H' c ∧ I (i + 1) acc c, fun H' z => ⟨L.length - (i + 1), by omega, rfl, hlt, z⟩, fun x H' y => ?_⟩
    obtain ⟨G', e', r'⟩ := (wgo i L[i] hx).2 x H' y
    have R3 := R2.evo' e'
    refine sg G' H' c _ _ L[i] x _ _ R3.dropLast.toBlk r' (step i _ acc c hx ii) fun ρ2 σ2 R4 off q2 => ⟨?_, ?_⟩
    · rw [off vs fun _ h => h, wipe_wipe σ vs vs fun _ h => h]
    · refine st G' H' c ρ2 σ2 _ _ R4 q2 fun bb G5 H5 c5 e5 q5 => ?_
      have R5 := R3.evo' e5
      cases bb with
      | false =>
        rw [if_neg Bool.false_ne_true] at q5 ⊢
        exact ⟨G5, c5, acc, R5, (e2.trans e').trans e5, q5⟩
      | true =>
        rw [if_pos rfl] at q5 ⊢
        refine se G5 H5 c5 ρ2 σ2 _ _ (R4.evo' e5) q5 fun d v G6 H6 c6 e6 r6 q6 => ?_
        have R6 := R5.evo' e6
        obtain ⟨hf, hp, xs, hx, rx⟩ := at_ R6
        obtain ⟨hlen, q6⟩ := q6
        refine ⟨xs, hx, by rw [rx.length]; exact hlen, G6, c6, acc ++ [d], ?_, (((e2.trans e').trans e5).trans e6).mut ha hf hp, q6⟩
        have R7 := R6.put (ds := acc) (i := (wipeD ρ vs).length) (a := a) (by simp) (by
          have hl : (wipeD ρ vs).length = (L2.wipe σ vs).length := by have := R6.len; simpa using this
          rw [hl]; simp) (rx.snoc r6)
        have e7 : (wipeD ρ vs ++ [Sl.ol acc]).set (wipeD ρ vs).length (.ol (acc ++ [d])) = wipeD ρ vs ++ [.ol (acc ++ [d])] := by
          rw [List.set_append_right _ _ (Nat.le_refl _)]; simp
        rw [e7] at R7
        exact R7
  · have e : i = L.length := by omega
    subst e
    obtain ⟨hf, hp, xs, hx, rx⟩ := at_ R2
    refine .inl ⟨wst, ?_⟩
    have e3 := e2.freeze ha hf hp hx
    have le : G.Le { G with f := upd G.f a (.lst xs) } := ⟨fun b u q => by
      have : b ≠ a := fun z => by subst z; rw [hf] at q; cases q
      show upd G.f a _ b = some u
      rw [upd_ne this]; exact q, fun _ z => z⟩
    exact k (.lst acc) (.ref a) _ _ c (ev.trans e3) (.lst upd_same (rx.mono le)) (fin acc c ii)
theorem pd_lc (hc : Y.X.calm = true) (hN : Y.X.N.Nodup) (hi : PDI Y tg iter wi ti) (ok : BlkOk Y.X.N Y.X.env.scope scope own) (b : Blk Y tg elt ifs scope gg g eA tA ee te (own.map (·.2)))
    (hs : ∀ x, foldedSetIterable iter Y.X.env x = pure x := by intro _; rfl) : PD Y (.ListComp elt [⟨tg, iter, ifs, 0⟩] scope pos) (tLc wi gg eA ee (own.map (·.2))) (dLc ti g tA te (own.map (·.2))) :=
  ⟨pe_lc hc hN hi.p ok (fun s H C cl fp => (b.g s H C cl fp).p) (fun s H C cl fp => (b.t s H C cl fp).p) (fun s H C cl fp => (b.e s H C cl fp).p) hs, lc_sim hi.s b⟩
theorem pds_setLc (i : Nat) {y : Str} {py : Pos} (hc : Y.X.calm = true) (hN : Y.X.N.Nodup) (hi : PDI Y tg iter wi ti) (ok : BlkOk Y.X.N Y.X.env.scope scope own) (b : Blk Y tg elt ifs scope gg g eA tA ee te (own.map (·.2)))
    (hsw : swapsWith (.ListComp elt [⟨tg, iter, ifs, 0⟩] scope pos) (some (.Name y py)) spos.line Y.X.env = pure true) (hy : Y.X.N[i]? = some y := by rfl) (hyl : Y.X.env.scope.names.lookup y = some .local := by rfl)
    (hs : ∀ x, foldedSetIterable iter Y.X.env x = pure x := by intro _; rfl) : PDS Y (.Assign [.Name y py] (.ListComp elt [⟨tg, iter, ifs, 0⟩] scope pos) spos) (tAsg (tLc wi gg eA ee (own.map (·.2))) (gName i)) (sSet i (dLc ti g tA te (own.map (·.2)))) :=
  ⟨ps_setLc hc hN hy hyl hsw hi.p ok (fun s H C cl fp => (b.g s H C cl fp).p) (fun s H C cl fp => (b.t s H C cl fp).p) (fun s H C cl fp => (b.e s H C cl fp).p) hs, fun P G H c ρ σ DD EE K R q =>
    lc_sim hi.s b G H c ρ σ _ _ R.r q fun d v G' H' c' ev r q => K.nx G' H' c' _ _ ⟨(R.r.evo' ev).set_fz r i, R.le.trans ev.le⟩ q⟩
end
end PL

namespace PL
open PySem PySem.Spec PyProof.Rows L2

/-! ### defs -/
/-- an exception by its class, its fields -/
abbrev EDt := Addr → List Str → List D → Nat → Prop
/-- what a def promises of data: arguments, counter, the wanted end, the wanted exception -/
abbrev SpD := List D → Nat → QD → EDt → Prop
def RpE (K : PySem.W.Frag) (G : GS) (dx : Option Addr) (ns : List Str) (ds : List D) : Prop :=
  (ns = [] ∧ ds = [] ∧ dx = none) ∨ ∃ d fs, dx = some d ∧ G.f d = some (.xd fs) ∧ fs.map (·.1) = ns ∧ RpAll K G (fs.map (·.2)) ds
def spOf (K : PySem.W.Frag) (sp : SpD) : Sp := fun vs H Q E => ∃ G c ds Qd ED, G.Ok H c ∧ RpAll K G vs ds ∧ sp ds c Qd ED ∧
  (∀ d v G' H' c', Evo G H c G' H' c' → Rp K G' v d → Qd d c' → Q v H') ∧
  ∀ C ns es dx G' H' c', Evo G H c G' H' c' → RpE K G' dx ns es → ED C ns es c' → E (.ref C) dx H'
/-- what a body's context gives -/
structure Ctx.Good (Y : Ctx) (k : Nat) : Prop where
  tk : Takes Y.X fun cls d σ H => Y.E σ cls d H
  err : ∀ ρ σ G H c, Rel Y G H c ρ σ → ∀ C ns es dx G' H' c', Evo G H c G' H' c' → RpE Y.X.K G' dx ns es → Y.ED ρ C ns es c' → Y.E σ (.ref C) dx H'
  room : Room k Y.X.A
  calm : Y.X.calm = true
theorem Ctx.Good.pass {Y : Ctx} {k : Nat} (g : Y.Good k) (σ : L2.St) : PassesAt (L2.CX Y.X.prog Y.X.w) Y.X σ (Y.E σ) := passAt g.tk σ
theorem Ctx.Good.blk {Y : Ctx} {k : Nat} (g : Y.Good k) (s : Shared) (H : Hp) (scope : Scope) (cenv : Env) (fp : List Addr) : (Y.blk s H scope cenv fp).Good k :=
  ⟨fun _ _ ⟨_, _, _, _, _, _, _, _, _, _, _, _, _, _, _, _, z⟩ => z.elim, fun _ _ _ _ _ _ _ _ _ _ _ _ _ _ _ z => z.elim, g.room, g.calm⟩
theorem Ctx.Good.mono {Y : Ctx} {j k : Nat} (g : Y.Good k) (h : j ≤ k) : Y.Good j := ⟨g.tk, g.err, g.room.mono h, g.calm⟩
def startD (N : List Str) (ds : List D) : DEnv := ds.map .fz ++ List.replicate (N.length - ds.length) .no
theorem rel_start {Y : Ctx} {N : List Str} {vs : List V} {ds : List D} (ok : Y.G0.Ok Y.H0 Y.c0) (r : RpAll Y.X.K Y.G0 vs ds) (lo : Y.lo.Le Y.G0) : Rel Y Y.G0 Y.H0 Y.c0 (startD N ds) (L2.start N vs) := by
  have hl := r.length
  have key : ∀ {i : Nat} {s : Sl}, (startD N ds)[i]? = some s → s = .no ∨ ∃ d, s = .fz d ∧ ds[i]? = some d := fun {i s} e => by
    unfold startD at e
    by_cases hi : i < ds.length
    · rw [List.getElem?_append_left (by simpa using hi), List.getElem?_map] at e
      obtain ⟨d, hd⟩ : ∃ d, ds[i]? = some d := ⟨ds[i], by simp [hi]⟩
      rw [hd] at e
      exact .inr ⟨d, (Option.some.inj e).symm, hd⟩
    · rw [List.getElem?_append_right (by simpa using hi), List.getElem?_replicate] at e
      split at e
      · exact .inl (Option.some.inj e).symm
      · cases e
  have len : (startD N ds).length = (L2.start N vs).length := by simp [startD, L2.start, hl]
  refine ⟨ok, Evo.refl ok, len, fun i s e => ?_, fun i j s t ne e1 e2 h1 h2 => ?_, lo⟩
  · have hi : i < (L2.start N vs).length := by rw [← len]; exact (List.getElem?_eq_some_iff.mp e).1
    rcases key e with rfl | ⟨d, rfl, hd⟩
    · exact ⟨_, List.getElem?_eq_getElem hi, trivial⟩
    · obtain ⟨v, hv, rv⟩ := r.get hd
      refine ⟨some v, ?_, v, rfl, rv⟩
      have : i < vs.length := (List.getElem?_eq_some_iff.mp hv).1
      unfold L2.start
      rw [List.getElem?_append_left (by simpa using this), List.getElem?_map, hv]
      rfl
  · rcases key e1 with rfl | ⟨d, rfl, _⟩
    · cases h1
    · cases h1
section
variable {P : Program} {w : World} {K : PySem.W.Frag} {mg : Str → Option Value} {base : Heap} {x qual : Str} {params : Arguments} {body : List Stmt} {scope : Scope} {dvs : List V} {kws : List (Str × V)} {f : Addr} {fd : FuncData}
/-- a def of the text keeps its promise of data, by its body -/
theorem okD {N ps : List Str} {k : Nat} {sp : SpD} (F : FunD K x qual params body scope dvs kws f fd) (S : FnScope N ps scope) (len : ∀ ds c Q E, sp ds c Q E → ds.length = ps.length)
    (hbody : ∀ (cdv : Value) (A : Around) (outer : List Env) (s : Shared) (H : Hp) (E : XK) (G0 : GS) (c0 : Nat) (ED : EDt), Ctx.Good ⟨cxOf (L2.CX P w) P w K mg base N qual scope f cdv A outer s H E, G0, H, c0, fun _ => E, fun _ => ED, G0⟩ k →
      ∃ ts t, PDSs ⟨cxOf (L2.CX P w) P w K mg base N qual scope f cdv A outer s H E, G0, H, c0, fun _ => E, fun _ => ED, G0⟩ body ts t ∧ ∀ ds Qd, sp ds c0 Qd ED → t { nx := fun _ c => Qd .non c, rt := Qd } (startD N ds) c0) :
    FnOk P w K mg base (L2.CX P w) (k + 1) f fd ps (spOf K sp) := by
  refine F.ok S (fun vs H Q E h => ?_) fun cdv A outer s H vs Q E hr h => ?_
  · obtain ⟨G, c, ds, Qd, ED, _, r, h, _⟩ := h
    rw [r.length]; exact len _ _ _ _ h
  · obtain ⟨G, c, ds, Qd, ED, ok, r, h, hQ, hE⟩ := h
    obtain ⟨ts, t, hb, ht⟩ := hbody cdv A outer s H E G c ED ⟨takes_of rfl rfl rfl rfl, fun ρ σ G1 H1 c1 R C ns es dx G' H' c' ev r q => hE C ns es dx G' H' c' (R.evo.trans ev) r q, hr, rfl⟩
    refine ⟨ts, hb.p, hb.s G G H c (startD N ds) _ { nx := fun _ c => Qd .non c, rt := Qd } _ ?_ ⟨rel_start (Y := ⟨cxOf (L2.CX P w) P w K mg base N qual scope f cdv A outer s H E, G, H, c, fun _ => E, fun _ => ED, G⟩) ok r (GS.Le.refl _), GS.Le.refl _⟩ (ht ds Qd h)⟩
    exact ⟨fun G' H' c' ρ σ R q => hQ _ _ G' H' c' R.r.evo .non q, fun G' H' c' d v e r q => hQ d v G' H' c' e r q, fun _ _ _ _ _ _ z => z.elim, fun _ _ _ _ _ _ z => z.elim⟩
end
/-- a weaker promise of data -/
theorem spOf.imp {K : PySem.W.Frag} {sp sp' : SpD} (h : ∀ ds c Q E, sp' ds c Q E → sp ds c Q E) : ∀ vs H Q E, spOf K sp' vs H Q E → spOf K sp vs H Q E :=
  fun _ _ _ _ ⟨G, c, ds, Qd, ED, ok, r, q, a, b⟩ => ⟨G, c, ds, Qd, ED, ok, r, h _ _ _ _ q, a, b⟩

/-! ### calls -/
section
variable {X : Cx} {CX : CXT} {k : Nat} {f : Addr} {fd : FuncData} {ps : List Str} {sp : Sp} {dvs : List V} {ds : List Value} {E : L2.St → XK} {x : Str} {p pos : Pos} {e : Expr} {es : List Expr} {t tk : TA} {n : Nat} {ks : List Str} {kws : List Keyword} {g : List Value → List Value → List Value} {gV : List V → List V → List V}
/-- what a call leaves, its wish about exceptions told at the slots -/
theorem back_at {pins : List (Addr × Obj)} {σ : L2.St} {H : Hp} {s : Shared} {Q : VK} {args : Args} {us : List Value} {vs : List V} (F : FnOk X.prog X.w X.K X.mg X.base CX k f fd ps sp) (hr : Room k X.A) (hx : PassesAt CX X σ (E σ)) (I : L2.Inv X pins σ H s)
    (hb : BindsTo s fd args (ps.zip us)) (r : Vals vs us) (h : sp vs H Q (E σ)) : codeAny (model X.prog X.w) X.A (.call (.ref f) args) (fun r s' => match r with | .error e => X.xe e s' | .ok (.ret u) => EP X pins σ Q u s' | .ok _ => False) s := by
  refine codeAny_mono (F.run X.A X.stack s H args us vs Q (E σ) hr I.env0 hb r h) fun rr s' hq => ?_
  cases rr with
  | error e => exact hx pins H s e s' I hq
  | ok fl =>
    cases fl with
    | ret u => exact I.after hq
    | next => exact False.elim hq
    | brk => exact False.elim hq
    | cont => exact False.elim hq
def tCallE (sp : Sp) (dvs : List V) (E : L2.St → XK) (t : TA) : TE := fun σ H Q => t σ H fun vs H1 => sp (vs ++ dvs) H1 Q (E σ)
def tCallNE (n m : Nat) (sp : Sp) (gV : List V → List V → List V) (E : L2.St → XK) (t tk : TA) : TE := fun σ H Q => t σ H fun vs H1 => tk σ H1 fun zs H2 => vs.length = n ∧ zs.length = m ∧ sp (gV vs zs) H2 Q (E σ)
theorem at_pos {pins : List (Addr × Obj)} {σ : L2.St} {H : Hp} {s : Shared} {Q : VK} {us : List Value} {vs : List V} (F : FnOk X.prog X.w X.K X.mg X.base CX k f fd ps sp) (hr : Room k X.A) (hb : Binds X.K fd ps ds) (hd : Vals dvs ds) (hx : PassesAt CX X σ (E σ))
    (I : L2.Inv X pins σ H s) (r : Vals vs us) (h : sp (vs ++ dvs) H Q (E σ)) : wpAny (model X.prog X.w) X.A (call (.ref f) us) (EP X pins σ Q) X.xe s := by
  have r2 : Vals (vs ++ dvs) (us ++ ds) := r.append hd
  have hl : (us ++ ds).length = ps.length := r2.length.symm.trans (F.len _ _ _ _ h)
  refine wpAny_call (codeAny_mono (back_at F hr hx I (hb s us I.kIn hl) r2 h) fun rr s' hq => ?_)
  cases rr with
  | error e => exact hq
  | ok fl => cases fl <;> exact hq
theorem at_kw {pins : List (Addr × Obj)} {σ : L2.St} {H : Hp} {s : Shared} {Q : VK} {us ws : List Value} {vs zs : List V} (F : FnOk X.prog X.w X.K X.mg X.base CX k f fd ps sp) (hr : Room k X.A) (hb : KBn X.K fd ps n ks g gV) (hx : PassesAt CX X σ (E σ))
    (I : L2.Inv X pins σ H s) (r : Vals vs us) (rz : Vals zs ws) (l1 : vs.length = n) (l2 : zs.length = ks.length) (h : sp (gV vs zs) H Q (E σ)) : wpAny (model X.prog X.w) X.A (call (.ref f) us (ks.zip ws)) (EP X pins σ Q) X.xe s := by
  refine wpAny_call (codeAny_mono (back_at F hr hx I (hb.to s us ws I.kIn (r.length.symm.trans l1) (rz.length.symm.trans l2)) (hb.rel r rz) h) fun rr s' hq => ?_)
  cases rr with
  | error e => exact hq
  | ok fl => cases fl <;> exact hq
variable (F : FnOk X.prog X.w X.K X.mg X.base CX k f fd ps sp) (hr : Room k X.A) (hg : Gl X x) (hm : X.mg x = some (.ref f)) (hk : PySem.W.keepIn X.K (.ref f) = true) (hx : ∀ σ, PassesAt CX X σ (E σ)) (hdb : (x == ("__debug__" : Str)) = false)
include F hr hg hm hk hx hdb
theorem pe_callE (hb : Binds X.K fd ps ds) (hd : Vals dvs ds) (ha : PA X (e :: es) t) (he : starEach (e :: es) X.env = (false, eval e X.env) :: starEach es X.env) (hpl : (backTo pos (starEach es X.env)).any (·.1) = false) : PE X (.Call (.Name x p) (e :: es) [] pos) (tCallE sp dvs E t) :=
  ⟨fun pins s σ H Q I h => wpAny_Call_Name_kw (ld_glob I hg hm (PySem.W.callWith_K (h₀ := X.base) I.ok.mod.kin hk (thn (ha.run pos pins s σ H _ I h) fun us s1 ⟨vs, H1, I1, r, q⟩ => ⟨I1.kIn, at_pos F hr hb hd (hx σ) I1 r q⟩) he hpl) hdb)⟩
theorem pe_call0E (hb : Binds X.K fd ps ds) (hd : Vals dvs ds) : PE X (.Call (.Name x p) [] [] pos) (tCallE sp dvs E tNil) :=
  ⟨fun pins s σ H Q I h => wpAny_Call_Name_kw (ld_glob I hg hm (PySem.W.callWith_K0 I.kIn hk (at_pos (us := []) F hr hb hd (hx σ) I .nil h)) hdb)⟩
theorem pe_callNE (hb : KBn X.K fd ps n ks g gV) (ha : PA X (e :: es) t) (hkw : PK X kws tk) (hall : (backToKw pos (keywordEach kws X.env)).all (·.1.isSome) = true) (hks : (backToKw pos (keywordEach kws X.env)).filterMap (·.1) = ks)
    (he : starEach (e :: es) X.env = (false, eval e X.env) :: starEach es X.env) (hpl : ((backTo pos (starEach (e :: es) X.env)).any (·.1) || (backToKw pos (keywordEach kws X.env)).any (·.1.isNone)) = false) : PE X (.Call (.Name x p) (e :: es) kws pos) (tCallNE n ks.length sp gV E t tk) := by
  refine ⟨fun pins s σ H Q I h => wpAny_Call_Name_kw (ld_glob I hg hm (PySem.W.callWith_KW (h₀ := X.base) I.ok.mod.kin hk hall (thn (ha.run pos pins s σ H _ I h) fun us s1 ⟨vs, H1, I1, r, q⟩ => thn (hkw.run pos pins s1 σ H1 _ I1 q) fun ws s2 ⟨zs, H2, I2, rz, l1, l2, q2⟩ => ⟨I2.kIn, ?_⟩) hpl he) hdb)⟩
  rw [hks]
  exact at_kw F hr hb (hx σ) I2 r rz l1 l2 q2
theorem pe_kw0E (hb : KBn X.K fd ps 0 ks g gV) (hkw : PK X kws tk) (hall : (backToKw pos (keywordEach kws X.env)).all (·.1.isSome) = true) (hks : (backToKw pos (keywordEach kws X.env)).filterMap (·.1) = ks)
    (hpl : (backToKw pos (keywordEach kws X.env)).any (·.1.isNone) = false) : PE X (.Call (.Name x p) [] kws pos) (tCallNE 0 ks.length sp gV E tNil tk) := by
  refine ⟨fun pins s σ H Q I h => wpAny_Call_Name_kw (ld_glob I hg hm (PySem.W.callWith_KW0 (h₀ := X.base) I.ok.mod.kin hk hall (thn (hkw.run pos pins s σ H _ I h) fun ws s2 ⟨zs, H2, I2, rz, l1, l2, q2⟩ => ⟨I2.kIn, ?_⟩) hpl) hdb)⟩
  rw [hks]
  exact at_kw (us := []) F hr hb (hx σ) I2 .nil rz rfl l2 q2
end
section
variable {Y : Ctx} {k : Nat} {f : Addr} {fd : FuncData} {ps : List Str} {sp : SpD} {dvs : List V} {dds : List D} {ds : List Value} {x : Str} {p pos : Pos} {e : Expr} {es : List Expr} {fa : TA} {t : DA}
def dCall (ED : DEnv → EDt) (sp : SpD) (dds : List D) (t : DA) (ρ : DEnv) (c : Nat) (Q : QD) : Prop := t ρ c fun ds c1 => sp (ds ++ dds) c1 Q (ED ρ)
theorem call_sim (g : Y.Good k) (hd : ∀ G, RpAll Y.X.K G dvs dds) (ha : SimA Y fa t) : SimE Y (tCallE (spOf Y.X.K sp) dvs Y.E fa) (dCall Y.ED sp dds t) := fun G H c ρ σ Qd Q R q kk =>
  ha G H c ρ σ _ _ R q fun ds vs G1 H1 c1 ev r q => ⟨G1, c1, ds ++ dds, Qd, Y.ED ρ, ev.ok, r.append (hd _), q, fun d v G' H' c' e' r' q' => kk d v G' H' c' (ev.trans e') r' q',
    fun C ns es dx G' H' c' e' r' q' => g.err ρ σ G H c R C ns es dx G' H' c' (ev.trans e') r' q'⟩
/-- f(e, ..): dvs (data dds) are the defaults that fill up -/
theorem pd_call (g : Y.Good k) (F : FnOk Y.X.prog Y.X.w Y.X.K Y.X.mg Y.X.base (L2.CX Y.X.prog Y.X.w) k f fd ps (spOf Y.X.K sp)) (hm : Y.X.mg x = some (.ref f)) (hk : PySem.W.keepIn Y.X.K (.ref f) = true) (hb : Binds Y.X.K fd ps ds) (hd : Vals dvs ds) (hdd : ∀ G, RpAll Y.X.K G dvs dds)
    (ha : PDA Y (e :: es) fa t) (hg : Gl Y.X x := by rfl) (hdb : (x == ("__debug__" : Str)) = false := by decide) (he : starEach (e :: es) Y.X.env = (false, eval e Y.X.env) :: starEach es Y.X.env := by rfl) (hpl : (backTo pos (starEach es Y.X.env)).any (·.1) = false := by rfl) :
    PD Y (.Call (.Name x p) (e :: es) [] pos) (tCallE (spOf Y.X.K sp) dvs Y.E fa) (dCall Y.ED sp dds t) :=
  ⟨pe_callE F g.room hg hm hk g.pass hdb hb hd ha.p he hpl, call_sim g hdd ha.s⟩
theorem pd_call0 (g : Y.Good k) (F : FnOk Y.X.prog Y.X.w Y.X.K Y.X.mg Y.X.base (L2.CX Y.X.prog Y.X.w) k f fd ps (spOf Y.X.K sp)) (hm : Y.X.mg x = some (.ref f)) (hk : PySem.W.keepIn Y.X.K (.ref f) = true) (hb : Binds Y.X.K fd ps ds) (hd : Vals dvs ds) (hdd : ∀ G, RpAll Y.X.K G dvs dds)
    (hg : Gl Y.X x := by rfl) (hdb : (x == ("__debug__" : Str)) = false := by decide) : PD Y (.Call (.Name x p) [] [] pos) (tCallE (spOf Y.X.K sp) dvs Y.E tNil) (dCall Y.ED sp dds dNil) :=
  ⟨pe_call0E F g.room hg hm hk g.pass hdb hb hd, call_sim g hdd pda_nil.s⟩
end
end PL

namespace PL
open PySem PySem.Spec PyProof.Rows L2

/-! ### numbers -/
def rdI (C : Int → Int → Prop) (g : Int → Int → D) (x : D) (y : D) (c : Nat) (Q : QD) : Prop := ∃ i j, x = .int i ∧ y = .int j ∧ C i j ∧ Q (g i j) c
def rdI0 (g : Int → Int → D) (x : D) (y : D) (c : Nat) (Q : QD) : Prop := ∃ i j, x = .int i ∧ y = .int j ∧ Q (g i j) c
section
variable {K : PySem.W.Frag}
theorem br_I {C : Int → Int → Prop} {g : Int → Int → V} {gd : Int → Int → D} (h : ∀ G i j, Rp K G (g i j) (gd i j)) : Br2 K (rI C g) (rdI C gd) := fun G H c x y d e Qd Q ok rx ry q k => by
  obtain ⟨i, j, rfl, rfl, hc, q⟩ := q
  cases rx; cases ry
  exact ⟨i, j, rfl, rfl, hc, k _ _ G H c (Evo.refl ok) (h G i j) q⟩
theorem br_I0 {g : Int → Int → V} {gd : Int → Int → D} (h : ∀ G i j, Rp K G (g i j) (gd i j)) : Br2 K (rI0 g) (rdI0 gd) := fun G H c x y d e Qd Q ok rx ry q k => by
  obtain ⟨i, j, rfl, rfl, q⟩ := q
  cases rx; cases ry
  exact ⟨i, j, rfl, rfl, k _ _ G H c (Evo.refl ok) (h G i j) q⟩
theorem br_U {g : Int → V} {gd : Int → D} (h : ∀ G i, Rp K G (g i) (gd i)) : Br1 K (rU g) (fun x c Q => ∃ i, x = .int i ∧ Q (gd i) c) := fun G H c x d Qd Q ok rx q k => by
  obtain ⟨i, rfl, q⟩ := q
  cases rx
  exact ⟨i, rfl, k _ _ G H c (Evo.refl ok) (h G i) q⟩
end
abbrev aAdd : RD2 := rdI0 fun i j => .int (i + j)
abbrev aSub : RD2 := rdI0 fun i j => .int (i - j)
abbrev aMul : RD2 := rdI CMul fun i j => .int (i * j)
abbrev aDiv : RD2 := rdI CDiv fun i j => .int (i / j)
abbrev aMod : RD2 := rdI (fun _ j => 0 < j) fun i j => .int (i % j)
def CPowB (i j : Int) : Prop := 0 ≤ j ∧ (Builtin.Int.intBits i : Int) * j ≤ 2 ^ 27
abbrev aPow : RD2 := rdI CPowB fun i j => .int (i ^ j.toNat)
abbrev aLt : RD2 := rdI0 fun i j => .bl (decide (i < j))
abbrev aLe : RD2 := rdI0 fun i j => .bl (decide (i ≤ j))
abbrev aGt : RD2 := rdI0 fun i j => .bl (decide (j < i))
abbrev aGe : RD2 := rdI0 fun i j => .bl (decide (j ≤ i))
theorem op_powB {X : Cx} : OpR X (binaryOp .Pow) (rI CPowB fun i j => .int (i ^ j.toNat)) := opI fun _ _ _ _ _ _ _ hc q => pow_int hc.1 hc.2 q
section
variable {Y : Ctx} {a b : Expr} {ea eb : TE} {ta tb : DE} {pos : Pos}
theorem pd_add (ha : PD Y a ea ta) (hb : PD Y b eb tb) : PD Y (.BinOp a .Add b pos) (tOp (rI0 fun i j => .int (i + j)) ea eb) (dOp aAdd ta tb) := pd_op op_add (br_I0 fun _ _ _ => .int _) ha hb
theorem pd_sub (ha : PD Y a ea ta) (hb : PD Y b eb tb) : PD Y (.BinOp a .Sub b pos) (tOp (rI0 fun i j => .int (i - j)) ea eb) (dOp aSub ta tb) := pd_op op_sub (br_I0 fun _ _ _ => .int _) ha hb
theorem pd_mul (ha : PD Y a ea ta) (hb : PD Y b eb tb) : PD Y (.BinOp a .Mult b pos) (tOp (rI CMul fun i j => .int (i * j)) ea eb) (dOp aMul ta tb) := pd_op op_mul (br_I fun _ _ _ => .int _) ha hb
theorem pd_fdiv (ha : PD Y a ea ta) (hb : PD Y b eb tb) : PD Y (.BinOp a .FloorDiv b pos) (tOp (rI CDiv fun i j => .int (i / j)) ea eb) (dOp aDiv ta tb) := pd_op op_fdiv (br_I fun _ _ _ => .int _) ha hb
theorem pd_mod (ha : PD Y a ea ta) (hb : PD Y b eb tb) : PD Y (.BinOp a .Mod b pos) (tOp (rI (fun _ j => 0 < j) fun i j => .int (i % j)) ea eb) (dOp aMod ta tb) := pd_op op_mod (br_I fun _ _ _ => .int _) ha hb
theorem pd_pow (ha : PD Y a ea ta) (hb : PD Y b eb tb) : PD Y (.BinOp a .Pow b pos) (tOp (rI CPowB fun i j => .int (i ^ j.toNat)) ea eb) (dOp aPow ta tb) := pd_op op_powB (br_I fun _ _ _ => .int _) ha hb
theorem pd_neg (ha : PD Y a ea ta) : PD Y (.UnaryOp .USub a pos) (tUn (rU fun i => .int (-i)) ea) (dUn (fun x c Q => ∃ i, x = .int i ∧ Q (.int (-i)) c) ta) := pd_un un_neg (br_U fun _ _ => .int _) ha
end
/-- x is None -/
def aIsN (x : D) (y : D) (c : Nat) (Q : QD) : Prop := y = .non ∧ Q (.bl (match x with | .non => true | _ => false)) c
def aNotN (x : D) (y : D) (c : Nat) (Q : QD) : Prop := y = .non ∧ Q (.bl (match x with | .non => false | _ => true)) c
section
variable {Y : Ctx} {a b : Expr} {ea eb : TE} {ta tb : DE} {pos : Pos}
theorem br_isN {K : PySem.W.Frag} : Br2 K (fun x y H Q => y = .non ∧ Q (.bl (decide (x = .non))) H) aIsN := fun G H c x y d e Qd Q ok rx ry q k => by
  obtain ⟨rfl, q⟩ := q
  cases ry
  refine ⟨rfl, k _ _ G H c (Evo.refl ok) ?_ q⟩
  cases rx <;> exact .bl _
theorem br_notN {K : PySem.W.Frag} : Br2 K (fun x y H Q => y = .non ∧ Q (.bl (!decide (x = .non))) H) aNotN := fun G H c x y d e Qd Q ok rx ry q k => by
  obtain ⟨rfl, q⟩ := q
  cases ry
  refine ⟨rfl, k _ _ G H c (Evo.refl ok) ?_ q⟩
  cases rx <;> exact .bl _
end

/-! ### texts -/
/-- a ≤ b, by code points -/
def aLeS (x : D) (y : D) (c : Nat) (Q : QD) : Prop := ∃ i j : Str, x = .str i ∧ y = .str j ∧ Q (.bl (!decide (j.cps.toList < i.cps.toList))) c
/-- what is drawn from a list at a place -/
def aIx (x : D) (y : D) (c : Nat) (Q : QD) : Prop := ∃ i, y = .int i ∧
  ((∃ l d, x = .lst l ∧ atI l i = some d ∧ Q d c) ∨ (∃ l d, x = .tup l ∧ atI l i = some d ∧ Q d c) ∨ (∃ z k, x = .str z ∧ z.length ≤ sizeLine ∧ atI z.cps.toList i = some k ∧ Q (.str ⟨#[k]⟩) c) ∨ ∃ ns j, x = .scr ns ∧ atI ns i = some j ∧ Q (.int j) c)
section
variable {K : PySem.W.Frag}
theorem RpAll.atI {G : GS} {xs : List V} {ds : List D} {i : Int} {d : D} (r : RpAll K G xs ds) (h : L2.atI ds i = some d) : ∃ v, L2.atI xs i = some v ∧ Rp K G v d := by
  unfold L2.atI at h ⊢
  rw [r.length]
  cases e : ixN ds.length i with
  | none => rw [e] at h; cases h
  | some j =>
    rw [e] at h
    obtain ⟨v, h1, h2⟩ := r.get (i := j) h
    exact ⟨v, h1, h2⟩
theorem atI_map {α β : Type} {f : α → β} {l : List α} {i : Int} {x : α} (h : L2.atI l i = some x) : L2.atI (l.map f) i = some (f x) := by
  unfold L2.atI at h ⊢
  rw [List.length_map]
  cases e : ixN l.length i with
  | none => rw [e] at h; cases h
  | some j =>
    rw [e] at h
    show (l.map f)[j]? = some (f x)
    rw [List.getElem?_map, show l[j]? = some x from h]
    rfl
theorem br_ix : Br2 K (rIx K) aIx := fun G H c x y d e Qd Q ok rx ry q k => by
  obtain ⟨i, rfl, q⟩ := q
  cases ry
  rcases q with ⟨l, d', rfl, h, q⟩ | ⟨l, d', rfl, h, q⟩ | ⟨z, m, rfl, hz, h, q⟩ | ⟨ns, j, rfl, h, q⟩
  · cases rx with
    | lst h1 h2 =>
      obtain ⟨v, hv, rv⟩ := h2.atI h
      exact .inl ⟨_, _, i, v, rfl, rfl, ok.sq h1, hv, k _ _ G H c (Evo.refl ok) rv q⟩
  · cases rx with
    | tup h1 h2 =>
      obtain ⟨v, hv, rv⟩ := h2.atI h
      exact .inr (.inl ⟨_, _, i, v, rfl, rfl, SqT.same ok.same h1, hv, k _ _ G H c (Evo.refl ok) rv q⟩)
  · cases rx
    exact .inr (.inr ⟨z, i, m, rfl, rfl, hz, h, k _ _ G H c (Evo.refl ok) (.str _) q⟩)
  · cases rx with
    | scr h1 => exact .inl ⟨_, _, i, .int j, rfl, rfl, SqL.same ok.same h1, atI_map h, k _ _ G H c (Evo.refl ok) (.int _) q⟩
theorem br_leS : Br2 K (fun x y H Q => ∃ i j, x = .str i ∧ y = .str j ∧ Q (.bl (!decide (j.cps.toList < i.cps.toList))) H) aLeS := fun G H c x y d e Qd Q ok rx ry q k => by
  obtain ⟨i, j, rfl, rfl, q⟩ := q
  cases rx; cases ry
  exact ⟨i, j, rfl, rfl, k _ _ G H c (Evo.refl ok) (.bl _) q⟩
end
section
variable {Y : Ctx} {a b : Expr} {ea eb : TE} {ta tb : DE} {pos : Pos}
theorem pd_item (ha : PD Y a ea ta) (hb : PD Y b eb tb) (hs : PlainIx b := by exact fun _ _ => rfl) : PD Y (.Subscript a b pos) (tOp (rIx Y.X.K) ea eb) (dOp aIx ta tb) := pd_ix ix_seq br_ix ha hb hs
end

/-! ### tuples: +, slices -/
def aCat (x : D) (y : D) (c : Nat) (Q : QD) : Prop := ∃ l m, x = .tup l ∧ y = .tup m ∧ l.length + m.length ≤ sizeLine ∧ Q (.tup (l ++ m)) c
theorem br_cat {K : PySem.W.Frag} : Br2 K (rCatA K) aCat := fun G H c x y d e Qd Q ok rx ry q k => by
  obtain ⟨l, m, rfl, rfl, hz, q⟩ := q
  cases rx with
  | @tup a xs _ h1 h2 =>
    cases ry with
    | @tup b ys _ g1 g2 =>
      refine ⟨a, b, xs, ys, rfl, rfl, SqT.same ok.same h1, SqT.same ok.same g1, by rw [h2.length, g2.length]; exact hz, fun e => ?_, fun _ e => ?_, fun _ _ p np => ?_⟩
      · subst e; cases h2
        exact k _ _ G H c (Evo.refl ok) (.tup g1 g2) q
      · subst e; cases g2
        exact k _ _ G H c (Evo.refl ok) (.tup h1 (by rw [List.append_nil]; exact h2)) q
      · exact k _ _ _ _ c (Evo.laid ok _ np) (Rp.newTup ok np (h2.append g2)) q
/-- the part of a list from lo (or 0) to hi (or the end) -/
def cut {α : Type} (xs : List α) (lo hi : Option Int) : List α := (xs.drop (HT.sIx xs.length 0 lo)).take (HT.sIx xs.length xs.length hi - HT.sIx xs.length 0 lo)
abbrev DO := DEnv → Nat → (Option Int → Nat → Prop) → Prop
structure PDO (Y : Ctx) (e : Option Expr) (te : TO) (t : DO) : Prop where
  p : PO Y.X e te
  s : ∀ G H c ρ σ (Qd : Option Int → Nat → Prop) (Q : Option Int → Hp → Prop), Rel Y G H c ρ σ → t ρ c Qd → (∀ o G' H' c', Evo G H c G' H' c' → Qd o c' → Q o H') → te σ H Q
def dNoPart (_ : DEnv) (c : Nat) (Q : Option Int → Nat → Prop) : Prop := Q none c
def dPart (t : DE) (ρ : DEnv) (c : Nat) (Q : Option Int → Nat → Prop) : Prop := t ρ c fun d c1 => ∃ i, d = .int i ∧ Q (some i) c1
section
variable {Y : Ctx} {e : Expr} {lo hi : Option Expr} {ee : TE} {te : DE} {el eh : TO} {tl th : DO} {pos p2 : Pos}
theorem pdo_none : PDO Y none tNoPart dNoPart := ⟨po_none, fun G H c ρ σ Qd Q R q k => k _ G H c (Evo.refl R.ok) q⟩
theorem pdo_some (h : PD Y e ee te) : PDO Y (some e) (tPart ee) (dPart te) := ⟨po_some h.p, fun G H c ρ σ Qd Q R q k => h.s G H c ρ σ _ _ R q fun d v G1 H1 c1 ev r q => by
  obtain ⟨i, rfl, q⟩ := q
  cases r
  exact ⟨i, rfl, k _ G1 H1 c1 ev q⟩⟩
abbrev RDs := D → Option Int → Option Int → Nat → QD → Prop
def dSl (rd : RDs) (te : DE) (tl th : DO) (ρ : DEnv) (c : Nat) (Q : QD) : Prop := te ρ c fun x c1 => tl ρ c1 fun l c2 => th ρ c2 fun u c3 => rd x l u c3 Q
def BrS (K : PySem.W.Frag) (r : V → Option Int → Option Int → Hp → VK → Prop) (rd : RDs) : Prop := ∀ G H c x d l u (Qd : QD) (Q : VK), G.Ok H c → Rp K G x d → rd d l u c Qd →
  (∀ d' v G' H' c', Evo G H c G' H' c' → Rp K G' v d' → Qd d' c' → Q v H') → r x l u H Q
theorem pd_slice {r : V → Option Int → Option Int → Hp → VK → Prop} {rd : RDs} (hr : SlR Y.X r) (br : BrS Y.X.K r rd) (he : PD Y e ee te) (hl : PDO Y lo el tl) (hu : PDO Y hi eh th) : PD Y (.Subscript e (.Slice lo hi none p2) pos) (tSl r ee el eh) (dSl rd te tl th) :=
  ⟨pe_slice hr he.p hl.p hu.p, fun G H c ρ σ Qd Q R q k => he.s G H c ρ σ _ _ R q fun d v G1 H1 c1 e1 r1 q1 => hl.s G1 H1 c1 ρ σ _ _ (R.evo' e1) q1 fun l G2 H2 c2 e2 q2 =>
    hu.s G2 H2 c2 ρ σ _ _ (R.evo' (e1.trans e2)) q2 fun u G3 H3 c3 e3 q3 => br G3 H3 c3 v d l u Qd Q e3.ok (r1.mono (e2.le.trans e3.le)) q3 fun d' v' G4 H4 c4 e4 r4 q4 => k d' v' G4 H4 c4 ((e1.trans e2).trans (e3.trans e4)) r4 q4⟩
end
/-- a slice of a tuple, a list, a text -/
def aCut (x : D) (lo : Option Int) (hi : Option Int) (c : Nat) (Q : QD) : Prop := (∃ l, x = .tup l ∧ Q (.tup (cut l lo hi)) c) ∨ ∃ l, x = .lst l ∧ Q (.lst (cut l lo hi)) c
def rCut (K : PySem.W.Frag) : V → Option Int → Option Int → Hp → VK → Prop := fun x lo hi H Q => rSlA K x lo hi H Q ∨ rSlL K x lo hi H Q
theorem sl_cut {X : Cx} : SlR X (rCut X.K) := sl_tupA.or sl_list
theorem br_cut {K : PySem.W.Frag} : BrS K (rCut K) aCut := fun G H c x d lo hi Qd Q ok rx q k => by
  rcases q with ⟨l, rfl, q⟩ | ⟨l, rfl, q⟩
  · cases rx with
    | @tup a xs _ h1 h2 =>
      refine .inl ⟨a, xs, rfl, SqT.same ok.same h1, fun e => ?_, fun _ p np => ?_⟩
      · have e2 : cut l lo hi = l := by
          unfold cut
          rw [h2.length] at e
          rw [e.1, e.2, List.drop_zero, Nat.sub_zero, List.take_length]
        exact k _ _ G H c (Evo.refl ok) (by rw [e2]; exact .tup h1 h2) q
      · have r : RpAll K G (cutV xs lo hi) (cut l lo hi) := by
          unfold cutV cut
          rw [h2.length]
          exact (h2.drop _).take _
        exact k _ _ _ _ c (Evo.laid ok _ np) (Rp.newTup ok np r) q
  · cases rx with
    | @lst a xs _ h1 h2 =>
      refine .inr ⟨a, xs, rfl, ok.sq h1, fun p np => ?_⟩
      have r : RpAll K G (cutV xs lo hi) (cut l lo hi) := by
        unfold cutV cut
        rw [h2.length]
        exact (h2.drop _).take _
      exact k _ _ _ _ c (Evo.laid ok _ np) (Rp.newLst ok np r) q

/-! ### built-ins -/
def bLen (ds : List D) (c : Nat) (Q : QD) : Prop := ∃ d, ds = [d] ∧ ((∃ l, (d = .lst l ∨ d = .tup l) ∧ Q (.int l.length) c) ∨ (∃ z : Str, d = .str z ∧ z.length ≤ sizeLine ∧ Q (.int z.length) c) ∨ ∃ ns, d = .scr ns ∧ Q (.int ns.length) c)
def rLen (K : PySem.W.Frag) : List V → Hp → VK → Prop := fun xs H Q => (∃ p ys, xs = [.ref p] ∧ (SqL K H p ys ∨ SqT K H p ys) ∧ Q (.int ys.length) H) ∨ ∃ z, xs = [.str z] ∧ z.length ≤ sizeLine ∧ Q (.int z.length) H
theorem cr_len {X : Cx} : CallR X (.builtin "len") (rLen X.K) := call_len_seq.or call_len_str
theorem br_len {K : PySem.W.Frag} : BrN K (rLen K) bLen := fun G H c xs ds Qd Q ok r q k => by
  obtain ⟨d, rfl, q⟩ := q
  cases r with
  | cons r rr =>
    cases rr
    rcases q with ⟨l, rfl | rfl, q⟩ | ⟨z, rfl, hz, q⟩ | ⟨ns, rfl, q⟩
    · cases r with
      | @lst a xs _ h1 h2 => exact .inl ⟨a, xs, rfl, .inl (ok.sq h1), k _ _ G H c (Evo.refl ok) (.int _) (by rw [h2.length]; exact q)⟩
    · cases r with
      | @tup a xs _ h1 h2 => exact .inl ⟨a, xs, rfl, .inr (SqT.same ok.same h1), k _ _ G H c (Evo.refl ok) (.int _) (by rw [h2.length]; exact q)⟩
    · cases r
      exact .inr ⟨z, rfl, hz, k _ _ G H c (Evo.refl ok) (.int _) q⟩
    · cases r with
      | @scr a _ h1 => exact .inl ⟨a, _, rfl, .inl (SqL.same ok.same h1), k _ _ G H c (Evo.refl ok) (.int _) (by rw [List.length_map]; exact q)⟩
/-- int(x) of an int, of a bool -/
def b2n : Bool → Int
  | true => 1
  | false => 0
def bInt (ds : List D) (c : Nat) (Q : QD) : Prop := (∃ i, ds = [.int i] ∧ Q (.int i) c) ∨ ∃ b, ds = [.bl b] ∧ Q (.int (b2n b)) c
theorem br_int {K : PySem.W.Frag} : BrN K (fun xs H Q => (∃ i, xs = [.int i] ∧ Q (.int i) H) ∨ ∃ k, xs = [.bl k] ∧ Q (.int (if k then 1 else 0)) H) bInt := fun G H c xs ds Qd Q ok r q k => by
  rcases q with ⟨i, rfl, q⟩ | ⟨b, rfl, q⟩
  · cases r with
    | cons r rr => cases rr; cases r; exact .inl ⟨i, rfl, k _ _ G H c (Evo.refl ok) (.int _) q⟩
  · cases r with
    | cons r rr =>
      cases rr; cases r
      refine .inr ⟨b, rfl, k _ _ G H c (Evo.refl ok) ?_ q⟩
      cases b <;> exact .int _
def b2I (f : Int → Int → Int) (ds : List D) (c : Nat) (Q : QD) : Prop := ∃ i j, ds = [.int i, .int j] ∧ Q (.int (f i j)) c
theorem br_2I {K : PySem.W.Frag} {f : Int → Int → Int} : BrN K (fun xs H Q => ∃ i j, xs = [.int i, .int j] ∧ Q (.int (f i j)) H) (b2I f) := fun G H c xs ds Qd Q ok r q k => by
  obtain ⟨i, j, rfl, q⟩ := q
  cases r with
  | cons r rr =>
    cases rr with
    | cons r' rr => cases rr; cases r; cases r'; exact ⟨i, j, rfl, k _ _ G H c (Evo.refl ok) (.int _) q⟩
abbrev bMax2 : RDn := b2I fun i j => if j > i then j else i
abbrev bMin2 : RDn := b2I fun i j => if j < i then j else i
/-- the truth values of a list that holds nothing else -/
def bools : List D → Option (List Bool)
  | [] => some []
  | .bl b :: l => (bools l).map (b :: ·)
  | _ => none
theorem bools_rp {K : PySem.W.Frag} {G : GS} : ∀ {ds : List D} {bs : List Bool} {xs : List V}, bools ds = some bs → RpAll K G xs ds → xs = bs.map V.bl
  | [], bs, xs, e, r => by cases e; cases r; rfl
  | d :: ds, bs, xs, e, r => by
    cases r with
    | cons r rr =>
      cases d with
      | bl b =>
        cases e2 : bools ds with
        | none => simp [bools, e2] at e
        | some cs =>
          simp [bools, e2] at e
          subst e
          cases r
          rw [bools_rp e2 rr]
          rfl
      | _ => cases e
def bAll (ds : List D) (c : Nat) (Q : QD) : Prop := ∃ l bs, ds = [.lst l] ∧ bools l = some bs ∧ Q (.bl (bs.all id)) c
def bAny (ds : List D) (c : Nat) (Q : QD) : Prop := ∃ l bs, ds = [.lst l] ∧ bools l = some bs ∧ Q (.bl (bs.any id)) c
theorem br_all {K : PySem.W.Frag} : BrN K (rAll K) bAll := fun G H c xs ds Qd Q ok r q k => by
  obtain ⟨l, bs, rfl, e, q⟩ := q
  cases r with
  | cons r rr =>
    cases rr
    cases r with
    | @lst a ys _ h1 h2 =>
      have := bools_rp e h2
      subst this
      exact ⟨a, bs, rfl, ok.sq h1, k _ _ G H c (Evo.refl ok) (.bl _) q⟩
theorem br_any {K : PySem.W.Frag} : BrN K (rAny K) bAny := fun G H c xs ds Qd Q ok r q k => by
  obtain ⟨l, bs, rfl, e, q⟩ := q
  cases r with
  | cons r rr =>
    cases rr
    cases r with
    | @lst a ys _ h1 h2 =>
      have := bools_rp e h2
      subst this
      exact ⟨a, bs, rfl, ok.sq h1, k _ _ G H c (Evo.refl ok) (.bl _) q⟩
/-- list(x) of a list or a tuple -/
def bList (ds : List D) (c : Nat) (Q : QD) : Prop := ∃ l, (ds = [.lst l] ∨ ds = [.tup l]) ∧ Q (.lst l) c
theorem br_list {K : PySem.W.Frag} : BrN K (fun xs H Q => ∃ p ys, xs = [.ref p] ∧ (SqL K H p ys ∨ SqT K H p ys) ∧ ∀ l, H l = none → Q (.ref l) (upd H l (.lst ys))) bList := fun G H c xs ds Qd Q ok r q k => by
  obtain ⟨l, rfl | rfl, q⟩ := q
  · cases r with
    | cons r rr =>
      cases rr
      cases r with
      | @lst a xs _ h1 h2 => exact ⟨a, xs, rfl, .inl (ok.sq h1), fun p np => k _ _ _ _ c (Evo.laid ok _ np) (Rp.newLst ok np h2) q⟩
  · cases r with
    | cons r rr =>
      cases rr
      cases r with
      | @tup a xs _ h1 h2 => exact ⟨a, xs, rfl, .inr (SqT.same ok.same h1), fun p np => k _ _ _ _ c (Evo.laid ok _ np) (Rp.newLst ok np h2) q⟩
/-- tuple(x) of a list or a tuple -/
def bTuple (ds : List D) (c : Nat) (Q : QD) : Prop := ∃ l, (ds = [.lst l] ∨ ds = [.tup l]) ∧ Q (.tup l) c
theorem br_tuple {K : PySem.W.Frag} : BrN K (fun xs H Q => ∃ p ys, xs = [.ref p] ∧ ((SqL K H p ys ∧ ∀ l, H l = none → Q (.ref l) (upd H l (.tup ys))) ∨ (SqT K H p ys ∧ Q (.ref p) H))) bTuple := fun G H c xs ds Qd Q ok r q k => by
  obtain ⟨l, rfl | rfl, q⟩ := q
  · cases r with
    | cons r rr =>
      cases rr
      cases r with
      | @lst a xs _ h1 h2 => exact ⟨a, xs, rfl, .inl ⟨ok.sq h1, fun p np => k _ _ _ _ c (Evo.laid ok _ np) (Rp.newTup ok np h2) q⟩⟩
  · cases r with
    | cons r rr =>
      cases rr
      cases r with
      | @tup a xs _ h1 h2 => exact ⟨a, xs, rfl, .inr ⟨SqT.same ok.same h1, k _ _ G H c (Evo.refl ok) (.tup h1 h2) q⟩⟩
end PL

namespace PL
open PySem PySem.Spec PyProof.Rows L2

/-! ### isinstance, a built-in class -/
def basics : List String := ["int", "str", "bool", "tuple", "list", "dict"]
/-- an own class whose instances are none of the basic kinds -/
structure ICls (K : PySem.W.Frag) (C : Addr) : Prop where
  cl : Cls K C
  ha : PySem.W.findIn K (.ref C) "__class__" = some (some (.builtin "object.__class__"))
  hn : PySem.W.specialIn K (.builtin "object.__class__") "__get__" = some (some (.builtin "getset_descriptor.__get__"))
  ht : PySem.W.takesIn K (.builtin "object.__class__") = some true
  hm : PySem.W.mroIn K C (.type "object") = some true
  no : ∀ T ∈ basics, PySem.W.kitOne K (.ref C) (.type T) = some false
/-- the kind of a value, by name -/
def kind : D → Option String
  | .non => some "NoneType"
  | .bl _ => some "bool"
  | .int _ => some "int"
  | .str _ => some "str"
  | .tup _ => some "tuple"
  | .lst _ => some "list"
  | .dct _ _ => some "dict"
  | _ => none
def isaB (T : String) : D → Bool
  | .bl _ => T == "bool" || T == "int"
  | .int _ => T == "int"
  | .str _ => T == "str"
  | .tup _ => T == "tuple"
  | .lst _ => T == "list"
  | .dct _ _ => T == "dict"
  | _ => false
theorem kind_isa {T : String} (hT : T ∈ basics) : ∀ {d : D} {k : String}, kind d = some k → kitB k T = some (isaB T d) := by
  have h : ∀ k ∈ ["NoneType", "bool", "int", "str", "tuple", "list", "dict"], ∀ T ∈ basics, kitB k T = some (if k == "bool" then (T == "bool" || T == "int") else k == T) := by decide +kernel
  have key : ∀ a b : String, (a == b) = (b == a) := fun a b => by
    by_cases e : a = b
    · subst e; rfl
    · rw [beq_eq_false_iff_ne.mpr e, beq_eq_false_iff_ne.mpr (Ne.symm e)]
  intro d k e
  cases d with
  | non => cases e; rw [h _ (by simp) T hT]; show some ("NoneType" == T) = some false; rcases List.mem_cons.mp hT with rfl | hT; rfl; rcases List.mem_cons.mp hT with rfl | hT; rfl; rcases List.mem_cons.mp hT with rfl | hT; rfl; rcases List.mem_cons.mp hT with rfl | hT; rfl; rcases List.mem_cons.mp hT with rfl | hT; rfl; rcases List.mem_cons.mp hT with rfl | hT; rfl; cases hT
  | bl b => cases e; rw [h _ (by simp) T hT]; rfl
  | int i => cases e; rw [h _ (by simp) T hT]; show some ("int" == T) = some (T == "int"); rw [key]
  | str i => cases e; rw [h _ (by simp) T hT]; show some ("str" == T) = some (T == "str"); rw [key]
  | tup i => cases e; rw [h _ (by simp) T hT]; show some ("tuple" == T) = some (T == "tuple"); rw [key]
  | lst i => cases e; rw [h _ (by simp) T hT]; show some ("list" == T) = some (T == "list"); rw [key]
  | dct i j => cases e; rw [h _ (by simp) T hT]; show some ("dict" == T) = some (T == "dict"); rw [key]
  | _ => cases e
section
variable {K : PySem.W.Frag} {G : GS} {H : Hp} {c : Nat}
theorem tyX_of (ok : G.Ok H c) {x : V} {d : D} {k : String} (r : Rp K G x d) (e : kind d = some k) : TyX K H x (.type k) := by
  cases r with
  | non => cases e; exact .base .non
  | bl b => cases e; exact .base (.bl b)
  | int b => cases e; exact .base (.int b)
  | str b => cases e; exact .base (.str b)
  | tup h1 h2 =>
    cases e
    rcases h1 with (h | ⟨o, h⟩) | ⟨o, its, n, hk, hc, _⟩
    · exact .base (.tup (ok.same _ _ h))
    · exact .fTuple (ok.same _ _ h)
    · exact .kTuple hk hc
  | lst h1 h2 =>
    cases e
    exact .base (.lst (ok.same _ _ h1))
  | dct h1 h2 h3 =>
    cases e
    rcases h1 with h | ⟨o, h⟩
    · exact .base (.dK (ok.same _ _ h))
    · exact .fDict (ok.same _ _ h)
  | _ => cases e
end
/-- isinstance(x, T), T basic; IC: the own classes whose instances x may be -/
def bIsa (IC : Addr → Prop) (ds : List D) (c : Nat) (Q : QD) : Prop := ∃ x T, ds = [x, .ty T] ∧ T ∈ basics ∧ ((∃ k, kind x = some k) ∨ ∃ C ns es, x = .ins C ns es ∧ IC C) ∧ Q (.bl (isaB T x)) c
theorem br_isa {K : PySem.W.Frag} {IC : Addr → Prop} (hI : ∀ C, IC C → ICls K C) : BrN K (rIsi K) (bIsa IC) := fun G H c xs ds Qd Q ok r q k => by
  obtain ⟨x, T, rfl, hT, hx, q⟩ := q
  cases r with
  | cons r rr =>
    cases rr with
    | cons r' rr =>
      cases rr
      cases r'
      rcases hx with ⟨m, e⟩ | ⟨C, ns, es, rfl, hC⟩
      · exact ⟨_, _, _, .type T, isaB T x, rfl, .ty T, tyX_of ok r e, kit_ty (kind_isa hT e), k _ _ G H c (Evo.refl ok) (.bl _) q⟩
      · have I := hI C hC
        cases r with
        | ins h1 h2 h3 => exact ⟨_, _, _, .type T, false, rfl, .ty T, .base (.ins (ok.same _ _ h1) I.cl I.ha I.hn I.ht I.hm), I.no T hT, k _ _ G H c (Evo.refl ok) (.bl _) q⟩

/-! ### == of plain data -/
mutual
def toP : D → Option PyData
  | .non => some .none
  | .bl b => some (.bool b)
  | .int i => some (.int i)
  | .str x => some (.str x)
  | .tup l => (toPs l).map .tuple
  | .lst l => (toPs l).map .list
  | _ => none
def toPs : List D → Option (List PyData)
  | [] => some []
  | d :: l => (toP d).bind fun p => (toPs l).map (p :: ·)
end
mutual
theorem dp_of {K : PySem.W.Frag} {G : GS} {H : Hp} (s : Same G.f H) : ∀ {d : D} {p : PyData} {x : V}, toP d = some p → Rp K G x d → Dp K H x p
  | .non, p, x, e, r => by unfold toP at e; cases e; cases r; exact .non
  | .bl b, p, x, e, r => by unfold toP at e; cases e; cases r; exact .bl b
  | .int i, p, x, e, r => by unfold toP at e; cases e; cases r; exact .int i
  | .str i, p, x, e, r => by unfold toP at e; cases e; cases r; exact .str i
  | .tup l, p, x, e, r => by
    unfold toP at e
    cases e2 : toPs l with
    | none => rw [e2] at e; cases e
    | some ps =>
      rw [e2] at e
      cases e
      cases r with
      | tup h1 h2 => exact .tup (SqT.same s h1) (dps_of s e2 h2)
  | .lst l, p, x, e, r => by
    unfold toP at e
    cases e2 : toPs l with
    | none => rw [e2] at e; cases e
    | some ps =>
      rw [e2] at e
      cases e
      cases r with
      | lst h1 h2 => exact .lst (SqL.of (s _ _ h1)) (dps_of s e2 h2)
  | .ty _, _, _, e, _ => by unfold toP at e; cases e
  | .cls _, _, _, e, _ => by unfold toP at e; cases e
  | .dct _ _, _, _, e, _ => by unfold toP at e; cases e
  | .ins _ _ _, _, _, e, _ => by unfold toP at e; cases e
  | .exc _ _ _, _, _, e, _ => by unfold toP at e; cases e
  | .opq, _, _, e, _ => by unfold toP at e; cases e
  | .scr _, _, _, e, _ => by unfold toP at e; cases e
theorem dps_of {K : PySem.W.Frag} {G : GS} {H : Hp} (s : Same G.f H) : ∀ {l : List D} {ps : List PyData} {xs : List V}, toPs l = some ps → RpAll K G xs l → DpAll K H xs ps
  | [], ps, xs, e, r => by unfold toPs at e; cases e; cases r; exact .nil
  | d :: l, ps, xs, e, r => by
    unfold toPs at e
    cases e1 : toP d with
    | none => rw [e1] at e; cases e
    | some p =>
      rw [e1] at e
      cases e2 : toPs l with
      | none => rw [e2] at e; cases e
      | some qs =>
        rw [e2] at e
        cases e
        cases r with
        | cons r1 r2 => exact .cons (dp_of s e1 r1) (dps_of s e2 r2)
end
/-- data that can be compared: plain, its texts of bearable length, not too deep -/
def plainP (d : D) (p : PyData) : Prop := toP d = some p ∧ SeqAt.shaped p = true
def aEq (x : D) (y : D) (c : Nat) (Q : QD) : Prop := ∃ p q, plainP x p ∧ plainP y q ∧ Q (.bl (PyData.eqv p q)) c
def aNe (x : D) (y : D) (c : Nat) (Q : QD) : Prop := ∃ p q, plainP x p ∧ plainP y q ∧ Q (.bl (!PyData.eqv p q)) c
theorem br_eq {K : PySem.W.Frag} : Br2 K (rEqD K) aEq := fun G H c x y d e Qd Q ok rx ry q k => by
  obtain ⟨p, p2, ⟨h1, s1⟩, ⟨h2, s2⟩, q⟩ := q
  exact ⟨p, p2, dp_of ok.same h1 rx, dp_of ok.same h2 ry, s1, s2, k _ _ G H c (Evo.refl ok) (.bl _) q⟩
theorem br_ne {K : PySem.W.Frag} : Br2 K (rNeD K) aNe := fun G H c x y d e Qd Q ok rx ry q k => by
  obtain ⟨p, p2, ⟨h1, s1⟩, ⟨h2, s2⟩, q⟩ := q
  exact ⟨p, p2, dp_of ok.same h1 rx, dp_of ok.same h2 ry, s1, s2, k _ _ G H c (Evo.refl ok) (.bl _) q⟩
section
variable {Y : Ctx} {a b : Expr} {ea eb : TE} {ta tb : DE} {pos : Pos} {k : Nat}
end

/-! ### purses -/
/-- a new list of three numbers, held as a purse -/
def dPurse (t : DA) (ρ : DEnv) (c : Nat) (Q : QD) : Prop := t ρ c fun ds c1 => ∃ x y z : Int, ds = [.int x, .int y, .int z] ∧ 0 ≤ y ∧ y < 2 ^ 31 ∧ 0 ≤ z ∧ z ≤ 1000000 ∧ Q .opq c1
section
variable {Y : Ctx} {es : List Expr} {e : Expr} {fa : TA} {t : DA} {pos p1 p2 p3 : Pos} {ee : TE} {te : DE}
theorem rp3 {K : PySem.W.Frag} {G : GS} {vs : List V} {x y z : Int} (r : RpAll K G vs [.int x, .int y, .int z]) : vs = [.int x, .int y, .int z] := by
  cases r with
  | cons r1 r =>
    cases r with
    | cons r2 r =>
      cases r with
      | cons r3 r => cases r; cases r1; cases r2; cases r3; rfl
theorem pd_purse (ha : PDA Y es fa t) : PD Y (.List es pos) (tLst fa) (dPurse t) := by
  refine ⟨pe_lst ha.p, fun G H c ρ σ Qd Q R h k => ?_⟩
  refine ha.s G H c ρ σ _ _ R h fun ds vs G1 H1 c1 e1 r1 q1 => ?_
  obtain ⟨x, y, z, rfl, h1, h2, h3, h4, q⟩ := q1
  have e := rp3 r1
  subst e
  refine ⟨by show 3 ≤ sizeLine; decide, fun p np => ?_⟩
  have nf : G1.f p = none := e1.ok.fnone np
  have ev : Evo G1 H1 c1 { G1 with pu := fun b => G1.pu b ∨ b = p } (upd H1 p (.lst [.int x, .int y, .int z])) c1 := by
    have ev := Evo.laidU e1.ok (.lst [.int x, .int y, .int z]) np
    refine ⟨⟨ev.ok.same, fun b hb => ?_, fun b hb => ?_⟩, ⟨Same.refl _, fun _ h => .inl h⟩, Nat.le_refl _, ev.keep, ev.pus, ev.new, fun b o e hb => ?_⟩
    · rcases hb with hb | rfl
      · exact e1.ok.npu b hb
      · exact nf
    · rcases hb with hb | rfl
      · exact ev.ok.pu b hb
      · rw [upd_same]; exact ⟨x, y, z, rfl, h1, h2, h3, by omega⟩
    · rcases hb with hb | rfl
      · exact hb
      · rw [np] at e; cases e
  exact k .opq _ _ _ c1 (e1.trans ev) (.opq (.inr rfl)) q
/-- purse[n], the purse in slot i -/
def dPIx (i : Nat) (n : Nat) (ρ : DEnv) (c : Nat) (Q : QD) : Prop := ρ[i]? = some (.fz .opq) ∧ ∀ x : Int, (n = 1 → 0 ≤ x ∧ x < 2 ^ 31) → (n = 2 → 0 ≤ x ∧ x ≤ 1000000 + (c : Int)) → Q (.int x) c
theorem pd_purseIx (i n : Nat) {x : Str} {j : Nat} {nn : Int} (hn : nn = (n : Int)) (hn3 : n < 3) (hN : Y.X.N[i]? = some x := by rfl) (hv : Vis Y.X.env.scope x := by first | exact Or.inl rfl | exact Or.inr (Or.inl rfl) | exact Or.inr (Or.inr rfl)) (hd : (x == ("__debug__" : Str)) = false := by decide)
    (hcd : (x == ("__classdict__" : Str)) = false := by decide) : PD Y (.Subscript (.Name x p1) (.Constant (.int nn) j p2) pos) (tOp (rIx Y.X.K) (tVar i) (tC (.int nn))) (dPIx i n) := by
  refine ⟨pe_ix ix_seq (pe_var hN hv hd hcd) pe_int (fun _ _ => rfl), fun G H c ρ σ Qd Q R h k => ?_⟩
  obtain ⟨e, h⟩ := h
  obtain ⟨o, e1, v, rfl, r⟩ := R.sl i _ e
  subst hn
  cases r with
  | @opq a hp =>
    obtain ⟨x, y, z, e2, h1, h2, h3, h4⟩ := R.ok.pu a hp
    refine ⟨_, e1, .inl ⟨a, _, (n : Int), ([.int x, .int y, .int z] : List V)[n]'(by simpa using hn3), rfl, rfl, SqL.of e2, ?_, ?_⟩⟩
    · exact atI_nat (by simp)
    · match n, hn3 with
      | 0, _ => exact k _ _ G H c (Evo.refl R.ok) (.int _) (h x (fun z => nomatch z) fun z => nomatch z)
      | 1, _ => exact k _ _ G H c (Evo.refl R.ok) (.int _) (h y (fun _ => ⟨h1, h2⟩) fun z => nomatch z)
      | 2, _ => exact k _ _ G H c (Evo.refl R.ok) (.int _) (h z (fun z => nomatch z) fun _ => ⟨h3, h4⟩)
/-- purse[n] = e: the counter is raised with the last number -/
def sPSet (i : Nat) (n : Nat) (te : DE) (DD : DEnds) (ρ : DEnv) (c : Nat) : Prop := te ρ c fun d c1 => ρ[i]? = some (.fz .opq) ∧ ∃ x : Int, d = .int x ∧ ((n = 0 ∧ DD.nx ρ c1) ∨ (n = 2 ∧ 0 ≤ x ∧ x ≤ 1000000 + ((c1 + 1 : Nat) : Int) ∧ DD.nx ρ (c1 + 1)))
theorem evo_purse {G : GS} {H : Hp} {c c' : Nat} (ok : G.Ok H c) {a : Addr} (hp : G.pu a) (hc : c ≤ c') {u : HO} (hu : PurseV c' (some u)) : Evo G H c G (upd H a u) c' where
  ok := ⟨fun b o e => by
      have : b ≠ a := fun z => by subst z; rw [ok.npu b hp] at e; cases e
      rw [upd_ne this]; exact ok.same b o e, ok.npu, fun b hb => by
      by_cases e : b = a
      · subst e; rw [upd_same]; exact hu
      · rw [upd_ne e]; exact (ok.pu b hb).mono hc⟩
  le := GS.Le.refl _
  c := hc
  keep := fun b o e n => by
    have : b ≠ a := fun z => n (z ▸ hp)
    rw [upd_ne this]; exact e
  pus := fun b hb => by
    by_cases e : b = a
    · subst e; exact ⟨u, upd_same⟩
    · rw [upd_ne e]; exact (ok.pu b hb).some
  new := fun _ _ _ n => n
  npu := fun _ _ _ h => h
theorem pds_purseSet (i n : Nat) {x : Str} {j : Nat} {nn : Int} (hn : nn = (n : Int)) (he : PD Y e ee te) (hN : Y.X.N[i]? = some x := by rfl) (hv : Vis Y.X.env.scope x := by first | exact Or.inl rfl | exact Or.inr (Or.inl rfl) | exact Or.inr (Or.inr rfl)) (hd : (x == ("__debug__" : Str)) = false := by decide)
    (hcd : (x == ("__classdict__" : Str)) = false := by decide) (hs : swapsWithSole [.Subscript (.Name x p1) (.Constant (.int nn) j p2) p3] e pos.line Y.X.env = pure false := by rfl) (hw : swappedStores [.Subscript (.Name x p1) (.Constant (.int nn) j p2) p3] e Y.X.env = pure none := by rfl)
    (h1 : (assignEach [.Subscript (.Name x p1) (.Constant (.int nn) j p2) p3] Y.X.env).map (·.2) = [assign (.Subscript (.Name x p1) (.Constant (.int nn) j p2) p3) Y.X.env] := by rfl) :
    PDS Y (.Assign [.Subscript (.Name x p1) (.Constant (.int nn) j p2) p3] e pos) (tAsg ee (gSub (tVar i) (tC (.int nn)) rSetL)) (sPSet i n te) := by
  refine ⟨ps_asg he.p (pg_sub (pe_var hN hv hd hcd) pe_int set_list) hs hw h1, fun P G H c ρ σ DD EE K R q => ?_⟩
  refine he.s G H c ρ σ _ _ R.r q fun d v G1 H1 c1 ev r q => ?_
  obtain ⟨e, m, rfl, q⟩ := q
  have R1 := R.evo ev
  obtain ⟨o, e1, u, rfl, ru⟩ := R1.r.sl i _ e
  cases r
  cases ru with
  | @opq a hp =>
    obtain ⟨x, y, z, e2, g1, g2, g3, g4⟩ := R1.r.ok.pu a hp
    subst hn
    refine ⟨_, e1, a, _, (n : Int), n, rfl, rfl, e2, ?_, ?_⟩
    · have hn3 : n < 3 := by rcases q with ⟨rfl, _⟩ | ⟨rfl, _⟩ <;> decide
      show ixN 3 (n : Int) = some n
      match n, hn3 with
      | 0, _ => rfl
      | 1, _ => rfl
      | 2, _ => rfl
    · rcases q with ⟨rfl, q5⟩ | ⟨rfl, b1, b2, q5⟩
      · exact K.nx _ _ _ _ _ (R1.evo (evo_purse R1.r.ok hp (Nat.le_refl _) (u := .lst [.int m, .int y, .int z]) ⟨m, y, z, rfl, g1, g2, g3, g4⟩)) q5
      · exact K.nx _ _ _ _ _ (R1.evo (evo_purse R1.r.ok hp (Nat.le_succ _) (u := .lst [.int x, .int y, .int m]) ⟨x, y, m, rfl, g1, g2, b1, b2⟩)) q5
end
end PL

namespace PL
open PySem PySem.Spec PyProof.Rows L2

/-- a def's scope, looked at by the kernel -/
def scopeB (N P : List Str) (sc : Scope) : Bool :=
  (match sc.kind with | .function => true | _ => false) && !sc.isCoroutine && !sc.isGenerator && decide N.Nodup && decide (N.take P.length = P) &&
    P.all (fun x => match sc.names.lookup x with | some .local => true | some .cell => true | _ => false) && sc.names.all fun y => match y.2 with | .free => false | _ => true
theorem scope_of {N P : List Str} {sc : Scope} (h : scopeB N P sc = true) : FnScope N P sc := by
  simp only [scopeB, Bool.and_eq_true, decide_eq_true_eq, List.all_eq_true, Bool.not_eq_true'] at h
  obtain ⟨⟨⟨⟨⟨⟨h1, h2⟩, h3⟩, h4⟩, h5⟩, h6⟩, h7⟩ := h
  refine ⟨?_, h2, h3, h4, h5, fun x hx => ?_, fun y hy e => ?_⟩
  · split at h1
    · assumption
    · cases h1
  · have q := h6 x hx
    split at q
    · exact .inl (by assumption)
    · exact .inr (by assumption)
    · cases q
  · have q := h7 y hy
    rw [e] at q
    cases q
/-- a def of the top, named by x, its statement st, its defaults dvs -/
structure Df (K : PySem.W.Frag) (mg : Str → Option Value) (x : Str) (st : Stmt) (dvs : List V) (kws : List (Str × V)) (f : Addr) (fd : FuncData) : Prop where
  F : FunD K x x (defArgs st) (defBody st) (defScope st) dvs kws f fd
  m : mg x = some (.ref f)
/-- how it is called with values for all parameters but the last ones, which dvs fill -/
structure Cal (K : PySem.W.Frag) (mg : Str → Option Value) (x : Str) (f : Addr) (fd : FuncData) (ps : List Str) (dvs : List V) : Prop where
  m : mg x = some (.ref f)
  k : PySem.W.keepIn K (.ref f) = true
  b : ∃ ds, Vals dvs ds ∧ Binds K fd ps ds
section
variable {K : PySem.W.Frag} {mg : Str → Option Value} {x : Str} {st : Stmt} {dvs : List V} {kws : List (Str × V)} {f : Addr} {fd : FuncData} {ps : List Str}
theorem Df.cal0 (D : Df K mg x st [] kws f fd) (h : ∀ (kV doc pm : Value) (an : Option Addr) (cdv ct : Value) (us : List Value), us.length = ps.length → bindArgs (PySem.W.fnOf x x (defArgs st) (defBody st) (defScope st) .none kV doc pm an cdv ct) ⟨us, []⟩ = pure (ps.zip us)) : Cal K mg x f fd ps [] :=
  ⟨D.m, D.F.kp, [], .nil, D.F.bindsN h⟩
theorem Df.cal1 (D : Df K mg x st dvs kws f fd) (n j : Nat) (hd : dvs ≠ []) (hn : n + (dvs.length - j) = ps.length)
    (h : ∀ (T : Addr) (kV doc pm : Value) (an : Option Addr) (cdv ct : Value) (us its : List Value), us.length = n → its.length = dvs.length →
      ∃ k, bindArgs (PySem.W.fnOf x x (defArgs st) (defBody st) (defScope st) (.ref T) kV doc pm an cdv ct) ⟨us, []⟩ = seqItems? (.ref T) >>= k ∧ k (some its.toArray) = pure (ps.zip (us ++ its.drop j))) : Cal K mg x f fd ps (dvs.drop j) :=
  ⟨D.m, D.F.kp, D.F.binds1 n j hd hn h⟩
end
section
variable {Y : Ctx} {k : Nat} {f : Addr} {fd : FuncData} {ps : List Str} {sp : SpD} {dvs : List V} {dds : List D} {x : Str} {p pos : Pos} {e : Expr} {es : List Expr} {fa : TA} {t : DA}
theorem pd_callC (g : Y.Good k) (F : FnOk Y.X.prog Y.X.w Y.X.K Y.X.mg Y.X.base (L2.CX Y.X.prog Y.X.w) k f fd ps (spOf Y.X.K sp)) (C : Cal Y.X.K Y.X.mg x f fd ps dvs) (hdd : ∀ G, RpAll Y.X.K G dvs dds)
    (ha : PDA Y (e :: es) fa t) (hg : Gl Y.X x := by rfl) (hdb : (x == ("__debug__" : Str)) = false := by decide) (he : starEach (e :: es) Y.X.env = (false, eval e Y.X.env) :: starEach es Y.X.env := by rfl) (hpl : (backTo pos (starEach es Y.X.env)).any (·.1) = false := by rfl) :
    PD Y (.Call (.Name x p) (e :: es) [] pos) (tCallE (spOf Y.X.K sp) dvs Y.E fa) (dCall Y.ED sp dds t) := by
  obtain ⟨ds, hd, hb⟩ := C.b
  exact pd_call g F C.m C.k hb hd hdd ha hg hdb he hpl
theorem pd_callC0 (g : Y.Good k) (F : FnOk Y.X.prog Y.X.w Y.X.K Y.X.mg Y.X.base (L2.CX Y.X.prog Y.X.w) k f fd ps (spOf Y.X.K sp)) (C : Cal Y.X.K Y.X.mg x f fd ps dvs) (hdd : ∀ G, RpAll Y.X.K G dvs dds)
    (hg : Gl Y.X x := by rfl) (hdb : (x == ("__debug__" : Str)) = false := by decide) : PD Y (.Call (.Name x p) [] [] pos) (tCallE (spOf Y.X.K sp) dvs Y.E tNil) (dCall Y.ED sp dds dNil) := by
  obtain ⟨ds, hd, hb⟩ := C.b
  exact pd_call0 g F C.m C.k hb hd hdd hg hdb
/-! ### keywords -/
structure PDK (Y : Ctx) (kws : List Keyword) (ta : TA) (t : DA) : Prop where
  p : PK Y.X kws ta
  s : SimA Y ta t
theorem pdk_nil : PDK Y [] tNil dNil := ⟨pk_nil, pda_nil.s⟩
theorem pdk_cons {ee : TE} {te : DE} {kws : List Keyword} {kpos : Pos} {nm : Option Str} (ha : PD Y e ee te) (hr : PDK Y kws fa t) : PDK Y (⟨nm, e, kpos⟩ :: kws) (tCons ee fa) (dCons te t) :=
  ⟨pk_cons ha.p hr.p, fun G H c ρ σ Qd Q R h k => ha.s G H c ρ σ _ _ R h fun d v G1 H1 c1 e1 r1 q1 => hr.s G1 H1 c1 ρ σ _ _ (R.evo' e1) q1 fun ds vs G2 H2 c2 e2 r2 q2 => k _ _ G2 H2 c2 (e1.trans e2) (.cons (r1.mono e2.le) r2) q2⟩
/-- a call with n positional values and the keywords ks: g (of any kind of value) puts all in the parameters' order -/
structure CalK (K : PySem.W.Frag) (mg : Str → Option Value) (x : Str) (f : Addr) (fd : FuncData) (ps : List Str) (n : Nat) (ks : List Str) (gV : List V → List V → List V) (gD : List D → List D → List D) : Prop where
  m : mg x = some (.ref f)
  k : PySem.W.keepIn K (.ref f) = true
  b : ∃ g, KBn K fd ps n ks g gV
  r : ∀ G vs ds zs es, RpAll K G vs ds → RpAll K G zs es → RpAll K G (gV vs zs) (gD ds es)
def dCallK (ED : DEnv → EDt) (n m : Nat) (sp : SpD) (gD : List D → List D → List D) (t tk : DA) (ρ : DEnv) (c : Nat) (Q : QD) : Prop := t ρ c fun ds c1 => tk ρ c1 fun es c2 => ds.length = n ∧ es.length = m ∧ sp (gD ds es) c2 Q (ED ρ)
variable {n : Nat} {ks : List Str} {gV : List V → List V → List V} {gD : List D → List D → List D} {kws : List Keyword} {fk : TA} {tk : DA}
theorem callK_sim (g : Y.Good k) (C : CalK Y.X.K Y.X.mg x f fd ps n ks gV gD) (ha : SimA Y fa t) (hk : SimA Y fk tk) : SimE Y (tCallNE n ks.length (spOf Y.X.K sp) gV Y.E fa fk) (dCallK Y.ED n ks.length sp gD t tk) := fun G H c ρ σ Qd Q R q kk =>
  ha G H c ρ σ _ _ R q fun ds vs G1 H1 c1 ev r q => hk G1 H1 c1 ρ σ _ _ (R.evo' ev) q fun es zs G2 H2 c2 ev2 r2 q => by
    obtain ⟨l1, l2, q⟩ := q
    refine ⟨by rw [r.length]; exact l1, by rw [r2.length]; exact l2, G2, c2, gD ds es, Qd, Y.ED ρ, ev2.ok, C.r G2 vs ds zs es (r.mono ev2.le) r2, q, fun d v G' H' c' e' r' q' => kk d v G' H' c' ((ev.trans ev2).trans e') r' q', ?_⟩
    exact fun C ns es dx G' H' c' e' r' q' => g.err ρ σ G H c R C ns es dx G' H' c' ((ev.trans ev2).trans e') r' q'
theorem pd_callK (g : Y.Good k) (F : FnOk Y.X.prog Y.X.w Y.X.K Y.X.mg Y.X.base (L2.CX Y.X.prog Y.X.w) k f fd ps (spOf Y.X.K sp)) (C : CalK Y.X.K Y.X.mg x f fd ps n ks gV gD) (ha : PDA Y (e :: es) fa t) (hk : PDK Y kws fk tk)
    (hall : (backToKw pos (keywordEach kws Y.X.env)).all (·.1.isSome) = true := by rfl) (hks : (backToKw pos (keywordEach kws Y.X.env)).filterMap (·.1) = ks := by rfl) (hg : Gl Y.X x := by rfl)
    (hdb : (x == ("__debug__" : Str)) = false := by decide) (he : starEach (e :: es) Y.X.env = (false, eval e Y.X.env) :: starEach es Y.X.env := by rfl)
    (hpl : ((backTo pos (starEach (e :: es) Y.X.env)).any (·.1) || (backToKw pos (keywordEach kws Y.X.env)).any (·.1.isNone)) = false := by rfl) :
    PD Y (.Call (.Name x p) (e :: es) kws pos) (tCallNE n ks.length (spOf Y.X.K sp) gV Y.E fa fk) (dCallK Y.ED n ks.length sp gD t tk) := by
  obtain ⟨gg, hb⟩ := C.b
  exact ⟨pe_callNE F g.room hg C.m C.k g.pass hdb hb ha.p hk.p hall hks he hpl, callK_sim g C ha.s hk.s⟩
theorem pd_callK0 (g : Y.Good k) (F : FnOk Y.X.prog Y.X.w Y.X.K Y.X.mg Y.X.base (L2.CX Y.X.prog Y.X.w) k f fd ps (spOf Y.X.K sp)) (C : CalK Y.X.K Y.X.mg x f fd ps 0 ks gV gD) (hk : PDK Y kws fk tk)
    (hall : (backToKw pos (keywordEach kws Y.X.env)).all (·.1.isSome) = true := by rfl) (hks : (backToKw pos (keywordEach kws Y.X.env)).filterMap (·.1) = ks := by rfl) (hg : Gl Y.X x := by rfl)
    (hdb : (x == ("__debug__" : Str)) = false := by decide) (hpl : (backToKw pos (keywordEach kws Y.X.env)).any (·.1.isNone) = false := by rfl) (hne : (backToKw pos (keywordEach kws Y.X.env)).isEmpty = false := by rfl) :
    PD Y (.Call (.Name x p) [] kws pos) (tCallNE 0 ks.length (spOf Y.X.K sp) gV Y.E tNil fk) (dCallK Y.ED 0 ks.length sp gD dNil tk) := by
  obtain ⟨gg, hb⟩ := C.b
  exact ⟨pe_kw0E F g.room hg C.m C.k g.pass hdb hb hk.p hall hks hpl, callK_sim g C pda_nil.s hk.s⟩
/-- without defaults: all parameters are given -/
theorem Df.calK {K : PySem.W.Frag} {mg : Str → Option Value} {st : Stmt} {kw : List (Str × V)} (Dd : Df K mg x st [] kw f fd) (n : Nat) (ks : List Str) (g : {α : Type} → List α → List α → List α)
    (hr : ∀ {α β : Type} {R : α → β → Prop} {vs : List α} {us : List β} {zs : List α} {ws : List β}, Paired R vs us → Paired R zs ws → Paired R (g vs zs) (g us ws))
    (hp : ∀ {G : GS} {vs ds zs es}, RpAll K G vs ds → RpAll K G zs es → RpAll K G (g vs zs) (g ds es))
    (h : ∀ (kV doc pm : Value) (an : Option Addr) (cdv ct : Value) (us ws : List Value), us.length = n → ws.length = ks.length → bindArgs (PySem.W.fnOf x x (defArgs st) (defBody st) (defScope st) .none kV doc pm an cdv ct) ⟨us, ks.zip ws⟩ = pure (ps.zip (g us ws))) : CalK K mg x f fd ps n ks g g := by
  refine ⟨Dd.m, Dd.F.kp, ⟨g, fun s us ws X l1 l2 => ?_, fun r1 r2 => hr r1 r2⟩, fun G vs ds zs es r1 r2 => hp r1 r2⟩
  obtain ⟨oc, od, dV, kV, doc, pm, an, cdv, ct, osl, rfl, lk, hcd, hD, hK⟩ := Dd.F.ex
  rcases hD with ⟨_, rfl⟩ | ⟨e, _⟩
  · exact .of_eq (h kV doc pm an cdv ct us ws l1 l2)
  · exact absurd rfl e
end
end PL

namespace PL
open PySem PySem.Spec PyProof.Rows L2

/-! ### operators of several kinds of values -/
theorem Br2.or {K : PySem.W.Frag} {r r' : R2} {rd rd' : RD2} (h : Br2 K r rd) (h' : Br2 K r' rd') : Br2 K (fun x y H Q => r x y H Q ∨ r' x y H Q) (fun x y c Q => rd x y c Q ∨ rd' x y c Q) := fun G H c x y d e Qd Q ok rx ry q k =>
  q.elim (fun q => .inl (h G H c x y d e Qd Q ok rx ry q k)) fun q => .inr (h' G H c x y d e Qd Q ok rx ry q k)
theorem Br2.imp {K : PySem.W.Frag} {r : R2} {rd rd' : RD2} (h : Br2 K r rd) (i : ∀ x y c Q, rd' x y c Q → rd x y c Q) : Br2 K r rd' := fun G H c x y d e Qd Q ok rx ry q k => h G H c x y d e Qd Q ok rx ry (i _ _ _ _ q) k
def aAddS (x : D) (y : D) (c : Nat) (Q : QD) : Prop := ∃ i j : Str, x = .str i ∧ y = .str j ∧ i.length + j.length ≤ sizeLine ∧ Q (.str (i ++ j)) c
theorem br_addS {K : PySem.W.Frag} : Br2 K (fun x y H Q => ∃ i j, x = .str i ∧ y = .str j ∧ i.length + j.length ≤ sizeLine ∧ Q (.str (i ++ j)) H) aAddS := fun G H c x y d e Qd Q ok rx ry q k => by
  obtain ⟨i, j, rfl, rfl, hz, q⟩ := q
  cases rx; cases ry
  exact ⟨i, j, rfl, rfl, hz, k _ _ G H c (Evo.refl ok) (.str _) q⟩
def rPlus (K : PySem.W.Frag) : R2 := fun x y H Q => rI0 (fun i j => V.int (i + j)) x y H Q ∨ (∃ i j, x = .str i ∧ y = .str j ∧ i.length + j.length ≤ sizeLine ∧ Q (.str (i ++ j)) H) ∨ rCatA K x y H Q
/-- x + y of numbers, texts, tuples -/
def aPlus (x : D) (y : D) (c : Nat) (Q : QD) : Prop := match x, y with
  | .int i, .int j => Q (.int (i + j)) c
  | .str i, .str j => i.length + j.length ≤ sizeLine ∧ Q (.str (i ++ j)) c
  | .tup l, .tup m => l.length + m.length ≤ sizeLine ∧ Q (.tup (l ++ m)) c
  | _, _ => False
theorem op_plus {X : Cx} : OpR X (binaryOp .Add) (rPlus X.K) := op_add.or (op_add_str.or op_catA)
theorem br_plus {K : PySem.W.Frag} : Br2 K (rPlus K) aPlus := ((br_I0 fun _ _ _ => .int _).or (br_addS.or br_cat)).imp fun x y c Q q => by
  unfold aPlus at q
  split at q
  · exact .inl ⟨_, _, rfl, rfl, q⟩
  · exact .inr (.inl ⟨_, _, rfl, rfl, q⟩)
  · exact .inr (.inr ⟨_, _, rfl, rfl, q⟩)
  · exact q.elim
def rLeP : R2 := fun x y H Q => rI0 (fun i j => V.bl (decide (i ≤ j))) x y H Q ∨ ∃ i j, x = .str i ∧ y = .str j ∧ Q (.bl (!decide (j.cps.toList < i.cps.toList))) H
def aLeP (x : D) (y : D) (c : Nat) (Q : QD) : Prop := match x, y with
  | .int i, .int j => Q (.bl (decide (i ≤ j))) c
  | .str i, .str j => Q (.bl (!decide (j.cps.toList < i.cps.toList))) c
  | _, _ => False
theorem op_leP {X : Cx} : OpR X (compareOp .LtE) rLeP := op_le.or op_le_str
theorem br_leP {K : PySem.W.Frag} : Br2 K rLeP aLeP := ((br_I0 fun _ _ _ => .bl _).or br_leS).imp fun x y c Q q => by
  unfold aLeP at q
  split at q
  · exact .inl ⟨_, _, rfl, rfl, q⟩
  · exact .inr ⟨_, _, rfl, rfl, q⟩
  · exact q.elim
/-- x[i] -/
def aItem (x : D) (y : D) (c : Nat) (Q : QD) : Prop := match x, y with
  | .lst l, .int i => ∃ d, atI l i = some d ∧ Q d c
  | .tup l, .int i => ∃ d, atI l i = some d ∧ Q d c
  | .str z, .int i => z.length ≤ sizeLine ∧ ∃ k, atI z.cps.toList i = some k ∧ Q (.str ⟨#[k]⟩) c
  | .scr ns, .int i => ∃ j, atI ns i = some j ∧ Q (.int j) c
  | _, _ => False
theorem br_item {K : PySem.W.Frag} : Br2 K (rIx K) aItem := br_ix.imp fun x y c Q q => by
  unfold aItem at q
  split at q
  · obtain ⟨d, h, q⟩ := q; exact ⟨_, rfl, .inl ⟨_, d, rfl, h, q⟩⟩
  · obtain ⟨d, h, q⟩ := q; exact ⟨_, rfl, .inr (.inl ⟨_, d, rfl, h, q⟩)⟩
  · obtain ⟨hz, d, h, q⟩ := q; exact ⟨_, rfl, .inr (.inr (.inl ⟨_, d, rfl, hz, h, q⟩))⟩
  · obtain ⟨j, h, q⟩ := q; exact ⟨_, rfl, .inr (.inr (.inr ⟨_, j, rfl, h, q⟩))⟩
  · exact q.elim
/-- x[lo:hi] -/
def aSlice (x : D) (lo : Option Int) (hi : Option Int) (c : Nat) (Q : QD) : Prop := match x with
  | .tup l => Q (.tup (cut l lo hi)) c
  | .lst l => Q (.lst (cut l lo hi)) c
  | _ => False
theorem br_slice {K : PySem.W.Frag} : BrS K (rCut K) aSlice := fun G H c x d lo hi Qd Q ok rx q k => br_cut G H c x d lo hi Qd Q ok rx (by
  unfold aSlice at q
  split at q
  · exact .inl ⟨_, rfl, q⟩
  · exact .inr ⟨_, rfl, q⟩
  · exact q.elim) k
/-- len(x) -/
def aLen (ds : List D) (c : Nat) (Q : QD) : Prop := match ds with
  | [.lst l] => Q (.int l.length) c
  | [.tup l] => Q (.int l.length) c
  | [.str z] => z.length ≤ sizeLine ∧ Q (.int z.length) c
  | [.scr ns] => Q (.int ns.length) c
  | _ => False
theorem BrN.imp {K : PySem.W.Frag} {r : List V → Hp → VK → Prop} {rd rd' : RDn} (h : BrN K r rd) (i : ∀ ds c Q, rd' ds c Q → rd ds c Q) : BrN K r rd' := fun G H c xs ds Qd Q ok rx q k => h G H c xs ds Qd Q ok rx (i _ _ _ q) k
theorem br_lenA {K : PySem.W.Frag} : BrN K (rLen K) aLen := br_len.imp fun ds c Q q => by
  unfold aLen at q
  split at q
  · exact ⟨_, rfl, .inl ⟨_, .inl rfl, q⟩⟩
  · exact ⟨_, rfl, .inl ⟨_, .inr rfl, q⟩⟩
  · exact ⟨_, rfl, .inr (.inl ⟨_, rfl, q⟩)⟩
  · exact ⟨_, rfl, .inr (.inr ⟨_, rfl, q⟩)⟩
  · exact q.elim
def aInt (ds : List D) (c : Nat) (Q : QD) : Prop := match ds with
  | [.int i] => Q (.int i) c
  | [.bl b] => Q (.int (b2n b)) c
  | _ => False
theorem br_intA {K : PySem.W.Frag} : BrN K (fun xs H Q => (∃ i, xs = [.int i] ∧ Q (.int i) H) ∨ ∃ k, xs = [.bl k] ∧ Q (.int (if k then 1 else 0)) H) aInt := br_int.imp fun ds c Q q => by
  unfold aInt at q
  split at q
  · exact .inl ⟨_, rfl, q⟩
  · exact .inr ⟨_, rfl, q⟩
  · exact q.elim
def isIns : D → Option Addr
  | .ins C _ _ => some C
  | _ => none
def aIsa (IC : Addr → Prop) (ds : List D) (c : Nat) (Q : QD) : Prop := match ds with
  | [x, .ty T] => T ∈ basics ∧ ((kind x).isSome = true ∨ ∃ C, isIns x = some C ∧ IC C) ∧ Q (.bl (isaB T x)) c
  | _ => False
theorem br_isaA {K : PySem.W.Frag} {IC : Addr → Prop} (hI : ∀ C, IC C → ICls K C) : BrN K (rIsi K) (aIsa IC) := (br_isa hI).imp fun ds c Q q => by
  unfold aIsa at q
  split at q
  · obtain ⟨h1, h2, q⟩ := q
    refine ⟨_, _, rfl, h1, ?_, q⟩
    rcases h2 with h | ⟨C, h, i⟩
    · exact .inl (Option.isSome_iff_exists.mp h)
    · rename_i x T
      cases x with
      | ins C' ns es => cases h; exact .inr ⟨_, _, _, rfl, i⟩
      | _ => cases h
  · exact q.elim
def aListA (ds : List D) (c : Nat) (Q : QD) : Prop := match ds with
  | [.lst l] => Q (.lst l) c
  | [.tup l] => Q (.lst l) c
  | _ => False
theorem br_listA {K : PySem.W.Frag} : BrN K (fun xs H Q => ∃ p ys, xs = [.ref p] ∧ (SqL K H p ys ∨ SqT K H p ys) ∧ ∀ l, H l = none → Q (.ref l) (upd H l (.lst ys))) aListA := br_list.imp fun ds c Q q => by
  unfold aListA at q
  split at q
  · exact ⟨_, .inl rfl, q⟩
  · exact ⟨_, .inr rfl, q⟩
  · exact q.elim
def aTupleA (ds : List D) (c : Nat) (Q : QD) : Prop := match ds with
  | [.lst l] => Q (.tup l) c
  | [.tup l] => Q (.tup l) c
  | _ => False
theorem br_tupleA {K : PySem.W.Frag} : BrN K (fun xs H Q => ∃ p ys, xs = [.ref p] ∧ ((SqL K H p ys ∧ ∀ l, H l = none → Q (.ref l) (upd H l (.tup ys))) ∨ (SqT K H p ys ∧ Q (.ref p) H))) aTupleA := br_tuple.imp fun ds c Q q => by
  unfold aTupleA at q
  split at q
  · exact ⟨_, .inl rfl, q⟩
  · exact ⟨_, .inr rfl, q⟩
  · exact q.elim
def aMax2 (ds : List D) (c : Nat) (Q : QD) : Prop := match ds with
  | [.int i, .int j] => Q (.int (if j > i then j else i)) c
  | _ => False
theorem br_max2 {K : PySem.W.Frag} : BrN K (fun xs H Q => ∃ i j, xs = [.int i, .int j] ∧ Q (.int (if j > i then j else i)) H) aMax2 := (br_2I (f := fun i j => if j > i then j else i)).imp fun ds c Q q => by
  unfold aMax2 at q
  split at q
  · exact ⟨_, _, rfl, q⟩
  · exact q.elim
def aMin2 (ds : List D) (c : Nat) (Q : QD) : Prop := match ds with
  | [.int i, .int j] => Q (.int (if j < i then j else i)) c
  | _ => False
theorem br_min2 {K : PySem.W.Frag} : BrN K (fun xs H Q => ∃ i j, xs = [.int i, .int j] ∧ Q (.int (if j < i then j else i)) H) aMin2 := (br_2I (f := fun i j => if j < i then j else i)).imp fun ds c Q q => by
  unfold aMin2 at q
  split at q
  · exact ⟨_, _, rfl, q⟩
  · exact q.elim
/-! ### comparisons: as values, as tests -/
structure PDC (Y : Ctx) (op : CmpOp) (a b : Expr) (ee : TE) (te : DE) : Prop where
  p : PC Y.X op a b ee
  s : SimE Y ee te
section
variable {Y : Ctx} {a b f : Expr} {ea eb ef ee : TE} {ta tb tf te : DE} {pos p2 : Pos} {lo hi : Option Expr} {el eh : TO} {tl th : DO} {op : CmpOp} {k : Nat}
theorem pdc_op {r : R2} {rd : RD2} (ho : OpR Y.X (compareOp op) r) (br : Br2 Y.X.K r rd) (ha : PD Y a ea ta) (hb : PD Y b eb tb) : PDC Y op a b (tOp r ea eb) (dOp rd ta tb) :=
  ⟨⟨fun pins s σ H Q I h => bin ha.p hb.p I h fun v u s2 x y H2 I2 r1 r2 q => ho pins s2 σ H2 x y v u Q I2 r1 r2 q⟩,
   fun G H c ρ σ Qd Q R h k => two R ha.s hb.s h fun d e x y G' H' c' ev r1 r2 q => br G' H' c' x y d e Qd Q ev.ok r1 r2 q fun d' v G2 H2 c2 e2 r q => k d' v G2 H2 c2 (ev.trans e2) r q⟩
theorem pd_cm (h : PDC Y op a b ee te) (h1 : behindInMarks op b = false := by first | exact nobehind _ (by decide) (by decide) | rfl) : PD Y (.Compare a [op] [b] pos) ee te := ⟨pe_cmp h.p h1, h.s⟩
theorem pdt_cm (h : PDC Y op a b ee te) (h1 : behindInMarks op b = false := by first | exact nobehind _ (by decide) (by decide) | rfl) : PDT Y (.Compare a [op] [b] pos) (L2.tB ee) (dB te) :=
  ⟨pt_cmp h.p h1, fun G H c ρ σ Qd Q R h2 k => h.s G H c ρ σ _ _ R h2 fun d v G1 H1 c1 e1 r1 q1 => by
    obtain ⟨b, rfl, q1⟩ := q1
    cases r1
    exact ⟨b, rfl, k b G1 H1 c1 e1 q1⟩⟩
theorem pd_plus (ha : PD Y a ea ta) (hb : PD Y b eb tb) : PD Y (.BinOp a .Add b pos) (tOp (rPlus Y.X.K) ea eb) (dOp aPlus ta tb) := pd_op op_plus br_plus ha hb
theorem pdc_leP (ha : PD Y a ea ta) (hb : PD Y b eb tb) : PDC Y .LtE a b (tOp rLeP ea eb) (dOp aLeP ta tb) := pdc_op op_leP br_leP ha hb
theorem pdc_lt (ha : PD Y a ea ta) (hb : PD Y b eb tb) : PDC Y .Lt a b (tOp (rI0 fun i j => .bl (decide (i < j))) ea eb) (dOp aLt ta tb) := pdc_op op_lt (br_I0 fun _ _ _ => .bl _) ha hb
theorem pdc_gt (ha : PD Y a ea ta) (hb : PD Y b eb tb) : PDC Y .Gt a b (tOp (rI0 fun i j => .bl (decide (j < i))) ea eb) (dOp aGt ta tb) := pdc_op op_gt (br_I0 fun _ _ _ => .bl _) ha hb
theorem pdc_ge (ha : PD Y a ea ta) (hb : PD Y b eb tb) : PDC Y .GtE a b (tOp (rI0 fun i j => .bl (decide (j ≤ i))) ea eb) (dOp aGe ta tb) := pdc_op op_ge (br_I0 fun _ _ _ => .bl _) ha hb
theorem pdc_eq (g : Y.Good k) (ha : PD Y a ea ta) (hb : PD Y b eb tb) : PDC Y .Eq a b (tOp (rEqD Y.X.K) ea eb) (dOp aEq ta tb) := pdc_op (op_eqD g.room.units) br_eq ha hb
theorem pdc_ne (g : Y.Good k) (ha : PD Y a ea ta) (hb : PD Y b eb tb) : PDC Y .NotEq a b (tOp (rNeD Y.X.K) ea eb) (dOp aNe ta tb) := pdc_op (op_neD g.room.units) br_ne ha hb
theorem pdc_isN {j pos'} (ha : PD Y a ea ta) : PDC Y .Is a (.Constant .none j pos') (tOp (fun x y H Q => y = .non ∧ Q (.bl (decide (x = .non))) H) ea (tC .non)) (dOp aIsN ta (dC .non)) := pdc_op op_isN br_isN ha pd_non
theorem pdc_notN {j pos'} (ha : PD Y a ea ta) : PDC Y .IsNot a (.Constant .none j pos') (tOp (fun x y H Q => y = .non ∧ Q (.bl (!decide (x = .non))) H) ea (tC .non)) (dOp aNotN ta (dC .non)) := pdc_op op_notN br_notN ha pd_non
theorem pd_leP2 (ha : PD Y a ea ta) (hb : PD Y b eb tb) (hf : PD Y f ef tf) (hm : lastMarks [.LtE, .LtE] [b, f] = false := by with_unfolding_all rfl) : PD Y (.Compare a [.LtE, .LtE] [b, f] pos) (tChain rLeP rLeP ea eb ef) (dChain aLeP aLeP ta tb tf) := pd_chain op_leP br_leP op_leP br_leP ha hb hf hm
def dtChain (rd rd' : RD2) (ta tb tc : DE) (ρ : DEnv) (c : Nat) (Q : Bool → Nat → Prop) : Prop := ta ρ c fun x c1 => tb ρ c1 fun y c2 => rd x y c2 fun z c3 => ∃ k, z = .bl k ∧ if k = true then tc ρ c3 fun w c4 => rd' y w c4 fun u c5 => ∃ m, u = .bl m ∧ Q m c5 else Q false c3
theorem pdt_leP2 (ha : PD Y a ea ta) (hb : PD Y b eb tb) (hc : PD Y f ef tf) (hm : lastMarks [.LtE, .LtE] [b, f] = false := by with_unfolding_all rfl) : PDT Y (.Compare a [.LtE, .LtE] [b, f] pos) (tTest (tChain rLeP rLeP ea eb ef)) (dtChain aLeP aLeP ta tb tf) := by
  refine ⟨pt_chain op_leP op_leP ha.p hb.p hc.p hm, fun G H c ρ σ Qd Q R h k => ?_⟩
  refine two R ha.s hb.s h fun d e x y G1 H1 c1 e1 r1 r2 q => br_leP G1 H1 c1 x y d e _ _ e1.ok r1 r2 q fun d' v G2 H2 c2 e2 r3 q => ?_
  obtain ⟨b, rfl, q⟩ := q
  cases r3
  refine ⟨b, rfl, ?_⟩
  cases b with
  | false => rw [if_neg Bool.false_ne_true] at q ⊢; exact ⟨false, rfl, k _ G2 H2 c2 (e1.trans e2) q⟩
  | true =>
    rw [if_pos rfl] at q ⊢
    refine hc.s G2 H2 c2 ρ σ _ _ (R.evo' (e1.trans e2)) q fun d4 v4 G4 H4 c4 e4 r4 q4 => ?_
    refine br_leP G4 H4 c4 y v4 e d4 _ _ e4.ok (r2.mono (e2.le.trans e4.le)) r4 q4 fun d' v G5 H5 c5 e5 r q => ?_
    obtain ⟨m, rfl, q⟩ := q
    cases r
    exact ⟨m, rfl, k m G5 H5 c5 ((e1.trans e2).trans (e4.trans e5)) q⟩
theorem pd_at (ha : PD Y a ea ta) (hb : PD Y b eb tb) (hs : PlainIx b := by exact fun _ _ => rfl) : PD Y (.Subscript a b pos) (tOp (rIx Y.X.K) ea eb) (dOp aItem ta tb) := pd_ix ix_seq br_item ha hb hs
theorem pd_part (ha : PD Y a ea ta) (hl : PDO Y lo el tl) (hu : PDO Y hi eh th) : PD Y (.Subscript a (.Slice lo hi none p2) pos) (tSl (rCut Y.X.K) ea el eh) (dSl aSlice ta tl th) := pd_slice sl_cut br_slice ha hl hu
end
theorem bt_len : bootBuiltins "len" = some (.builtin "len") := by decide +kernel
theorem bt_isinstance : bootBuiltins "isinstance" = some (.builtin "isinstance") := by decide +kernel
theorem bt_all : bootBuiltins "all" = some (.builtin "all") := by decide +kernel
theorem bt_any : bootBuiltins "any" = some (.builtin "any") := by decide +kernel
theorem bt_max : bootBuiltins "max" = some (.builtin "max") := by decide +kernel
theorem bt_min : bootBuiltins "min" = some (.builtin "min") := by decide +kernel
theorem bt_sum : bootBuiltins "sum" = some (.builtin "sum") := by decide +kernel
theorem bt_sorted : bootBuiltins "sorted" = some (.builtin "sorted") := by decide +kernel
theorem bt_int : bootBuiltins "int" = some (.type "int") := by decide +kernel
theorem bt_str : bootBuiltins "str" = some (.type "str") := by decide +kernel
theorem bt_bool : bootBuiltins "bool" = some (.type "bool") := by decide +kernel
theorem bt_tuple : bootBuiltins "tuple" = some (.type "tuple") := by decide +kernel
theorem bt_list : bootBuiltins "list" = some (.type "list") := by decide +kernel
theorem bt_dict : bootBuiltins "dict" = some (.type "dict") := by decide +kernel
theorem bt_set : bootBuiltins "set" = some (.type "set") := by decide +kernel
theorem bt_enumerate : bootBuiltins "enumerate" = some (.type "enumerate") := by decide +kernel
end PL

namespace PL
open PySem PySem.Spec PyProof.Rows L2

/-! ### enumerate over a tuple -/
set_option maxHeartbeats 1000000 in
theorem enum_new {v : Value} {o : Obj} {φ : Heap → Prop} (B : Begins v o φ) :
    Meets (Builtin.«enumerate.__new__» ⟨[.type "enumerate", v], []⟩) (fun _ R s => φ s.heap ∧
      R (.ok (.ret (.ref (s.heap.push o).objs.size))) { s with heap := (s.heap.push o).push { cls := .type "enumerate", data := .fields #[.none, .bool false, .ref s.heap.objs.size, rawInt 0, .none, .none] } }) :=
  .of_wp fun prog w A R s h => by
    obtain ⟨hp, g, d, tk, os⟩ := s
    obtain ⟨h1, h⟩ := h
    have hsub := sub_enumerate
    have begun : ∀ {A' : Around} {E : Value → Shared → Prop} {Q : Value → Shared → Prop}, Q (.ref hp.objs.size) ⟨hp.push o, g, d, tk, os⟩ → wpAny (model prog w) A' (pyIter v) Q E ⟨hp, g, d, tk, os⟩ :=
      fun {A' E Q} z => B.iter prog w A' E ⟨hp, g, d, tk, os⟩ Q h1 z
    wp_walk using begun
    refine wpAny_stack_any fun st => wpAny_pure ?_
    split
    · rename_i c _ _ _ _ _
      cases (c == Value.type "enumerate") <;> (wp_walk using begun; exact ⟨_, rfl, h⟩)
    · wp_walk using begun
      exact ⟨_, rfl, h⟩
theorem enum_call {prog : Program} {w : World} {A : Around} {E : Value → Shared → Prop} {s : Shared} {v : Value} {o : Obj} {φ : Heap → Prop} {Q : Value → Shared → Prop} (B : Begins v o φ) (h1 : φ s.heap)
    (h : ∀ h', IsEnum h' (s.heap.objs.size + 1) s.heap.objs.size 0 .none → h'.get? s.heap.objs.size = some o → (∀ b o, s.heap.get? b = some o → h'.get? b = some o) → Q (.ref (s.heap.objs.size + 1)) { s with heap := h' }) :
    wpAny (model prog w) A (call (.type "enumerate") [v]) Q E s := by
  refine callType_new F.called_enumerate (by decide) (F.typeCall_enumerate_1 _) (F.newCall_enumerate_1 _) (fun obj => F.args_object_init_2 obj _) F.entry_enumerate_new (enum_new B) ⟨h1, ?_⟩
  have hz : (s.heap.push o).objs.size = s.heap.objs.size + 1 := Heap.size_push ..
  show _ ∧ _
  rw [hz]
  have he := Heap.get?_push_size (s.heap.push o) (o := { cls := .type "enumerate", data := .fields #[.none, .bool false, .ref s.heap.objs.size, rawInt 0, .none, .none] }) rfl
  rw [hz] at he
  exact ⟨⟨_, he, rfl⟩, h _ he (Heap.get?_push_of_some _ (Heap.get?_push_size _ B.free)) fun b o x => Heap.get?_push_of_some _ (Heap.get?_push_of_some _ x)⟩
/-- the tuple at a, each item in a new pair -/
def IteT (K : PySem.W.Frag) (a : Addr) : It :=
  ⟨fun i H => ∃ (xs : List V) (x : V), SqT K H a xs ∧ xs[i]? = some x, fun i H v H' => ∃ T x, v = .ref T ∧ H T = none ∧ H' = upd H T (.tup [.int (i : Nat), x]) ∧ ∀ xs, SqT K H a xs → xs[i]? = some x, fun i H => ∃ xs : List V, SqT K H a xs ∧ xs.length = i⟩
theorem turn_enumT {P : Program} {w : World} {K : PySem.W.Frag} {elts : List Expr} {kk : Nat} {tpos : Pos} (a e it : Addr) (hai : a ≠ it) (hae : a ≠ e) :
    Turn P w K (.Tuple elts kk tpos) (IteT K a) [e, it] e (fun i h => (∃ old, IsEnum h e it ((i : Nat) : Int) old) ∧ h.IsTupleIter it a i ∧ e ≠ it) := by
  have two : ∀ {b : Addr}, b ∈ [e, it] → b = e ∨ b = it := fun h => by simpa using h
  refine ⟨by simp, fun i h ⟨⟨old, he⟩, ⟨o, ho, hc, hd⟩, _⟩ b hb => ?_, fun i h h' ⟨⟨old, he⟩, hi, hne⟩ k => ⟨⟨old, k e (by simp) _ he⟩, hi.at fun o q => k it (by simp) o q, hne⟩, ?_, ?_, fun A i s Q E ⟨⟨_, he⟩, _⟩ h => wpAny_pyIter_enum he h⟩
  · rcases two hb with z | z
    · subst z; exact ⟨_, he, fun v q => nomatch q⟩
    · subst z; exact ⟨o, ho, fun v q => by rw [hd] at q; cases q⟩
  · intro X hP hw hK hc i pins s σ H E I hf st hg
    subst hP hw hK
    obtain ⟨⟨old, he⟩, hit, hne⟩ := st
    obtain ⟨xs, x, hq, hx⟩ := hg
    obtain ⟨its, rv, p, hz⟩ := I.tuple hq
    obtain ⟨u, hu, ru⟩ := rv.get hx
    have hi : i < its.toArray.size := by
      have := (List.getElem?_eq_some_iff.mp hu).1
      simpa using this
    have hel : e < s.heap.objs.size := Heap.lt_size he
    have hil : it < s.heap.objs.size := by obtain ⟨_, q, _⟩ := hit; exact Heap.lt_size q
    have Dr := Draws.tuple (prog := X.prog) (w := X.w) (A := X.A.in1) (I.ok.hd hc) it a hai its.toArray
    refine wpAny_pyNext_enum_itemD Dr he ⟨hit, show s.heap.IsTuple a its.toArray from p⟩ hi hne (by simp [hne, Ne.symm hae]) fun y h' tk hy ho hs' hT hsz hk => ?_
    have ey : y = u := by
      have hy' : its[i]? = some y := by simpa using hy
      rw [hu] at hy'
      exact (Option.some.inj hy').symm
    subst ey
    refine ⟨_, rfl, wpAny_letOwnedTupleGo_enum (s := { s with heap := h', toks := tk + 1 }) ho fun h'' he' sb => ?_⟩
    have hT2 : h''.get? s.heap.objs.size = some { cls := .type "tuple", data := .seq #[.int i tk, y] } := (sb.2 _ (Nat.ne_of_gt hel)).trans hT
    have new : ObjOk X.prog X.w (upd H s.heap.objs.size (.tup [.int (i : Nat), x])) h'' s.heap.objs.size (.tup [.int (i : Nat), x]) :=
      ⟨by show 2 ≤ sizeLine; decide, [.int i tk, y], .cons ⟨_, rfl⟩ (.cons ru .nil), ⟨_, hT2, rfl, _, rfl⟩⟩
    have kept : ∀ b ob, b ∉ [e, it] → s.heap.get? b = some ob → h''.get? b = some ob := fun b ob hb q => by
      simp only [List.mem_cons, List.not_mem_nil, or_false, not_or] at hb
      exact (sb.2 b hb.1).trans (hk b ob hb.1 hb.2 q)
    have I1 : Inv X pins σ (upd H s.heap.objs.size (.tup [.int (i : Nat), x])) { s with heap := h'', toks := tk + 1 } := I.turnedNew (ch := [e, it]) kept hf (Nat.le_refl _) new
    refine ⟨.ref s.heap.objs.size, _, I1, rfl, ⟨_, x, rfl, I.hok.fresh (Nat.le_refl _), rfl, fun ys hy => by rw [I.tuple_inj hy hq]; exact hx⟩, ⟨⟨y, ?_⟩, hs'.1.at fun o q => (sb.2 it (Ne.symm hne)).trans q, hne⟩, fun b hb => ?_⟩
    · rw [show ((i + 1 : Nat) : Int) = (i : Int) + 1 by omega]; exact he'
    · have lt : b < s.heap.objs.size := by
        rcases two hb with z | z
        · rw [z]; exact hel
        · rw [z]; exact hil
      rw [upd_ne (Nat.ne_of_lt lt)]
      exact (hf b hb).1
  · intro X hP hw hK hc i pins s σ H E I hf st hg
    subst hP hw hK
    obtain ⟨⟨old, he⟩, hit, hne⟩ := st
    obtain ⟨xs, hq, hx⟩ := hg
    obtain ⟨its, rv, p, hz⟩ := I.tuple hq
    obtain ⟨f0, f1, f2, f3, f4, f5⟩ := hf it (by simp)
    have hl := rv.length
    have hfin : its.toArray.size = i := by simp; omega
    subst hx
    have Dr := Draws.tuple (prog := X.prog) (w := X.w) (A := X.A.in1) (I.ok.hd hc) it a hai its.toArray
    rw [← hfin] at hit he
    exact wpAny_pyNext_enum_endD Dr he ⟨hit, show s.heap.IsTuple a its.toArray from p⟩ fun h' eb => ⟨rfl, I.turned (t' := s.toks) (fun b o hb q => eb b o hb q) f0 f1 f3 f4 f5⟩
/-- enumerate of a list or a tuple -/
def iEnumA (K : PySem.W.Frag) (ta : TA) : TI := fun σ H R => ta σ H fun vs H1 => (∃ a xs, vs = [.ref a] ∧ SqL K H1 a xs ∧ R (Ite K a) H1) ∨ ∃ a xs, vs = [.ref a] ∧ SqT K H1 a xs ∧ R (IteT K a) H1
theorem pi_enumA {X : Cx} {e : Expr} {ta : TA} {p pos tpos : Pos} {elts : List Expr} {kk : Nat} (hg : Gl X "enumerate") (hm : X.mg "enumerate" = none) (ha : PA X [e] ta) (hs : starEach [e] X.env = [(false, eval e X.env)]) :
    PI X (.Tuple elts kk tpos) (.Call (.Name "enumerate" p) [e] [] pos) (iEnumA X.K ta) := by
  refine ⟨fun pins s σ H R I h => ?_⟩
  refine Call_ (ld_blt I hg hm bt_enumerate (PyProof.Rows.callWith_type1 (thn (ha.run pos pins s σ H _ I h) fun us s1 ⟨vs, H1, I1, r1, q1⟩ => ?_) hs rfl))
  have le2 : ∀ {b : Addr}, b ∈ [s1.heap.objs.size + 1, s1.heap.objs.size] → s1.heap.objs.size ≤ b := fun {b} hb => by
    have z : b = s1.heap.objs.size + 1 ∨ b = s1.heap.objs.size := by simpa using hb
    rcases z with z | z <;> rw [z]
    · exact Nat.le_succ _
    · exact Nat.le_refl _
  rcases q1 with ⟨a, xs, rfl, hq, q⟩ | ⟨a, xs, rfl, hq, q⟩
  · obtain ⟨u, rfl, r⟩ := vals1 r1
    cases r
    obtain ⟨its, rv, p', hz⟩ := I1.list hq
    exact call_enumerate_list p'.isList fun h' he hit hsz hk => wpAny_pyIter_enum he ⟨s1.heap.objs.size + 1, _, _, _, H1, rfl, I1.kept (t' := s1.toks) hk, turn_enum a (s1.heap.objs.size + 1) s1.heap.objs.size, ⟨⟨.none, he⟩, hit, Nat.succ_ne_self _⟩,
      fun b hb => I1.fpOk (le2 hb) (I1.hok.fresh (le2 hb)), q⟩
  · obtain ⟨u, rfl, r⟩ := vals1 r1
    cases r
    obtain ⟨its, rv, p', hz⟩ := I1.tuple hq
    have alt : a < s1.heap.objs.size := p'.lt
    exact enum_call (begins_tuple a its.toArray) (show s1.heap.IsTuple a its.toArray from p') fun h' he ho hk => wpAny_pyIter_enum he ⟨s1.heap.objs.size + 1, _, _, _, H1, rfl, I1.kept (t' := s1.toks) hk,
      turn_enumT a (s1.heap.objs.size + 1) s1.heap.objs.size (Nat.ne_of_lt alt) (Nat.ne_of_lt (Nat.lt_succ_of_lt alt)), ⟨⟨.none, he⟩, ⟨_, ho, rfl, rfl⟩, Nat.succ_ne_self _⟩, fun b hb => I1.fpOk (le2 hb) (I1.hok.fresh (le2 hb)), q⟩
def diEnum (t : DA) (ρ : DEnv) (c : Nat) (Q : List D → Nat → Prop) : Prop := t ρ c fun ds c1 => match ds with
  | [.lst l] => Q (numbered 0 l) c1
  | [.tup l] => Q (numbered 0 l) c1
  | _ => False
theorem walkD_enumL {K : PySem.W.Frag} {a : Addr} {xs : List V} {ds : List D} {G0 : GS} (h : SqL K G0.f a xs) (r : RpAll K G0 xs ds) : WalkD K (Ite K a) (numbered 0 ds) G0 :=
  walkD_enum r (fun i x G H le s e => ⟨xs, x, SqL.same (le.f.trans s) h, e⟩) (fun G H le s => ⟨xs, SqL.same (le.f.trans s) h, Nat.le_refl _⟩) fun i v G H H' le s ⟨T, x, e1, e2, e3, e4⟩ => ⟨T, x, e1, e2, e3, e4 xs (SqL.same (le.f.trans s) h)⟩
theorem walkD_enumT {K : PySem.W.Frag} {a : Addr} {xs : List V} {ds : List D} {G0 : GS} (h : SqT K G0.f a xs) (r : RpAll K G0 xs ds) : WalkD K (IteT K a) (numbered 0 ds) G0 :=
  walkD_enum r (fun i x G H le s e => ⟨xs, x, SqT.same (le.f.trans s) h, e⟩) (fun G H le s => ⟨xs, SqT.same (le.f.trans s) h, rfl⟩) fun i v G H H' le s ⟨T, x, e1, e2, e3, e4⟩ => ⟨T, x, e1, e2, e3, e4 xs (SqT.same (le.f.trans s) h)⟩
theorem pdi_enum {Y : Ctx} {e : Expr} {fa : TA} {t : DA} {p pos tpos : Pos} {elts : List Expr} {kk : Nat} (hm : Y.X.mg "enumerate" = none) (ha : PDA Y [e] fa t) (hg : Gl Y.X "enumerate" := by rfl) (hs : starEach [e] Y.X.env = [(false, eval e Y.X.env)] := by rfl) :
    PDI Y (.Tuple elts kk tpos) (.Call (.Name "enumerate" p) [e] [] pos) (iEnumA Y.X.K fa) (diEnum t) := by
  refine ⟨pi_enumA hg hm ha.p hs, fun G H c ρ σ Qd R Rl q k => ?_⟩
  refine ha.s G H c ρ σ _ _ Rl q fun ds vs G1 H1 c1 ev r q => ?_
  split at q
  · cases r with
    | cons r rr =>
      cases rr
      cases r with
      | lst h1 h2 => exact .inl ⟨_, _, rfl, ev.ok.sq h1, k _ _ G1 H1 c1 ev (walkD_enumL (SqL.of h1) h2) q⟩
  · cases r with
    | cons r rr =>
      cases rr
      cases r with
      | tup h1 h2 => exact .inr ⟨_, _, rfl, SqT.same ev.ok.same h1, k _ _ G1 H1 c1 ev (walkD_enumT h1 h2) q⟩
  · exact q.elim
end PL

namespace PL
open PySem PySem.Spec PyProof.Rows L2

/-- a comprehension whose element is f of the item (none: left out), and that draws nothing -/
theorem lc_by {L : List D} {c : Nat} {g : DG} {tt : DT} {te : DE} {vs : List Nat} {ρ : DEnv} {Q : QD} (f : D → Option D) (hL : L.length ≤ sizeLine)
    (step : ∀ x, x ∈ L → ∀ (R : QD) (R0 : Nat → Prop), (∀ y, f x = some y → R y c) → (f x = none → R0 c) → g x (wipeD ρ vs) c fun ρ2 c2 => tt ρ2 c2 fun b c3 => if b = true then te ρ2 c3 R else R0 c3) (hq : Q (.lst (L.filterMap f)) c) : LcB g tt te vs ρ L c Q := by
  refine ⟨fun k acc c' => c' = c ∧ acc = (L.take k).filterMap f, ⟨rfl, by simp⟩, ?_, ?_⟩
  · rintro k x acc c' hk ⟨rfl, rfl⟩
    have hlt : k < L.length := (List.getElem?_eq_some_iff.mp hk).1
    have tk : L.take (k + 1) = L.take k ++ [x] := by rw [List.take_succ, hk]; rfl
    refine step x (List.mem_of_getElem? hk) _ _ (fun y hy => ⟨?_, rfl, ?_⟩) fun hn => ⟨rfl, ?_⟩
    · have h1 : ((L.take k).filterMap f).length ≤ (L.take k).length := List.length_filterMap_le _ _
      have h2 : (L.take k).length ≤ k := List.length_take_le _ _
      omega
    · rw [tk, List.filterMap_append]
      simp [hy]
    · rw [tk, List.filterMap_append]
      simp [hn]
  · rintro acc c' ⟨rfl, rfl⟩
    rw [List.take_length]
    exact hq
theorem mb_int : ("int" ∈ basics) = True := eq_true (by decide +kernel)
theorem mb_str : ("str" ∈ basics) = True := eq_true (by decide +kernel)
theorem mb_bool : ("bool" ∈ basics) = True := eq_true (by decide +kernel)
theorem mb_tuple : ("tuple" ∈ basics) = True := eq_true (by decide +kernel)
theorem mb_list : ("list" ∈ basics) = True := eq_true (by decide +kernel)
theorem mb_dict : ("dict" ∈ basics) = True := eq_true (by decide +kernel)
theorem b2n_nonneg (b : Bool) : 0 ≤ b2n b ∧ b2n b ≤ 1 := by cases b <;> decide
/-- the items of a list by their place, with a place that is a number -/
theorem atI_lt {α : Type} {xs : List α} {i : Int} (h0 : 0 ≤ i) (h : i < xs.length) : ∃ v, atI xs i = some v ∧ v ∈ xs := by
  obtain ⟨j, rfl⟩ : ∃ j : Nat, i = (j : Int) := ⟨i.toNat, by omega⟩
  have hj : j < xs.length := by omega
  exact ⟨xs[j], atI_nat (by simp [hj]), List.getElem_mem hj⟩
theorem bools_map {α : Type} (p : α → Bool) : ∀ l : List α, bools (l.map fun x => .bl (p x)) = some (l.map p)
  | [] => rfl
  | x :: l => by simp [bools, bools_map p l]
theorem filterMap_some {α β : Type} (f : α → β) (l : List α) : l.filterMap (fun x => some (f x)) = l.map f := by
  induction l with
  | nil => rfl
  | cons x l ih => simp [ih]
/-- a sign lies between the blank and the tilde -/
def signOk : D → Bool
  | .str z => !decide (z.cps.toList < (" " : Str).cps.toList) && !decide (("~" : Str).cps.toList < z.cps.toList)
  | _ => false
def okStr (x : Str) : Bool := (signs x).all signOk
def isStr : D → Bool
  | .str x => okStr x
  | _ => false
theorem signs_length (x : Str) : (signs x).length = x.length := by simp [signs, Str.length]
theorem signs_str {x : Str} {d : D} (h : d ∈ signs x) : ∃ z, d = .str z := by
  unfold signs at h
  obtain ⟨c, _, rfl⟩ := List.mem_map.mp h
  exact ⟨_, rfl⟩
end PL

namespace PL
open PySem PySem.Spec PyProof.Rows L2

/-! ### == of data by data alone -/
mutual
def eqD : D → D → Bool
  | .non, .non => true
  | .bl a, .bl b => a == b
  | .bl a, .int j => b2n a == j
  | .int i, .bl b => i == b2n b
  | .int i, .int j => i == j
  | .str x, .str y => x == y
  | .tup l, .tup m => eqDs l m
  | .lst l, .lst m => eqDs l m
  | _, _ => false
def eqDs : List D → List D → Bool
  | [], [] => true
  | x :: l, y :: m => eqD x y && eqDs l m
  | _, _ => false
end
/-- plain data, at most n deep, no text longer than a thousand -/
def Pl : Nat → D → Prop
  | _, .non => True
  | _, .bl _ => True
  | _, .int _ => True
  | _, .str x => x.length ≤ 1000 ∧ PyData.strOk x = true
  | n + 1, .tup l => ∀ d, d ∈ l → Pl n d
  | n + 1, .lst l => ∀ d, d ∈ l → Pl n d
  | _, _ => False
theorem toPs_pl {n : Nat} (ih : ∀ d, Pl n d → ∃ p, toP d = some p ∧ p.canLay0 = true ∧ p.depth ≤ n) : ∀ {l : List D}, (∀ d, d ∈ l → Pl n d) → ∃ ps, toPs l = some ps ∧ PyData.canLayAll0 ps = true ∧ PyData.depthAll ps ≤ n
  | [], _ => ⟨[], by unfold toPs; rfl, rfl, by simp [PyData.depthAll]⟩
  | d :: l, h => by
    obtain ⟨p, h1, h2, h3⟩ := ih d (h d List.mem_cons_self)
    obtain ⟨ps, g1, g2, g3⟩ := toPs_pl ih (l := l) fun d hd => h d (List.mem_cons_of_mem _ hd)
    refine ⟨p :: ps, by unfold toPs; rw [h1, g1]; rfl, by simp [PyData.canLayAll0, h2, g2], by simp [PyData.depthAll]; omega⟩
theorem Pl.toP : ∀ {n : Nat} {d : D}, Pl n d → ∃ p, PL.toP d = some p ∧ p.canLay0 = true ∧ p.depth ≤ n
  | n, .non, _ => ⟨.none, by unfold PL.toP; rfl, rfl, by simp [PyData.depth]⟩
  | n, .bl b, _ => ⟨.bool b, by unfold PL.toP; rfl, rfl, by simp [PyData.depth]⟩
  | n, .int b, _ => ⟨.int b, by unfold PL.toP; rfl, rfl, by simp [PyData.depth]⟩
  | n, .str b, h => ⟨.str b, by unfold PL.toP; rfl, by
      have h : b.length ≤ 1000 ∧ PyData.strOk b = true := by cases n <;> exact h
      exact h.2, by simp [PyData.depth]⟩
  | n + 1, .tup l, h => by
    obtain ⟨ps, g1, g2, g3⟩ := toPs_pl (n := n) (fun d hd => Pl.toP hd) h
    exact ⟨.tuple ps, by unfold PL.toP; rw [g1]; rfl, g2, by simp [PyData.depth]; omega⟩
  | n + 1, .lst l, h => by
    obtain ⟨ps, g1, g2, g3⟩ := toPs_pl (n := n) (fun d hd => Pl.toP hd) h
    exact ⟨.list ps, by unfold PL.toP; rw [g1]; rfl, g2, by simp [PyData.depth]; omega⟩
  | 0, .tup l, h => h.elim
  | 0, .lst l, h => h.elim
  | n, .ty _, h => by cases n <;> exact h.elim
  | n, .cls _, h => by cases n <;> exact h.elim
  | n, .dct _ _, h => by cases n <;> exact h.elim
  | n, .ins _ _ _, h => by cases n <;> exact h.elim
  | n, .exc _ _ _, h => by cases n <;> exact h.elim
  | n, .opq, h => by cases n <;> exact h.elim
  | n, .scr _, h => by cases n <;> exact h.elim
mutual
theorem eqv_eqD : ∀ (x y : D) {p q : PyData}, toP x = some p → toP y = some q → PyData.eqv p q = eqD x y
  | .tup l, y, p, q, h1, h2 => by
    unfold toP at h1
    obtain ⟨ps, e, rfl⟩ := Option.map_eq_some_iff.mp h1
    cases y <;> unfold toP at h2 <;> first
      | (cases h2; done)
      | (cases h2; simp [PyData.eqv, eqD]; done)
      | (obtain ⟨qs, e2, rfl⟩ := Option.map_eq_some_iff.mp h2; first | (simp [PyData.eqv, eqD]; done) | (simp only [PyData.eqv, eqD]; exact eqvAll_eqDs l _ e e2))
  | .lst l, y, p, q, h1, h2 => by
    unfold toP at h1
    obtain ⟨ps, e, rfl⟩ := Option.map_eq_some_iff.mp h1
    cases y <;> unfold toP at h2 <;> first
      | (cases h2; done)
      | (cases h2; simp [PyData.eqv, eqD]; done)
      | (obtain ⟨qs, e2, rfl⟩ := Option.map_eq_some_iff.mp h2; first | (simp [PyData.eqv, eqD]; done) | (simp only [PyData.eqv, eqD]; exact eqvAll_eqDs l _ e e2))
  | .non, y, p, q, h1, h2 => by
    unfold toP at h1; cases h1
    cases y <;> unfold toP at h2 <;> first | (cases h2; done) | (cases h2; simp [PyData.eqv, eqD]; done) | (obtain ⟨qs, e2, rfl⟩ := Option.map_eq_some_iff.mp h2; simp [PyData.eqv, eqD])
  | .bl b, y, p, q, h1, h2 => by
    unfold toP at h1; cases h1
    cases y <;> unfold toP at h2 <;> first | (cases h2; done) | (cases h2; cases b <;> simp [PyData.eqv, eqD, b2n]; done) | (obtain ⟨qs, e2, rfl⟩ := Option.map_eq_some_iff.mp h2; simp [PyData.eqv, eqD])
  | .int b, y, p, q, h1, h2 => by
    unfold toP at h1; cases h1
    cases y <;> unfold toP at h2 <;> first | (cases h2; done) | (cases h2; simp [PyData.eqv, eqD, b2n]; done) | (cases h2; rename_i k; cases k <;> simp [PyData.eqv, eqD, b2n]; done) | (obtain ⟨qs, e2, rfl⟩ := Option.map_eq_some_iff.mp h2; simp [PyData.eqv, eqD])
  | .str b, y, p, q, h1, h2 => by
    unfold toP at h1; cases h1
    cases y <;> unfold toP at h2 <;> first | (cases h2; done) | (cases h2; simp [PyData.eqv, eqD]; done) | (obtain ⟨qs, e2, rfl⟩ := Option.map_eq_some_iff.mp h2; simp [PyData.eqv, eqD])
  | .ty _, _, _, _, h1, _ => by unfold toP at h1; cases h1
  | .cls _, _, _, _, h1, _ => by unfold toP at h1; cases h1
  | .dct _ _, _, _, _, h1, _ => by unfold toP at h1; cases h1
  | .ins _ _ _, _, _, _, h1, _ => by unfold toP at h1; cases h1
  | .exc _ _ _, _, _, _, h1, _ => by unfold toP at h1; cases h1
  | .opq, _, _, _, h1, _ => by unfold toP at h1; cases h1
  | .scr _, _, _, _, h1, _ => by unfold toP at h1; cases h1
theorem eqvAll_eqDs : ∀ (l m : List D) {ps qs : List PyData}, toPs l = some ps → toPs m = some qs → PyData.eqvAll ps qs = eqDs l m
  | [], [], ps, qs, h1, h2 => by unfold toPs at h1 h2; cases h1; cases h2; simp [PyData.eqvAll, eqDs]
  | [], y :: m, ps, qs, h1, h2 => by
    unfold toPs at h1 h2
    cases h1
    obtain ⟨p, e1, e2⟩ := Option.bind_eq_some_iff.mp h2
    obtain ⟨r, e3, rfl⟩ := Option.map_eq_some_iff.mp e2
    simp [PyData.eqvAll, eqDs]
  | x :: l, [], ps, qs, h1, h2 => by
    unfold toPs at h1 h2
    cases h2
    obtain ⟨p, e1, e2⟩ := Option.bind_eq_some_iff.mp h1
    obtain ⟨r, e3, rfl⟩ := Option.map_eq_some_iff.mp e2
    simp [PyData.eqvAll, eqDs]
  | x :: l, y :: m, ps, qs, h1, h2 => by
    unfold toPs at h1 h2
    obtain ⟨p, e1, e2⟩ := Option.bind_eq_some_iff.mp h1
    obtain ⟨r, e3, rfl⟩ := Option.map_eq_some_iff.mp e2
    obtain ⟨p', f1, f2⟩ := Option.bind_eq_some_iff.mp h2
    obtain ⟨r', f3, rfl⟩ := Option.map_eq_some_iff.mp f2
    simp only [PyData.eqvAll, eqDs]
    rw [eqv_eqD x y e1 f1, eqvAll_eqDs l m e3 f3]
end
theorem Pl.succ : ∀ {n : Nat} {d : D}, Pl n d → Pl (n + 1) d
  | n, .non, _ => trivial
  | n, .bl b, _ => trivial
  | n, .int b, _ => trivial
  | n, .str b, h => by cases n <;> exact h
  | n + 1, .tup l, h => fun d hd => Pl.succ (h d hd)
  | n + 1, .lst l, h => fun d hd => Pl.succ (h d hd)
  | 0, .tup l, h => h.elim
  | 0, .lst l, h => h.elim
  | n, .ty _, h => by cases n <;> exact h.elim
  | n, .cls _, h => by cases n <;> exact h.elim
  | n, .dct _ _, h => by cases n <;> exact h.elim
  | n, .ins _ _ _, h => by cases n <;> exact h.elim
  | n, .exc _ _ _, h => by cases n <;> exact h.elim
  | n, .opq, h => by cases n <;> exact h.elim
  | n, .scr _, h => by cases n <;> exact h.elim
theorem Pl.mono {n m : Nat} {d : D} (h : Pl n d) (le : n ≤ m) : Pl m d := by
  obtain ⟨k, rfl⟩ : ∃ k, m = n + k := ⟨m - n, by omega⟩
  clear le
  induction k with
  | zero => exact h
  | succ k ih => exact ih.succ
theorem Pl_int (n : Nat) (i : Int) : Pl n (.int i) = True := eq_true (by cases n <;> trivial)
theorem Pl_bl (n : Nat) (i : Bool) : Pl n (.bl i) = True := eq_true (by cases n <;> trivial)
theorem Pl_non (n : Nat) : Pl n .non = True := eq_true (by cases n <;> trivial)
theorem Pl_tup (n : Nat) (l : List D) : Pl (n + 1) (.tup l) = ∀ d, d ∈ l → Pl n d := rfl
theorem Pl_lst (n : Nat) (l : List D) : Pl (n + 1) (.lst l) = ∀ d, d ∈ l → Pl n d := rfl
theorem atI_0 {α : Type} (x : α) (l : List α) : atI (x :: l) 0 = some x := atI_nat (j := 0) rfl
theorem atI_1 {α : Type} (x y : α) (l : List α) : atI (x :: y :: l) 1 = some y := atI_nat (j := 1) rfl
theorem atI_2 {α : Type} (x y z : α) (l : List α) : atI (x :: y :: z :: l) 2 = some z := atI_nat (j := 2) rfl
def aEqD (x y : D) (c : Nat) (Q : QD) : Prop := Pl 60 x ∧ Pl 60 y ∧ Q (.bl (eqD x y)) c
def aNeD (x y : D) (c : Nat) (Q : QD) : Prop := Pl 60 x ∧ Pl 60 y ∧ Q (.bl (!eqD x y)) c
theorem Pl.plain {d : D} (h : Pl 60 d) : ∃ p, plainP d p := by
  obtain ⟨p, h1, h2, h3⟩ := h.toP
  exact ⟨p, h1, by simp only [SeqAt.shaped, h2, Bool.true_and, decide_eq_true_eq]; omega⟩
theorem br_eqD {K : PySem.W.Frag} : Br2 K (rEqD K) aEqD := br_eq.imp fun x y c Q ⟨h1, h2, q⟩ => by
  obtain ⟨p, hp⟩ := h1.plain
  obtain ⟨r, hr⟩ := h2.plain
  exact ⟨p, r, hp, hr, by rw [eqv_eqD x y hp.1 hr.1]; exact q⟩
theorem br_neD {K : PySem.W.Frag} : Br2 K (rNeD K) aNeD := br_ne.imp fun x y c Q ⟨h1, h2, q⟩ => by
  obtain ⟨p, hp⟩ := h1.plain
  obtain ⟨r, hr⟩ := h2.plain
  exact ⟨p, r, hp, hr, by rw [eqv_eqD x y hp.1 hr.1]; exact q⟩
section
variable {Y : Ctx} {a b : Expr} {ea eb : TE} {ta tb : DE} {pos : Pos} {k : Nat}
theorem pdc_eqD (g : Y.Good k) (ha : PD Y a ea ta) (hb : PD Y b eb tb) : PDC Y .Eq a b (tOp (rEqD Y.X.K) ea eb) (dOp aEqD ta tb) := pdc_op (op_eqD g.room.units) br_eqD ha hb
theorem pdc_neD (g : Y.Good k) (ha : PD Y a ea ta) (hb : PD Y b eb tb) : PDC Y .NotEq a b (tOp (rNeD Y.X.K) ea eb) (dOp aNeD ta tb) := pdc_op (op_neD g.room.units) br_neD ha hb
end
end PL

namespace PL
open PySem PySem.Spec PyProof.Rows L2

/-! ### readings evaluated: what simp goes through, in the order of the run -/
def Nx [u : DEnv → Nat → Prop] (ρ : DEnv) (c : Nat) : Prop := u ρ c
theorem ev_nx {u : DEnv → Nat → Prop} {ρ : DEnv} {c : Nat} : @Nx u ρ c = u ρ c := propext Iff.rfl
/-- two ways, none of them looked at ahead of the test -/
def Br (b : Bool) [A : Prop] [B : Prop] : Prop := if b = true then A else B
theorem ev_brT {A B : Prop} : @Br true A B = A := by simp [Br]
theorem ev_brF {A B : Prop} : @Br false A B = B := by simp [Br]
theorem Br.by {b : Bool} {A B : Prop} (h1 : b = true → A) (h2 : b = false → B) : @Br b A B := by
  cases b with
  | true => rw [ev_brT]; exact h1 rfl
  | false => rw [ev_brF]; exact h2 rfl
theorem Br.t {b : Bool} {A B : Prop} (h : b = true) (k : A) : @Br b A B := by rw [h, ev_brT]; exact k
theorem Br.f {b : Bool} {A B : Prop} (h : b = false) (k : B) : @Br b A B := by rw [h, ev_brF]; exact k
def asB (x : D) [P : Bool → Prop] : Prop := ∃ b, x = .bl b ∧ P b
theorem ev_asB {b : Bool} {P : Bool → Prop} : @asB (.bl b) P = P b := by simp [asB]
def atP (o : Option D) [P : D → Prop] : Prop := ∃ d, o = some d ∧ P d
theorem ev_atP {d : D} {P : D → Prop} : @atP (some d) P = P d := by simp [atP]
theorem atP.mk {o : Option D} {P : D → Prop} {d : D} (h : o = some d) (k : P d) : @atP o P := ⟨d, h, k⟩
def itP (d : D) (P : List D → Prop) : Prop := ∃ L, items d = some L ∧ P L
/-- a def is called -/
def Run [sp : SpD] (ds : List D) [c : Nat] [Q : QD] [E : EDt] : Prop := sp ds c Q E
def isNon : D → Bool
  | .non => true
  | _ => false
section
variable {i n k : Nat} {ρ : DEnv} {c : Nat} {Q : QD} {QL : List D → Nat → Prop} {QB : Bool → Nat → Prop} {QE : DEnv → Nat → Prop} {QO : Option Int → Nat → Prop} {d e : D} {s : Sl} {ta tb tc te : DE} {t tr tk : DA} {rd rd' : RD2} {rd1 : RD1} {rn : RDn} {rs : RDs} {tA tB : DT} {a b : Int} {x y : Str} {l m : List D} {p q : Bool}
  {st su : DS} {DD : DEnds} {g : DG} {gs : DGs} {ti : DI} {vs : List Nat} {tl th : DO} {lo hi : Option Int} {sp : SpD} {ED : DEnv → EDt} {IC : Addr → Prop} {T : String} {gD : List D → List D → List D}
theorem ev_var0 : dVar 0 (.fz d :: ρ) c Q = Q d c := by simp [dVar]
theorem ev_varS : dVar (i + 1) (s :: ρ) c Q = dVar i ρ c Q := by simp [dVar]
theorem ev_c : dC d ρ c Q = Q d c := propext Iff.rfl
theorem ev_op : dOp rd ta tb ρ c Q = ta ρ c fun x c1 => tb ρ c1 fun y c2 => rd x y c2 Q := propext Iff.rfl
theorem ev_un : dUn rd1 ta ρ c Q = ta ρ c fun x c1 => rd1 x c1 Q := propext Iff.rfl
theorem ev_chain : dChain rd rd' ta tb tc ρ c Q = ta ρ c fun x c1 => tb ρ c1 fun y c2 => rd x y c2 fun z c3 => @asB z fun k => @Br k (tc ρ c3 fun w c4 => rd' y w c4 Q) (Q (.bl false) c3) := propext Iff.rfl
theorem ev_tchain : dtChain rd rd' ta tb tc ρ c QB = ta ρ c fun x c1 => tb ρ c1 fun y c2 => rd x y c2 fun z c3 => @asB z fun k => @Br k (tc ρ c3 fun w c4 => rd' y w c4 fun u c5 => @asB u fun m => QB m c5) (QB false c3) := propext Iff.rfl
theorem ev_nil : dNil ρ c QL = QL [] c := propext Iff.rfl
theorem ev_cons : dCons ta t ρ c QL = ta ρ c fun x c1 => t ρ c1 fun xs c2 => QL (x :: xs) c2 := propext Iff.rfl
theorem ev_cb : dCB rn t ρ c Q = t ρ c fun ds c1 => rn ds c1 Q := propext Iff.rfl
theorem ev_tup : dTup t ρ c Q = t ρ c fun ds c1 => ds.length ≤ 16777216 ∧ Q (.tup ds) c1 := by rw [← sizeLine_eq]; rfl
theorem ev_lst : dLst t ρ c Q = t ρ c fun ds c1 => ds.length ≤ 16777216 ∧ Q (.lst ds) c1 := by rw [← sizeLine_eq]; rfl
theorem ev_b : dB ta ρ c QB = ta ρ c fun x c1 => @asB x fun b => QB b c1 := propext Iff.rfl
theorem ev_andV : dAndV ta tb ρ c Q = ta ρ c fun x c1 => @asB x fun b => @Br b (tb ρ c1 Q) (Q (.bl false) c1) := propext Iff.rfl
theorem ev_orV : dOrV ta tb ρ c Q = ta ρ c fun x c1 => @asB x fun b => @Br b (Q (.bl true) c1) (tb ρ c1 Q) := propext Iff.rfl
theorem ev_notV : dNotV ta ρ c Q = ta ρ c fun x c1 => @asB x fun b => Q (.bl (!b)) c1 := propext Iff.rfl
theorem ev_if : dIf tA ta tb ρ c Q = tA ρ c fun b c1 => @Br b (ta ρ c1 Q) (tb ρ c1 Q) := propext Iff.rfl
theorem ev_tand : dtAnd tA tB ρ c QB = tA ρ c fun b c1 => @Br b (tB ρ c1 QB) (QB false c1) := propext Iff.rfl
theorem ev_tor : dtOr tA tB ρ c QB = tA ρ c fun b c1 => @Br b (QB true c1) (tB ρ c1 QB) := propext Iff.rfl
theorem ev_tnot : dtNot tA ρ c QB = tA ρ c fun b c1 => QB (!b) c1 := propext Iff.rfl
theorem ev_yes : dtYes ρ c QB = QB true c := propext Iff.rfl
theorem ev_next : sNext DD ρ c = DD.nx ρ c := propext Iff.rfl
theorem ev_seq : sSeq st su DD ρ c = st { DD with nx := su DD } ρ c := propext Iff.rfl
theorem ev_ret : sRet te DD ρ c = te ρ c DD.rt := propext Iff.rfl
theorem ev_retN : sRetN DD ρ c = DD.rt .non c := propext Iff.rfl
theorem ev_brk : sBreak DD ρ c = DD.bk ρ c := propext Iff.rfl
theorem ev_cnt : sCont DD ρ c = DD.ct ρ c := propext Iff.rfl
theorem ev_sif : sIf tA st su DD ρ c = tA ρ c fun b c1 => @Br b (st DD ρ c1) (su DD ρ c1) := propext Iff.rfl
theorem ev_drop : sDrop te DD ρ c = te ρ c fun _ c1 => DD.nx ρ c1 := propext Iff.rfl
theorem ev_set : sSet i te DD ρ c = te ρ c fun d c1 => @Nx DD.nx (ρ.set i (.fz d)) c1 := propext Iff.rfl
theorem ev_asg : sAsg te g DD ρ c = te ρ c fun d c1 => g d ρ c1 DD.nx := propext Iff.rfl
theorem ev_kname : kName i d ρ c QE = @Nx QE (ρ.set i (.fz d)) c := propext Iff.rfl
theorem ev_knil : kNil [] ρ c QE = QE ρ c := by simp [kNil]
theorem ev_kcons : kCons g gs (d :: l) ρ c QE = g d ρ c fun ρ' c' => gs l ρ' c' QE := by
  apply propext; constructor
  · rintro ⟨_, _, e, q⟩; cases e; exact q
  · intro q; exact ⟨_, _, rfl, q⟩
theorem ev_ktup : kTup n gs (.tup l) ρ c QE = (l.length = n ∧ gs l ρ c QE) := by simp [kTup]
theorem ev_for : sFor ti g st DD ρ c = ti ρ c fun L c1 => ForB g st DD ρ L c1 := propext Iff.rfl
theorem ev_lc : dLc ti g tA te vs ρ c Q = ti ρ c fun L c1 => LcB g tA te vs ρ L c1 Q := propext Iff.rfl
theorem ev_any : diAny te ρ c QL = te ρ c fun d c1 => itP d fun L => QL L c1 := propext Iff.rfl
theorem ev_anyL {P : List D → Prop} : itP (.lst l) P = P l := by simp [itP, items]
theorem ev_anyT {P : List D → Prop} : itP (.tup l) P = P l := by simp [itP, items]
theorem ev_anyS {P : List D → Prop} : itP (.str x) P = P (signs x) := by simp [itP, items]
def rg1 (ds : List D) (P : Int → Prop) : Prop := ∃ j : Int, ds = [.int j] ∧ -(2 ^ 62) ≤ j ∧ j < 2 ^ 62 ∧ P j
theorem ev_rng1 : diRng1 t ρ c QL = t ρ c fun ds c1 => rg1 ds fun j => QL (upInts 0 j.toNat) c1 := propext Iff.rfl
theorem ev_rng1i {P : Int → Prop} : rg1 [D.int a] P = (-(2 ^ 62) ≤ a ∧ a < 2 ^ 62 ∧ P a) := by simp [rg1]
theorem ev_rng2 : diRng2 t ρ c QL = t ρ c fun ds c1 => ∃ i j : Int, ds = [.int i, .int j] ∧ (-(2 ^ 62) ≤ i ∧ i < 2 ^ 62 ∧ -(2 ^ 62) ≤ j ∧ j < 2 ^ 62) ∧ QL (upInts i (j - i).toNat) c1 := propext Iff.rfl
theorem ev_rng2i : (∃ i j : Int, [D.int a, D.int b] = [.int i, .int j] ∧ (-(2 ^ 62) ≤ i ∧ i < 2 ^ 62 ∧ -(2 ^ 62) ≤ j ∧ j < 2 ^ 62) ∧ QL (upInts i (j - i).toNat) c) = ((-(2 ^ 62) ≤ a ∧ a < 2 ^ 62 ∧ -(2 ^ 62) ≤ b ∧ b < 2 ^ 62) ∧ QL (upInts a (b - a).toNat) c) := by
  apply propext
  constructor
  · rintro ⟨i, j, h, q⟩
    cases h
    exact q
  · intro q
    exact ⟨a, b, rfl, q⟩
theorem ev_enum : diEnum t ρ c QL = t ρ c fun ds c1 => match ds with | [.lst l] => QL (numbered 0 l) c1 | [.tup l] => QL (numbered 0 l) c1 | _ => False := propext Iff.rfl
theorem ev_sl : dSl rs te tl th ρ c Q = te ρ c fun x c1 => tl ρ c1 fun l c2 => th ρ c2 fun u c3 => rs x l u c3 Q := propext Iff.rfl
theorem ev_nop : dNoPart ρ c QO = QO none c := propext Iff.rfl
def asI (d : D) (P : Int → Prop) : Prop := ∃ i, d = .int i ∧ P i
theorem ev_part : dPart te ρ c QO = te ρ c fun d c1 => asI d fun i => QO (some i) c1 := propext Iff.rfl
theorem ev_asI {P : Int → Prop} : asI (.int a) P = P a := by simp [asI]
theorem ev_call {dds : List D} : dCall ED sp dds t ρ c Q = t ρ c fun ds c1 => @Run sp (ds ++ dds) c1 Q (ED ρ) := propext Iff.rfl
theorem ev_callK : dCallK ED n k sp gD t tk ρ c Q = t ρ c fun ds c1 => tk ρ c1 fun es c2 => ds.length = n ∧ es.length = k ∧ @Run sp (gD ds es) c2 Q (ED ρ) := propext Iff.rfl
theorem ev_plusI : aPlus (.int a) (.int b) c Q = Q (.int (a + b)) c := propext Iff.rfl
theorem ev_plusS : aPlus (.str x) (.str y) c Q = (x.length + y.length ≤ 16777216 ∧ Q (.str (x ++ y)) c) := by rw [← sizeLine_eq]; rfl
theorem ev_plusT : aPlus (.tup l) (.tup m) c Q = (l.length + m.length ≤ 16777216 ∧ Q (.tup (l ++ m)) c) := by rw [← sizeLine_eq]; rfl
theorem ev_i0 {f : Int → Int → D} : rdI0 f (.int a) (.int b) c Q = Q (f a b) c := by
  apply propext; constructor
  · rintro ⟨i, j, e1, e2, q⟩; cases e1; cases e2; exact q
  · intro q; exact ⟨a, b, rfl, rfl, q⟩
theorem ev_iC {C : Int → Int → Prop} {f : Int → Int → D} : rdI C f (.int a) (.int b) c Q = (C a b ∧ Q (f a b) c) := by
  apply propext; constructor
  · rintro ⟨i, j, e1, e2, q⟩; cases e1; cases e2; exact q
  · intro q; exact ⟨a, b, rfl, rfl, q⟩
theorem ev_leI : aLeP (.int a) (.int b) c Q = Q (.bl (decide (a ≤ b))) c := propext Iff.rfl
theorem ev_leS : aLeP (.str x) (.str y) c Q = Q (.bl (!decide (y.cps.toList < x.cps.toList))) c := propext Iff.rfl
theorem ev_isN : aIsN d .non c Q = Q (.bl (isNon d)) c := by cases d <;> simp [aIsN, isNon]
theorem ev_notN : aNotN d .non c Q = Q (.bl (!isNon d)) c := by cases d <;> simp [aNotN, isNon]
theorem ev_itL : aItem (.lst l) (.int a) c Q = @atP (atI l a) fun d => Q d c := propext Iff.rfl
theorem ev_itT : aItem (.tup l) (.int a) c Q = @atP (atI l a) fun d => Q d c := propext Iff.rfl
theorem ev_itScr {ns : List Int} : aItem (.scr ns) (.int a) c Q = ∃ j, atI ns a = some j ∧ Q (.int j) c := propext Iff.rfl
theorem ev_lenScr {ns : List Int} : aLen [.scr ns] c Q = Q (.int ns.length) c := propext Iff.rfl
theorem ev_slT : aSlice (.tup l) lo hi c Q = Q (.tup (cut l lo hi)) c := propext Iff.rfl
theorem ev_slL : aSlice (.lst l) lo hi c Q = Q (.lst (cut l lo hi)) c := propext Iff.rfl
theorem ev_lenL : aLen [.lst l] c Q = Q (.int l.length) c := propext Iff.rfl
theorem ev_lenT : aLen [.tup l] c Q = Q (.int l.length) c := propext Iff.rfl
theorem ev_lenS : aLen [.str x] c Q = (x.length ≤ 16777216 ∧ Q (.int x.length) c) := by rw [← sizeLine_eq]; rfl
theorem ev_intI : aInt [.int a] c Q = Q (.int a) c := propext Iff.rfl
theorem ev_intB : aInt [.bl p] c Q = Q (.int (b2n p)) c := propext Iff.rfl
theorem ev_isa : aIsa IC [d, .ty T] c Q = (T ∈ basics ∧ ((kind d).isSome = true ∨ ∃ C, isIns d = some C ∧ IC C) ∧ Q (.bl (isaB T d)) c) := propext Iff.rfl
theorem ev_listL : aListA [.lst l] c Q = Q (.lst l) c := propext Iff.rfl
theorem ev_listT : aListA [.tup l] c Q = Q (.lst l) c := propext Iff.rfl
theorem ev_tupL : aTupleA [.lst l] c Q = Q (.tup l) c := propext Iff.rfl
theorem ev_tupT : aTupleA [.tup l] c Q = Q (.tup l) c := propext Iff.rfl
theorem ev_max : aMax2 [.int a, .int b] c Q = Q (.int (if b > a then b else a)) c := propext Iff.rfl
theorem ev_min : aMin2 [.int a, .int b] c Q = Q (.int (if b < a then b else a)) c := propext Iff.rfl
theorem ev_eq : aEqD d e c Q = (Pl 60 d ∧ Pl 60 e ∧ Q (.bl (eqD d e)) c) := propext Iff.rfl
theorem ev_ne : aNeD d e c Q = (Pl 60 d ∧ Pl 60 e ∧ Q (.bl (!eqD d e)) c) := propext Iff.rfl
theorem ev_neg : dUn (fun x c Q => ∃ i, x = .int i ∧ Q (.int (-i)) c) ta ρ c Q = ta ρ c fun x c1 => asI x fun i => Q (.int (-i)) c1 := propext Iff.rfl
def allP (ds : List D) (P : Bool → Prop) : Prop := ∃ l bs, ds = [.lst l] ∧ bools l = some bs ∧ P (bs.all id)
theorem ev_all : bAll l c Q = allP l fun b => Q (.bl b) c := propext Iff.rfl
theorem allP.mk {P : Bool → Prop} {l : List D} {bs : List Bool} (h : bools l = some bs) (k : P (bs.all id)) : allP [.lst l] P := ⟨l, bs, rfl, h, k⟩
theorem ev_purse : dPurse t ρ c Q = t ρ c fun ds c1 => ∃ x y z : Int, ds = [.int x, .int y, .int z] ∧ 0 ≤ y ∧ y < 2 ^ 31 ∧ 0 ≤ z ∧ z ≤ 1000000 ∧ Q .opq c1 := propext Iff.rfl
theorem ev_pix : dPIx i n ρ c Q = (ρ[i]? = some (.fz .opq) ∧ ∀ x : Int, (n = 1 → 0 ≤ x ∧ x < 2 ^ 31) → (n = 2 → 0 ≤ x ∧ x ≤ 1000000 + (c : Int)) → Q (.int x) c) := propext Iff.rfl
theorem ev_pset : sPSet i n te DD ρ c = te ρ c fun d c1 => ρ[i]? = some (.fz .opq) ∧ ∃ x : Int, d = .int x ∧ ((n = 0 ∧ DD.nx ρ c1) ∨ (n = 2 ∧ 0 ≤ x ∧ x ≤ 1000000 + ((c1 + 1 : Nat) : Int) ∧ DD.nx ρ (c1 + 1))) := propext Iff.rfl
theorem n_non : isNon .non = true := rfl
theorem n_bl : isNon (.bl p) = false := rfl
theorem n_int : isNon (.int a) = false := rfl
theorem n_str : isNon (.str x) = false := rfl
theorem n_tup : isNon (.tup l) = false := rfl
theorem n_lst : isNon (.lst l) = false := rfl
theorem k_non : kind .non = some "NoneType" := rfl
theorem k_bl : kind (.bl p) = some "bool" := rfl
theorem k_int : kind (.int a) = some "int" := rfl
theorem k_str : kind (.str x) = some "str" := rfl
theorem k_tup : kind (.tup l) = some "tuple" := rfl
theorem k_lst : kind (.lst l) = some "list" := rfl
theorem i_non : isaB T .non = false := rfl
theorem i_bl : isaB T (.bl p) = (T == "bool" || T == "int") := rfl
theorem i_int : isaB T (.int a) = (T == "int") := rfl
theorem i_str : isaB T (.str x) = (T == "str") := rfl
theorem i_tup : isaB T (.tup l) = (T == "tuple") := rfl
theorem i_lst : isaB T (.lst l) = (T == "list") := rfl
end
theorem startD_eq {N : List Str} {ds : List D} : startD N ds = ds.map .fz ++ List.replicate (N.length - ds.length) .no := rfl
theorem cut_to {α : Type} (l : List α) {i : Int} (h0 : 0 ≤ i) : cut l none (some i) = l.take i.toNat := by
  obtain ⟨k, rfl⟩ : ∃ k : Nat, i = (k : Int) := ⟨i.toNat, by omega⟩
  unfold cut
  rw [HT.sIx_none, HT.sIx_nat, List.drop_zero, Nat.sub_zero, Int.toNat_natCast]
  by_cases h : k ≤ l.length
  · rw [Nat.min_eq_left h]
  · rw [Nat.min_eq_right (by omega), List.take_length, List.take_of_length_le (by omega)]
theorem cut_from {α : Type} (l : List α) {i : Int} (h0 : 0 ≤ i) : cut l (some i) none = l.drop i.toNat := by
  obtain ⟨k, rfl⟩ : ∃ k : Nat, i = (k : Int) := ⟨i.toNat, by omega⟩
  unfold cut
  rw [HT.sIx_none, HT.sIx_nat, Int.toNat_natCast]
  by_cases h : k ≤ l.length
  · rw [Nat.min_eq_left h, List.take_of_length_le (by simp)]
  · rw [Nat.min_eq_right (by omega), List.drop_of_length_le (Nat.le_refl _), List.drop_of_length_le (by omega)]
    simp
end PL

namespace PL
open PySem PySem.Spec PyProof.Rows L2

/-! ### the ends -/
theorem rp_ints {K : PySem.W.Frag} {G : GS} : ∀ ns : List Int, RpAll K G (ns.map V.int) (ns.map D.int)
  | [] => .nil
  | n :: ns => .cons (.int n) (rp_ints ns)
/-- the law's promise of data, at its script -/
theorem law_start {K : PySem.W.Frag} {sp : SpD} {H : Hp} {a : Addr} {ns : List Int} (hS : SqL K H a (ns.map V.int)) (h : sp [.scr ns] 0 (fun d _ => d = .bl true) fun _ _ _ _ => False) :
    spOf K sp [.ref a] H (fun v _ => v = .bl true) fun _ _ _ => False := by
  refine ⟨⟨H, fun _ => False⟩, 0, [.scr ns], _, _, ⟨fun _ _ h => h, fun _ h => h.elim, fun _ h => h.elim⟩, .cons (.scr hS) .nil, h, fun d v G' H' c' _ r e => ?_, fun _ _ _ _ _ _ _ _ _ z => z⟩
  have e' : d = .bl true := e
  subst e'
  cases r
  rfl
/-- the law's call, the promise told at a world -/
theorem walk_at_world {l : PySem.W.OpenLaw} {n k : Nat} {q : Program} {loose : List Str} {XP : (Str → Option Value) → Heap → Prop} {YP : World → Heap → Prop} {d : DefRec} {x : Str}
    (hn : l.most = some n) (hn2 : n ≤ sizeLine) (hdf : d.params.defaults = []) (hr : Room k callerA)
    (F : ∀ (w : World) (mg : Str → Option Value) (fa : Addr) (h : Heap), YP w h → h.Ns mainGlobals mg → mg d.name = some (.ref fa) →
      ∃ (K : PySem.W.Frag) (fd : FuncData) (sp : SpD), K.In h ∧ (∀ (s : Shared) (u : Value), BindsTo s fd ⟨[u], []⟩ [(x, u)]) ∧
        (∀ ns : List Int, ns.length ≤ n → sp [.scr ns] 0 (fun d _ => d = .bl true) fun _ _ _ _ => False) ∧
        ∀ base : Heap, K.In base → base.Ns mainGlobals mg → FnOk l.prog w K mg base (L2.CX l.prog w) k fa fd [x] (spOf K sp)) :
    PySem.W.WalkO q loose XP YP l.row.toRowW d [] (fun f vs => PySem.call f vs) := by
  refine Att.attach_call hn hdf fun w s₀ s₁ mg mb fa o pm cd doc a vs ns G Y ho hd hcd hmg hobj hints hlen hg => ?_
  obtain ⟨K, fd, sp, KX, hb, hsp, hF⟩ := F w mg fa _ Y G.T.g hmg
  exact law_call KX G.T.g G.T.b G.T.builtins G.T.nolimit hg hobj hints (Nat.le_trans hlen hn2) hr hF hb (fun H _ hS => law_start hS (hsp ns hlen)) fun H e s' h => by
    obtain ⟨_, _, _, _, _, _, _, _, _, _, _, _, z⟩ := h
    exact z
end PL

namespace PL
open PySem PySem.Spec PyProof.Rows L2

/-! ### a caught exception is kept -/
section
variable {X : Cx} {pins : List (Addr × Obj)} {σ : L2.St} {H : Hp} {s sI : Shared} {a : Addr} {φ : Heap → Prop}
/-- a thing that is new since sI, known to nobody, becomes known -/
theorem track (J : L2.Inv X pins σ H sI) (I : L2.Inv X pins σ H s) (hx : X.ex = []) (na : sI.heap.get? a = none) (ha : H a = none) (new : φ s.heap) (obj : ∃ o, s.heap.get? a = some o) (st : ∀ h1 h2 : Heap, φ h1 → (∀ o, h1.get? a = some o → h2.get? a = some o) → φ h2) : L2.Inv X pins σ (upd H a (.ext φ)) s := by
  have n0 : ∀ b o, X.s_0.heap.get? b = some o → b ≠ a := fun b o e z => by
    obtain ⟨o', q⟩ := J.base.there b o e (by rw [hx]; exact fun z => nomatch z)
    rw [z, na] at q
    cases q
  have keepU : ∀ {b : Addr} {u : HO}, H b = some u → upd H a (.ext φ) b = some u := fun {b u} e => by rw [upd_ne (ne_of_none e ha)]; exact e
  have freeU : ∀ {b : Addr}, b ≠ a → H b = none → upd H a (.ext φ) b = none := fun {b} n e => by rw [upd_ne n]; exact e
  refine ⟨I.ok, I.os, I.bare, ⟨I.base.keep, I.base.slot, fun b o e n hq => freeU (n0 b o e) (I.base.free b o e n hq), I.base.there, fun b xs e => keepU (I.base.tups b xs e), fun b o u e => keepU (I.base.frzs b o u e), fun b ps e => ?_⟩, I.loc, I.cell, ?_, fun x c e => ?_, fun p hp => ?_, fun b u e => ?_, I.len⟩
  · obtain ⟨m, q⟩ := I.base.tbls b ps e
    exact ⟨m, keepU q⟩
  · refine freeU (fun z => ?_) I.free
    obtain ⟨m, ⟨o, es, ep, ho, _⟩, _⟩ := J.loc
    rw [z, na] at ho
    cases ho
  · refine freeU (fun z => ?_) (I.freeC x c e)
    obtain ⟨v, o, ho, _⟩ := J.cell x c e
    rw [z, na] at ho
    cases ho
  · obtain ⟨e, n, ne, nf, d⟩ := I.pin p hp
    refine ⟨e, freeU (fun z => ?_) n, ne, nf, d⟩
    have q := (J.pin p hp).1
    rw [z, na] at q
    cases q
  · by_cases hb : b = a
    · rw [hb, upd_same] at e
      cases e
      rw [hb]
      exact ⟨new, obj, st⟩
    · rw [upd_ne hb] at e
      exact (I.hok b u e).stay (fun c v _ q => q) (fun c q => keepU q) fun c xs q => keepU q
theorem exT_new {h : Heap} {C a : Addr} {d : Option Addr} {oe : Obj} {vs : Array Value} (e : h.get? a = some oe) (z : Zc (.ref C) d oe) (hd : oe.data = .fields vs) :
    (fun h : Heap => ∃ (oe : Obj) (vs : Array Value), h.get? a = some oe ∧ oe.cls = .ref C ∧ oe.dict = d ∧ oe.data = .fields vs) h := ⟨oe, vs, e, z.1, z.2, hd⟩
theorem exT_st {C a : Addr} {d : Option Addr} (h1 h2 : Heap) (e : (fun h : Heap => ∃ (oe : Obj) (vs : Array Value), h.get? a = some oe ∧ oe.cls = .ref C ∧ oe.dict = d ∧ oe.data = .fields vs) h1) (k : ∀ o, h1.get? a = some o → h2.get? a = some o) :
    (fun h : Heap => ∃ (oe : Obj) (vs : Array Value), h.get? a = some oe ∧ oe.cls = .ref C ∧ oe.dict = d ∧ oe.data = .fields vs) h2 := by
  obtain ⟨oe, vs, e1, e2⟩ := e
  exact ⟨oe, vs, k oe e1, e2⟩
end
/-- what the clause 'except x as n' (slot i) wishes of an exception of the body; its object stays known -/
def wKeep (K : PySem.W.Frag) (c : Value) (i : Nat) (ts : TS) (Wout : WX) (D : Ends) : WX := fun cls d σ H =>
  ∃ b C, cls = .ref C ∧ PySem.W.exmOne K cls c = some b ∧ (b = true → ∀ a, H a = none → ts { nx := fun σ' H' => D.nx (σ'.set i none) H', rt := D.rt, bk := fun σ' H' => D.bk (σ'.set i none) H', ct := fun σ' H' => D.ct (σ'.set i none) H' } (σ.set i (some (.ref a))) (upd H a (exT C a d))) ∧
    (b = false → Wout cls d σ H)
section
variable {X : Cx} {x n : Str} {c : Value} {i : Nat} {body suite : List Stmt} {b₀ : Stmt} {np pos pos' : Pos} {tb : WX → TS} {ts : TS} {Wout : WX}
theorem ps_try_keep (hs : X.stack = X.env :: X.outer) (hf : X.env.frame = some X.env.locals) (hex : X.ex = []) (hN : X.N.Nodup) (hi : X.N[i]? = some n) (hln : X.env.kindOf n = some .local) (hc : Names X x c) (tk : Takes X Wout)
    (hb : ∀ (W : WX) (pn : List (Addr × Obj)) (xe : Value → Shared → Prop), Takes (X.tr pn xe) W → PSs (X.tr pn xe) body (tb W))
    (hsu : ∀ (a : Addr) (pn : List (Addr × Obj)), PSs (X.suite a pn) (b₀ :: suite) ts) :
    PS X (.Try body [.ExceptHandler (some (.Name x np)) (some n) (b₀ :: suite) pos'] [] [] pos) (fun D σ H => tb (wKeep X.K c i ts Wout D) D σ H) := by
  refine ⟨fun pins s σ H D I h => ?_⟩
  have ok := I.ok
  have hfr : X.A.frames = some (X.env :: X.outer) := by rw [ok.frames, hs]
  have hloc : Loc X.env.scope n := .inl hln
  refine wpAny_Try_except ?_
  refine wpAny_mono ((hb (wKeep X.K c i ts Wout D) (X.pn ++ pins) (fun e s₁ => wpAny (model X.prog X.w) X.A (noteFrame e X.env) (fun _ s₂ => wpAny (model X.prog X.w) X.A (setFlight e none) (fun _ s₃ =>
    wpAny (model X.prog X.w) X.A (handleBy e X.env [.ExceptHandler (some (.Name x np)) (some n) (b₀ :: suite) pos']) (SP X pins D) X.xe s₃) X.xe s₂) X.xe s₁) (fun u s' xx => ?_)).run [] s σ H D (I.toTry _) h) (fun f s1 hsp => ?_) (fun e s1 he => he)
  · -- the catch
    obtain ⟨a, B, sI, pins', σ', H', cls, d, rfl, J', nb, up, sky, na, os, ag, b, C, rfl, hb1, hyes, hno⟩ := xx
    have J : L2.Inv X pins σ' H' sI := J'.ofTry ok
    have sky' : Sky B (X.env :: X.outer) a (Zc (.ref C) d) X.env.locals s'.heap := by rw [← hs]; exact sky
    show wpAny (model X.prog X.w) X.A (noteFrame (.ref a) X.env) _ _ _
    refine Sky.land Zc.steady hfr hf sky' fun h3 fl3 up3 => ?_
    have J3 : L2.Inv X pins σ' H' { s' with heap := h3 } := J.landed nb fl3.1 (up.trans up3) os ag
    obtain ⟨oe3, vs3, he3, hz3, hd3⟩ := fl3.there
    have notFr : ∀ {h : Heap} {o : Obj} {vs : Array Value}, h.FunFrames B (X.env :: X.outer) → h.get? a = some o → o.data = .fields vs → a ∉ frs (X.env :: X.outer) := fun {h o vs} ff e dd hm => by
      obtain ⟨_, o', e', hnf⟩ := ff.mem hm
      rw [e] at e'; cases e'
      exact hnf _ dd
    have nfr := notFr fl3.2.2.1 he3 hd3
    have nL : a ≠ X.env.locals := fun z => nfr (List.mem_filterMap.mpr ⟨X.env, List.mem_cons_self, by rw [hf, z]⟩)
    have nF : a ∉ X.fs := fun hm => by
      obtain ⟨e, he, q⟩ := List.mem_filterMap.mp hm
      exact nfr (List.mem_filterMap.mpr ⟨e, List.mem_cons_of_mem _ he, q⟩)
    have nI : sI.heap.get? a = none := by
      cases e : sI.heap.get? a with
      | none => rfl
      | some o =>
        have q := nb a o e (by rw [hs]; exact nfr)
        rw [fl3.2.1] at q
        cases q
    have S3 := J3.suite he3 hd3 na nL nF
    refine wpAny_handleBy_cons (codeAny_handlers_test ?_) (by intro q; cases q)
    have LT : PySem.W.Looks (model X.prog X.w) h3 (typeOf (.ref a)) (.ref C) := fun A Q E s k q => wpAny_typeOf_ref (k _ _ he3) (by rw [hz3.1]; exact q)
    have LM := PySem.W.exm_one (M := model X.prog X.w) (J3.kIn) LT hb1
    have test : ∀ {Q : Value → Shared → Prop} {E : Value → Shared → Prop}, Q c { s' with heap := h3 } → wpAny (model X.prog X.w) (X.A.mark (some (.ref a))) (eval (.Name x np) X.env) Q E { s' with heap := h3 } := fun {Q E} q => by
      obtain ⟨hg, hdbg, hm | ⟨hm, hv, hnn⟩⟩ := hc
      · exact ld_glob (X := X.suite a ((a, oe3) :: (X.pn ++ pins))) S3 hg hm q hdbg
      · exact ld_blt (X := X.suite a ((a, oe3) :: (X.pn ++ pins))) S3 hg hm hv q hnn hdbg
    refine test (LM.here ?_)
    cases b with
    | true =>
      refine codeAny_handlers_suite_as ?_
      refine HandSPX.lands_againZ fl3 fun h4 fl4 up4 => ?_
      have J4 : L2.Inv X pins σ' H' { s' with heap := h4 } := J.landed nb fl4.1 ((up.trans up3).trans up4) os ag
      obtain ⟨oe4, vs4, he4, hz4, hd4⟩ := fl4.there
      have T4 : L2.Inv X pins σ' (upd H' a (exT C a d)) { s' with heap := h4 } := track J J4 hex nI na (exT_new he4 hz4 hd4) ⟨_, he4⟩ exT_st
      have S4 : L2.Inv (X.suite a (X.pn ++ pins)) [] σ' (upd H' a (exT C a d)) { s' with heap := h4 } :=
        ⟨ok.suite _ _, T4.os, T4.bare, T4.base, T4.loc, T4.cell, T4.free, T4.freeC, fun p hp => T4.pin p (by rw [List.append_nil] at hp; exact hp), T4.hok, T4.len⟩
      refine store_ok (X := X.suite a (X.pn ++ pins)) (v := .ref a) S4 hN hi hloc rfl (fun s5 S5 => ?_) (.inr hln)
      refine wpAny_mono ((hsu a (X.pn ++ pins)).run [] s5 _ _ _ S5 (hyes rfl a na)) (fun f s6 hsp => ?_) (fun _ _ z => False.elim z)
      have end_ : ∀ {σ6 : L2.St} {H6 : Hp} {Q : Shared → Prop}, L2.Inv (X.suite a (X.pn ++ pins)) [] σ6 H6 s6 → (∀ s7, L2.Inv X pins (σ6.set i none) H6 s7 → Q s7) →
          wpAny (model X.prog X.w) X.A (do bindName X.env n .none; unbindBehindTheSuite X.env n pos') (fun _ s7 => Q s7) X.xe s6 := fun {σ6 H6 Q} S6 hq =>
        gone_ok (X := X) (pins := pins) ⟨ok, S6.os, S6.bare, S6.base, S6.loc, S6.cell, S6.free, S6.freeC, fun p hp => S6.pin p (List.mem_append_left _ hp), S6.hok, S6.len⟩ hN hi hln hq
      cases f with
      | next =>
        obtain ⟨σ6, H6, S6, q6⟩ := hsp
        exact end_ S6 fun s7 J7 => ⟨_, _, J7, q6⟩
      | brk =>
        obtain ⟨σ6, H6, S6, q6⟩ := hsp
        exact end_ S6 fun s7 J7 => ⟨_, _, J7, q6⟩
      | cont =>
        obtain ⟨σ6, H6, S6, q6⟩ := hsp
        exact end_ S6 fun s7 J7 => ⟨_, _, J7, q6⟩
      | ret u =>
        obtain ⟨v6, σ6, H6, S6, r6, q6⟩ := hsp
        exact end_ S6 fun s7 J7 => ⟨_, _, _, J7, r6, q6⟩
    | false =>
      show wpAny _ X.A (handleBy (.ref a) X.env []) _ _ _
      refine wpAny_handleBy_nil ?_
      obtain ⟨k1, k2, k3, oe, vs, T, oT, ts', he, hz, hd, h1, hr⟩ := id fl3
      unfold PySem.passOn
      refine wpAny_bind (wpAny_field he hd h1 ?_)
      rw [if_neg (show ¬ ((Value.ref T == Value.none) = true) from by simp)]
      have fin : wpAny (model X.prog X.w) X.A (setFlight (.ref a) X.env.frame) (fun _ s4 => wpAny (model X.prog X.w) X.A (throw (.ref a) : Sem Flow) (SP X pins D) X.xe s4) X.xe { s' with heap := h3 } := by
        rw [hf]
        refine HandSPX.setFlight_upZ fl3 fun h4 hh4 up4 => wpAny_throw (tk _ _ ?_)
        exact ⟨a, B, sI, pins, σ', H', .ref C, d, rfl, J, nb, (up.trans up3).trans up4, .inr (.inr (by rw [hs]; exact hh4)), na, os, ag, hno rfl⟩
      first
        | exact wpAny_bind (wpAny_pure (wpAny_bind fin))
        | exact wpAny_bind fin
  · cases f with
    | next =>
      obtain ⟨σ', H', J', q⟩ := hsp
      exact wpAny_execs_nil ⟨σ', H', J'.ofTry ok, q⟩
    | brk =>
      obtain ⟨σ', H', J', q⟩ := hsp
      exact ⟨σ', H', J'.ofTry ok, q⟩
    | cont =>
      obtain ⟨σ', H', J', q⟩ := hsp
      exact ⟨σ', H', J'.ofTry ok, q⟩
    | ret u =>
      obtain ⟨v, σ', H', J', r, q⟩ := hsp
      exact ⟨v, σ', H', J'.ofTry ok, r, q⟩
end
end PL

namespace PL
open PySem PySem.Spec PyProof.Rows L2

/-! ### try: .. except C as n: .. over data -/
/-- the ends behind a suite whose name (slot i) goes -/
def DEnds.gone (DD : DEnds) (i : Nat) : DEnds := { nx := fun ρ c => DD.nx (ρ.set i .no) c, rt := DD.rt, bk := fun ρ c => DD.bk (ρ.set i .no) c, ct := fun ρ c => DD.ct (ρ.set i .no) c }
def sTry (K : PySem.W.Frag) (cl : Addr) (i : Nat) (sb : (DEnv → EDt) → DS) (ss : DS) (ED : DEnv → EDt) : DS := fun DD ρ c =>
  sb (fun ρ1 C ns es c1 => ∃ b, PySem.W.exmOne K (.ref C) (.ref cl) = some b ∧ @Br b (ss (DD.gone i) (ρ1.set i (.fz (.exc C ns es))) c1) (ED ρ1 C ns es c1)) DD ρ c
section
variable {Y : Ctx} {k i : Nat} {x n : Str} {cl : Addr} {body suite : List Stmt} {b₀ : Stmt} {np pos pos' : Pos} {tb : (L2.St → XK) → TS} {ts : TS} {sb : (DEnv → EDt) → DS} {ss : DS}
theorem pds_try_keep (g : Y.Good k) (hN : Y.X.N.Nodup) (hc : Names Y.X x (.ref cl)) (hex : Y.X.ex = [])
    (hb : ∀ pn xe E2 ED2 lo, Ctx.Good ⟨Y.X.tr pn xe, Y.G0, Y.H0, Y.c0, E2, ED2, lo⟩ k → PDSs ⟨Y.X.tr pn xe, Y.G0, Y.H0, Y.c0, E2, ED2, lo⟩ body (tb E2) (sb ED2))
    (hsu : ∀ a pn lo, PDSs ⟨Y.X.suite a pn, Y.G0, Y.H0, Y.c0, fun _ => E0, fun _ _ _ _ _ => False, lo⟩ (b₀ :: suite) ts ss)
    (hi : Y.X.N[i]? = some n := by rfl) (hln : Y.X.env.kindOf n = some .local := by rfl) (hs : Y.X.stack = Y.X.env :: Y.X.outer := by rfl) (hf : Y.X.env.frame = some Y.X.env.locals := by rfl) :
    PDS Y (.Try body [.ExceptHandler (some (.Name x np)) (some n) (b₀ :: suite) pos'] [] [] pos)
      (fun D σ H => tb (fun σ1 cls d H1 => wKeep Y.X.K (.ref cl) i ts (fun cls d σ H => Y.E σ cls d H) D cls d σ1 H1) D σ H) (sTry Y.X.K cl i sb ss Y.ED) := by
  refine ⟨ps_try_keep (tb := fun W => tb fun σ cls d H => W cls d σ H) hs hf hex hN hi hln hc g.tk (fun W pn xe tk => (hb pn xe (fun σ cls d H => W cls d σ H) (fun _ _ _ _ _ => False) ⟨fun _ => none, fun _ => False⟩ ⟨tk, fun _ _ _ _ _ _ _ _ _ _ _ _ _ _ _ z => z.elim, g.room, g.calm⟩).p) (fun a pn => (hsu a pn ⟨fun _ => none, fun _ => False⟩).p), ?_⟩
  intro P G H c ρ σ DD EE K R q
  -- the lower end of the body's states: P and Y.lo, both below G
  refine (hb Y.X.pn (fun _ _ => True) _ _ G ⟨fun _ _ _ => trivial, ?_, g.room, g.calm⟩).s P G H c ρ σ DD EE ⟨?_, K.rt, ?_, ?_⟩ ⟨⟨R.r.ok, R.r.evo, R.r.len, R.r.sl, R.r.sep, GS.Le.refl _⟩, R.le⟩ q
  · intro ρ1 σ1 G1 H1 c1 R1 C ns es dx G2 H2 c2 ev re z
    obtain ⟨b, hb1, z⟩ := z
    have R1' : Rel Y G1 H1 c1 ρ1 σ1 := ⟨R1.ok, R1.evo, R1.len, R1.sl, R1.sep, R.r.lo.trans R1.lo⟩
    refine ⟨b, C, rfl, hb1, fun e a ha => ?_, fun e => ?_⟩
    · rw [e, ev_brT] at z
      have ev2 := Evo.laid ev.ok (exT C a dx) ha
      have R2 := R1'.evo' (ev.trans ev2)
      have rp : Rp Y.X.K { G2 with f := upd G2.f a (exT C a dx) } (.ref a) (.exc C ns es) := by
        rcases re with ⟨rfl, rfl, rfl⟩ | ⟨d, fs, rfl, hd, hn, hr⟩
        · exact .exc (fs := []) upd_same (.inl ⟨rfl, rfl⟩) rfl .nil
        · exact .exc upd_same (.inr ⟨d, rfl, ev2.le.f _ _ hd⟩) hn (hr.mono ev2.le)
      have R3 := R2.set_fz rp i
      refine (hsu a [] G).s P _ _ _ _ _ (DD.gone i) _ ⟨fun G' H' c' ρ' σ' R' w => ?_, K.rt, fun G' H' c' ρ' σ' R' w => ?_, fun G' H' c' ρ' σ' R' w => ?_⟩ ⟨⟨R3.ok, R3.evo, R3.len, R3.sl, R3.sep, R1.lo.trans (ev.le.trans ev2.le)⟩, R.le.trans (R1.lo.trans (ev.le.trans ev2.le))⟩ z
      · exact K.nx _ _ _ _ _ ⟨Rel.set_no (Y := Y) ⟨R'.r.ok, R'.r.evo, R'.r.len, R'.r.sl, R'.r.sep, R.r.lo.trans R'.r.lo⟩ i none, R'.le⟩ w
      · exact K.bk _ _ _ _ _ ⟨Rel.set_no (Y := Y) ⟨R'.r.ok, R'.r.evo, R'.r.len, R'.r.sl, R'.r.sep, R.r.lo.trans R'.r.lo⟩ i none, R'.le⟩ w
      · exact K.ct _ _ _ _ _ ⟨Rel.set_no (Y := Y) ⟨R'.r.ok, R'.r.evo, R'.r.len, R'.r.sl, R'.r.sep, R.r.lo.trans R'.r.lo⟩ i none, R'.le⟩ w
    · rw [e, ev_brF] at z
      exact g.err ρ1 σ1 G1 H1 c1 R1' C ns es dx G2 H2 c2 ev re z
  · exact fun G' H' c' ρ' σ' R' w => K.nx _ _ _ _ _ ⟨⟨R'.r.ok, R'.r.evo, R'.r.len, R'.r.sl, R'.r.sep, R.r.lo.trans R'.r.lo⟩, R'.le⟩ w
  · exact fun G' H' c' ρ' σ' R' w => K.bk _ _ _ _ _ ⟨⟨R'.r.ok, R'.r.evo, R'.r.len, R'.r.sl, R'.r.sep, R.r.lo.trans R'.r.lo⟩, R'.le⟩ w
  · exact fun G' H' c' ρ' σ' R' w => K.ct _ _ _ _ _ ⟨⟨R'.r.ok, R'.r.evo, R'.r.len, R'.r.sl, R'.r.sep, R.r.lo.trans R'.r.lo⟩, R'.le⟩ w
end
end PL

namespace PySem.W
open PySem PySem.Spec PySem.Calls PyProof.Rows
section
variable {prog : Program} {w : World} {A : Around} {E : Value → Shared → Prop} {s : Shared} {K : Frag} {x D : Addr} {ox : Obj} {od : Option Obj}
theorem find_dataD {C : Addr} {name : Str} {a g : Value} (hc : (clsIn K C).isSome = true) (ha : findIn K (.ref C) name = some (some a)) (hg : specialIn K a "__get__" = some (some g)) (ht : takesIn K a = some true) : findObj K C od name = some (.bind g a) := by
  obtain ⟨cd, hc⟩ := Option.isSome_iff_exists.mp hc
  unfold findObj
  rw [hc, Option.bind_some, ha, Option.bind_some]
  simp [hg, ht]
/-- x.__class__ of an exception that may have its dict -/
theorem class_excD {Q : Option Value → Shared → Prop} (T : L2.ExcC K D) (X : K.In s.heap) (I : InstAt s.heap x ox D od) (h : Q (some (.ref D)) { s with toks := s.toks + 1 }) : wpAny (model prog w) A (getAttr? (.ref x) "__class__") Q E s := by
  have hf : findObj K D od "__class__" = some (.bind (.builtin "getset_descriptor.__get__") (.builtin "object.__class__")) := find_dataD (by obtain ⟨cd, hc, _⟩ := any_some T.hd; rw [hc]; rfl) T.ha T.hn T.ht
  obtain ⟨hp, g, d, t, os⟩ := s
  have L0 := I.type (M := model prog w)
  have L1 := looks_findIn (M := model prog w) X T.hg
  have L2 := looks_findIn (M := model prog w) X T.hk
  have L3 := looks_find (M := model prog w) X I hf
  have sub : Looks (model prog w) hp (isInstance (.ref x) (.type "BaseException")) true := L0.andThen (looks_subIn X T.hs)
  have hx0 : (false && onTheHeap (Value.builtin "BaseException.__getattribute__")) = false := rfl
  have hx2 : (Value.builtin "BaseException.__getattribute__" == Value.builtin "object.__getattribute__") = false := by decide +kernel
  have hx1 : (onTheHeap (Value.ref D) && Value.builtin "BaseException.__getattribute__" == Value.builtin "object.__getattribute__") = false := by rw [hx2]; rfl
  unfold getAttr? getAttrBy? getAttrBy
  refine wpAny_bind (wpAny_mkText (wpAny_bind (wpAny_attempt (wpAny_holding (wpAny_bind (L0.at (wpAny_bind (L1.at ?_))))))))
  show wpAny _ _ (if (onTheHeap (Value.ref D) && Value.builtin "BaseException.__getattribute__" == Value.builtin "object.__getattribute__") = true then _ else _) _ _ _
  rw [hx1, if_neg Bool.false_ne_true]
  unfold getAttrByItsOwn hookBefore
  refine wpAny_bind ?_
  rw [if_pos (show onTheHeap (Value.ref D) = true from rfl)]
  refine L2.at ?_
  refine wpAny_bind (wpAny_attempt (wpAny_holding ?_))
  unfold callGetattribute
  rw [hx0, if_neg Bool.false_ne_true]
  unfold boundAndCalled
  rw [PySem.F.excAttr_ValueError.ga.bind (.ref x)]
  refine wpAny_bind (wpAny_pure ?_)
  show wpAny _ _ (call (.builtin "BaseException.__getattribute__") [.ref x, .str "__class__" t]) _ _ _
  refine wpAny_call (codeAny_call_builtin PySem.F.excAttr_ValueError.ga.plain PySem.F.entry_bexc_ga ?_)
  refine @check_slot (model prog w) _ _ ⟨hp, g, d, t + 1, os⟩ "BaseException.__getattribute__" "BaseException" "__getattribute__" (.ref x) [.str "__class__" t] [] _ (by decide +kernel) (by decide +kernel) sub (PySem.F.args_bexc_ga (.ref x) (.str "__class__" t)) ?_
  unfold Builtin.«object.__getattribute__»
  refine wpAny_bind (wpAny_of_eq (a := ((Value.ref x : Value), [Value.str "__class__" t])) (by first | rfl | (simp only [slotArgs]; rfl)) ?_)
  refine wpAny_bind (wpAny_pure (wpAny_bind (L0.at (wpAny_bind (L3.at ?_)))))
  show wpAny _ _ (holding [Value.builtin "object.__class__"] (call (.builtin "getset_descriptor.__get__") [.builtin "object.__class__", .ref x, .ref D]) >>= ret) _ _ _
  refine wpAny_bind (wpAny_holding (wpAny_call (class_get (s := ⟨hp, g, d, t + 1, os⟩) (ox := ox) (od := od) X I T.hm ?_)))
  refine wpAny_pure ?_
  show wpAny _ _ (handedOut (.ref D)) _ _ _
  rw [handedOut_of (v := .ref D) rfl]
  first
    | exact wpAny_pure (wpAny_pure h)
    | exact wpAny_pure h
    | exact wpAny_pure (wpAny_bind (wpAny_pure (wpAny_pure h)))
theorem kitx_excD (T : L2.ExcC K D) : KitX K (.ref x) (.ref D) (fun h => InstAt h x ox D od) where
  ty := fun _ _ _ I => I.type
  it := fun M h X _ => by
    obtain ⟨cdD, hcD, _⟩ := any_some T.hd
    unfold clsIn at hcD
    split at hcD
    · rename_i c1 d1 cd1 sl1 ho
      exact fun A1 Q1 E1 s1 k q => by
        unfold isType loadHead
        exact wpAny_bind (wpAny_loadPart (k _ _ (X _ _ ho)) (wpAny_pure q))
    · cases hcD
  ne := (handS_kitx_exc (x := x) (ox := ox) T.hg T.hk T.hs T.hd T.ha T.hn T.ht T.hm).ne
  ca := fun X I k => class_excD T X I k
end
end PySem.W
namespace PL
open PySem PySem.Spec PyProof.Rows L2
/-- the object of a caught exception -/
theorem inst_exT {P : Program} {w : World} {H : Hp} {h : Heap} {C a : Addr} {d : Option Addr} (hok : HOk P w H h) (e : H a = some (exT C a d)) (hd : d = none ∨ ∃ dd fs, d = some dd ∧ H dd = some (.xd fs)) :
    ∃ oe od, PySem.W.InstAt h a oe C od ∧ (d = none → od = none) := by
  obtain ⟨⟨oe, vs, e1, hc, hdi, hda⟩, _, _⟩ := (show ObjOk P w H h a (.ext _) from hok a _ e)
  rcases hd with rfl | ⟨dd, fs, rfl, ed⟩
  · exact ⟨oe, none, ⟨e1, hc, by unfold PySem.W.notCls; rw [hda] <;> rfl, by rw [hdi]; trivial⟩, fun _ => rfl⟩
  · obtain ⟨mA, hns, _⟩ := (show ObjOk P w H h dd (.xd fs) from hok dd _ ed)
    obtain ⟨od, ho, _⟩ := lookIn_ns hns
    exact ⟨oe, some od, ⟨e1, hc, by unfold PySem.W.notCls; rw [hda] <;> rfl, by rw [hdi]; exact ho⟩, fun z => nomatch z⟩
/-- what is known of a caught exception's dict -/
def DictX (H : Hp) (d : Option Addr) : Prop := d = none ∨ ∃ dd fs, d = some dd ∧ H dd = some (.xd fs)
/-- isinstance(x, C), C one class: x a caught exception -/
def rIsX (K : PySem.W.Frag) : List V → Hp → VK → Prop := fun xs H Q => ∃ (a C : Addr) (d : Option Addr) (c : V) (cv : Value) (b : Bool), xs = [.ref a, c] ∧ H a = some (exT C a d) ∧ DictX H d ∧ ExcC K C ∧ ClsV c cv ∧ PySem.W.kitOne K (.ref C) cv = some b ∧ Q (.bl b) H
def rIsO (K : PySem.W.Frag) : List V → Hp → VK → Prop := fun xs H Q => rIsi K xs H Q ∨ rIsX K xs H Q
theorem call_isO {X : Cx} : CallR X (.builtin "isinstance") (rIsO X.K) := by
  intro pins s σ H xs us Q I r h
  rcases h with h | ⟨a, C, d, c, cv, b, rfl, e1, e2, T, k, e, q⟩
  · exact call_isi pins s σ H xs us Q I r h
  · obtain ⟨u1, u2, rfl, r1, r2⟩ := vals2 r
    have ec := k.eq r2
    subst ec
    cases (show u1 = Value.ref a from r1)
    obtain ⟨oe, od, J, _⟩ := inst_exT I.hok e1 e2
    exact PySem.W.kia_one (PySem.W.kitx_excD T) I.kIn J e (fun z => nomatch z) fun tk => ⟨.bl b, H, I.tok tk, rfl, q⟩
/-- the answer to isinstance(x, C) for an own class C -/
def typD (K : PySem.W.Frag) (IC : Addr → Prop) : D → Value → Prop
  | .exc C _ _, t => ExcC K C ∧ t = .ref C
  | .ins C _ _, t => IC C ∧ t = .ref C
  | d, t => ∃ k, kind d = some k ∧ t = .type k
def aIsO (K : PySem.W.Frag) (IC : Addr → Prop) (ds : List D) (c : Nat) (Q : QD) : Prop := match ds with
  | [x, .cls C] => ∃ t b, typD K IC x t ∧ PySem.W.kitOne K t (.ref C) = some b ∧ Q (.bl b) c
  | _ => False
theorem br_isO {K : PySem.W.Frag} {IC : Addr → Prop} (hI : ∀ C, IC C → ICls K C) : BrN K (rIsO K) (aIsO K IC) := fun G H c xs ds Qd Q ok r q k => by
  unfold aIsO at q
  split at q
  · obtain ⟨t, b, ht, hk, q⟩ := q
    rename_i x C
    cases r with
    | cons r rr =>
      cases rr with
      | cons r2 rr =>
        cases rr
        cases r2
        have fin := k _ _ G H c (Evo.refl ok) (.bl b) q
        have base : ∀ kk, kind x = some kk → t = .type kk → rIsO K [_, .ref C] H Q := fun kk e1 e2 => by
          subst e2
          exact .inl ⟨_, _, _, .ref C, b, rfl, .own C, tyX_of ok r e1, hk, fin⟩
        cases x with
        | exc C2 ns es =>
          obtain ⟨T, rfl⟩ := ht
          cases r with
          | exc h1 h2 h3 h4 =>
            exact .inr ⟨_, _, _, _, .ref C, b, rfl, ok.same _ _ h1, h2.imp (fun z => z.1) (fun ⟨d, z1, z2⟩ => ⟨d, _, z1, ok.same _ _ z2⟩), T, .own C, hk, fin⟩
        | ins C2 ns es =>
          obtain ⟨h, rfl⟩ := ht
          have I := hI C2 h
          cases r with
          | ins h1 h2 h3 => exact .inl ⟨_, _, _, .ref C, b, rfl, .own C, .base (.ins (ok.same _ _ h1) I.cl I.ha I.hn I.ht I.hm), hk, fin⟩
        | non => obtain ⟨kk, e1, e2⟩ := ht; exact base kk e1 e2
        | bl _ => obtain ⟨kk, e1, e2⟩ := ht; exact base kk e1 e2
        | int _ => obtain ⟨kk, e1, e2⟩ := ht; exact base kk e1 e2
        | str _ => obtain ⟨kk, e1, e2⟩ := ht; exact base kk e1 e2
        | ty _ => obtain ⟨kk, e1, e2⟩ := ht; exact base kk e1 e2
        | cls _ => obtain ⟨kk, e1, e2⟩ := ht; exact base kk e1 e2
        | tup _ => obtain ⟨kk, e1, e2⟩ := ht; exact base kk e1 e2
        | lst _ => obtain ⟨kk, e1, e2⟩ := ht; exact base kk e1 e2
        | dct _ _ => obtain ⟨kk, e1, e2⟩ := ht; exact base kk e1 e2
        | opq => obtain ⟨kk, e1, e2⟩ := ht; exact base kk e1 e2
        | scr _ => obtain ⟨kk, e1, e2⟩ := ht; exact base kk e1 e2
  · exact q.elim
/-! ### a field of a caught exception -/
def tFldX (K : PySem.W.Frag) (f : Str) (te : TE) : TE := fun σ H Q => te σ H fun x H1 => ∃ (a C : Addr) (dd : Addr) (fs : List (Str × V)) (v : V), x = .ref a ∧ H1 a = some (exT C a (some dd)) ∧ XfC K C ∧ PySem.W.findIn K (.ref C) f = some none ∧ H1 dd = some (.xd fs) ∧ fs.lookup f = some v ∧ Q v H1
theorem pe_fldX {X : Cx} {e : Expr} {te : TE} {pos : Pos} {n : Str} (he : PE X e te) (hb : attributeBase e n X.env (eval e X.env) = eval e X.env) : PE X (.Attribute e n pos) (tFldX X.K n te) := by
  refine ⟨fun pins s σ H Q I h => attr_of hb (thn (he.run pins s σ H _ I h) fun u s1 hh => ?_)⟩
  obtain ⟨x, H1, I1, rx, a, C, dd, fs, v, rfl, ea, T, hno, ed, l, q⟩ := hh
  obtain rfl : u = Value.ref a := rx
  obtain ⟨⟨oe, vs, e1, hc, hdi, hda⟩, _, _⟩ := (show ObjOk X.prog X.w H1 s1.heap a (.ext _) from I1.hok a _ ea)
  obtain ⟨mA, hns, hr⟩ := (show ObjOk X.prog X.w H1 s1.heap dd (.xd fs) from I1.hok dd _ ed)
  obtain ⟨od, ho, hl⟩ := lookIn_ns hns
  obtain ⟨u, hu, ru⟩ := RelO.some_of (v := v) (o := mA n) (by rw [← l]; exact hr n)
  have J : PySem.W.InstAt s1.heap a oe C (some od) := ⟨e1, hc, by unfold PySem.W.notCls; rw [hda] <;> rfl, by rw [hdi]; exact ho⟩
  exact HandSPX.exc_get I1.kIn J T.ga T.gg T.exC (PySem.W.findObj_own T.hdC hno rfl (by rw [hl, hu])) (handed_of ru) ⟨v, H1, I1.tok _, ru, q⟩
/-- the value that stands by a name -/
def fldD (f : Str) : List Str → List D → Option D
  | n :: ns, d :: ds => if f = n then some d else fldD f ns ds
  | _, _ => none
theorem fldD_rp {K : PySem.W.Frag} {G : GS} {f : Str} : ∀ {fs : List (Str × V)} {ns : List Str} {ds : List D} {d : D}, fs.map (·.1) = ns → RpAll K G (fs.map (·.2)) ds → fldD f ns ds = some d → ∃ v, fs.lookup f = some v ∧ Rp K G v d
  | [], ns, ds, d, h, r, e => by subst h; simp [fldD] at e
  | (n, v) :: fs, ns, ds, d, h, r, e => by
    subst h
    cases r with
    | cons r1 r2 =>
      rename_i d1 ds1
      simp only [List.map_cons, fldD] at e
      by_cases hn : f = n
      · rw [if_pos hn] at e
        cases e
        exact ⟨v, by rw [List.lookup_cons, hn]; simp, r1⟩
      · rw [if_neg hn] at e
        obtain ⟨u, h1, h2⟩ := fldD_rp rfl r2 e
        refine ⟨u, ?_, h2⟩
        rw [List.lookup_cons, beq_eq_false_iff_ne.mpr hn]
        exact h1
def dFldX (K : PySem.W.Frag) (f : Str) (t : DE) : DE := fun ρ c Q => t ρ c fun x c1 => ∃ C ns es d, x = .exc C ns es ∧ XfC K C ∧ PySem.W.findIn K (.ref C) f = some none ∧ fldD f ns es = some d ∧ Q d c1
theorem pd_fldX {Y : Ctx} {e : Expr} {te : TE} {t : DE} {pos : Pos} {n : Str} (he : PD Y e te t) (hb : attributeBase e n Y.X.env (eval e Y.X.env) = eval e Y.X.env := by rfl) : PD Y (.Attribute e n pos) (tFldX Y.X.K n te) (dFldX Y.X.K n t) :=
  ⟨pe_fldX he.p hb, fun G H c ρ σ Qd Q R q k => he.s G H c ρ σ _ _ R q fun x v G1 H1 c1 ev r q => by
    obtain ⟨C, ns, es, d, rfl, T, hno, hf, q⟩ := q
    cases r with
    | exc h1 h2 h3 h4 =>
      obtain ⟨u, hl, ru⟩ := fldD_rp h3 h4 hf
      rcases h2 with ⟨rfl, rfl⟩ | ⟨dd, rfl, ed⟩
      · cases hl
      · exact ⟨_, _, dd, _, u, rfl, ev.ok.same _ _ h1, T, hno, ev.ok.same _ _ ed, hl, k d u G1 H1 c1 ev ru q⟩⟩
end PL

namespace PL
open PySem PySem.Spec PyProof.Rows L2

/-! ### own exceptions of one field: made and raised -/
/-- __init__(self, p): self.f = p -/
def spXI (K : PySem.W.Frag) (f : Str) : Sp := fun vs H Q _ => ∃ (a C : Addr) (y : V), vs = [.ref a, y] ∧ OexC K C ∧ PySem.W.findIn K (.ref C) f = some none ∧ H a = some (exo a C none) ∧
  ∀ d, H d = none → d ≠ a → Q .non (upd (upd H d (exd d [(f, y)])) a (exo a C (some d)))
section
variable {P : Program} {w : World} {K : PySem.W.Frag} {mg : Str → Option Value} {base : Heap} {x qual p f : Str} {params : Arguments} {body : List Stmt} {scope : Scope} {dvs : List V} {kws : List (Str × V)} {fI : Addr} {fd : FuncData} {CX : CXT}
theorem okXI (F : FunD K x qual params body scope dvs kws fI fd) (S : FnScope ["self", p] ["self", p] scope)
    (hb : ∀ cdv A outer s H E, PSs (cxOf CX P w K mg base ["self", p] qual scope fI cdv A outer s H E) body (tOst K f (tVar 0) (tVar 1))) : FnOk P w K mg base CX 1 fI fd ["self", p] (spXI K f) := by
  refine F.ok S (fun vs H Q E h => ?_) fun cdv A outer s H vs Q E hr h => ?_
  · obtain ⟨a, C, y, rfl, _⟩ := h; rfl
  · obtain ⟨a, C, y, rfl, T, hno, e, k⟩ := h
    exact ⟨_, hb cdv A outer s H E, y, rfl, .ref a, rfl, a, C, rfl, T, hno, .inl ⟨e, fun d n ne => k d n ne⟩⟩
end
section
variable {Y : Ctx} {k : Nat} {C fI : Addr} {fd : FuncData} {x p f : Str} {e : Expr} {ta : TA} {t : DA} {p0 pc pos : Pos}
/-- raise C(e): one field, named f -/
def sRaise1 (C : Addr) (f : Str) (ED : DEnv → EDt) (t : DA) : DS := fun _ ρ c => t ρ c fun ds c1 => ∃ d, ds = [d] ∧ ED ρ C [f] [d] c1
theorem pds_raise1 (g : Y.Good k) (h2 : 2 ≤ k) (T : OexC Y.X.K C) (hno : PySem.W.findIn Y.X.K (.ref C) f = some none) (iC : PySem.W.findIn Y.X.K (.ref C) "__init__" = some (some (.ref fI))) (tI : PySem.W.typeIn Y.X.K (.ref fI) = some (.type "function"))
    (F : FnOk Y.X.prog Y.X.w Y.X.K Y.X.mg Y.X.base (L2.CX Y.X.prog Y.X.w) 1 fI fd ["self", p] (spXI Y.X.K f)) (hb : Binds Y.X.K fd ["self", p] []) (hm : Y.X.mg x = some (.ref C)) (ha : PDA Y [e] ta t)
    (hg : Gl Y.X x := by rfl) (hdb : (x == ("__debug__" : Str)) = false := by decide) (he : starEach [e] Y.X.env = (false, eval e Y.X.env) :: starEach [] Y.X.env := by rfl) (hpl : (backTo pc (starEach [] Y.X.env)).any (·.1) = false := by rfl) :
    PDS Y (.Raise (some (.Call (.Name x p0) [e] [] pc)) none pos) (fun _ σ H => tMkO C (spXI Y.X.K f) [] ta σ H fun cls d H' => Y.E σ cls d H') (sRaise1 C f Y.ED t) := by
  refine ⟨ps_raise g.calm g.tk (pmk_oex T iC tI F (g.room.mono h2) hb .nil (fun _ _ _ _ _ _ _ ⟨_, _, _, _, _, _, _, _, _, _, _, _, z⟩ => z.elim) hg hm ha.p hdb he hpl), ?_⟩
  intro P G H c ρ σ DD EE K R q
  refine ha.s G H c ρ σ _ _ R.r q fun ds vs G1 H1 c1 ev rr q => ?_
  obtain ⟨d, rfl, q⟩ := q
  cases rr with
  | cons r1 rr =>
    rename_i v _
    cases rr
    refine ⟨by simp, fun a na => ⟨a, C, v, rfl, T, hno, upd_same, fun dx nd ne => ⟨rfl, dx, [(f, v)], upd_same, ?_, ?_, ?_⟩⟩⟩
    · rw [upd_ne ne, upd_same]
    · rw [upd_ne ne] at nd
      exact nd
    · rw [upd_ne ne] at nd
      have eH : upd (L2.del (upd (upd (upd H1 a (exo a C none)) dx (exd dx [(f, v)])) a (exo a C (some dx))) a) dx (.xd [(f, v)]) = upd H1 dx (.xd [(f, v)]) := by
        funext b
        by_cases h1 : b = dx
        · rw [h1, upd_same, upd_same]
        · rw [upd_ne h1, upd_ne h1]
          by_cases h3 : b = a
          · rw [h3, del_same, na]
          · rw [del_ne h3, upd_ne h3, upd_ne h1, upd_ne h3]
      rw [eH]
      have ev2 := Evo.laid ev.ok (.xd [(f, v)]) nd
      exact g.err ρ σ G1 H1 c1 (R.r.evo' ev) C [f] [d] (some dx) _ _ c1 ev2 (.inr ⟨dx, [(f, v)], rfl, upd_same, rfl, .cons (r1.mono ev2.le) .nil⟩) q
end
end PL

namespace PL
open PySem PySem.Spec PyProof.Rows L2

/-! ### lists of the frame's own: made, appended to -/
section
variable {Y : Ctx} {P G : GS} {H : Hp} {c : Nat} {ρ : DEnv} {σ : L2.St}
theorem Rel.entry_none {a : Addr} (R : Rel Y G H c ρ σ) (h : H a = none) : Y.H0 a = none := by
  cases q : Y.H0 a with
  | none => rfl
  | some u =>
    by_cases hp : Y.G0.pu a
    · obtain ⟨o, e⟩ := R.evo.pus a hp
      rw [h] at e; cases e
    · have e := R.evo.keep a u q hp
      rw [h] at e; cases e
/-- a new list, the frame's own, in slot i -/
theorem Rel.set_new {a : Addr} {xs : List V} {ds : List D} (R : Rel Y G H c ρ σ) (h : H a = none) (r : RpAll Y.X.K G xs ds) (i : Nat) : Rel Y G (upd H a (.lst xs)) c (ρ.set i (.ol ds)) (σ.set i (some (.ref a))) := by
  refine (R.evo' (Evo.laidU R.ok (.lst xs) h)).set_sl ⟨a, xs, rfl, R.ok.fnone h, R.ok.punone h, R.entry_none h, upd_same, r⟩ fun _ j _ ⟨t, e, q⟩ z => ?_
  obtain ⟨o, e1, r1⟩ := R.sl j t e
  rw [z] at e1
  cases e1
  cases t with
  | no => cases q
  | fz d => cases q
  | ol ds =>
    obtain ⟨b, ys, eb, g1, g2, g3, g4, g5⟩ := r1
    cases eb
    rw [h] at g4; cases g4
  | od ks ds =>
    obtain ⟨b, ys, eb, g1, g2, g3, g4, g5⟩ := r1
    cases eb
    rw [h] at g4; cases g4
end
section
variable {Y : Ctx} {es : List Expr} {e : Expr} {fa : TA} {t : DA} {x : Str} {p pos pos' apos cpos : Pos}
def sNewL (i : Nat) (t : DA) : DS := fun DD ρ c => t ρ c fun ds c1 => ds.length ≤ sizeLine ∧ DD.nx (ρ.set i (.ol ds)) c1
theorem pds_newL (i : Nat) (hN : Y.X.N.Nodup) (ha : PDA Y es fa t) (hi : Y.X.N[i]? = some x := by rfl) (hx : Loc Y.X.env.scope x := by first | exact Or.inl rfl | exact Or.inr rfl) (hs : swapsWith (.List es pos) (some (.Name x pos')) p.line Y.X.env = pure false := by rfl)
    (hf : Y.X.fn x = true ∨ Y.X.env.scope.names.lookup x = some .local := by first | exact .inl rfl | exact .inr rfl) : PDS Y (.Assign [.Name x pos'] (.List es pos) p) (tAsg (tLst fa) (gName i)) (sNewL i t) :=
  ⟨ps_set hN hi hx (pe_lst ha.p) hs hf, fun P G H c ρ σ DD EE K R q => ha.s G H c ρ σ _ _ R.r q fun ds vs G1 H1 c1 ev rr ⟨hl, q⟩ => ⟨by rw [rr.length]; exact hl, fun a na =>
    K.nx G1 _ c1 _ _ ⟨(R.r.evo' ev).set_new na rr i, R.le.trans ev.le⟩ q⟩⟩
def sAppend (i : Nat) (t : DA) : DS := fun DD ρ c => ∃ l, ρ[i]? = some (.ol l) ∧ l.length < sizeLine ∧ t ρ c fun ds c1 => ∃ d, ds = [d] ∧ DD.nx (ρ.set i (.ol (l ++ [d]))) c1
theorem pds_append (i : Nat) (hp : PE Y.X (.Name x p) (tVar i)) (ha : PDA Y [e] fa t)
    (hfew : ((backTo cpos (starEach [e] Y.X.env)).all (fun x => !x.1) && (backToKw cpos (keywordEach [] Y.X.env)).all (fun x => x.1.isSome)
      && decide ([e].length + ([] : List Keyword).length + (if ([] : List Keyword).isEmpty then 0 else 1) < 30)) = true := by rfl)
    (hline : (apos.endLine == cpos.line) = true := by rfl) (hs : starEach [e] Y.X.env = (false, eval e Y.X.env) :: starEach [] Y.X.env := by rfl) (hplain : (backTo cpos (starEach [] Y.X.env)).any (·.1) = false := by rfl)
    (hbase : attributeBase (.Name x p) "append" Y.X.env (eval (.Name x p) Y.X.env) = eval (.Name x p) Y.X.env := by rfl) (hsw : swapsWith (.Call (.Attribute (.Name x p) "append" apos) [e] [] cpos) none pos.line Y.X.env = pure false := by rfl) :
    PDS Y (.Expr (.Call (.Attribute (.Name x p) "append" apos) [e] [] cpos) pos) (tDrop (tBM Y.X.K "list" rAppend (tVar i) fa)) (sAppend i t) := by
  refine ⟨ps_expr (pe_bm PySem.F.plainAttrs_list PySem.F.slot_list_append PySem.F.type_list_append mt_append hp ha.p hbase hfew hline hs hplain) hsw, ?_⟩
  intro P G H c ρ σ DD EE K R q
  obtain ⟨l, hi, hl, q⟩ := q
  obtain ⟨o, e1, a, xs, rfl, h1, h2, h3, h4, h5⟩ := R.r.sl i _ hi
  refine ⟨.ref a, e1, .inl ⟨rfl, _, SqL.of h4⟩, ?_⟩
  refine ha.s G H c ρ σ _ _ R.r q fun ds vs G1 H1 c1 ev rr ⟨d, ed, q⟩ => ?_
  subst ed
  cases rr with
  | cons r1 rr =>
    cases rr
    have R1 := R.r.evo' ev
    have h4' : H1 a = some (.lst xs) := ev.keep a _ h4 h2
    refine ⟨a, xs, _, rfl, rfl, h4', by rw [h5.length]; exact hl, K.nx G1 _ c1 _ _ ⟨R1.put hi e1 ((h5.mono ev.le).append (.cons r1 .nil)), R.le.trans ev.le⟩ q⟩
end
end PL

namespace PL
open PySem PySem.Spec PyProof.Rows L2

/-! ### own exception classes of one field: what the top has left of them -/
def oexB (K : PySem.W.Frag) (C : Addr) : Bool := match K.lookup C with
  | some ⟨.type "type", _, .cls cd, sl⟩ => (match cd.mro, sl.toList with
    | .ref C2 :: bm, [_, _, _, _, some (.builtin n), _] => C2 == C && n == "ValueError.__new__" && !cd.hasDel && cd.hasDict && PySem.HandSPX.refsVE bm
    | _, _ => false)
  | _ => false
theorem oexB_ok {K : PySem.W.Frag} {C : Addr} (q : oexB K C = true) : ∃ nm q N bs bm sn sub ab col dd k0 k1 k2 k3 k5, K.lookup C = some (excClassObj nm q C N bs bm true sn sub ab col dd k0 k1 k2 k3 k5 "ValueError.__new__") ∧ PySem.HandSPX.refsVE bm = true := by
  unfold oexB at q
  split at q
  · rename_i dd cd sl ho
    split at q
    · rename_i C2 bm k0 k1 k2 k3 n k5 hm hs
      simp only [Bool.and_eq_true, beq_iff_eq, Bool.not_eq_true'] at q
      obtain ⟨⟨⟨⟨rfl, rfl⟩, hdel⟩, hdi⟩, ht⟩ := q
      obtain ⟨nm, bs, mro, ns, qn, hd, sn, sub, ab, col, del⟩ := cd
      dsimp only at hm hdel hdi
      subst hm hdel hdi
      have hsl : sl = #[k0, k1, k2, k3, some (.builtin "ValueError.__new__"), k5] := by
        obtain ⟨l⟩ := sl
        simp only at hs
        rw [hs]
      subst hsl
      exact ⟨nm, qn, ns, bs, bm, sn, sub, ab, col, dd, k0, k1, k2, k3, k5, ho, ht⟩
    · cases q
  · cases q
/-- the facts of the class at C, its one field f, its __init__ at fI -/
structure XCls (K : PySem.W.Frag) (mg : Str → Option Value) (x f : Str) (C fI : Addr) : Prop where
  m : mg x = some (.ref C)
  o : OexC K C
  xc : ExcC K C
  xf : XfC K C
  no : PySem.W.findIn K (.ref C) f = some none
  iC : PySem.W.findIn K (.ref C) "__init__" = some (some (.ref fI))
  tI : PySem.W.typeIn K (.ref fI) = some (.type "function")
/-- any exception class: what isinstance asks -/
def xcB (K : PySem.W.Frag) (C : Addr) : Bool :=
  He.eqO (PySem.W.findIn K (.ref C) "__getattribute__") (some (some (.builtin "BaseException.__getattribute__"))) && He.eqO (PySem.W.findIn K (.ref C) "__getattr__") (some none) && decide (PySem.W.subIn K (.ref C) (.type "BaseException") = some true) && PySem.W.hasDictIn K C &&
    He.eqO (PySem.W.findIn K (.ref C) "__class__") (some (some (.builtin "object.__class__"))) && decide (PySem.W.specialIn K (.builtin "object.__class__") "__get__" = some (some (.builtin "getset_descriptor.__get__"))) && decide (PySem.W.takesIn K (.builtin "object.__class__") = some true) &&
    decide (PySem.W.mroIn K C (.type "object") = some true)
theorem xcB_ok {K : PySem.W.Frag} {C : Addr} (h : xcB K C = true) : ExcC K C := by
  simp only [xcB, Bool.and_eq_true, decide_eq_true_eq] at h
  obtain ⟨⟨⟨⟨⟨⟨⟨h1, h2⟩, h3⟩, h4⟩, h5⟩, h6⟩, h7⟩, h8⟩ := h
  exact ⟨He.eqO_ok h1, He.eqO_ok h2, h3, h4, He.eqO_ok h5, h6, h7, h8⟩
def xclsB (K : PySem.W.Frag) (f : Str) (C fI : Addr) : Bool :=
  oexB K C && He.eqO (PySem.W.findIn K (.ref C) "__setattr__") (some (some (.builtin "object.__setattr__"))) && decide (PySem.W.typeIn K (.ref C) = some (.type "type")) && PySem.W.keepIn K (.ref C) && xcB K C &&
    He.eqO (PySem.W.findIn K (.ref C) f) (some none) && He.eqO (PySem.W.findIn K (.ref C) "__init__") (some (some (.ref fI))) && decide (PySem.W.typeIn K (.ref fI) = some (.type "function"))
theorem xclsB_ok {K : PySem.W.Frag} {mg : Str → Option Value} {x f : Str} {C fI : Addr} (m : mg x = some (.ref C)) (h : xclsB K f C fI = true) : XCls K mg x f C fI := by
  simp only [xclsB, Bool.and_eq_true, decide_eq_true_eq] at h
  obtain ⟨⟨⟨⟨⟨⟨⟨h1, h2⟩, h3⟩, h4⟩, h5⟩, h6⟩, h7⟩, h8⟩ := h
  have e := xcB_ok h5
  exact ⟨m, ⟨oexB_ok h1, He.eqO_ok h2, e.hs, h3, h4⟩, e, ⟨e.hg, e.hk, e.hs, e.hd⟩, He.eqO_ok h6, He.eqO_ok h7, h8⟩
/-! ### a head with one more look at the written part -/
def hookE (n : Nat) (fa : List He.Fa) (fn : List He.DefD) (ex : PySem.W.Frag → Bool) : PySem.W.Hook where
  α := He.AlD × Bool
  obs := fun s => (He.obsDG n fa fn s.heap.get?, ex (He.frG s.heap.get? (He.asD s.heap.get? n)))
  val := fun _ => (He.valD fn, true)
  says := fun _ h => ∃ K : PySem.W.Frag, K.In h ∧ He.SaysD fa fn K ∧ ex K = true
  of := fun _ _ e => ⟨_, He.frG_in, congrArg Prod.fst e, congrArg Prod.snd e⟩
  keeps := fun _ _ _ ⟨K, hK, c, d⟩ k => ⟨K, PySem.W.Frag.In.keeps hK k, c, d⟩
theorem hookE_eq {n : Nat} {fa : List He.Fa} {fn : List He.DefD} {ex : PySem.W.Frag → Bool} {g : Addr → Option Obj} {s : Shared} (h : ∀ a, g a = s.heap.get? a) : ((He.obsDG n fa fn g, ex (He.frG g (He.asD g n))) : He.AlD × Bool) = (hookE n fa fn ex).obs s := by
  have e : g = s.heap.get? := funext h
  rw [e] <;> rfl
/-! ### evaluated -/
section
variable {K : PySem.W.Frag} {IC : Addr → Prop} {i : Nat} {ρ : DEnv} {c : Nat} {Q : QD} {DD : DEnds} {t : DA} {te : DE} {x : D} {C cl : Addr} {f : Str} {ns : List Str} {es l : List D} {ED : DEnv → EDt} {sb : (DEnv → EDt) → DS} {ss : DS}
theorem ev_newL : sNewL i t DD ρ c = t ρ c fun ds c1 => ds.length ≤ 16777216 ∧ @Nx DD.nx (ρ.set i (.ol ds)) c1 := by rw [← sizeLine_eq]; rfl
theorem ev_raise1 : sRaise1 C f ED t DD ρ c = t ρ c fun ds c1 => ∃ d, ds = [d] ∧ ED ρ C [f] [d] c1 := propext Iff.rfl
theorem ev_try : sTry K cl i sb ss ED DD ρ c = sb (fun ρ1 C ns es c1 => ∃ b, PySem.W.exmOne K (.ref C) (.ref cl) = some b ∧ @Br b (ss (DD.gone i) (ρ1.set i (.fz (.exc C ns es))) c1) (ED ρ1 C ns es c1)) DD ρ c := propext Iff.rfl
theorem ev_fldX : dFldX K f te ρ c Q = te ρ c fun x c1 => ∃ C ns es d, x = .exc C ns es ∧ XfC K C ∧ PySem.W.findIn K (.ref C) f = some none ∧ fldD f ns es = some d ∧ Q d c1 := propext Iff.rfl
theorem ev_isO : aIsO K IC [x, .cls C] c Q = ∃ t b, typD K IC x t ∧ PySem.W.kitOne K t (.ref C) = some b ∧ Q (.bl b) c := propext Iff.rfl
end
end PL

namespace PL
open PySem PySem.Spec PyProof.Rows L2

/-! ### keyword-only parameters with defaults, no other defaults -/
section
variable {K : PySem.W.Frag} {mg : Str → Option Value} {x qual : Str} {params : Arguments} {body : List Stmt} {scope : Scope} {kws : List (Str × V)} {f : Addr} {fd : FuncData} {ps : List Str} {st : Stmt}
theorem kbinds0 (F : FunD K x qual params body scope [] kws f fd) (n : Nat) (ks : List Str) (ms : List (Str × V)) (g : {α : Type} → List α → List α → List α → List α) (hk : kws ≠ []) (hms : ∀ q ∈ ms, q ∈ kws)
    (hrel : ∀ {vs mz zs : List V} {us mv ws : List Value}, Vals vs us → Vals mz mv → Vals zs ws → Vals (g vs mz zs) (g us mv ws))
    (h : ∀ (D : Addr) (doc pm : Value) (an : Option Addr) (cdv ct : Value) (us mv ws : List Value), us.length = n → mv.length = ms.length → ws.length = ks.length →
      KwChain D ((ms.map (·.1)).zip mv) (bindArgs (PySem.W.fnOf x qual params body scope .none (.ref D) doc pm an cdv ct) ⟨us, ks.zip ws⟩) (ps.zip (g us mv ws))) :
    ∃ mv : List Value, KBn K fd ps n ks (fun us ws => g us mv ws) (fun vs zs => g vs (ms.map (·.2)) zs) := by
  obtain ⟨oc, od, dV, kV, doc, pm, an, cdv, ct, osl, rfl, lk, hcd, hD, hK⟩ := F.ex
  rcases hD with ⟨_, rfl⟩ | ⟨e, _⟩
  · rcases hK with e | ⟨D, rfl, hq⟩
    · exact absurd e hk
    · obtain ⟨mv, hl, rk, hks⟩ := kwd_vals (ms := ms) fun q hm => hq q (hms q hm)
      exact ⟨mv, ⟨fun s us ws X l1 l2 => BindsTo.of_looks fun M => KwChain.looks X hks (h D doc pm an cdv ct us mv ws l1 hl l2), fun r1 r2 => hrel r1 rk r2⟩⟩
  · exact absurd rfl e
theorem Df.calK0 (Dd : Df K mg x st [] kws f fd) (n : Nat) (ks : List Str) (ms : List (Str × V)) (md : List D) (hmd : ∀ G, RpAll K G (ms.map (·.2)) md) (g : {α : Type} → List α → List α → List α → List α) (hk : kws ≠ []) (hms : ∀ q ∈ ms, q ∈ kws)
    (hrel : ∀ {α β : Type} {R : α → β → Prop} {vs mz zs : List α} {us mv ws : List β}, Paired R vs us → Paired R mz mv → Paired R zs ws → Paired R (g vs mz zs) (g us mv ws))
    (hp : ∀ {G : GS} {vs mz zs : List V} {ds me es : List D}, RpAll K G vs ds → RpAll K G mz me → RpAll K G zs es → RpAll K G (g vs mz zs) (g ds me es))
    (h : ∀ (D : Addr) (doc pm : Value) (an : Option Addr) (cdv ct : Value) (us mv ws : List Value), us.length = n → mv.length = ms.length → ws.length = ks.length →
      KwChain D ((ms.map (·.1)).zip mv) (bindArgs (PySem.W.fnOf x x (defArgs st) (defBody st) (defScope st) .none (.ref D) doc pm an cdv ct) ⟨us, ks.zip ws⟩) (ps.zip (g us mv ws))) :
    CalK K mg x f fd ps n ks (fun vs zs => g vs (ms.map (·.2)) zs) (fun ds es => g ds md es) := by
  obtain ⟨mv, hb⟩ := kbinds0 Dd.F n ks ms g hk hms (fun r1 r2 r3 => hrel r1 r2 r3) h
  exact ⟨Dd.m, Dd.F.kp, ⟨_, hb⟩, fun G vs ds zs es r1 r2 => hp r1 (hmd G) r2⟩
end
end PL

namespace PL
open PySem PySem.Spec PyProof.Rows L2

/-! ### sum of a list of ints, x.bit_length() -/
/-- the ints of a list of ints -/
def intsD : List D → Option (List Int)
  | [] => some []
  | .int i :: l => (intsD l).map (i :: ·)
  | _ => none
theorem intsD_rp {K : PySem.W.Frag} {G : GS} : ∀ {l : List D} {ns : List Int} {xs : List V}, intsD l = some ns → RpAll K G xs l → xs = ns.map V.int
  | [], ns, xs, e, r => by unfold intsD at e; cases e; cases r; rfl
  | .int i :: l, ns, xs, e, r => by
    unfold intsD at e
    cases e2 : intsD l with
    | none => rw [e2] at e; cases e
    | some ms =>
      rw [e2] at e
      cases e
      cases r with
      | cons r1 r2 =>
        cases r1
        rw [intsD_rp e2 r2]
        rfl
theorem intsD_map (ns : List Int) : intsD (ns.map .int) = some ns := by
  induction ns with
  | nil => rfl
  | cons n ns ih => rw [List.map_cons, intsD, ih]; rfl
def aSum (ds : List D) (c : Nat) (Q : QD) : Prop := match ds with
  | [.lst l] => ∃ ns, intsD l = some ns ∧ Q (.int ns.sum) c
  | _ => False
theorem br_sumA {K : PySem.W.Frag} : BrN K (rSum K) aSum := fun G H c xs ds Qd Q ok r q k => by
  unfold aSum at q
  split at q
  · obtain ⟨ns, e, q⟩ := q
    cases r with
    | cons r rr =>
      cases rr
      cases r with
      | @lst a xs _ h1 h2 => exact ⟨a, ns, rfl, by rw [← intsD_rp e h2]; exact ok.sq h1, k _ _ G H c (Evo.refl ok) (.int _) q⟩
  · exact q.elim
section
variable {Y : Ctx} {e : Expr} {te : TE} {t : DE} {apos pos : Pos}
def dBits (t : DE) : DE := fun ρ c Q => t ρ c fun x c1 => ∃ i, x = .int i ∧ Q (.int (Builtin.Int.intBits i : Nat)) c1
theorem pd_bits (he : PD Y e te t) (hbase : attributeBase e "bit_length" Y.X.env (eval e Y.X.env) = eval e Y.X.env := by rfl) (hline : (apos.endLine == pos.line) = true := by rfl) : PD Y (.Call (.Attribute e "bit_length" apos) [] [] pos) (tBits te) (dBits t) :=
  ⟨pe_bits he.p hbase hline, fun G H c ρ σ Qd Q R q k => he.s G H c ρ σ _ _ R q fun x v G1 H1 c1 ev r ⟨i, ex, q⟩ => by
    subst ex
    cases r
    exact ⟨i, rfl, k _ _ G1 H1 c1 ev (.int _) q⟩⟩
theorem ev_bits {ρ : DEnv} {c : Nat} {Q : QD} {t : DE} : dBits t ρ c Q = t ρ c fun x c1 => ∃ i, x = .int i ∧ Q (.int (Builtin.Int.intBits i : Nat)) c1 := propext Iff.rfl
end
end PL

namespace PL
open PySem PySem.Spec PyProof.Rows L2

/-! ### values put into the parameters' order -/
def pickL {α : Type} (idx : List Nat) (l : List α) : List α := idx.filterMap (l[·]?)
theorem paired_app {α β : Type} {R : α → β → Prop} : ∀ {l l2 : List α} {m m2 : List β}, Paired R l m → Paired R l2 m2 → Paired R (l ++ l2) (m ++ m2)
  | _, _, _, _, .nil, h => h
  | _, _, _, _, .cons r t, h => .cons r (paired_app t h)
theorem paired_get {α β : Type} {R : α → β → Prop} : ∀ {l : List α} {m : List β}, Paired R l m → ∀ i : Nat, (l[i]? = none ∧ m[i]? = none) ∨ ∃ x y, l[i]? = some x ∧ m[i]? = some y ∧ R x y
  | _, _, .nil, i => .inl ⟨by simp, by simp⟩
  | _, _, .cons r t, 0 => .inr ⟨_, _, rfl, rfl, r⟩
  | _, _, .cons r t, i + 1 => by simpa using paired_get t i
theorem pickL_paired {α β : Type} {R : α → β → Prop} {l : List α} {m : List β} (h : Paired R l m) : ∀ idx : List Nat, Paired R (pickL idx l) (pickL idx m)
  | [] => .nil
  | i :: idx => by
    have ih := pickL_paired h idx
    unfold pickL at ih ⊢
    rw [List.filterMap_cons, List.filterMap_cons]
    rcases paired_get h i with ⟨e1, e2⟩ | ⟨x, y, e1, e2, r⟩
    · rw [e1, e2]; exact ih
    · rw [e1, e2]; exact .cons r ih
theorem pickL_rp {K : PySem.W.Frag} {G : GS} {l : List V} {m : List D} (h : RpAll K G l m) : ∀ idx : List Nat, RpAll K G (pickL idx l) (pickL idx m)
  | [] => .nil
  | i :: idx => by
    have ih := pickL_rp h idx
    unfold pickL at ih ⊢
    rw [List.filterMap_cons, List.filterMap_cons]
    cases e2 : m[i]? with
    | none =>
      have e1 : l[i]? = none := by
        rw [List.getElem?_eq_none_iff] at e2 ⊢
        rw [h.length]; exact e2
      rw [e1]; exact ih
    | some d =>
      obtain ⟨v, e1, r⟩ := h.get e2
      rw [e1]; exact .cons r ih
/-- an own class as a value -/
theorem pd_cls {Y : Ctx} {x : Str} {C : Addr} {pos : Pos} (hm : Y.X.mg x = some (.ref C)) (hg : Gl Y.X x := by rfl) (hd : (x == ("__debug__" : Str)) = false := by decide) : PD Y (.Name x pos) (tC (.ref C)) (dC (.cls C)) := pd_glob hm (show RelV (.ref C) (.ref C) from rfl) (fun _ => .cls C) hg hd
theorem pdss_cast {Y : Ctx} {b : List Stmt} {ts ts2 : TS} {t t2 : DS} (h : PDSs Y b ts t) (e1 : ts = ts2) (e2 : t = t2) : PDSs Y b ts2 t2 := by subst e1 e2; exact h
end PL

namespace PL
open PySem PySem.Spec PyProof.Rows L2

/-! ### terms freed of the block they stand in -/
theorem pd_cast {Y : Ctx} {e : Expr} {te te2 : TE} {t t2 : DE} (h : PD Y e te t) (e1 : te = te2) (e2 : t = t2) : PD Y e te2 t2 := by subst e1 e2; exact h
theorem pdts_cast {Y : Ctx} {e : List Expr} {te te2 : TT} {t t2 : DT} (h : PDTs Y e te t) (e1 : te = te2) (e2 : t = t2) : PDTs Y e te2 t2 := by subst e1 e2; exact h
theorem pdg_cast {Y : Ctx} {e : Expr} {te te2 : TG} {t t2 : DG} {vs : List Nat} (h : PDG Y e te t vs) (e1 : te = te2) (e2 : t = t2) : PDG Y e te2 t2 vs := by subst e1 e2; exact h
end PL

namespace PL
open PySem PySem.Spec PyProof.Rows L2

/-! ### x * y of numbers, texts, lists, tuples -/
def rMulS : R2 := fun x y H Q => ∃ a n, x = .str a ∧ y = .int n ∧ n ≤ 1000000 ∧ -1000000 ≤ n ∧ a.length ≤ 16 ∧ Q (.str (Txt.mul a n)) H
theorem mulOk {a : Str} {n : Int} (h1 : n ≤ 1000000) (h2 : -1000000 ≤ n) (h3 : a.length ≤ 16) : MulOk a n := by
  refine ⟨by rw [decide_eq_false (by omega), decide_eq_false (by omega)]; rfl, fun h _ => ?_, fun h _ => ?_⟩
  · have : (2 ^ 63 - 1 : Int) / n ≥ (2 ^ 63 - 1) / 1000000 := by
      have a : (2 ^ 63 - 1 : Int) / 1000000 * n ≤ 2 ^ 63 - 1 := by
        have : (2 ^ 63 - 1 : Int) / 1000000 * n ≤ (2 ^ 63 - 1 : Int) / 1000000 * 1000000 := Int.mul_le_mul_of_nonneg_left h1 (by decide)
        exact Int.le_trans this (by decide)
      exact (Int.le_ediv_iff_mul_le (by omega)).mpr a
    have b : (16 : Int) ≤ (2 ^ 63 - 1) / 1000000 := by decide
    omega
  · have : a.length * n.toNat ≤ 16 * 1000000 := Nat.mul_le_mul h3 (by omega)
    unfold Builtin.Str.tooLong
    rw [sizeLine_eq]
    exact decide_eq_false (by omega)
theorem op_mulS {X : Cx} : OpR X (binaryOp .Mult) rMulS := by
  intro pins s σ H x y v u Q I rx ry h
  obtain ⟨a, n, rfl, rfl, h1, h2, h3, q⟩ := h
  obtain ⟨t, rfl⟩ := rx
  obtain ⟨t', rfl⟩ := ry
  exact SB.mul (mulOk h1 h2 h3) fun t' k => ⟨.str _, H, I.tok _, ⟨_, rfl⟩, q⟩
def aTimes (x : D) (y : D) (c : Nat) (Q : QD) : Prop := match x, y with
  | .int i, .int j => CMul i j ∧ Q (.int (i * j)) c
  | .str a, .int n => n ≤ 1000000 ∧ -1000000 ≤ n ∧ a.length ≤ 16 ∧ Q (.str (Txt.mul a n)) c
  | .lst l, .int n => -(2 ^ 63) ≤ n ∧ n < 2 ^ 63 ∧ l.length * n.toNat ≤ 16777216 ∧ Q (.lst (List.replicate n.toNat l).flatten) c
  | .tup l, .int n => l ≠ [] ∧ 2 ≤ n ∧ n ≤ 1000 ∧ l.length ≤ 1000 ∧ Q (.tup (List.replicate n.toNat l).flatten) c
  | _, _ => False
def rTimes (K : PySem.W.Frag) : R2 := fun x y H Q => rI CMul (fun i j => V.int (i * j)) x y H Q ∨ rMulS x y H Q ∨ rRep x y H Q ∨ rRepT K x y H Q
theorem op_times {X : Cx} : OpR X (binaryOp .Mult) (rTimes X.K) := op_mul.or (op_mulS.or (op_rep.or op_repT))
theorem rep_rp {K : PySem.W.Frag} {G : GS} {xs : List V} {ds : List D} (h : RpAll K G xs ds) : ∀ n : Nat, RpAll K G (List.replicate n xs).flatten (List.replicate n ds).flatten
  | 0 => .nil
  | n + 1 => by
    rw [List.replicate_succ, List.replicate_succ, List.flatten_cons, List.flatten_cons]
    exact h.append (rep_rp h n)
theorem br_times {K : PySem.W.Frag} : Br2 K (rTimes K) aTimes := fun G H c x y d e Qd Q ok rx ry q k => by
  unfold aTimes at q
  split at q
  · cases rx; cases ry
    exact .inl ⟨_, _, rfl, rfl, q.1, k _ _ G H c (Evo.refl ok) (.int _) q.2⟩
  · cases rx; cases ry
    obtain ⟨h1, h2, h3, q⟩ := q
    exact .inr (.inl ⟨_, _, rfl, rfl, h1, h2, h3, k _ _ G H c (Evo.refl ok) (.str _) q⟩)
  · cases ry
    obtain ⟨h1, h2, h3, q⟩ := q
    cases rx with
    | lst g1 g2 => exact .inr (.inr (.inl ⟨_, _, _, rfl, rfl, ok.same _ _ g1, h1, h2, by rw [g2.length, sizeLine_eq]; exact h3, fun p np => k _ _ _ _ c (Evo.laid ok _ np) (Rp.newLst ok np (rep_rp g2 _)) q⟩))
  · cases ry
    obtain ⟨h0, h1, h2, h3, q⟩ := q
    cases rx with
    | tup g1 g2 =>
      refine .inr (.inr (.inr ⟨_, _, _, rfl, rfl, SqT.same ok.same g1, fun e => h0 ?_, h1, h2, by rw [g2.length]; exact h3, fun p np => k _ _ _ _ c (Evo.laid ok _ np) (Rp.newTup ok np (rep_rp g2 _)) q⟩))
      subst e
      cases g2
      rfl
  · exact q.elim
/-! ### + with lists, slices with texts -/
def rSum2 (K : PySem.W.Frag) : R2 := fun x y H Q => rPlus K x y H Q ∨ rCat x y H Q
def aSum2 (x : D) (y : D) (c : Nat) (Q : QD) : Prop := match x, y with
  | .int i, .int j => Q (.int (i + j)) c
  | .str i, .str j => i.length + j.length ≤ 16777216 ∧ Q (.str (i ++ j)) c
  | .tup l, .tup m => l.length + m.length ≤ 16777216 ∧ Q (.tup (l ++ m)) c
  | .lst l, .lst m => l.length + m.length ≤ 16777216 ∧ Q (.lst (l ++ m)) c
  | _, _ => False
theorem op_sum2 {X : Cx} : OpR X (binaryOp .Add) (rSum2 X.K) := op_plus.or op_cat
theorem br_sum2 {K : PySem.W.Frag} : Br2 K (rSum2 K) aSum2 := fun G H c x y d e Qd Q ok rx ry q k => by
  unfold aSum2 at q
  split at q
  · exact .inl (br_plus G H c x y _ _ Qd Q ok rx ry q k)
  · exact .inl (br_plus G H c x y _ _ Qd Q ok rx ry (by rw [← sizeLine_eq] at q; exact q) k)
  · exact .inl (br_plus G H c x y _ _ Qd Q ok rx ry (by rw [← sizeLine_eq] at q; exact q) k)
  · obtain ⟨h, q⟩ := q
    cases rx with
    | lst g1 g2 =>
      cases ry with
      | lst g3 g4 => exact .inr ⟨_, _, _, _, rfl, rfl, ok.same _ _ g1, ok.same _ _ g3, by rw [g2.length, g4.length, sizeLine_eq]; exact h, fun p np => k _ _ _ _ c (Evo.laid ok _ np) (Rp.newLst ok np (g2.append g4)) q⟩
  · exact q.elim
def rCut2 (K : PySem.W.Frag) : V → Option Int → Option Int → Hp → VK → Prop := fun x lo hi H Q => rCut K x lo hi H Q ∨ rSlS x lo hi H Q
def aSlice2 (x : D) (lo : Option Int) (hi : Option Int) (c : Nat) (Q : QD) : Prop := match x with
  | .tup l => Q (.tup (cut l lo hi)) c
  | .lst l => Q (.lst (cut l lo hi)) c
  | .str z => z.length ≤ 16777216 ∧ Q (.str (cutS z lo hi)) c
  | _ => False
theorem sl_cut2 {X : Cx} : SlR X (rCut2 X.K) := sl_cut.or sl_str
theorem br_slice2 {K : PySem.W.Frag} : BrS K (rCut2 K) aSlice2 := fun G H c x d lo hi Qd Q ok rx q k => by
  unfold aSlice2 at q
  split at q
  · exact .inl (br_slice G H c x _ lo hi Qd Q ok rx q k)
  · exact .inl (br_slice G H c x _ lo hi Qd Q ok rx q k)
  · cases rx
    exact .inr ⟨_, rfl, by rw [sizeLine_eq]; exact q.1, k _ _ G H c (Evo.refl ok) (.str _) q.2⟩
  · exact q.elim
/-! ### in -/
def flatD : D → Bool
  | .non => true
  | .bl _ => true
  | .int _ => true
  | .str _ => true
  | _ => false
theorem eqV_eqD {K : PySem.W.Frag} {G : GS} {x y : V} {d e : D} (rx : Rp K G x d) (ry : Rp K G y e) (fd : flatD d = true) (fe : flatD e = true) : eqV x y = eqD d e := by
  cases d <;> cases fd <;> cases rx <;> cases e <;> cases fe <;> cases ry <;> first | rfl | (rename_i a b; cases a <;> simp [eqV, eqD, b2n]; done) | (rename_i a b; cases b <;> simp [eqV, eqD, b2n]; done)
theorem flat_V {K : PySem.W.Frag} {G : GS} {x : V} {d : D} (rx : Rp K G x d) (fd : flatD d = true) : flatV x = true := by
  cases d <;> cases fd <;> cases rx <;> rfl
theorem inV_D {K : PySem.W.Frag} {G : GS} {x : V} {d : D} (rx : Rp K G x d) (fd : flatD d = true) : ∀ {xs : List V} {ds : List D}, RpAll K G xs ds → ds.all flatD = true → xs.all flatV = true ∧ inV x xs = ds.any fun e => eqD e d
  | _, _, .nil, _ => ⟨rfl, rfl⟩
  | _, _, .cons r h, f => by
    rw [List.all_cons, Bool.and_eq_true] at f
    obtain ⟨h1, h2⟩ := inV_D rx fd h f.2
    refine ⟨by rw [List.all_cons, flat_V r f.1, h1]; rfl, ?_⟩
    unfold inV at h2 ⊢
    rw [List.any_cons, List.any_cons, h2, eqV_eqD r rx f.1 fd]
def rInA (K : PySem.W.Frag) : R2 := fun x y H Q => rIn K false x y H Q ∨ (∃ (c : Nat) (z : Str), x = .str ⟨#[c]⟩ ∧ y = .str z ∧ Q (.bl (decide (c ∈ z.cps.toList))) H) ∨ rInD K x y H Q
def rNotInA (K : PySem.W.Frag) : R2 := fun x y H Q => rIn K true x y H Q ∨ (∃ (c : Nat) (z : Str), x = .str ⟨#[c]⟩ ∧ y = .str z ∧ Q (.bl (!decide (c ∈ z.cps.toList))) H) ∨ rNotInD K x y H Q
/-- x in y: y a text (x one sign), a list or tuple of flat things, a list of plain things -/
def aIn (ng : Bool) (x : D) (y : D) (c : Nat) (Q : QD) : Prop := match y with
  | .str z => ∃ c0, x = .str ⟨#[c0]⟩ ∧ Q (.bl (ng != decide (c0 ∈ z.cps.toList))) c
  | .tup l => flatD x = true ∧ l.all flatD = true ∧ Q (.bl (ng != l.any fun e => eqD e x)) c
  | .lst l => (Pl 60 x ∧ Pl 60 (.lst l)) ∧ Q (.bl (ng != l.any fun e => eqD e x)) c
  | _ => False
theorem op_inA {X : Cx} (hu : X.A.units + 65 < cLine) : OpR X (compareOp .In) (rInA X.K) := op_in_seq.or (op_in_sign.or (op_inD hu))
theorem op_notInA {X : Cx} (hu : X.A.units + 65 < cLine) : OpR X (compareOp .NotIn) (rNotInA X.K) := op_notIn_seq.or (op_notIn_sign.or (op_notInD hu))
theorem any_eqv {x : D} {p : PyData} (hx : toP x = some p) : ∀ {l : List D} {ps : List PyData}, toPs l = some ps → (ps.any fun z => PyData.eqv z p) = l.any fun e => eqD e x
  | [], ps, e => by unfold toPs at e; cases e; rfl
  | d :: l, ps, e => by
    unfold toPs at e
    obtain ⟨p2, e1, e2⟩ := Option.bind_eq_some_iff.mp e
    obtain ⟨r, e3, rfl⟩ := Option.map_eq_some_iff.mp e2
    rw [List.any_cons, List.any_cons, eqv_eqD d x e1 hx, any_eqv hx e3]
theorem in_lst {K : PySem.W.Frag} {G : GS} {H : Hp} {c : Nat} {x y : V} {d : D} {l : List D} (ok : G.Ok H c) (rx : Rp K G x d) (ry : Rp K G y (.lst l)) (h1 : Pl 60 d) (h2 : Pl 60 (.lst l)) :
    ∃ p ps, Dp K H x p ∧ Dp K H y (.list ps) ∧ SeqAt.shaped p = true ∧ SeqAt.shaped (.list ps) = true ∧ (ps.any fun z => PyData.eqv z p) = l.any fun e => eqD e d := by
  obtain ⟨p, hp, sp⟩ := h1.plain
  obtain ⟨q, hq, sq⟩ := h2.plain
  have hq' := hq
  unfold toP at hq'
  obtain ⟨ps, e1, rfl⟩ := Option.map_eq_some_iff.mp hq'
  exact ⟨p, ps, dp_of ok.same hp rx, dp_of ok.same hq ry, sp, sq, any_eqv hp e1⟩
theorem br_inA {K : PySem.W.Frag} : Br2 K (rInA K) (aIn false) := fun G H c x y d e Qd Q ok rx ry q k => by
  unfold aIn at q
  split at q
  · obtain ⟨c0, rfl, q⟩ := q
    cases rx; cases ry
    exact .inr (.inl ⟨_, _, rfl, rfl, k _ _ G H c (Evo.refl ok) (.bl _) (by simpa using q)⟩)
  · obtain ⟨h1, h2, q⟩ := q
    cases ry with
    | tup g1 g2 =>
      obtain ⟨a1, a2⟩ := inV_D rx h1 g2 h2
      refine .inl ⟨_, _, rfl, .inr (SqT.same ok.same g1), flat_V rx h1, a1, ?_⟩
      rw [if_neg (by decide), a2]
      exact k _ _ G H c (Evo.refl ok) (.bl _) (by simpa using q)
  · obtain ⟨⟨h1, h2⟩, q⟩ := q
    obtain ⟨p, ps, b1, b2, b3, b4, b5⟩ := in_lst ok rx ry h1 h2
    refine .inr (.inr ⟨p, ps, b1, b2, b3, b4, ?_⟩)
    rw [b5]
    exact k _ _ G H c (Evo.refl ok) (.bl _) (by simpa using q)
  · exact q.elim
theorem br_notInA {K : PySem.W.Frag} : Br2 K (rNotInA K) (aIn true) := fun G H c x y d e Qd Q ok rx ry q k => by
  unfold aIn at q
  split at q
  · obtain ⟨c0, rfl, q⟩ := q
    cases rx; cases ry
    exact .inr (.inl ⟨_, _, rfl, rfl, k _ _ G H c (Evo.refl ok) (.bl _) (by simpa using q)⟩)
  · obtain ⟨h1, h2, q⟩ := q
    cases ry with
    | tup g1 g2 =>
      obtain ⟨a1, a2⟩ := inV_D rx h1 g2 h2
      refine .inl ⟨_, _, rfl, .inr (SqT.same ok.same g1), flat_V rx h1, a1, ?_⟩
      rw [if_pos rfl, a2]
      exact k _ _ G H c (Evo.refl ok) (.bl _) (by simpa using q)
  · obtain ⟨⟨h1, h2⟩, q⟩ := q
    obtain ⟨p, ps, b1, b2, b3, b4, b5⟩ := in_lst ok rx ry h1 h2
    refine .inr (.inr ⟨p, ps, b1, b2, b3, b4, ?_⟩)
    rw [b5]
    exact k _ _ G H c (Evo.refl ok) (.bl _) (by simpa using q)
  · exact q.elim
section
variable {Y : Ctx} {a b : Expr} {ea eb : TE} {ta tb : DE} {pos p2 : Pos} {lo hi : Option Expr} {el eh : TO} {tl th : DO} {k : Nat}
theorem pd_times (ha : PD Y a ea ta) (hb : PD Y b eb tb) : PD Y (.BinOp a .Mult b pos) (tOp (rTimes Y.X.K) ea eb) (dOp aTimes ta tb) := pd_op op_times br_times ha hb
theorem pd_sum2 (ha : PD Y a ea ta) (hb : PD Y b eb tb) : PD Y (.BinOp a .Add b pos) (tOp (rSum2 Y.X.K) ea eb) (dOp aSum2 ta tb) := pd_op op_sum2 br_sum2 ha hb
theorem pd_part2 (ha : PD Y a ea ta) (hl : PDO Y lo el tl) (hu : PDO Y hi eh th) : PD Y (.Subscript a (.Slice lo hi none p2) pos) (tSl (rCut2 Y.X.K) ea el eh) (dSl aSlice2 ta tl th) := pd_slice sl_cut2 br_slice2 ha hl hu
theorem pdc_in (g : Y.Good k) (ha : PD Y a ea ta) (hb : PD Y b eb tb) : PDC Y .In a b (tOp (rInA Y.X.K) ea eb) (dOp (aIn false) ta tb) := pdc_op (op_inA (by have := g.room.un; omega)) br_inA ha hb
theorem pdc_notIn (g : Y.Good k) (ha : PD Y a ea ta) (hb : PD Y b eb tb) : PDC Y .NotIn a b (tOp (rNotInA Y.X.K) ea eb) (dOp (aIn true) ta tb) := pdc_op (op_notInA (by have := g.room.un; omega)) br_notInA ha hb
end
section
variable {a b : Int} {c : Nat} {Q : QD} {x y : Str} {l m : List D} {d : D} {lo hi : Option Int} {ng : Bool}
theorem ev_tmI : aTimes (.int a) (.int b) c Q = (CMul a b ∧ Q (.int (a * b)) c) := propext Iff.rfl
theorem ev_tmS : aTimes (.str x) (.int b) c Q = (b ≤ 1000000 ∧ -1000000 ≤ b ∧ x.length ≤ 16 ∧ Q (.str (Txt.mul x b)) c) := propext Iff.rfl
theorem ev_tmL : aTimes (.lst l) (.int b) c Q = (-(2 ^ 63) ≤ b ∧ b < 2 ^ 63 ∧ l.length * b.toNat ≤ 16777216 ∧ Q (.lst (List.replicate b.toNat l).flatten) c) := propext Iff.rfl
theorem ev_tmT : aTimes (.tup l) (.int b) c Q = (l ≠ [] ∧ 2 ≤ b ∧ b ≤ 1000 ∧ l.length ≤ 1000 ∧ Q (.tup (List.replicate b.toNat l).flatten) c) := propext Iff.rfl
theorem ev_s2I : aSum2 (.int a) (.int b) c Q = Q (.int (a + b)) c := propext Iff.rfl
theorem ev_s2S : aSum2 (.str x) (.str y) c Q = (x.length + y.length ≤ 16777216 ∧ Q (.str (x ++ y)) c) := propext Iff.rfl
theorem ev_s2T : aSum2 (.tup l) (.tup m) c Q = (l.length + m.length ≤ 16777216 ∧ Q (.tup (l ++ m)) c) := propext Iff.rfl
theorem ev_s2L : aSum2 (.lst l) (.lst m) c Q = (l.length + m.length ≤ 16777216 ∧ Q (.lst (l ++ m)) c) := propext Iff.rfl
theorem ev_p2T : aSlice2 (.tup l) lo hi c Q = Q (.tup (cut l lo hi)) c := propext Iff.rfl
theorem ev_p2L : aSlice2 (.lst l) lo hi c Q = Q (.lst (cut l lo hi)) c := propext Iff.rfl
theorem ev_p2S : aSlice2 (.str x) lo hi c Q = (x.length ≤ 16777216 ∧ Q (.str (cutS x lo hi)) c) := propext Iff.rfl
theorem ev_inS {c0 : Nat} : aIn ng (.str ⟨#[c0]⟩) (.str x) c Q = Q (.bl (ng != decide (c0 ∈ x.cps.toList))) c := by
  apply propext; constructor
  · rintro ⟨c1, e, q⟩; cases e; exact q
  · intro q; exact ⟨c0, rfl, q⟩
theorem ev_inT : aIn ng d (.tup l) c Q = (flatD d = true ∧ l.all flatD = true ∧ Q (.bl (ng != l.any fun e => eqD e d)) c) := propext Iff.rfl
theorem ev_inL : aIn ng d (.lst l) c Q = ((Pl 60 d ∧ Pl 60 (.lst l)) ∧ Q (.bl (ng != l.any fun e => eqD e d)) c) := propext Iff.rfl
end
end PL

namespace PL
open PySem PySem.Spec PyProof.Rows L2

/-! ### readings evaluated, further -/
def olP (s : Option Sl) (P : List D → Prop) : Prop := ∃ l, s = some (.ol l) ∧ P l
theorem ev_olP {l : List D} {P : List D → Prop} : olP (some (.ol l)) P = P l := by simp [olP]
def hd1 (ds : List D) (P : D → Prop) : Prop := ∃ d, ds = [d] ∧ P d
theorem ev_hd1 {d : D} {P : D → Prop} : hd1 [d] P = P d := by simp [hd1]
def sumP (ds : List D) (P : Int → Prop) : Prop := ∃ l ns, ds = [.lst l] ∧ intsD l = some ns ∧ P ns.sum
theorem sumP.mk {P : Int → Prop} {l : List D} {ns : List Int} (h : intsD l = some ns) (k : P ns.sum) : sumP [.lst l] P := ⟨l, ns, rfl, h, k⟩
def anyP (ds : List D) (P : Bool → Prop) : Prop := ∃ l bs, ds = [.lst l] ∧ bools l = some bs ∧ P (bs.any id)
theorem anyP.mk {P : Bool → Prop} {l : List D} {bs : List Bool} (h : bools l = some bs) (k : P (bs.any id)) : anyP [.lst l] P := ⟨l, bs, rfl, h, k⟩
/-- a caught exception of one field f: its class, the field -/
def excP (x : D) (f : Str) (P : Addr → D → Prop) : Prop := ∃ C d, x = .exc C [f] [d] ∧ P C d
theorem ev_excP {C : Addr} {d : D} {f : Str} {P : Addr → D → Prop} : excP (.exc C [f] [d]) f P = P C d := by
  apply propext; constructor
  · rintro ⟨_, _, e, h⟩; cases e; exact h
  · exact fun h => ⟨_, _, rfl, h⟩
/-- e.f of a caught exception of one of the classes CS -/
def dFldX1 (CS : Addr → Prop) (f : Str) (t : DE) : DE := fun ρ c Q => t ρ c fun x c1 => excP x f fun C d => CS C ∧ Q d c1
theorem pd_fldX1 {Y : Ctx} {CS : Addr → Prop} {e : Expr} {te : TE} {t : DE} {pos : Pos} {n : Str} (hC : ∀ C, CS C → XfC Y.X.K C ∧ PySem.W.findIn Y.X.K (.ref C) n = some none) (he : PD Y e te t) (hb : attributeBase e n Y.X.env (eval e Y.X.env) = eval e Y.X.env := by rfl) : PD Y (.Attribute e n pos) (tFldX Y.X.K n te) (dFldX1 CS n t) :=
  ⟨(pd_fldX he hb).p, fun G H c ρ σ Qd Q R q k => by
    refine he.s G H c ρ σ _ _ R q fun x v G1 H1 c1 ev r q => ?_
    obtain ⟨C, d, rfl, hc, q⟩ := q
    obtain ⟨T, hno⟩ := hC C hc
    cases r with
    | exc h1 h2 h3 h4 =>
      obtain ⟨u, hl, ru⟩ := fldD_rp (f := n) h3 h4 (show fldD n [n] [d] = some d by simp [fldD])
      rcases h2 with ⟨rfl, rfl⟩ | ⟨dd, rfl, ed⟩
      · cases hl
      · exact ⟨_, _, dd, _, u, rfl, ev.ok.same _ _ h1, T, hno, ev.ok.same _ _ ed, hl, k d u G1 H1 c1 ev ru q⟩⟩
section
variable {K : PySem.W.Frag} {IC : Addr → Prop} {i : Nat} {ρ : DEnv} {c : Nat} {Q : QD} {DD : DEnds} {t : DA} {te : DE} {ta : DE} {st : DS} {x : D} {A B C : Addr} {f : Str} {ns : List Str} {es l : List D} {ED : DEnv → EDt} {rd : RD2} {b : Bool} {CS : Addr → Prop} {tc : DT} {k : String}
theorem ev_append : sAppend i t DD ρ c = olP ρ[i]? fun l => l.length < 16777216 ∧ t ρ c fun ds c1 => hd1 ds fun d => @Nx DD.nx (ρ.set i (.ol (l ++ [d]))) c1 := by rw [← sizeLine_eq]; rfl
theorem ev_freeze : sFreeze i st DD ρ c = olP ρ[i]? fun l => @Nx (st DD) (ρ.set i (.fz (.lst l))) c := propext Iff.rfl
theorem ev_raise : sRaise1 C f ED t DD ρ c = t ρ c fun ds c1 => hd1 ds fun d => ED ρ C [f] [d] c1 := propext Iff.rfl
theorem ev_fldX1 : dFldX1 CS f te ρ c Q = te ρ c fun x c1 => excP x f fun C d => CS C ∧ Q d c1 := propext Iff.rfl
theorem ev_sum : aSum l c Q = sumP l fun n => Q (.int n) c := by
  apply propext
  constructor
  · intro h
    unfold aSum at h
    split at h
    · obtain ⟨ns, e, q⟩ := h; exact ⟨_, ns, rfl, e, q⟩
    · exact h.elim
  · rintro ⟨l, ns, rfl, e, q⟩; exact ⟨ns, e, q⟩
theorem ev_anyB : bAny l c Q = anyP l fun b => Q (.bl b) c := propext Iff.rfl
def fzP (s : Option Sl) (P : D → Prop) : Prop := ∃ x, s = some (.fz x) ∧ P x
theorem ev_fzP {d : D} {P : D → Prop} : fzP (some (.fz d)) P = P d := by simp [fzP]
theorem ev_aug : sAug i te rd DD ρ c = fzP ρ[i]? fun x => te ρ c fun y c1 => rd x y c1 fun z c2 => @Nx DD.nx (ρ.set i (.fz z)) c2 := propext Iff.rfl
theorem isO_exc (hx : ExcC K A) (h : PySem.W.kitOne K (.ref A) (.ref B) = some b) : aIsO K IC [.exc A ns es, .cls B] c Q = Q (.bl b) c := by
  apply propext
  constructor
  · rintro ⟨t, b', ⟨_, rfl⟩, h', q⟩
    rw [h] at h'; cases h'; exact q
  · exact fun q => ⟨_, b, ⟨hx, rfl⟩, h, q⟩
theorem isO_ins (hx : IC A) (h : PySem.W.kitOne K (.ref A) (.ref B) = some b) : aIsO K IC [.ins A ns es, .cls B] c Q = Q (.bl b) c := by
  apply propext
  constructor
  · rintro ⟨t, b', ⟨_, rfl⟩, h', q⟩
    rw [h] at h'; cases h'; exact q
  · exact fun q => ⟨_, b, ⟨hx, rfl⟩, h, q⟩
theorem isO_kind (hx : kind x = some k) (h : PySem.W.kitOne K (.type k) (.ref B) = some b) : aIsO K IC [x, .cls B] c Q = Q (.bl b) c := by
  have e : ∀ t, typD K IC x t ↔ t = .type k := fun t => by
    cases x <;> first | (cases hx; done) | (simp only [kind, Option.some.injEq] at hx; subst hx; simp [typD, kind])
  apply propext
  constructor
  · rintro ⟨t, b', ht, h', q⟩
    rw [(e t).mp ht, h] at h'; cases h'; exact q
  · exact fun q => ⟨_, b, (e _).mpr rfl, h, q⟩
end
/-- what a def gives: a value, or an exception of one field -/
inductive Res where
  | ok (d : D)
  | er (C : Addr) (f : Str) (d : D)
def Res.to (r : Res) (c : Nat) (Q : QD) (E : EDt) : Prop := match r with
  | .ok d => Q d c
  | .er C f d => E C [f] [d] c
end PL

namespace PySem.W
open PySem PySem.Spec PySem.Calls PyProof.Rows
section
variable {prog : Program} {w : World} {A : Around} {E : Value → Shared → Prop} {s : Shared} {K : Frag} {x C L f : Addr} {h₀ : Heap} {m : Str → Option Value} {ox : Obj} {od : Option Obj} {b tb : Value}
theorem on_bind (self : Value) : bindSpecial (.builtin "object.__ne__") self = pure (.builtin "object.__ne__", [self]) :=
  (Slot.of (T := "object") (name := "__ne__") (owner := "object") (n := "__ne__") (by rw [typeLookup_type, builtinLookup_eq_fast]; kernel_rfl) (by decide +kernel) (by decide +kernel) (by decide +kernel)
    (.inl (by decide +kernel)) (by rw [isSubtype_type]; kernel_rfl)).bind self
/-- object.__ne__ by an own __eq__ -/
theorem one_own {Q : Fin → Shared → Prop} (hu : A.units < cLine) (X : K.In s.heap) (I : InstAt s.heap x ox C od) (hs : findIn K (.ref C) "__eq__" = some (some (.ref f))) (hf : isFn K (.ref f) = true)
    (h : wpAny (model prog w) A (call (.ref f) [.ref x, b]) (fun v s' => ∃ k, v = .bool k ∧ Q (.done (.ret (.bool (!k)))) s') E s) :
    wpAny (model prog w) A (Builtin.«object.__ne__» ⟨[.ref x, b], []⟩) Q E s := by
  unfold Builtin.«object.__ne__»
  repeat (first
    | with_reducible refine wpAny_cRoomFor hu ?_
    | (refine wpAny_bind (m := callSpecialIfBound? (.ref x) (Str.ofString "__eq__") [b])
        (ifBound_K X I hs hf (wpAny_mono h (fun r s' hr => by
          obtain ⟨k, rfl, hq⟩ := hr
          repeat (first | exact hq | exact wpAny_pure hq | exact wpAny_truthy_bool hq | (refine wpAny_bind (m := truthy (.bool _)) (wpAny_truthy_bool ?_)) | wp_step)) fun _ _ e => e)))
    | wp_step)
theorem ifBound_B {M : Model} {id : String} {args : List Value} {Q : Option Value → Shared → Prop} {name : Str} (X : K.In s.heap) (I : InstAt s.heap x ox C od) (hs : findIn K (.ref C) name = some (some (.builtin id))) (hb : bindSpecial (.builtin id) (.ref x) = pure (.builtin id, [.ref x]))
    (h : wpAny M A (call (.builtin id) (.ref x :: args)) (fun v => Q (some v)) E s) : wpAny M A (callSpecialIfBound? (.ref x) name args) Q E s := by
  simp only [callSpecialIfBound?, bindSpecialIfBound?]
  refine wpAny_holding (wpAny_bind (wpAny_bind (wpAny_bind (I.type.here ((looks_findIn X hs).here ?_)))))
  refine wpAny_bind (wpAny_askSetting (wpAny_ite ?_))
  have fin : wpAny M A (call (.builtin id) ([.ref x] ++ args) >>= fun v => pure (some v)) Q E s := wpAny_bind (wpAny_mono h (fun v s' h' => wpAny_pure h') fun _ _ h' => h')
  split
  · rw [hb]; exact wpAny_bind (wpAny_pure (wpAny_pure (by exact fin)))
  · rw [hb]; exact wpAny_tryCatch (wpAny_bind (wpAny_pure (wpAny_pure (by exact fin))))
theorem ne_K {Q : Value → Shared → Prop} (hu : A.units + 1 < cLine) (F : Fr h₀ L s.heap m) (X₀ : K.In h₀) (I : InstAt s.heap x ox C od) (hb : Looks (model prog w) s.heap (typeOf b) tb) (hn : notFirst K C tb = true)
    (hs : findIn K (.ref C) "__eq__" = some (some (.ref f))) (hf : isFn K (.ref f) = true) (hne : findIn K (.ref C) "__ne__" = some (some (.builtin "object.__ne__"))) (hso : subIn K (.ref C) (.type "object") = some true)
    (h : wpAny (model prog w) A.in1 (call (.ref f) [.ref x, b]) (fun v s' => ∃ k, v = .bool k ∧ Q (.bool (!k)) s') E s) : wpAny (model prog w) A (richCompare .NotEq (.ref x) b) Q E s := by
  have X := X₀.keeps F.keep
  have sub : Looks (model prog w) s.heap (isInstance (.ref x) (.type "object")) true := I.type.andThen (looks_subIn X hso)
  have one : wpAny (model prog w) A (tryCompare (.ref x) (cmpInfo .NotEq).2.1 b) (fun r s' => ∃ v, r = some v ∧ Q v s') E s := by
    unfold tryCompare
    refine wpAny_bind (ifBound_B X I hne (on_bind _) (wpAny_call (codeAny_call_builtin PySem.F.cmp_object.ne.plain PySem.F.cmpEntry_ne ?_)))
    refine @check_slot (model prog w) _ _ s "object.__ne__" "object" "__ne__" (.ref x) [b] [] _ PySem.F.cmpKind_ne PySem.F.cmpSplit_ne sub (PySem.F.cmpArgs_ne _ _) ?_
    refine one_own (A := A.in1) hu X I hs hf (wpAny_mono h (fun v s' hv => ?_) fun _ _ e => e)
    obtain ⟨k, rfl, hq⟩ := hv
    first | exact ⟨k, rfl, wpAny_pure ⟨_, rfl, hq⟩⟩ | exact ⟨k, rfl, ⟨_, rfl, hq⟩⟩ | exact ⟨k, rfl, wpAny_pure (wpAny_pure ⟨_, rfl, hq⟩)⟩
  unfold richCompare
  simp only [oneThing_ref]
  refine wpAny_holding (wpAny_bind (wpAny_cRoomFor (Nat.lt_of_succ_lt hu) ?_))
  refine wpAny_bind (I.type.here (wpAny_bind (hb.here ?_)))
  split
  · rename_i q
    have e : subIn K tb (.ref C) = some false := by
      rcases Bool.or_eq_true_iff.mp hn with e | e
      · rw [beq_iff_eq.mp e] at q; simp at q
      · exact beq_iff_eq.mp e
    refine wpAny_bind ((looks_subIn X e).here ?_)
    simp only [Bool.false_eq_true, if_false]
    refine wpAny_bind (wpAny_mono one (fun r s' z => ?_) fun _ _ e => e)
    obtain ⟨v, rfl, hq⟩ := z
    exact wpAny_pure hq
  · refine wpAny_bind (wpAny_pure ?_)
    simp only [Bool.false_eq_true, if_false]
    refine wpAny_bind (wpAny_mono one (fun r s' z => ?_) fun _ _ e => e)
    obtain ⟨v, rfl, hq⟩ := z
    exact wpAny_pure hq
end
end PySem.W

namespace PL
open PySem PySem.Spec PyProof.Rows L2

/-! ### own classes of data: one field, set by __init__ -/
structure DCls (K : PySem.W.Frag) (mg : Str → Option Value) (x f : Str) (C fI : Addr) : Prop where
  m : mg x = some (.ref C)
  make : Mk K C fI
  cl : Cls K C
  no : NoAttr K C f
  ic : ICls K C
def spDI (K : PySem.W.Frag) (f : Str) : Sp := fun vs H Q _ => ∃ (a C dx : Addr) (y : V), vs = [.ref a, y] ∧ Cls K C ∧ NoAttr K C f ∧ H a = some (.ins C dx []) ∧ Q .non (upd H a (.ins C dx [(f, y)]))
section
variable {P : Program} {w : World} {K : PySem.W.Frag} {mg : Str → Option Value} {base : Heap} {x qual p f : Str} {params : Arguments} {body : List Stmt} {scope : Scope} {dvs : List V} {kws : List (Str × V)} {fI : Addr} {fd : FuncData} {CX : CXT}
theorem okDI (F : FunD K x qual params body scope dvs kws fI fd) (S : FnScope ["self", p] ["self", p] scope)
    (hb : ∀ cdv A outer s H E, PSs (cxOf CX P w K mg base ["self", p] qual scope fI cdv A outer s H E) body (sFld K (tVar 0) (tVar 1) f)) : FnOk P w K mg base CX 1 fI fd ["self", p] (spDI K f) := by
  refine F.ok S (fun vs H Q E h => ?_) fun cdv A outer s H vs Q E hr h => ?_
  · obtain ⟨a, C, dx, y, rfl, _⟩ := h; rfl
  · obtain ⟨a, C, dx, y, rfl, cl, no, e, k⟩ := h
    exact ⟨_, hb cdv A outer s H E, y, rfl, .ref a, rfl, a, C, dx, [], rfl, e, cl, no, by simp, k⟩
end
theorem noE {X : Cx} {P : Program} {w : World} : Passes (L2.CX P w) X fun _ _ _ => False := fun _ _ _ _ _ _ _ ⟨_, _, _, _, _, _, _, _, _, _, _, _, z⟩ => z.elim
/-- an instance of the class at C: its field f -/
def insP (C : Addr) (f : Str) (x : D) (P : D → Prop) : Prop := ∃ ns es d, x = .ins C ns es ∧ fldD f ns es = some d ∧ P d
def isIP (C : Addr) (x : D) : Prop := ∃ ns es, x = .ins C ns es
theorem ev_insP {C : Addr} {f : Str} {d : D} {P : D → Prop} : insP C f (.ins C [f] [d]) P = P d := by
  apply propext; constructor
  · rintro ⟨_, _, d', e, h, q⟩
    cases e
    simp only [fldD, if_pos] at h
    cases h; exact q
  · exact fun h => ⟨_, _, _, rfl, by simp [fldD], h⟩
theorem ev_isIP {C : Addr} {ns : List Str} {es : List D} : isIP C (.ins C ns es) = True := eq_true ⟨_, _, rfl⟩
section
variable {Y : Ctx} {k : Nat} {C fI f gA p : Addr} {fd : FuncData} {x fn n m pn : Str} {ps ks : List Str} {e o a b : Expr} {es : List Expr} {kws : List Keyword} {te ta tb : TE} {de da db : DE} {ts tk : TA} {t dk : DA} {p0 pc pos apos : Pos} {sp : SpD} {dvs : List V} {dds : List D} {ds : List Value}
def dMake (C : Addr) (f : Str) (t : DA) : DE := fun ρ c Q => t ρ c fun ds c1 => hd1 ds fun d => Q (.ins C [f] [d]) c1
theorem make_sim {sp' : Sp} (hsp : sp' = spDI Y.X.K fn) (T : DCls Y.X.K Y.X.mg x fn C fI) (ha : SimA Y ts t) : SimE Y (tMake C sp' [] (fun _ _ _ => False) ts) (dMake C fn t) := by
  subst hsp
  intro G H c ρ σ Qd Q R q kk
  refine ha G H c ρ σ _ _ R q fun ds vs G1 H1 c1 ev rr ⟨d, ed, q⟩ a dx na nd ne => ?_
  subst ed
  cases rr with
  | @cons v _ _ _ r1 rr =>
    cases rr
    have e1 := Evo.laidU ev.ok (.own a) nd
    have na' : upd H1 dx (.own a) a = none := by rw [upd_ne (Ne.symm ne)]; exact na
    have e2 := Evo.laid e1.ok (.ins C dx [(fn, v)]) na'
    have eH : upd (upd (upd H1 dx (.own a)) a (.ins C dx [])) a (.ins C dx [(fn, v)]) = upd (upd H1 dx (.own a)) a (.ins C dx [(fn, v)]) := by
      funext b
      by_cases h : b = a
      · rw [h, upd_same, upd_same]
      · rw [upd_ne h, upd_ne h, upd_ne h]
    refine ⟨a, C, dx, v, rfl, T.cl, T.no, upd_same, rfl, ?_⟩
    rw [eH]
    exact kk (.ins C [fn] [d]) (.ref a) _ _ c1 ((ev.trans e1).trans e2) (.ins (fs := [(fn, v)]) upd_same rfl (.cons (r1.mono (e1.le.trans e2.le)) .nil)) q
theorem pd_make1 (g : Y.Good k) (h2 : 2 ≤ k) (T : DCls Y.X.K Y.X.mg x fn C fI) (F : FnOk Y.X.prog Y.X.w Y.X.K Y.X.mg Y.X.base (L2.CX Y.X.prog Y.X.w) 1 fI fd ["self", pn] (spDI Y.X.K fn)) (hb : Binds Y.X.K fd ["self", pn] []) (ha : PDA Y [e] ts t)
    (hg : Gl Y.X x := by rfl) (hdb : (x == ("__debug__" : Str)) = false := by decide) (he : starEach [e] Y.X.env = (false, eval e Y.X.env) :: starEach [] Y.X.env := by rfl) (hpl : (backTo pos (starEach [] Y.X.env)).any (·.1) = false := by rfl) :
    PD Y (.Call (.Name x p0) [e] [] pos) (tMake C (spDI Y.X.K fn) [] (fun _ _ _ => False) ts) (dMake C fn t) :=
  ⟨pe_make T.make F (g.room.mono h2) hg T.m hb .nil noE ha.p hdb he hpl, make_sim rfl T ha.s⟩
/-- e.f -/
def dFldI (C : Addr) (f : Str) (t : DE) : DE := fun ρ c Q => t ρ c fun x c1 => insP C f x fun d => Q d c1
theorem pd_fldI (cl : Cls Y.X.K C) (no : NoAttr Y.X.K C fn) (he : PD Y e te de) (hb : attributeBase e fn Y.X.env (eval e Y.X.env) = eval e Y.X.env := by rfl) : PD Y (.Attribute e fn pos) (tFld Y.X.K te fn) (dFldI C fn de) :=
  ⟨pe_fld he.p hb, fun G H c ρ σ Qd Q R q kk => he.s G H c ρ σ _ _ R q fun x v G1 H1 c1 ev r ⟨ns, es, d, ex, hf, q⟩ => by
    subst ex
    cases r with
    | ins h1 h2 h3 =>
      obtain ⟨u, hl, ru⟩ := fldD_rp h2 h3 hf
      exact ⟨_, C, _, _, u, rfl, ev.ok.same _ _ h1, cl, no, hl, kk d u G1 H1 c1 ev ru q⟩⟩
/-- e.f, a property -/
def dProp (C : Addr) (sp : SpD) (t : DE) : DE := fun ρ c Q => t ρ c fun x c1 => isIP C x ∧ @Run sp [x] c1 Q (fun _ _ _ _ => False)
theorem pd_prop (g : Y.Good (k + 1)) (cl : Cls Y.X.K C) (hp : PropOf Y.X.K C fn p gA) (F : FnOk Y.X.prog Y.X.w Y.X.K Y.X.mg Y.X.base (L2.CX Y.X.prog Y.X.w) k gA fd ["self"] (spOf Y.X.K sp)) (hb : Binds Y.X.K fd ["self"] []) (he : PD Y e te de)
    (hab : attributeBase e fn Y.X.env (eval e Y.X.env) = eval e Y.X.env := by rfl) : PD Y (.Attribute e fn pos) (tProp C (spOf Y.X.K sp) [] (fun _ _ _ => False) te) (dProp C sp de) :=
  ⟨pe_prop he.p cl hp F g.room hb .nil noE hab, fun G H c ρ σ Qd Q R q kk => he.s G H c ρ σ _ _ R q fun x v G1 H1 c1 ev r ⟨⟨ns, es, ex⟩, q⟩ => by
    subst ex
    cases r with
    | ins h1 h2 h3 =>
      exact ⟨_, _, _, rfl, ev.ok.same _ _ h1, G1, c1, [.ins C ns es], Qd, fun _ _ _ _ => False, ev.ok, .cons (.ins h1 h2 h3) .nil, q, fun d v G' H' c' e' r' q' => kk d v G' H' c' (ev.trans e') r' q', fun _ _ _ _ _ _ _ _ _ z => z⟩⟩
end
/-! ### o.m(..) -/
section
variable {X : Cx} {CX : CXT} {k : Nat} {f C : Addr} {fd : FuncData} {ps : List Str} {sp : Sp} {dvs : List V} {ds : List Value} {E : L2.St → XK} {x m : Str} {p pos apos : Pos} {e o : Expr} {es : List Expr} {ta : TE} {t tk : TA} {ks : List Str} {kws : List Keyword} {g : List Value → List Value → List Value} {gV : List V → List V → List V}
def tMethE (C : Addr) (m : Str) (sp : Sp) (dvs : List V) (E : L2.St → XK) (ta : TE) (t : TA) : TE := fun σ H Q => ta σ H fun x H1 => ∃ a dx fs, x = .ref a ∧ H1 a = some (.ins C dx fs) ∧ fs.lookup m = none ∧
  t σ H1 fun vs H2 => sp (x :: (vs ++ dvs)) H2 Q (E σ)
theorem pe_methE {pl : Sem Bool} (he : PE X o ta) (c : Cls X.K C) (hm : Meth X.K C m f) (F : FnOk X.prog X.w X.K X.mg X.base CX k f fd ps sp) (hr : Room k X.A) (hb : Binds X.K fd ps ds) (hd : Vals dvs ds) (hx : ∀ σ, PassesAt CX X σ (E σ)) (ha : PA X (e :: es) t)
    (hst : starEach (e :: es) X.env = (false, eval e X.env) :: starEach es X.env := by rfl) (hpl : (backTo pos (starEach es X.env)).any (·.1) = false := by rfl)
    (ht : eval (.Call (.Attribute o m apos) (e :: es) [] pos) X.env = (do
      let ov ← eval o X.env
      standAt apos.atName
      let (f, first) ← holding [ov] (getMethod ov m pl)
      callWith pos f first (backTo pos (starEach (e :: es) X.env)) (backToKw pos (keywordEach [] X.env))) := by rfl) :
    PE X (.Call (.Attribute o m apos) (e :: es) [] pos) (tMethE C m sp dvs E ta t) := by
  refine ⟨fun pins s σ H Q I h => ?_⟩
  refine PySem.W.methodCall_KW (pl := pl) (thn (he.run pins s σ H _ I h) fun u s1 ⟨x, H1, I1, rx, a, dx, fs, ex, ea, l, q⟩ => ?_) ht
  subst ex
  obtain rfl : u = Value.ref a := rx
  refine getmeth_ok I1 ea c hm l ?_
  refine PySem.W.callWith_K (first := [.ref a]) (h₀ := X.base) I.ok.mod.kin hm.kp (thn (ha.run pos pins s1 σ H1 _ I1 q) fun us s2 ⟨vs, H2, I2, r, q2⟩ => ⟨I2.kIn, ?_⟩) hst hpl
  exact at_pos (us := .ref a :: us) (vs := .ref a :: vs) F hr hb hd (hx σ) I2 (.cons rfl r) q2
theorem pe_meth0E {pl : Sem Bool} (he : PE X o ta) (c : Cls X.K C) (hm : Meth X.K C m f) (F : FnOk X.prog X.w X.K X.mg X.base CX k f fd ps sp) (hr : Room k X.A) (hb : Binds X.K fd ps ds) (hd : Vals dvs ds) (hx : ∀ σ, PassesAt CX X σ (E σ))
    (ht : eval (.Call (.Attribute o m apos) [] [] pos) X.env = (do
      let ov ← eval o X.env
      standAt apos.atName
      let (f, first) ← holding [ov] (getMethod ov m pl)
      callWith pos f first (backTo pos (starEach [] X.env)) (backToKw pos (keywordEach [] X.env))) := by rfl) :
    PE X (.Call (.Attribute o m apos) [] [] pos) (tMethE C m sp dvs E ta tNil) := by
  refine ⟨fun pins s σ H Q I h => ?_⟩
  refine PySem.W.methodCall_KW (pl := pl) (thn (he.run pins s σ H _ I h) fun u s1 ⟨x, H1, I1, rx, a, dx, fs, ex, ea, l, q⟩ => ?_) ht
  subst ex
  obtain rfl : u = Value.ref a := rx
  refine getmeth_ok I1 ea c hm l ?_
  exact PySem.W.callWith_K0 (first := [.ref a]) I1.kIn hm.kp (at_pos (us := [.ref a]) (vs := [.ref a]) F hr hb hd (hx σ) I1 (.cons rfl .nil) q)
def tMethKE (C : Addr) (m : Str) (n : Nat) (sp : Sp) (gV : List V → List V → List V) (E : L2.St → XK) (ta : TE) (tk : TA) : TE := fun σ H Q => ta σ H fun x H1 => ∃ a dx fs, x = .ref a ∧ H1 a = some (.ins C dx fs) ∧ fs.lookup m = none ∧
  tk σ H1 fun zs H2 => zs.length = n ∧ sp (gV [x] zs) H2 Q (E σ)
theorem pe_methK0E {pl : Sem Bool} (he : PE X o ta) (c : Cls X.K C) (hm : Meth X.K C m f) (F : FnOk X.prog X.w X.K X.mg X.base CX k f fd ps sp) (hr : Room k X.A) (hb : KBn X.K fd ps 1 ks g gV) (hx : ∀ σ, PassesAt CX X σ (E σ)) (hkw : PK X kws tk)
    (hall : (backToKw pos (keywordEach kws X.env)).all (·.1.isSome) = true := by rfl) (hks : (backToKw pos (keywordEach kws X.env)).filterMap (·.1) = ks := by rfl)
    (hpl : ((backTo pos (starEach [] X.env)).any (·.1) || (backToKw pos (keywordEach kws X.env)).any (·.1.isNone)) = false := by rfl)
    (ht : eval (.Call (.Attribute o m apos) [] kws pos) X.env = (do
      let ov ← eval o X.env
      standAt apos.atName
      let (f, first) ← holding [ov] (getMethod ov m pl)
      callWith pos f first (backTo pos (starEach [] X.env)) (backToKw pos (keywordEach kws X.env))) := by rfl) :
    PE X (.Call (.Attribute o m apos) [] kws pos) (tMethKE C m ks.length sp gV E ta tk) := by
  refine ⟨fun pins s σ H Q I h => ?_⟩
  refine PySem.W.methodCall_KW (pl := pl) (thn (he.run pins s σ H _ I h) fun u s1 ⟨x, H1, I1, rx, a, dx, fs, ex, ea, l, q⟩ => ?_) ht
  subst ex
  obtain rfl : u = Value.ref a := rx
  refine getmeth_ok I1 ea c hm l ?_
  refine PySem.W.callWith_KW0 (first := [.ref a]) (h₀ := X.base) I.ok.mod.kin hm.kp hall (thn (hkw.run pos pins s1 σ H1 _ I1 q) fun ws s2 ⟨zs, H2, I2, rz, l2, q2⟩ => ⟨I2.kIn, ?_⟩) hpl
  rw [hks]
  exact at_kw (us := [.ref a]) (vs := [.ref a]) F hr hb (hx σ) I2 (.cons rfl .nil) rz rfl l2 q2
end
section
variable {Y : Ctx} {k : Nat} {C f : Addr} {fd : FuncData} {m : Str} {ps ks : List Str} {e o : Expr} {es : List Expr} {kws : List Keyword} {te : TE} {de : DE} {fa fk : TA} {t tk : DA} {pos apos : Pos} {sp : SpD} {dvs : List V} {dds : List D} {pl : Sem Bool}
/-- how the method m of the class at C is called: like Cal -/
structure CalM (K : PySem.W.Frag) (C : Addr) (m : Str) (f : Addr) (fd : FuncData) (ps : List Str) (dvs : List V) : Prop where
  c : Cls K C
  m : Meth K C m f
  b : ∃ ds, Vals dvs ds ∧ Binds K fd ps ds
/-- an instance of the class at C, none of its fields named m -/
def noFP (C : Addr) (m : Str) (x : D) : Prop := ∃ ns es, x = .ins C ns es ∧ ns.contains m = false
theorem ev_noFP {ns : List Str} {es : List D} : noFP C m (.ins C ns es) = (ns.contains m = false) := by
  apply propext; constructor
  · rintro ⟨_, _, e, h⟩; cases e; exact h
  · exact fun h => ⟨_, _, rfl, h⟩
theorem lookup_nf {m : Str} : ∀ {fs : List (Str × V)}, (fs.map (·.1)).contains m = false → fs.lookup m = none
  | [], _ => rfl
  | (n, v) :: fs, h => by
    simp only [List.map_cons, List.contains_cons, Bool.or_eq_false_iff] at h
    rw [List.lookup_cons, h.1]
    exact lookup_nf h.2
def dMeth (C : Addr) (m : Str) (ED : DEnv → EDt) (sp : SpD) (dds : List D) (de : DE) (t : DA) : DE := fun ρ c Q => de ρ c fun x c1 => noFP C m x ∧ t ρ c1 fun ds c2 => @Run sp (x :: (ds ++ dds)) c2 Q (ED ρ)
theorem meth_sim (g : Y.Good k) (hd : ∀ G, RpAll Y.X.K G dvs dds) (he : SimE Y te de) (ha : SimA Y fa t) : SimE Y (tMethE C m (spOf Y.X.K sp) dvs Y.E te fa) (dMeth C m Y.ED sp dds de t) := fun G H c ρ σ Qd Q R q kk =>
  he G H c ρ σ _ _ R q fun x v G1 H1 c1 ev r ⟨⟨ns, es, ex, hn⟩, q⟩ => by
    subst ex
    cases r with
    | ins h1 h2 h3 =>
      refine ⟨_, _, _, rfl, ev.ok.same _ _ h1, lookup_nf (by rw [h2]; exact hn), ?_⟩
      exact ha G1 H1 c1 ρ σ _ _ (R.evo' ev) q fun ds vs G2 H2 c2 ev2 r2 q => ⟨G2, c2, .ins C ns es :: (ds ++ dds), Qd, Y.ED ρ, ev2.ok, .cons (Rp.mono ev2.le (.ins h1 h2 h3)) (r2.append (hd _)), q, fun d v G' H' c' e' r' q' => kk d v G' H' c' ((ev.trans ev2).trans e') r' q',
        fun C ns es dx G' H' c' e' r' q' => g.err ρ σ G H c R C ns es dx G' H' c' ((ev.trans ev2).trans e') r' q'⟩
theorem pd_meth (g : Y.Good k) (F : FnOk Y.X.prog Y.X.w Y.X.K Y.X.mg Y.X.base (L2.CX Y.X.prog Y.X.w) k f fd ps (spOf Y.X.K sp)) (cm : CalM Y.X.K C m f fd ps dvs) (hdd : ∀ G, RpAll Y.X.K G dvs dds) (he : PD Y o te de) (ha : PDA Y (e :: es) fa t)
    (hst : starEach (e :: es) Y.X.env = (false, eval e Y.X.env) :: starEach es Y.X.env := by rfl) (hpl : (backTo pos (starEach es Y.X.env)).any (·.1) = false := by rfl)
    (ht : eval (.Call (.Attribute o m apos) (e :: es) [] pos) Y.X.env = (do
      let ov ← eval o Y.X.env
      standAt apos.atName
      let (f, first) ← holding [ov] (getMethod ov m pl)
      callWith pos f first (backTo pos (starEach (e :: es) Y.X.env)) (backToKw pos (keywordEach [] Y.X.env))) := by rfl) :
    PD Y (.Call (.Attribute o m apos) (e :: es) [] pos) (tMethE C m (spOf Y.X.K sp) dvs Y.E te fa) (dMeth C m Y.ED sp dds de t) := by
  obtain ⟨ds, hd, hb⟩ := cm.b
  exact ⟨pe_methE he.p cm.c cm.m F g.room hb hd g.pass ha.p hst hpl ht, meth_sim g hdd he.s ha.s⟩
theorem pd_meth0 (g : Y.Good k) (F : FnOk Y.X.prog Y.X.w Y.X.K Y.X.mg Y.X.base (L2.CX Y.X.prog Y.X.w) k f fd ps (spOf Y.X.K sp)) (cm : CalM Y.X.K C m f fd ps dvs) (hdd : ∀ G, RpAll Y.X.K G dvs dds) (he : PD Y o te de)
    (ht : eval (.Call (.Attribute o m apos) [] [] pos) Y.X.env = (do
      let ov ← eval o Y.X.env
      standAt apos.atName
      let (f, first) ← holding [ov] (getMethod ov m pl)
      callWith pos f first (backTo pos (starEach [] Y.X.env)) (backToKw pos (keywordEach [] Y.X.env))) := by rfl) :
    PD Y (.Call (.Attribute o m apos) [] [] pos) (tMethE C m (spOf Y.X.K sp) dvs Y.E te tNil) (dMeth C m Y.ED sp dds de dNil) := by
  obtain ⟨ds, hd, hb⟩ := cm.b
  exact ⟨pe_meth0E he.p cm.c cm.m F g.room hb hd g.pass ht, meth_sim g hdd he.s pda_nil.s⟩
/-- .. by one keyword -/
structure CalMK (K : PySem.W.Frag) (C : Addr) (m : Str) (f : Addr) (fd : FuncData) (ps : List Str) (ks : List Str) : Prop where
  c : Cls K C
  m : Meth K C m f
  b : ∃ g, KBn K fd ps 1 ks g (fun vs zs => vs ++ zs)
def dMethK (C : Addr) (m : Str) (ED : DEnv → EDt) (n : Nat) (sp : SpD) (de : DE) (t : DA) : DE := fun ρ c Q => de ρ c fun x c1 => noFP C m x ∧ t ρ c1 fun ds c2 => ds.length = n ∧ @Run sp (x :: ds) c2 Q (ED ρ)
theorem pd_methK (g : Y.Good k) (F : FnOk Y.X.prog Y.X.w Y.X.K Y.X.mg Y.X.base (L2.CX Y.X.prog Y.X.w) k f fd ps (spOf Y.X.K sp)) (cm : CalMK Y.X.K C m f fd ps ks) (he : PD Y o te de) (hk : PDK Y kws fk tk)
    (hall : (backToKw pos (keywordEach kws Y.X.env)).all (·.1.isSome) = true := by rfl) (hks : (backToKw pos (keywordEach kws Y.X.env)).filterMap (·.1) = ks := by rfl)
    (hpl : ((backTo pos (starEach [] Y.X.env)).any (·.1) || (backToKw pos (keywordEach kws Y.X.env)).any (·.1.isNone)) = false := by rfl)
    (ht : eval (.Call (.Attribute o m apos) [] kws pos) Y.X.env = (do
      let ov ← eval o Y.X.env
      standAt apos.atName
      let (f, first) ← holding [ov] (getMethod ov m pl)
      callWith pos f first (backTo pos (starEach [] Y.X.env)) (backToKw pos (keywordEach kws Y.X.env))) := by rfl) :
    PD Y (.Call (.Attribute o m apos) [] kws pos) (tMethKE C m ks.length (spOf Y.X.K sp) (fun vs zs => vs ++ zs) Y.E te fk) (dMethK C m Y.ED ks.length sp de tk) := by
  obtain ⟨gg, hb⟩ := cm.b
  refine ⟨pe_methK0E he.p cm.c cm.m F g.room hb g.pass hk.p hall hks hpl ht, fun G H c ρ σ Qd Q R q kk => ?_⟩
  refine he.s G H c ρ σ _ _ R q fun x v G1 H1 c1 ev r ⟨⟨ns, es, ex, hn⟩, q⟩ => ?_
  subst ex
  cases r with
  | ins h1 h2 h3 =>
    refine ⟨_, _, _, rfl, ev.ok.same _ _ h1, lookup_nf (by rw [h2]; exact hn), ?_⟩
    exact hk.s G1 H1 c1 ρ σ _ _ (R.evo' ev) q fun ds vs G2 H2 c2 ev2 r2 ⟨hl, q⟩ => ⟨by rw [r2.length]; exact hl, G2, c2, .ins C ns es :: ds, Qd, Y.ED ρ, ev2.ok, .cons (Rp.mono ev2.le (.ins h1 h2 h3)) r2, q, fun d v G' H' c' e' r' q' => kk d v G' H' c' ((ev.trans ev2).trans e') r' q',
      fun C ns es dx G' H' c' e' r' q' => g.err ρ σ G H c R C ns es dx G' H' c' ((ev.trans ev2).trans e') r' q'⟩
end
end PL

namespace PL
open PySem PySem.Spec PyProof.Rows L2

/-! ### own operators -/
theorem takesF {X : Cx} : Takes X fun _ _ _ _ => False := fun _ _ ⟨_, _, _, _, _, _, _, _, _, _, _, _, _, _, _, _, z⟩ => z.elim
section
variable {X : Cx} {CX : CXT} {k : Nat} {f C : Addr} {fd : FuncData} {ps : List Str} {sp : Sp} {E : L2.St → XK} {a b : Expr} {pos : Pos} {ta tb : TE} {op : Operator} {cop : CmpOp}
/-- an operator by values, its wish about exceptions told at the slots -/
def OpRS (X : Cx) (f : Value → Value → Sem Value) (r : L2.St → R2) : Prop := ∀ (pins : List (Addr × Obj)) (s : Shared) (σ : L2.St) (H : Hp) (x y : V) (v u : Value) (Q : VK), L2.Inv X pins σ H s → RelV x v → RelV y u → r σ x y H Q → wpAny (model X.prog X.w) X.A (f v u) (EP X pins σ Q) X.xe s
def tOpS (r : L2.St → R2) (ta tb : TE) : TE := fun σ H Q => ta σ H fun x H1 => tb σ H1 fun y H2 => r σ x y H2 Q
theorem OpRS.of {g : Value → Value → Sem Value} {r : R2} (h : OpR X g r) : OpRS X g fun _ => r := fun pins s σ H x y v u Q I rx ry q => h pins s σ H x y v u Q I rx ry q
theorem OpRS.or {g : Value → Value → Sem Value} {r r' : L2.St → R2} (h : OpRS X g r) (h' : OpRS X g r') : OpRS X g fun σ x y H Q => r σ x y H Q ∨ r' σ x y H Q := fun pins s σ H x y v u Q I rx ry q =>
  q.elim (fun q => h pins s σ H x y v u Q I rx ry q) fun q => h' pins s σ H x y v u Q I rx ry q
theorem pe_opS {r : L2.St → R2} (ho : OpRS X (binaryOp op) r) (ha : PE X a ta) (hb : PE X b tb) : PE X (.BinOp a op b pos) (tOpS r ta tb) :=
  ⟨fun pins s σ H Q I h => wpAny_BinOp (binT ha hb I h fun v u s2 x y H2 I2 rx ry q => ho pins s2 σ H2 x y v u Q I2 rx ry q)⟩
/-- both instances of the class at C -/
def rBinO (C : Addr) (sp : Sp) (E : L2.St → XK) : L2.St → R2 := fun σ x y H Q => ∃ a dx fs b dy gs, x = .ref a ∧ y = .ref b ∧ H a = some (.ins C dx fs) ∧ H b = some (.ins C dy gs) ∧ sp [x, y] H Q (E σ)
theorem op_binO (h1 : PySem.W.selfFirst X.K C = true) (hs : PySem.W.findIn X.K (.ref C) (PySem.dunder op.info.2) = some (some (.ref f))) (hf : PySem.W.isFn X.K (.ref f) = true) (F : FnOk X.prog X.w X.K X.mg X.base CX k f fd ps sp) (hr : Room k X.A) (hb : Binds X.K fd ps [])
    (hx : ∀ σ, PassesAt CX X σ (E σ)) : OpRS X (binaryOp op) (rBinO C sp E) := by
  intro pins s σ H x y v u Q I rx ry h
  obtain ⟨a, dx, fs, b, dy, gs, rfl, rfl, ha, hb', q⟩ := h
  cases (show v = Value.ref a from rx)
  cases (show u = Value.ref b from ry)
  obtain ⟨mA, O, _⟩ := ins_get I.hok ha
  obtain ⟨mB, O2, _⟩ := ins_get I.hok hb'
  obtain ⟨od, J, _⟩ := O.look
  obtain ⟨od', J', _⟩ := O2.look
  obtain ⟨m, hF⟩ := I.fr
  refine PySem.W.binop_K hF I.ok.mod.kin J J'.type h1 hs hf (wpAny_mono (at_pos (us := [.ref a, .ref b]) (vs := [.ref a, .ref b]) (dvs := []) F hr hb .nil (hx σ) I (.cons rfl (.cons rfl .nil)) (by rw [List.append_nil]; exact q)) (fun w s' z => ?_) fun _ _ x => x)
  obtain ⟨z', H', I', rz, qz⟩ := z
  exact SlX.cmpback rz ⟨z', H', I', rz, qz⟩
/-- x == y, x != y: x an instance of the class at C with an own == -/
def rEqO (K : PySem.W.Frag) (C : Addr) (ng : Bool) (sp : Sp) (E : L2.St → XK) : L2.St → R2 := fun σ x y H Q => ∃ a dx fs t, x = .ref a ∧ H a = some (.ins C dx fs) ∧ TyX K H y t ∧ PySem.W.notFirst K C t = true ∧ sp [x, y] H (fun v H' => ∃ b, v = .bl b ∧ Q (.bl (ng != b)) H') (E σ)
theorem op_eqO (hs : PySem.W.findIn X.K (.ref C) "__eq__" = some (some (.ref f))) (hf : PySem.W.isFn X.K (.ref f) = true) (F : FnOk X.prog X.w X.K X.mg X.base CX k f fd ps sp) (hr : Room k X.A) (hb : Binds X.K fd ps [])
    (hx : ∀ σ, PassesAt CX X σ (E σ)) : OpRS X (compareOp .Eq) (rEqO X.K C false sp E) := by
  intro pins s σ H x y v u Q I rx ry h
  obtain ⟨a, dx, fs, t, rfl, ha, ty, hn, q⟩ := h
  cases (show v = Value.ref a from rx)
  obtain ⟨mA, O, _⟩ := ins_get I.hok ha
  obtain ⟨od, J, _⟩ := O.look
  obtain ⟨m, hF⟩ := I.fr
  obtain ⟨P, kx, hP, _⟩ := kit_of I ry ty
  show wpAny (model X.prog X.w) X.A (richCompare .Eq (.ref a) u) (EP X pins σ Q) X.xe s
  refine PySem.W.cmp_K (op := .Eq) hr.units0 hF I.ok.mod.kin J (kx.ty _ _ I.kIn hP) hn hs hf ?_
  refine wpAny_mono (at_pos (us := [.ref a, u]) (vs := [.ref a, y]) (dvs := []) F hr hb .nil (hx σ) I (.cons rfl (.cons ry .nil)) (by rw [List.append_nil]; exact q)) (fun w s' z => ?_) fun _ _ x => x
  obtain ⟨z', H', I', rz, b, ez, qz⟩ := z
  subst ez
  cases rz
  exact ⟨.bl b, H', I', rfl, by simpa using qz⟩
theorem op_neO (hs : PySem.W.findIn X.K (.ref C) "__eq__" = some (some (.ref f))) (hf : PySem.W.isFn X.K (.ref f) = true) (hne : PySem.W.findIn X.K (.ref C) "__ne__" = some (some (.builtin "object.__ne__"))) (hso : PySem.W.subIn X.K (.ref C) (.type "object") = some true)
    (F : FnOk X.prog X.w X.K X.mg X.base CX k f fd ps sp) (hr : Room (k + 1) X.A) (hb : Binds X.K fd ps []) (hx : Passes CX X.nox fun _ _ _ => False) : OpRS X (compareOp .NotEq) (rEqO X.K C true sp fun _ _ _ _ => False) := by
  intro pins s σ H x y v u Q I rx ry h
  obtain ⟨a, dx, fs, t, rfl, ha, ty, hn, q⟩ := h
  cases (show v = Value.ref a from rx)
  obtain ⟨mA, O, _⟩ := ins_get I.hok ha
  obtain ⟨od, J, _⟩ := O.look
  obtain ⟨m, hF⟩ := I.fr
  obtain ⟨P, kx, hP, _⟩ := kit_of I ry ty
  show wpAny (model X.prog X.w) X.A (richCompare .NotEq (.ref a) u) (EP X pins σ Q) X.xe s
  refine PySem.W.ne_K (by have := hr.un; omega) hF I.ok.mod.kin J (kx.ty _ _ I.kIn hP) hn hs hf hne hso ?_
  have hl := F.len _ _ _ _ q
  refine wpAny_call (codeAny_mono (F.run X.A.in1 X.stack s H ⟨[.ref a, u], []⟩ [.ref a, u] [.ref a, y] _ _ hr.in1 I.env0.in1 (by
    have := hb s [.ref a, u] I.kIn (by simpa using hl)
    simpa using this) (.cons rfl (.cons ry .nil)) q) fun r s' hq => ?_)
  cases r with
  | error e => exact False.elim (hx pins σ H s e s' (I.wish _) hq)
  | ok fl =>
    cases fl with
    | ret w =>
      obtain ⟨z, H', I', rz, b, ez, qz⟩ := I.after hq
      subst ez
      cases rz
      exact ⟨b, rfl, .bl (!b), H', I', rfl, by simpa using qz⟩
    | next => exact False.elim hq
    | brk => exact False.elim hq
    | cont => exact False.elim hq
end
/-! ### over data -/
def Br2S (Y : Ctx) (r : L2.St → R2) (rd : DEnv → RD2) : Prop := ∀ G0 H0 c0 ρ σ G H c x y d e (Qd : QD) (Q : VK), Rel Y G0 H0 c0 ρ σ → Evo G0 H0 c0 G H c → Rp Y.X.K G x d → Rp Y.X.K G y e → rd ρ d e c Qd →
  (∀ d' v G' H' c', Evo G H c G' H' c' → Rp Y.X.K G' v d' → Qd d' c' → Q v H') → r σ x y H Q
theorem Br2S.of {Y : Ctx} {r : R2} {rd : RD2} (h : Br2 Y.X.K r rd) : Br2S Y (fun _ => r) fun _ => rd := fun _ _ _ _ _ G H c x y d e Qd Q _ ev rx ry q k => h G H c x y d e Qd Q ev.ok rx ry q k
def dOpS (rd : DEnv → RD2) (ta tb : DE) (ρ : DEnv) (c : Nat) (Q : QD) : Prop := ta ρ c fun x c1 => tb ρ c1 fun y c2 => rd ρ x y c2 Q
section
variable {Y : Ctx} {k : Nat} {C f : Addr} {fd : FuncData} {ps : List Str} {a b : Expr} {ea eb : TE} {ta tb : DE} {pos : Pos} {sp : SpD} {op : Operator} {cop : CmpOp} {r : L2.St → R2} {rd : DEnv → RD2}
theorem two3 {G H c ρ σ} {Qd : QD} {Q : VK} (R : Rel Y G H c ρ σ) (ha : SimE Y ea ta) (hb : SimE Y eb tb) (br : Br2S Y r rd) (h : dOpS rd ta tb ρ c Qd) (kk : ∀ d v G' H' c', Evo G H c G' H' c' → Rp Y.X.K G' v d → Qd d c' → Q v H') : tOpS r ea eb σ H Q := by
  refine ha G H c ρ σ _ _ R h fun d v G1 H1 c1 e1 r1 q1 => ?_
  refine hb G1 H1 c1 ρ σ _ _ (R.evo' e1) q1 fun d2 v2 G2 H2 c2 e2 r2 q2 => ?_
  exact br G H c ρ σ G2 H2 c2 v v2 d d2 Qd Q R (e1.trans e2) (r1.mono e2.le) r2 q2 fun d' v G3 H3 c3 e3 r q => kk d' v G3 H3 c3 ((e1.trans e2).trans e3) r q
theorem pd_opS (ho : OpRS Y.X (binaryOp op) r) (br : Br2S Y r rd) (ha : PD Y a ea ta) (hb : PD Y b eb tb) : PD Y (.BinOp a op b pos) (tOpS r ea eb) (dOpS rd ta tb) :=
  ⟨pe_opS ho ha.p hb.p, fun G H c ρ σ Qd Q R h kk => two3 R ha.s hb.s br h kk⟩
theorem pdc_opS (ho : OpRS Y.X (compareOp cop) r) (br : Br2S Y r rd) (ha : PD Y a ea ta) (hb : PD Y b eb tb) : PDC Y cop a b (tOpS r ea eb) (dOpS rd ta tb) :=
  ⟨⟨fun pins s σ H Q I h => bin ha.p hb.p I h fun v u s2 x y H2 I2 r1 r2 q => ho pins s2 σ H2 x y v u Q I2 r1 r2 q⟩, fun G H c ρ σ Qd Q R h kk => two3 R ha.s hb.s br h kk⟩
/-- x op y of two instances, or (r0) of other things -/
def aBinO (C : Addr) (ED : DEnv → EDt) (sp : SpD) (r0 : RD2) (ρ : DEnv) (x y : D) (c : Nat) (Q : QD) : Prop := match x with
  | .ins C' ns es => C' = C ∧ isIP C y ∧ @Run sp [.ins C' ns es, y] c Q (ED ρ)
  | x => r0 x y c Q
theorem br_binO {r0 : R2} {rd0 : RD2} (g : Y.Good k) (h0 : Br2 Y.X.K r0 rd0) : Br2S Y (fun σ x y H Q => r0 x y H Q ∨ rBinO C (spOf Y.X.K sp) Y.E σ x y H Q) (aBinO C Y.ED sp rd0) := by
  intro G0 H0 c0 ρ σ G H c x y d e Qd Q R ev rx ry q kk
  cases d with
  | ins C' ns es =>
    obtain ⟨rfl, ⟨ms, fs, rfl⟩, q⟩ := q
    cases rx with
    | ins h1 h2 h3 =>
      cases ry with
      | ins g1 g2 g3 =>
        exact .inr ⟨_, _, _, _, _, _, rfl, rfl, ev.ok.same _ _ h1, ev.ok.same _ _ g1, G, c, _, Qd, Y.ED ρ, ev.ok, .cons (.ins h1 h2 h3) (.cons (.ins g1 g2 g3) .nil), q, kk,
          fun C ns es dx G' H' c' e' r' q' => g.err ρ σ G0 H0 c0 R C ns es dx G' H' c' (ev.trans e') r' q'⟩
  | _ => exact .inl (h0 G H c x y _ e Qd Q ev.ok rx ry q kk)
/-- what a value can be compared with -/
def eqY (K : PySem.W.Frag) (C : Addr) (y : D) : Prop := isIP C y ∨ ∃ T, kind y = some T ∧ PySem.W.notFirst K C (.type T) = true
def aEqO (K : PySem.W.Frag) (C : Addr) (ng : Bool) (sp : SpD) (x y : D) (c : Nat) (Q : QD) : Prop := match x with
  | .ins C' ns es => C' = C ∧ eqY K C y ∧ @Run sp [.ins C' ns es, y] c (fun v c' => @asB v fun b => Q (.bl (ng != b)) c') (fun _ _ _ _ => False)
  | x => Pl 60 x ∧ Pl 60 y ∧ Q (.bl (ng != eqD x y)) c
theorem br_eqO {r0 : R2} {rd0 : RD2} {ng : Bool} {E : L2.St → XK} (I : ICls Y.X.K C) (h0 : Br2 Y.X.K r0 rd0) (hrd : ∀ x y c Q, Pl 60 x ∧ Pl 60 y ∧ Q (.bl (ng != eqD x y)) c → rd0 x y c Q) : Br2S Y (fun σ x y H Q => r0 x y H Q ∨ rEqO Y.X.K C ng (spOf Y.X.K sp) E σ x y H Q) (fun _ => aEqO Y.X.K C ng sp) := by
  intro G0 H0 c0 ρ σ G H c x y d e Qd Q R ev rx ry q kk
  cases d with
  | ins C' ns es =>
    obtain ⟨rfl, hy, q⟩ := q
    cases rx with
    | ins h1 h2 h3 =>
      have ty : ∃ t, TyX Y.X.K H y t ∧ PySem.W.notFirst Y.X.K C' t = true := by
        rcases hy with ⟨ms, fs, rfl⟩ | ⟨T, hk, hn⟩
        · cases ry with
          | ins g1 g2 g3 => exact ⟨.ref C', .base (.ins (ev.ok.same _ _ g1) I.cl I.ha I.hn I.ht I.hm), by simp [PySem.W.notFirst]⟩
        · exact ⟨_, tyX_of ev.ok ry hk, hn⟩
      obtain ⟨t, ty, hn⟩ := ty
      refine .inr ⟨_, _, _, t, rfl, ev.ok.same _ _ h1, ty, hn, G, c, _, _, fun _ _ _ _ => False, ev.ok, .cons (.ins h1 h2 h3) (.cons ry .nil), q, ?_, fun _ _ _ _ _ _ _ _ _ z => z.elim⟩
      rintro d v G' H' c' ev' r' ⟨b, rfl, q'⟩
      cases r'
      exact ⟨b, rfl, kk _ _ G' H' c' ev' (.bl _) q'⟩
  | _ => exact .inl (h0 G H c x y _ e Qd Q ev.ok rx ry (hrd _ _ _ _ q) kk)
/-- the facts of the class at C that its operators ask -/
structure OpsC (K : PySem.W.Frag) (C : Addr) : Prop where
  sf : PySem.W.selfFirst K C = true
  ne : PySem.W.findIn K (.ref C) "__ne__" = some (some (.builtin "object.__ne__"))
  so : PySem.W.subIn K (.ref C) (.type "object") = some true
theorem pd_addO (g : Y.Good k) (O : OpsC Y.X.K C) (m : Meth Y.X.K C "__add__" f) (F : FnOk Y.X.prog Y.X.w Y.X.K Y.X.mg Y.X.base (L2.CX Y.X.prog Y.X.w) k f fd ps (spOf Y.X.K sp)) (hb : Binds Y.X.K fd ps []) (ha : PD Y a ea ta) (hb' : PD Y b eb tb) :
    PD Y (.BinOp a .Add b pos) (tOpS (fun σ x y H Q => rSum2 Y.X.K x y H Q ∨ rBinO C (spOf Y.X.K sp) Y.E σ x y H Q) ea eb) (dOpS (aBinO C Y.ED sp aSum2) ta tb) :=
  pd_opS ((OpRS.of op_sum2).or (op_binO O.sf m.at_ m.fn F g.room hb g.pass)) (br_binO g br_sum2) ha hb'
def aNone : RD2 := fun _ _ _ _ => False
theorem pd_orO (g : Y.Good k) (O : OpsC Y.X.K C) (m : Meth Y.X.K C "__or__" f) (F : FnOk Y.X.prog Y.X.w Y.X.K Y.X.mg Y.X.base (L2.CX Y.X.prog Y.X.w) k f fd ps (spOf Y.X.K sp)) (hb : Binds Y.X.K fd ps []) (ha : PD Y a ea ta) (hb' : PD Y b eb tb) :
    PD Y (.BinOp a .BitOr b pos) (tOpS (fun σ x y H Q => (fun _ _ _ _ => False : R2) x y H Q ∨ rBinO C (spOf Y.X.K sp) Y.E σ x y H Q) ea eb) (dOpS (aBinO C Y.ED sp aNone) ta tb) :=
  pd_opS ((OpRS.of (r := fun _ _ _ _ => False) fun _ _ _ _ _ _ _ _ _ _ _ _ h => h.elim).or (op_binO O.sf m.at_ m.fn F g.room hb g.pass)) (br_binO g (fun _ _ _ _ _ _ _ _ _ _ _ _ h _ => h)) ha hb'
theorem pdc_eqO (g : Y.Good (k + 1)) (I : ICls Y.X.K C) (m : Meth Y.X.K C "__eq__" f) (F : FnOk Y.X.prog Y.X.w Y.X.K Y.X.mg Y.X.base (L2.CX Y.X.prog Y.X.w) k f fd ps (spOf Y.X.K sp)) (hb : Binds Y.X.K fd ps []) (ha : PD Y a ea ta) (hb' : PD Y b eb tb) :
    PDC Y .Eq a b (tOpS (fun σ x y H Q => rEqD Y.X.K x y H Q ∨ rEqO Y.X.K C false (spOf Y.X.K sp) (fun _ _ _ _ => False) σ x y H Q) ea eb) (dOpS (fun _ => aEqO Y.X.K C false sp) ta tb) :=
  pdc_opS ((OpRS.of (op_eqD g.room.units)).or (op_eqO m.at_ m.fn F (g.room.mono (Nat.le_succ _)) hb fun σ => passAt takesF σ)) (br_eqO I br_eqD fun x y c Q h => by simpa [aEqD] using h) ha hb'
theorem pdc_neO (g : Y.Good (k + 1)) (I : ICls Y.X.K C) (O : OpsC Y.X.K C) (m : Meth Y.X.K C "__eq__" f) (F : FnOk Y.X.prog Y.X.w Y.X.K Y.X.mg Y.X.base (L2.CX Y.X.prog Y.X.w) k f fd ps (spOf Y.X.K sp)) (hb : Binds Y.X.K fd ps []) (ha : PD Y a ea ta) (hb' : PD Y b eb tb) :
    PDC Y .NotEq a b (tOpS (fun σ x y H Q => rNeD Y.X.K x y H Q ∨ rEqO Y.X.K C true (spOf Y.X.K sp) (fun _ _ _ _ => False) σ x y H Q) ea eb) (dOpS (fun _ => aEqO Y.X.K C true sp) ta tb) :=
  pdc_opS ((OpRS.of (op_neD g.room.units)).or (op_neO m.at_ m.fn O.ne O.so F g.room hb noE)) (br_eqO I br_neD fun x y c Q h => by simpa [aNeD] using h) ha hb'
end
end PL

namespace PL
open PySem PySem.Spec PyProof.Rows L2

/-! ### what a head tells: defs at addresses, looks -/
structure DefP where
  ad : PySem.W.Frag → Addr
  name : Str
  qual : Str
  params : Arguments
  body : List Stmt
  scope : Scope
  dfl : List He.Dv := []
  kwd : List (Str × He.Dv) := []
def fnP (K : PySem.W.Frag) (f : Addr) : He.FnW := match K.lookup f with
  | some ⟨_, _, .func fd, _⟩ => some (fd.name, fd.qualname, fd.params, fd.body, fd.scope, fd.globals, fd.closure, fd.builtins)
  | _ => none
def DefP.val (d : DefP) : He.FnW := some (d.name, d.qual, d.params, .stmts d.body, d.scope, mainGlobals, [], builtinsNs)
def DefP.dvs (K : PySem.W.Frag) (d : DefP) : List V := d.dfl.map (He.Dv.v K)
def DefP.kws (K : PySem.W.Frag) (d : DefP) : List (Str × V) := d.kwd.map fun q => (q.1, q.2.v K)
def DefP.ok (K : PySem.W.Frag) (d : DefP) : Bool := PySem.W.keepIn K (.ref (d.ad K)) && (match K.lookup (d.ad K) with
  | some ⟨_, _, .func fd, _⟩ => PySem.W.codeIn K fd.code d.qual && (He.dflB K fd.defaults (d.dvs K) && He.kwdB K fd.kwdefaults (d.kws K))
  | _ => false)
theorem DefP.funD {K : PySem.W.Frag} {d : DefP} (e : fnP K (d.ad K) = d.val) (c : d.ok K = true) : ∃ fd, FunD K d.name d.qual d.params d.body d.scope (d.dvs K) (d.kws K) (d.ad K) fd := by
  obtain ⟨kp, c2⟩ := He.ba c
  unfold fnP at e
  cases q : K.lookup (d.ad K) with
  | none => rw [q] at c2; cases c2
  | some o =>
    obtain ⟨oc, od, dt, osl⟩ := o
    rw [q] at c2 e
    cases dt with
    | func fd =>
      obtain ⟨n1, n2, n3, n4, n5, n6, n7, n8, n9, n10, n11, n12, n13, n14, n15⟩ := fd
      have e2 : (some (n1, n2, n3, n4, n5, n6, n7, n15) : He.FnW) = some (d.name, d.qual, d.params, .stmts d.body, d.scope, mainGlobals, [], builtinsNs) := e
      simp only [Option.some.injEq, Prod.mk.injEq] at e2
      obtain ⟨h1, h2, h3, h4, h5, h6, h7, h8⟩ := e2
      subst h1 h2 h3 h4 h5 h6 h7 h8
      have c3 : (PySem.W.codeIn K n13 d.qual && (He.dflB K n8 (d.dvs K) && He.kwdB K n9 (d.kws K))) = true := c2
      obtain ⟨k1, k2⟩ := He.ba c3
      obtain ⟨k3, k4⟩ := He.ba k2
      exact ⟨_, ⟨oc, od, n8, n9, n10, n11, n12, n13, n14, osl, rfl, q, k1, He.dflB_ok k3, He.kwdB_ok k4⟩, kp⟩
    | _ => cases c2
abbrev Looks' : Type := List (PySem.W.Frag → Bool)
abbrev AlP : Type := Bool × List He.FnW
def obsP (fn : List DefP) (ex : Looks') (K : PySem.W.Frag) : AlP := ((ex.all fun f => f K) && fn.all fun d => d.ok K, fn.map fun d => fnP K (d.ad K))
def valP (fn : List DefP) : AlP := (true, fn.map DefP.val)
def SaysP (fn : List DefP) (ex : Looks') (K : PySem.W.Frag) : Prop := obsP fn ex K = valP fn
def obsPG (n : Nat) (fn : List DefP) (ex : Looks') (g : Addr → Option Obj) : AlP := obsP fn ex (He.frG g (He.asD g n))
def hookP (n : Nat) (fn : List DefP) (ex : Looks') : PySem.W.Hook where
  α := AlP
  obs := fun s => obsPG n fn ex s.heap.get?
  val := fun _ => valP fn
  says := fun _ h => ∃ K : PySem.W.Frag, K.In h ∧ SaysP fn ex K
  of := fun _ _ e => ⟨_, He.frG_in, e⟩
  keeps := fun _ _ _ ⟨K, hK, c⟩ k => ⟨K, PySem.W.Frag.In.keeps hK k, c⟩
theorem obsPG_eq {n : Nat} {fn : List DefP} {ex : Looks'} {g : Addr → Option Obj} {s : Shared} (h : ∀ a, g a = s.heap.get? a) : obsPG n fn ex g = (hookP n fn ex).obs s := by
  have e : g = s.heap.get? := funext h
  rw [e] <;> rfl
section
variable {fn : List DefP} {ex : Looks'} {K : PySem.W.Frag}
theorem SaysP.look (c : SaysP fn ex K) (i : Nat) {f : PySem.W.Frag → Bool} (h : ex[i]? = some f := by rfl) : f K = true := by
  have c1 := (He.ba (show ((ex.all fun f => f K) && fn.all fun d => d.ok K) = true from congrArg (fun z : AlP => z.1) c)).1
  exact List.all_eq_true.mp c1 f (List.mem_of_getElem? h)
theorem SaysP.def_ (c : SaysP fn ex K) (i : Nat) {d : DefP} (h : fn[i]? = some d := by rfl) : ∃ fd, FunD K d.name d.qual d.params d.body d.scope (d.dvs K) (d.kws K) (d.ad K) fd := by
  have c2 := (He.ba (show ((ex.all fun f => f K) && fn.all fun d => d.ok K) = true from congrArg (fun z : AlP => z.1) c)).2
  have e : fn.map (fun d => fnP K (d.ad K)) = fn.map DefP.val := congrArg (fun z : AlP => z.2) c
  have e2 : (fn.map fun d => fnP K (d.ad K))[i]? = (fn.map DefP.val)[i]? := by rw [e]
  rw [List.getElem?_map, List.getElem?_map, h] at e2
  exact DefP.funD (Option.some.inj e2) (List.all_eq_true.mp c2 d (List.mem_of_getElem? h))
end
/-! ### looks -/
/-- a property's object, its getter -/
def ppA (K : PySem.W.Frag) (x f : Str) : Addr := He.ma K (He.ga K x) f
def pgA (K : PySem.W.Frag) (x f : Str) : Addr := match PySem.W.recIn K (ppA K x f) "property" with
  | some (.ref g :: _) => g
  | _ => 0
def propB (K : PySem.W.Frag) (x f : Str) : Bool := He.eqO (PySem.W.findIn K (.ref (He.ga K x)) f) (some (some (.ref (ppA K x f)))) && decide (PySem.W.specialIn K (.ref (ppA K x f)) "__get__" = some (some (.builtin "property.__get__"))) &&
  decide (PySem.W.takesIn K (.ref (ppA K x f)) = some true) && (match PySem.W.recIn K (ppA K x f) "property" with
    | some (.ref g :: _) => decide (g = pgA K x f)
    | _ => false)
theorem propB_ok {K : PySem.W.Frag} {x f : Str} (h : propB K x f = true) : PropOf K (He.ga K x) f (ppA K x f) (pgA K x f) := by
  simp only [propB, Bool.and_eq_true, decide_eq_true_eq] at h
  obtain ⟨⟨⟨h1, h2⟩, h3⟩, h4⟩ := h
  refine ⟨He.eqO_ok h1, h2, h3, ?_⟩
  split at h4
  · rename_i g r e
    exact ⟨r, by rw [e, of_decide_eq_true h4]⟩
  · cases h4
def iclsB (K : PySem.W.Frag) (x : Str) : Bool := (He.Fa.cls x).ok K && He.eqO (PySem.W.findIn K (.ref (He.ga K x)) "__class__") (some (some (.builtin "object.__class__"))) &&
  decide (PySem.W.specialIn K (.builtin "object.__class__") "__get__" = some (some (.builtin "getset_descriptor.__get__"))) && decide (PySem.W.takesIn K (.builtin "object.__class__") = some true) &&
  decide (PySem.W.mroIn K (He.ga K x) (.type "object") = some true) && basics.all fun T => decide (PySem.W.kitOne K (.ref (He.ga K x)) (.type T) = some false)
theorem iclsB_ok {K : PySem.W.Frag} {x : Str} (h : iclsB K x = true) : ICls K (He.ga K x) := by
  simp only [iclsB, Bool.and_eq_true, decide_eq_true_eq, List.all_eq_true] at h
  obtain ⟨⟨⟨⟨⟨h1, h2⟩, h3⟩, h4⟩, h5⟩, h6⟩ := h
  exact ⟨He.cls_ok h1, He.eqO_ok h2, h3, h4, h5, h6⟩
def dclsB (K : PySem.W.Frag) (x f : Str) : Bool := (He.Fa.glo x).ok K && (He.Fa.mkr x).ok K && (He.Fa.noat x f).ok K && iclsB K x
theorem dclsB_ok {K : PySem.W.Frag} {h : Heap} {mg : Str → Option Value} (X : K.In h) (G : h.Ns mainGlobals mg) {x f : Str} (q : dclsB K x f = true) : DCls K mg x f (He.ga K x) (He.ma K (He.ga K x) "__init__") := by
  simp only [dclsB, Bool.and_eq_true] at q
  obtain ⟨⟨⟨h1, h2⟩, h3⟩, h4⟩ := q
  exact ⟨He.glo_ok X G h1, He.mkr_ok h2, (iclsB_ok h4).cl, He.noat_ok h3, iclsB_ok h4⟩
def opsB (K : PySem.W.Frag) (x : Str) : Bool := PySem.W.selfFirst K (He.ga K x) && He.eqO (PySem.W.findIn K (.ref (He.ga K x)) "__ne__") (some (some (.builtin "object.__ne__"))) && decide (PySem.W.subIn K (.ref (He.ga K x)) (.type "object") = some true)
theorem opsB_ok {K : PySem.W.Frag} {x : Str} (h : opsB K x = true) : OpsC K (He.ga K x) := by
  simp only [opsB, Bool.and_eq_true, decide_eq_true_eq] at h
  exact ⟨h.1.1, He.eqO_ok h.1.2, h.2⟩
def kinds7 : List String := ["NoneType", "bool", "int", "str", "tuple", "list", "dict"]
theorem kind_7 {d : D} {k : String} (h : kind d = some k) : k ∈ kinds7 := by
  cases d <;> first | (cases h; done) | (cases h; simp [kinds7])
def nfB (K : PySem.W.Frag) (x : Str) : Bool := kinds7.all fun T => PySem.W.notFirst K (He.ga K x) (.type T)
theorem nfB_ok {K : PySem.W.Frag} {x : Str} (h : nfB K x = true) : ∀ T ∈ kinds7, PySem.W.notFirst K (He.ga K x) (.type T) = true := List.all_eq_true.mp h
def ktB (K : PySem.W.Frag) (x : Str) : Bool := kinds7.all fun T => decide (PySem.W.kitOne K (.type T) (.ref (He.ga K x)) = some false)
theorem ktB_ok {K : PySem.W.Frag} {x : Str} (h : ktB K x = true) : ∀ T ∈ kinds7, PySem.W.kitOne K (.type T) (.ref (He.ga K x)) = some false := fun T hT => of_decide_eq_true (List.all_eq_true.mp h T hT)
def kxB (K : PySem.W.Frag) (x y : Str) (b : Bool) : Bool := decide (PySem.W.kitOne K (.ref (He.ga K x)) (.ref (He.ga K y)) = some b)
theorem kxB_ok {K : PySem.W.Frag} {x y : Str} {b : Bool} (h : kxB K x y b = true) : PySem.W.kitOne K (.ref (He.ga K x)) (.ref (He.ga K y)) = some b := of_decide_eq_true h
theorem isO_kd {K : PySem.W.Frag} {IC : Addr → Prop} {B : Addr} {x : D} {c : Nat} {Q : QD} (hk : ∀ T ∈ kinds7, PySem.W.kitOne K (.type T) (.ref B) = some false) (hx : (kind x).isSome = true) : aIsO K IC [x, .cls B] c Q = Q (.bl false) c := by
  obtain ⟨k, hk2⟩ := Option.isSome_iff_exists.mp hx
  exact isO_kind hk2 (hk k (kind_7 hk2))
theorem eqY_kd {K : PySem.W.Frag} {C : Addr} {y : D} (hn : ∀ T ∈ kinds7, PySem.W.notFirst K C (.type T) = true) (hx : (kind y).isSome = true) : eqY K C y := by
  obtain ⟨k, hk2⟩ := Option.isSome_iff_exists.mp hx
  exact .inr ⟨k, hk2, hn k (kind_7 hk2)⟩
end PL

namespace PL
open PySem PySem.Spec PyProof.Rows L2

section
variable {Y : Ctx} {x y z : Str} {a b e : Expr} {ta : TA} {t : DA} {px py pz pt pos pt2 : Pos} {kt k2 k : Nat}
/-! ### a module's constants -/
theorem pd_gint {i : Int} (hm : ∃ t, Y.X.mg x = some (.int i t)) (hg : Gl Y.X x := by rfl) (hd : (x == ("__debug__" : Str)) = false := by decide) : PD Y (.Name x pos) (tC (.int i)) (dC (.int i)) := by
  obtain ⟨t, hm⟩ := hm
  exact pd_glob hm ⟨t, rfl⟩ (fun _ => .int i) hg hd
theorem pd_gstr {i : Str} (hm : ∃ t, Y.X.mg x = some (.str i t)) (hg : Gl Y.X x := by rfl) (hd : (x == ("__debug__" : Str)) = false := by decide) : PD Y (.Name x pos) (tC (.str i)) (dC (.str i)) := by
  obtain ⟨t, hm⟩ := hm
  exact pd_glob hm ⟨t, rfl⟩ (fun _ => .str i) hg hd
/-! ### a, b = x, y -/
def sPar (i j : Nat) (t : DA) : DS := fun DD ρ c => t ρ c fun ds c1 => ∃ d e, ds = [d, e] ∧ @Nx DD.nx ((ρ.set i (.fz d)).set j (.fz e)) c1
theorem pds_par (i j : Nat) (g : Y.Good k) (hN : Y.X.N.Nodup) (ha : PDA Y [a, b] ta t) (hij : i ≠ j := by decide) (hi : Y.X.N[i]? = some x := by rfl) (hj : Y.X.N[j]? = some y := by rfl) (hx : Y.X.env.scope.names.lookup x = some .local := by rfl) (hy : Y.X.env.scope.names.lookup y = some .local := by rfl)
    (hw : swappedStores [.Tuple [.Name x px, .Name y py] kt pt] (.Tuple [a, b] k2 pt2) Y.X.env = pure (some [x, y]) := by rfl) (hs : swapsWithSole [.Tuple [.Name x px, .Name y py] kt pt] (.Tuple [a, b] k2 pt2) pos.line Y.X.env = pure false := by rfl) :
    PDS Y (.Assign [.Tuple [.Name x px, .Name y py] kt pt] (.Tuple [a, b] k2 pt2) pos) (tPar i j ta) (sPar i j t) :=
  ⟨ps_par g.calm hN hi hj hij hx hy ha.p hw hs, fun P G H c ρ σ DD EE K R q => ha.s G H c ρ σ _ _ R.r q fun ds vs G1 H1 c1 ev rr ⟨d, e, ed, q⟩ => by
    subst ed
    cases rr with
    | cons r1 rr =>
      cases rr with
      | cons r2 rr =>
        cases rr
        exact ⟨_, _, rfl, K.nx G1 H1 c1 _ _ ⟨((R.r.evo' ev).set_fz r1 i).set_fz r2 j, R.le.trans ev.le⟩ q⟩⟩
def twoP (ds : List D) (P : D → D → Prop) : Prop := ∃ d e, ds = [d, e] ∧ P d e
theorem ev_twoP {d e : D} {P : D → D → Prop} : twoP [d, e] P = P d e := by
  apply propext; constructor
  · rintro ⟨_, _, h, q⟩; cases h; exact q
  · exact fun q => ⟨_, _, rfl, q⟩
theorem ev_par {i j : Nat} {DD : DEnds} {ρ : DEnv} {c : Nat} : sPar i j t DD ρ c = t ρ c fun ds c1 => twoP ds fun d e => @Nx DD.nx ((ρ.set i (.fz d)).set j (.fz e)) c1 := propext Iff.rfl
end
section
variable {C C' f : Addr} {ED : DEnv → EDt} {sp : SpD} {r0 : RD2} {ρ : DEnv} {x y : D} {c : Nat} {Q : QD} {ns : List Str} {es l : List D} {i : Int} {s : Str} {b : Bool} {K : PySem.W.Frag} {ng : Bool} {ta tb : DE} {t : DA} {te : DE} {rd : DEnv → RD2} {m : Str} {dds : List D} {n : Nat} {fn : Str}
theorem ev_make : dMake C fn t ρ c Q = t ρ c fun ds c1 => hd1 ds fun d => Q (.ins C [fn] [d]) c1 := propext Iff.rfl
theorem ev_fldI : dFldI C fn te ρ c Q = te ρ c fun x c1 => insP C fn x fun d => Q d c1 := propext Iff.rfl
theorem ev_prop : dProp C sp te ρ c Q = te ρ c fun x c1 => isIP C x ∧ @Run sp [x] c1 Q (fun _ _ _ _ => False) := propext Iff.rfl
theorem ev_meth : dMeth C m ED sp dds te t ρ c Q = te ρ c fun x c1 => noFP C m x ∧ t ρ c1 fun ds c2 => @Run sp (x :: (ds ++ dds)) c2 Q (ED ρ) := propext Iff.rfl
theorem ev_methK : dMethK C m ED n sp te t ρ c Q = te ρ c fun x c1 => noFP C m x ∧ t ρ c1 fun ds c2 => ds.length = n ∧ @Run sp (x :: ds) c2 Q (ED ρ) := propext Iff.rfl
theorem ev_opS : dOpS rd ta tb ρ c Q = ta ρ c fun x c1 => tb ρ c1 fun y c2 => rd ρ x y c2 Q := propext Iff.rfl
theorem ev_binI : aBinO C ED sp r0 ρ (.ins C ns es) y c Q = (isIP C y ∧ @Run sp [.ins C ns es, y] c Q (ED ρ)) := by
  apply propext; constructor
  · exact fun h => h.2
  · exact fun h => ⟨rfl, h⟩
theorem ev_bin_i : aBinO C ED sp r0 ρ (.int i) y c Q = r0 (.int i) y c Q := propext Iff.rfl
theorem ev_bin_s : aBinO C ED sp r0 ρ (.str s) y c Q = r0 (.str s) y c Q := propext Iff.rfl
theorem ev_bin_t : aBinO C ED sp r0 ρ (.tup l) y c Q = r0 (.tup l) y c Q := propext Iff.rfl
theorem ev_bin_l : aBinO C ED sp r0 ρ (.lst l) y c Q = r0 (.lst l) y c Q := propext Iff.rfl
theorem ev_eqOI : aEqO K C ng sp (.ins C ns es) y c Q = (eqY K C y ∧ @Run sp [.ins C ns es, y] c (fun v c' => @asB v fun b => Q (.bl (ng != b)) c') (fun _ _ _ _ => False)) := by
  apply propext; constructor
  · exact fun h => h.2
  · exact fun h => ⟨rfl, h⟩
theorem ev_eqO_n : aEqO K C ng sp .non y c Q = (Pl 60 .non ∧ Pl 60 y ∧ Q (.bl (ng != eqD .non y)) c) := propext Iff.rfl
theorem ev_eqO_b : aEqO K C ng sp (.bl b) y c Q = (Pl 60 (.bl b) ∧ Pl 60 y ∧ Q (.bl (ng != eqD (.bl b) y)) c) := propext Iff.rfl
theorem ev_eqO_i : aEqO K C ng sp (.int i) y c Q = (Pl 60 (.int i) ∧ Pl 60 y ∧ Q (.bl (ng != eqD (.int i) y)) c) := propext Iff.rfl
theorem ev_eqO_s : aEqO K C ng sp (.str s) y c Q = (Pl 60 (.str s) ∧ Pl 60 y ∧ Q (.bl (ng != eqD (.str s) y)) c) := propext Iff.rfl
theorem ev_eqO_t : aEqO K C ng sp (.tup l) y c Q = (Pl 60 (.tup l) ∧ Pl 60 y ∧ Q (.bl (ng != eqD (.tup l) y)) c) := propext Iff.rfl
theorem ev_eqO_l : aEqO K C ng sp (.lst l) y c Q = (Pl 60 (.lst l) ∧ Pl 60 y ∧ Q (.bl (ng != eqD (.lst l) y)) c) := propext Iff.rfl
theorem eqY_ins : eqY K C (.ins C ns es) = True := eq_true (.inl ⟨_, _, rfl⟩)
end
/-- a def that is never asked -/
theorem FnOk.no {P : Program} {w : World} {K : PySem.W.Frag} {mg : Str → Option Value} {base : Heap} {CX : CXT} {x qual : Str} {params : Arguments} {body : List Stmt} {scope : Scope} {dvs : List V} {kws : List (Str × V)} {f : Addr} {fd : FuncData} {N ps : List Str} {k : Nat} {sp : Sp}
    (F : FunD K x qual params body scope dvs kws f fd) (S : FnScope N ps scope) (h : ∀ vs H Q E, sp vs H Q E → False) : FnOk P w K mg base CX (k + 1) f fd ps sp :=
  F.ok S (fun vs H Q E q => (h _ _ _ _ q).elim) fun _ _ _ _ _ _ _ _ _ q => (h _ _ _ _ q).elim
theorem spOf_no {K : PySem.W.Frag} {sp : SpD} (h : ∀ ds c Q E, sp ds c Q E → False) : ∀ vs H Q E, spOf K sp vs H Q E → False := fun _ _ _ _ ⟨_, _, _, _, _, _, _, q, _⟩ => h _ _ _ _ q
end PL

namespace PL
open PySem PySem.Spec PyProof.Rows L2

/-! ### plain laws: bounds, texts, layouts -/
def loOk : D → Int → Bool
  | .int l, i => decide (l ≤ i)
  | _, _ => true
def hiOk : D → Int → Bool
  | .int h, i => decide (i ≤ h)
  | _, _ => true
def isIntG : D → D → D → Bool
  | .int i, lo, hi => loOk lo i && hiOk hi i
  | _, _, _ => false
def isIntB (d : D) (lo : Int) : Bool := isIntG d (.int lo) .non
theorem isIntB_int {i lo : Int} : isIntB (.int i) lo = decide (lo ≤ i) := by simp [isIntB, isIntG, loOk, hiOk]
def bnd : D → Bool
  | .non => true
  | .int _ => true
  | _ => false
/-- a line of a layout -/
def lineOk : D → Bool
  | .tup [i, x] => isIntB i 0 && isStr x
  | _ => false
def badAt (k : Nat) : List D → Option Nat
  | [] => none
  | r :: l => if lineOk r then badAt (k + 1) l else some k
def firstOk : D → Bool
  | .tup (i :: _) => eqD i (.int 0)
  | _ => false
def check : D → D
  | .tup (r :: l) => match badAt 0 (r :: l) with
    | some k => .tup [.str "line", .int (k : Nat)]
    | none => match firstOk r with
      | true => .non
      | false => .tup [.str "first"]
  | _ => .tup [.str "form"]
theorem badAt_step {l : List D} {k : Nat} {r : D} (h : l[k]? = some r) (e : badAt 0 l = badAt k (l.drop k)) : if lineOk r then badAt 0 l = badAt (k + 1) (l.drop (k + 1)) else badAt 0 l = some k := by
  have hk : k < l.length := (List.getElem?_eq_some_iff.mp h).1
  have e2 : l.drop k = r :: l.drop (k + 1) := by
    rw [List.drop_eq_getElem_cons hk]
    rw [List.getElem?_eq_getElem hk] at h
    cases h
    rfl
  rw [e2] at e
  have e3 : badAt k (r :: l.drop (k + 1)) = if lineOk r then badAt (k + 1) (l.drop (k + 1)) else some k := by rw [badAt]
  rw [e3] at e
  split
  · rename_i h1; rw [if_pos h1] at e; exact e
  · rename_i h1; rw [if_neg h1] at e; exact e
theorem badAt_none : ∀ {l : List D} {k : Nat}, (∀ r, r ∈ l → lineOk r = true) → badAt k l = none
  | [], _, _ => rfl
  | r :: l, k, h => by rw [badAt, h r List.mem_cons_self, if_pos rfl]; exact badAt_none fun x hx => h x (List.mem_cons_of_mem _ hx)
theorem badAt_all : ∀ {l : List D} {k : Nat}, badAt k l = none → ∀ r, r ∈ l → lineOk r = true
  | [], _, _, r, hr => nomatch hr
  | r :: l, k, h, x, hx => by
    rw [badAt] at h
    cases e : lineOk r with
    | false => rw [e, if_neg Bool.false_ne_true] at h; cases h
    | true =>
      rw [e, if_pos rfl] at h
      rcases List.mem_cons.mp hx with rfl | hx
      · exact e
      · exact badAt_all h x hx
/-! ### plain data, put together -/
theorem pl_nil {n : Nat} : Pl (n + 1) (.tup []) := fun d hd => nomatch hd
theorem pl_cons {n : Nat} {a : D} {l : List D} (h : Pl n a) (k : Pl (n + 1) (.tup l)) : Pl (n + 1) (.tup (a :: l)) := fun d hd => by
  rcases List.mem_cons.mp hd with rfl | hd
  · exact h
  · exact k d hd
theorem pl_lst {n : Nat} {l : List D} (k : Pl (n + 1) (.tup l)) : Pl (n + 1) (.lst l) := k
theorem pl_str {n : Nat} {x : Str} (h : (decide (x.length ≤ 1000) && PyData.strOk x) = true) : Pl n (.str x) := by
  simp only [Bool.and_eq_true, decide_eq_true_eq] at h
  cases n <;> exact h
theorem pl_int {n : Nat} {i : Int} : Pl n (.int i) := by cases n <;> trivial
theorem pl_bl {n : Nat} {i : Bool} : Pl n (.bl i) := by cases n <;> trivial
theorem pl_non {n : Nat} : Pl n .non := by cases n <;> trivial
/-- plain, by looking -/
def plB : Nat → D → Bool
  | _, .non => true
  | _, .bl _ => true
  | _, .int _ => true
  | _, .str x => decide (x.length ≤ 1000) && PyData.strOk x
  | n + 1, .tup l => l.attach.all fun ⟨d, _⟩ => plB n d
  | n + 1, .lst l => l.attach.all fun ⟨d, _⟩ => plB n d
  | _, _ => false
theorem plB_ok : ∀ {n : Nat} {d : D}, plB n d = true → Pl n d
  | n, .non, _ => pl_non
  | n, .bl b, _ => pl_bl
  | n, .int b, _ => pl_int
  | n, .str b, h => pl_str (by cases n <;> simpa [plB] using h)
  | n + 1, .tup l, h => fun d hd => plB_ok (by
    simp only [plB, List.all_eq_true, List.mem_attach, forall_const, Subtype.forall] at h
    exact h d hd)
  | n + 1, .lst l, h => fun d hd => plB_ok (by
    simp only [plB, List.all_eq_true, List.mem_attach, forall_const, Subtype.forall] at h
    exact h d hd)
  | 0, .tup l, h => by simp [plB] at h
  | 0, .lst l, h => by simp [plB] at h
  | n, .ty _, h => by cases n <;> simp [plB] at h
  | n, .cls _, h => by cases n <;> simp [plB] at h
  | n, .dct _ _, h => by cases n <;> simp [plB] at h
  | n, .ins _ _ _, h => by cases n <;> simp [plB] at h
  | n, .exc _ _ _, h => by cases n <;> simp [plB] at h
  | n, .opq, h => by cases n <;> simp [plB] at h
  | n, .scr _, h => by cases n <;> simp [plB] at h
theorem kind_pl {n : Nat} {d : D} (h : Pl n d) : (kind d).isSome = true := by
  cases d <;> first | rfl | (cases n <;> exact h.elim)
mutual
theorem eqD_refl : ∀ {n : Nat} {d : D}, Pl n d → eqD d d = true
  | n, .non, _ => by simp [eqD]
  | n, .bl b, _ => by simp [eqD]
  | n, .int b, _ => by simp [eqD]
  | n, .str b, h => by simp [eqD]
  | n + 1, .tup l, h => by simp only [eqD]; exact eqDs_refl h
  | n + 1, .lst l, h => by simp only [eqD]; exact eqDs_refl h
  | 0, .tup l, h => h.elim
  | 0, .lst l, h => h.elim
  | n, .ty _, h => by cases n <;> exact h.elim
  | n, .cls _, h => by cases n <;> exact h.elim
  | n, .dct _ _, h => by cases n <;> exact h.elim
  | n, .ins _ _ _, h => by cases n <;> exact h.elim
  | n, .exc _ _ _, h => by cases n <;> exact h.elim
  | n, .opq, h => by cases n <;> exact h.elim
  | n, .scr _, h => by cases n <;> exact h.elim
theorem eqDs_refl : ∀ {n : Nat} {l : List D}, (∀ d, d ∈ l → Pl n d) → eqDs l l = true
  | n, [], _ => by simp [eqDs]
  | n, d :: l, h => by simp only [eqDs, eqD_refl (h d List.mem_cons_self), eqDs_refl fun x hx => h x (List.mem_cons_of_mem _ hx)]; rfl
end
theorem check_pl (d : D) : Pl 2 (check d) := by
  have f : Pl 2 (D.tup [D.str "form"]) := plB_ok (by decide +kernel)
  unfold check
  split
  · split
    · exact pl_cons (pl_str (by decide +kernel)) (pl_cons pl_int pl_nil)
    · split
      · exact pl_non
      · exact plB_ok (by decide +kernel)
  · exact f
/-! ### rows: an indent, a text -/
abbrev LRow := Int × Str
def encR (r : LRow) : D := .tup [.int r.1, .str r.2]
def encL (rows : List LRow) : D := .tup (rows.map encR)
def strS (x : Str) : Prop := x.length ≤ 1000 ∧ okStr x = true ∧ PyData.strOk x = true
structure LayOk (rows : List LRow) : Prop where
  ne : rows ≠ []
  first : ∀ r, rows[0]? = some r → r.1 = 0
  rows : ∀ r, r ∈ rows → 0 ≤ r.1 ∧ strS r.2
theorem encR_line {r : LRow} (h : 0 ≤ r.1 ∧ strS r.2) : lineOk (encR r) = true := by
  simp only [encR, lineOk, isIntB_int, isStr, h.2.2.1, Bool.and_true]
  exact decide_eq_true h.1
theorem pl_encR {r : LRow} (h : strS r.2) : Pl 1 (encR r) := pl_cons pl_int (pl_cons (pl_str (by simp [h.1, h.2.2])) pl_nil)
theorem LayOk.pl {rows : List LRow} (h : LayOk rows) : Pl 3 (encL rows) := fun d hd => by
  obtain ⟨r, hr, rfl⟩ := List.mem_map.mp hd
  exact (pl_encR (h.rows r hr).2).succ
theorem LayOk.check {rows : List LRow} (h : LayOk rows) : check (encL rows) = .non := by
  cases rows with
  | nil => exact absurd rfl h.ne
  | cons r l =>
    have e : badAt 0 (encR r :: l.map encR) = none := badAt_none fun x hx => by
      obtain ⟨q, hq, rfl⟩ := List.mem_map.mp (show x ∈ (r :: l).map encR from hx)
      exact encR_line (h.rows q hq)
    have e1 : firstOk (encR r) = true := by
      have := h.first r rfl
      simp [firstOk, encR, eqD, this]
    simp only [encL, List.map_cons, PL.check, e, e1]
/-- the rows of a thing that is a layout -/
theorem lay_rows {d : D} (hc : check d = .non) (hp : Pl 3 d) : ∃ rows, d = encL rows ∧ LayOk rows := by
  have key : ∀ l : List D, (∀ r, r ∈ l → lineOk r = true ∧ Pl 2 r) → ∃ rows : List LRow, l = rows.map encR ∧ ∀ r, r ∈ rows → 0 ≤ r.1 ∧ strS r.2 := by
    intro l
    induction l with
    | nil => exact fun _ => ⟨[], rfl, fun r hr => nomatch hr⟩
    | cons x l ih =>
      intro h
      obtain ⟨rows, e, hr⟩ := ih fun r hr => h r (List.mem_cons_of_mem _ hr)
      obtain ⟨h1, h2⟩ := h x List.mem_cons_self
      match x, h1, h2 with
      | .tup [i, z], h1, h2 =>
        simp only [lineOk, Bool.and_eq_true] at h1
        cases i with
        | int i =>
          cases z with
          | str z =>
            have hz : Pl 1 (.str z) := h2 (.str z) (by simp)
            have h0 := h1.1
            rw [isIntB_int] at h0
            refine ⟨(i, z) :: rows, by rw [e]; rfl, fun r hr2 => ?_⟩
            rcases List.mem_cons.mp hr2 with rfl | hr2
            · exact ⟨of_decide_eq_true h0, hz.1, h1.2, hz.2⟩
            · exact hr r hr2
          | _ => exact absurd h1.2 (by simp [isStr])
        | _ => exact absurd h1.1 (by simp [isIntB, isIntG])
  match d, hc, hp with
  | .tup (r :: l), hc, hp =>
    cases e : badAt 0 (r :: l) with
    | some k => simp only [check, e] at hc; cases hc
    | none =>
      simp only [check, e] at hc
      cases ef : firstOk r with
      | false => rw [ef] at hc; cases hc
      | true =>
        obtain ⟨rows, er, hr⟩ := key (r :: l) fun x hx => ⟨badAt_all e x hx, hp x hx⟩
        refine ⟨rows, by rw [er]; rfl, ?_, fun q hq => ?_, hr⟩
        · intro h; subst h; cases er
        · cases rows with
          | nil => cases er
          | cons q' rows =>
            cases hq
            rw [List.map_cons] at er
            injection er with er _
            rw [er] at ef
            simpa [firstOk, encR, eqD] using ef
  | .tup [], h, _ => cases h
  | .non, h, _ => cases h
  | .bl _, h, _ => cases h
  | .int _, h, _ => cases h
  | .str _, h, _ => cases h
  | .lst _, h, _ => cases h
/-- what is drawn from a list of things -/
theorem pick {P : D → Prop} {R : D → Prop} (m : List D) (hm : ∀ v, v ∈ m → P v) {j : Int} (j0 : 0 ≤ j) (j1 : j < m.length) (fin : ∀ v, P v → R v) : @atP (atI m j) R := by
  obtain ⟨v, hv, hv2⟩ := atI_lt j0 j1
  exact atP.mk hv (fin v (hm v hv2))
theorem intBits_small {n : Int} (h0 : 0 ≤ n) (h : n < 536870912) : Builtin.Int.intBits n < 30 := by
  unfold Builtin.Int.intBits
  split
  · decide
  · rename_i hn
    have hn' : n ≠ 0 := by simpa using hn
    have : n.natAbs.log2 < 29 := (Nat.log2_lt (by omega)).mpr (by omega)
    omega
end PL
namespace PL
theorem isNon_t {d : D} (h : PL.isNon d = true) : d = .non := by cases d <;> first | rfl | cases h
theorem isNon_f {d : D} (h : PL.isNon d = false) : d ≠ .non := fun e => by subst e; cases h
end PL

namespace PL
open PySem PySem.Spec PyProof.Rows L2

/-- a for that draws nothing -/
theorem for_det {g : DG} {tb : DS} {DD : DEnds} {ρ : DEnv} {L : List D} {c1 : Nat} (I : Nat → DEnv → Prop) (h0 : I 0 ρ)
    (hs : ∀ k x ρ, L[k]? = some x → I k ρ → g x ρ c1 fun ρ' c' => tb { DD with nx := fun ρ c => c = c1 ∧ I (k + 1) ρ, ct := fun ρ c => c = c1 ∧ I (k + 1) ρ, bk := DD.nx } ρ' c') (hf : ∀ ρ, I L.length ρ → DD.nx ρ c1) : ForB g tb DD ρ L c1 :=
  ⟨fun k ρ c => c = c1 ∧ I k ρ, ⟨rfl, h0⟩, fun k x ρ c hx ⟨e, h⟩ => by subst e; exact hs k x ρ hx h, fun ρ c ⟨e, h⟩ => by subst e; exact hf ρ h⟩
theorem cut_1 {α : Type} (x : α) (l : List α) : cut (x :: l) (some 1) none = l := by rw [cut_from _ (by decide)]; rfl
theorem take_snoc {α : Type} {l : List α} {k : Nat} {x : α} (h : l[k]? = some x) : l.take (k + 1) = l.take k ++ [x] := by rw [List.take_succ, h]; rfl
/-- a comprehension without a test whose element is f of the item -/
theorem lc_map {L : List D} {c : Nat} {g : DG} {te : DE} {vs : List Nat} {ρ : DEnv} {Q : QD} (f : D → D) (hL : L.length ≤ 16777216)
    (step : ∀ x, x ∈ L → ∀ (R : QD), R (f x) c → g x (wipeD ρ vs) c fun ρ2 c2 => te ρ2 c2 R) (hq : Q (.lst (L.map f)) c) : LcB g dtYes te vs ρ L c Q := by
  refine lc_by (fun x => some (f x)) (by rw [sizeLine_eq]; exact hL) (fun x hx R R0 h1 h0 => ?_) (by rw [filterMap_some]; exact hq)
  have := step x hx R (h1 _ rfl)
  simpa [dtYes] using this
/-- .. of what may be drawn: every item gives a thing of the kind P, with at most m draws -/
theorem lc_draw {L : List D} {c : Nat} {g : DG} {te : DE} {vs : List Nat} {ρ : DEnv} {Q : QD} (P : D → Prop) (m : Nat) (hL : L.length ≤ 16777216)
    (step : ∀ x, x ∈ L → ∀ c', c ≤ c' → c' + m ≤ c + L.length * m → ∀ R : QD, (∀ d c2, P d → c' ≤ c2 → c2 ≤ c' + m → R d c2) → g x (wipeD ρ vs) c' fun ρ2 c2 => te ρ2 c2 R)
    (hq : ∀ l c', l.length = L.length → (∀ d, d ∈ l → P d) → c ≤ c' → c' ≤ c + L.length * m → Q (.lst l) c') : LcB g dtYes te vs ρ L c Q := by
  refine ⟨fun k acc c' => acc.length = k ∧ (∀ d, d ∈ acc → P d) ∧ c ≤ c' ∧ c' ≤ c + k * m, ⟨rfl, (fun d hd => nomatch hd), Nat.le_refl _, by omega⟩, ?_, ?_⟩
  · rintro k x acc c' hk ⟨rfl, ha, h1, h2⟩
    have hlt : acc.length < L.length := (List.getElem?_eq_some_iff.mp hk).1
    have key : c' + m ≤ c + L.length * m := by
      have : (acc.length + 1) * m ≤ L.length * m := Nat.mul_le_mul_right _ hlt
      rw [Nat.succ_mul] at this
      omega
    have := step x (List.mem_of_getElem? hk) c' h1 key (fun y c4 => acc.length < sizeLine ∧ (acc ++ [y]).length = acc.length + 1 ∧ (∀ d, d ∈ acc ++ [y] → P d) ∧ c ≤ c4 ∧ c4 ≤ c + (acc.length + 1) * m) fun d c2 hd h3 h4 => by
      refine ⟨by rw [sizeLine_eq]; omega, by simp, fun e he => ?_, by omega, by rw [Nat.succ_mul]; omega⟩
      rcases List.mem_append.mp he with he | he
      · exact ha e he
      · rw [List.mem_singleton.mp he]; exact hd
    simpa [dtYes] using this
  · rintro acc c' ⟨hl, ha, h1, h2⟩
    exact hq acc c' hl ha h1 h2
end PL
namespace PL
open PySem PySem.Spec PyProof.Rows L2
def strSB (x : Str) : Bool := decide (x.length ≤ 1000) && okStr x && PyData.strOk x
theorem strSB_ok {x : Str} (h : strSB x = true) : strS x := by
  simp only [strSB, Bool.and_eq_true, decide_eq_true_eq] at h
  exact ⟨h.1.1, h.1.2, h.2⟩
def layB (rows : List LRow) : Bool := (match rows with | r :: _ => decide (r.1 = 0) | [] => false) && rows.all fun r => decide (0 ≤ r.1) && strSB r.2
theorem layB_ok {rows : List LRow} (h : layB rows = true) : LayOk rows := by
  cases rows with
  | nil => cases h
  | cons r l =>
    simp only [layB, Bool.and_eq_true, decide_eq_true_eq, List.all_eq_true] at h
    exact ⟨by simp, fun q hq => by cases hq; exact h.1, fun q hq => ⟨(h.2 q hq).1, strSB_ok (h.2 q hq).2⟩⟩
/-- not a tuple of too many things -/
def fewD (d : D) : Prop := ∀ l, d = .tup l → l.length ≤ 1000
theorem fewD_encL {rows : List LRow} (h : rows.length ≤ 1000) : fewD (encL rows) := fun l e => by cases e; simpa using h
theorem LayOk.one {x : Str} (h : strS x) : LayOk [(0, x)] := ⟨by simp, fun q hq => by cases hq; rfl, fun q hq => by
  rw [List.mem_singleton.mp hq]; exact ⟨Int.le_refl _, h⟩⟩
theorem LayOk.snoc {rows : List LRow} (h : LayOk rows) {r : LRow} (h0 : 0 ≤ r.1) (hs : strS r.2) : LayOk (rows ++ [r]) := by
  refine ⟨by simp, fun q hq => ?_, fun q hq => ?_⟩
  · cases rows with
    | nil => exact absurd rfl h.ne
    | cons x l => exact h.first q hq
  · rcases List.mem_append.mp hq with hq | hq
    · exact h.rows q hq
    · rw [List.mem_singleton.mp hq]; exact ⟨h0, hs⟩
theorem encL_snoc (rows : List LRow) (r : LRow) : rows.map encR ++ [D.tup [.int r.1, .str r.2]] = (rows ++ [r]).map encR := by simp [encR]
theorem lim_le {a b : Nat} (h : a ≤ b) (k : b ≤ LIM) : a ≤ LIM := Nat.le_trans h k
theorem nums_range {lo : Int} {n k : Nat} {d : D} (h : (upInts lo n)[k]? = some d) : k < n ∧ d = .int (lo + (k : Nat)) := upInts_get h
end PL
namespace PL
theorem intsD_map' {α : Type} (f : α → Int) (l : List α) : intsD (l.map fun x => .int (f x)) = some (l.map f) := by rw [← intsD_map, List.map_map]; rfl
end PL
namespace PL
open PySem PySem.Spec PyProof.Rows L2
theorem isO.exc {K : PySem.W.Frag} {IC : Addr → Prop} {A B : Addr} {b : Bool} {ns : List Str} {es : List D} {c : Nat} {Q : QD} (hx : ExcC K A) (h : PySem.W.kitOne K (.ref A) (.ref B) = some b) (q : Q (.bl b) c) : aIsO K IC [.exc A ns es, .cls B] c Q := (isO_exc hx h).mpr q
theorem isO.ins {K : PySem.W.Frag} {IC : Addr → Prop} {A B : Addr} {b : Bool} {ns : List Str} {es : List D} {c : Nat} {Q : QD} (hx : IC A) (h : PySem.W.kitOne K (.ref A) (.ref B) = some b) (q : Q (.bl b) c) : aIsO K IC [.ins A ns es, .cls B] c Q := (isO_ins hx h).mpr q
theorem isO.kd {K : PySem.W.Frag} {IC : Addr → Prop} {B : Addr} {x : D} {c : Nat} {Q : QD} (hk : ∀ T ∈ kinds7, PySem.W.kitOne K (.type T) (.ref B) = some false) (hx : (kind x).isSome = true) (q : Q (.bl false) c) : aIsO K IC [x, .cls B] c Q := (isO_kd hk hx).mpr q
end PL
namespace PL
theorem gone_nx {DD : DEnds} {i : Nat} {ρ : DEnv} {c : Nat} : (DD.gone i).nx ρ c = @Nx DD.nx (ρ.set i .no) c := propext Iff.rfl
theorem gone_bk {DD : DEnds} {i : Nat} {ρ : DEnv} {c : Nat} : (DD.gone i).bk ρ c = @Nx DD.bk (ρ.set i .no) c := propext Iff.rfl
theorem gone_ct {DD : DEnds} {i : Nat} {ρ : DEnv} {c : Nat} : (DD.gone i).ct ρ c = @Nx DD.ct (ρ.set i .no) c := propext Iff.rfl
theorem gone_rt {DD : DEnds} {i : Nat} : (DD.gone i).rt = DD.rt := rfl
theorem set_nx' {i : Nat} {t : DE} {DD : DEnds} {ρ : DEnv} {c j : Nat} : sSet i t (DD.gone j) ρ c = t ρ c fun d c1 => @Nx DD.nx ((ρ.set i (.fz d)).set j .no) c1 := propext Iff.rfl
end PL
namespace PL
open PySem PySem.Spec PyProof.Rows L2
section
variable {C : Addr} {ns : List Str} {es : List D} {ks : List Key} {T : String}
theorem n_exc : PL.isNon (.exc C ns es) = false := rfl
theorem n_ins : PL.isNon (.ins C ns es) = false := rfl
theorem n_dct : PL.isNon (.dct ks es) = false := rfl
theorem n_opq : PL.isNon .opq = false := rfl
theorem k_exc : kind (.exc C ns es) = none := rfl
theorem k_ins : kind (.ins C ns es) = none := rfl
theorem k_dct : kind (.dct ks es) = some "dict" := rfl
theorem i_ins : isaB T (.ins C ns es) = false := rfl
theorem i_dct : isaB T (.dct ks es) = (T == "dict") := rfl
theorem is_ins : isIns (.ins C ns es) = some C := rfl
end
end PL

namespace PL
open PySem PySem.Spec PyProof.Rows L2
/-! ### a tuple or a list unpacked -/
def kSeq (n : Nat) (g : DGs) (d : D) (ρ : DEnv) (c : Nat) (Q : DEnv → Nat → Prop) : Prop := match d with
  | .tup ds => ds.length = n ∧ g ds ρ c Q
  | .lst ds => ds.length = n ∧ g ds ρ c Q
  | _ => False
theorem pdg_seq {Y : Ctx} {es : List Expr} {ggs : TGs} {gs : DGs} {vs : List Nat} {pos : Pos} {k n : Nat} (hc : Y.X.calm = true) (h : PDGs Y es ggs gs vs) (hn : (assignEach es Y.X.env).length = n := by rfl) (hst : (assignEach es Y.X.env).findIdx? (·.1) = none := by rfl) :
    PDG Y (.Tuple es k pos) (fun v σ H Q => gTup Y.X.K n ggs v σ H Q ∨ gUnl Y.X.K n ggs v σ H Q) (kSeq n gs) vs :=
  ⟨⟨fun pins s σ H v u Q I r hw => hw.elim (fun hw => (pg_tup hc h.p hn hst).run pins s σ H v u Q I r hw) fun hw => (pg_unl hc h.p hn hst).run pins s σ H v u Q I r hw⟩, fun G H c ρ σ d v Qd Q R r hw kk => by
    cases d with
    | tup ds =>
      cases r with
      | tup h1 h2 => exact .inl ⟨_, _, rfl, SqT.same R.ok.same h1, by rw [h2.length]; exact hw.1, h.s G H c ρ σ ds _ _ _ R h2 hw.2 kk⟩
    | lst ds =>
      cases r with
      | lst h1 h2 => exact .inr ⟨_, _, rfl, R.ok.sq h1, by rw [h2.length]; exact hw.1, h.s G H c ρ σ ds _ _ _ R h2 hw.2 kk⟩
    | _ => exact hw.elim⟩
section
variable {n : Nat} {gs : DGs} {l : List D} {ρ : DEnv} {c : Nat} {Q : DEnv → Nat → Prop}
theorem ev_kseqT : kSeq n gs (.tup l) ρ c Q = (l.length = n ∧ gs l ρ c Q) := propext Iff.rfl
theorem ev_kseqL : kSeq n gs (.lst l) ρ c Q = (l.length = n ∧ gs l ρ c Q) := propext Iff.rfl
end
end PL

set_option maxHeartbeats 1000000
namespace PLs
open PySem PySem.Spec PyProof.Rows L2

/-! ### sets whose members are keys of one kind, with tables that can be walked -/
section
variable {P : Program} {w : World} {α : Type} [DecidableEq α] (knd : PySem.KeyKind P w α)
open Classical in
noncomputable def keyC (v : Value) : Option α := if h : ∃ k, knd.is k v = true then some h.choose else none
theorem keyC_is {k : α} {v : Value} (h : knd.is k v = true) : keyC knd v = some k := by
  unfold keyC
  have e : ∃ k, knd.is k v = true := ⟨k, h⟩
  rw [dif_pos e, knd.inj v _ k e.choose_spec h]
theorem is_keyC {k : α} {v : Value} (h : keyC knd v = some k) : knd.is k v = true := by
  unfold keyC at h
  split at h
  · rename_i e; cases h; exact e.choose_spec
  · cases h
/-- the set at a: its members, in the order of the entries -/
def SetG (h : Heap) (a : Addr) (l : List α) : Prop := ∃ o es ep t, h.get? a = some o ∧ o.ExactSet ∧ o.data = .set es ep t ∧ ElemsOf knd es.toList ∧ es.toList.map (fun e => keyC knd e.2) = l.map some ∧ l.Nodup ∧
  es.size < scanBound ∧ t.fits es.size = true ∧ Ris t.place.toList ∧ (w.params.followText "set-order" = true ∨ t.led = true)
variable {knd} {h h' : Heap} {a : Addr} {l : List α}
theorem SetG.at (R : SetG knd h a l) (k : ∀ o, h.get? a = some o → h'.get? a = some o) : SetG knd h' a l := by
  obtain ⟨o, es, ep, t, ho, r⟩ := R
  exact ⟨o, es, ep, t, k o ho, r⟩
theorem SetG.len (R : SetG knd h a l) : l.length < scanBound := by
  obtain ⟨o, es, ep, t, ho, hx, hd, g, hm, nd, hb, r⟩ := R
  have := congrArg List.length hm
  simp only [List.length_map, Array.length_toList] at this
  omega
theorem SetG.mem {es : List (Int × Value)} (hm : es.map (fun e => keyC knd e.2) = l.map some) {k : α} : k ∈ l ↔ ∃ e, e ∈ es ∧ knd.is k e.2 = true := by
  have h1 : k ∈ l ↔ some k ∈ es.map fun e => keyC knd e.2 := by rw [hm]; simp
  rw [h1, List.mem_map]
  exact ⟨fun ⟨e, he, q⟩ => ⟨e, he, is_keyC knd q⟩, fun ⟨e, he, q⟩ => ⟨e, he, keyC_is knd q⟩⟩
theorem elems_keys {es : List (Int × Value)} (g : ElemsOf knd es) : ∃ l : List α, es.map (fun e => keyC knd e.2) = l.map some := by
  induction es with
  | nil => exact ⟨[], rfl⟩
  | cons e es ih =>
    obtain ⟨l, hl⟩ := ih fun x hx => g x (List.mem_cons_of_mem _ hx)
    obtain ⟨⟨k, hk, _⟩, _⟩ := g e List.mem_cons_self
    exact ⟨k :: l, by rw [List.map_cons, hl, keyC_is knd hk]; rfl⟩
/-- other entries with the same keys in another order -/
theorem keys_perm {es es' : List (Int × Value)} {l : List α} (hm : es.map (fun e => keyC knd e.2) = l.map some) (g' : ElemsOf knd es') (p : es'.Perm es) : ∃ l' : List α, es'.map (fun e => keyC knd e.2) = l'.map some ∧ l'.Perm l := by
  obtain ⟨l', hl'⟩ := elems_keys g'
  refine ⟨l', hl', ?_⟩
  have q : (l'.map some).Perm (l.map some) := by rw [← hl', ← hm]; exact p.map _
  have f := q.filterMap id
  simpa [List.filterMap_map] using f
end
section
variable {P : Program} {w : World} {A : Around} {E : Value → Shared → Prop} {s : Shared} {a : Addr} {α : Type} [DecidableEq α] {knd : PySem.KeyKind P w α} {l : List α}
theorem put_at {h : Heap} {o : Obj} {es es' : Array (Int × Value)} {ep : Nat} {t t' : SetTable} (ho : h.get? a = some o) (hd : o.data = .set es ep t) : (h.update a (Obj.putSet es' t')).get? a = some { o with data := .set es' (ep + 1) t' } := by
  rw [Heap.get?_update_self (Obj.putSet es' t') ho (by rw [putSet_of es' t' hd]; rfl), putSet_of es' t' hd]
/-- a new entry's storing: the table is laid again if it is too full -/
theorem add_tail {g : Bool → Sem Unit} (hg : ∀ (b : Bool) (s₁ : Shared) (Q' : Unit → Shared → Prop), Q' () s₁ → wpAny (model P w) A (g b) Q' E s₁) {o : Obj} {es : Array (Int × Value)} {ep : Nat} {t : SetTable} (ho : s.heap.get? a = some o) (hex : o.ExactSet) (hd : o.data = .set es ep t)
    {es1 : Array (Int × Value)} {t2 : SetTable} {l1 : List α} (g1 : ElemsOf knd es1.toList) (m1 : es1.toList.map (fun e => keyC knd e.2) = l1.map some) (n1 : l1.Nodup) (hb : es1.size < scanBound) (hf : t2.fits es1.size = true) (hr : Ris t2.place.toList)
    (hl : w.params.followText "set-order" = true ∨ t2.led = true) {wd : Bool} {R : Option Bool → Shared → Prop} (hR : ∀ h' l', Heap.SameBut a s.heap h' → SetG knd h' a l' → l'.Perm l1 → R (some true) { s with heap := h' }) :
    wpAny (model P w) A (do
      storeSet a es1 t2
      if (!wd && t2.tooFull) = true then do
        g (relayAll t2 es1 (SetTable.grown es1.size)).2.2
        storeSet a (relayAll t2 es1 (SetTable.grown es1.size)).1 (relayAll t2 es1 (SetTable.grown es1.size)).2.1
        pure (some true)
      else pure (some true)) R E s := by
  have b1 := Heap.SameBut.update s.heap a (Obj.putSet es1 t2)
  have o1 := put_at (es' := es1) (t' := t2) ho hd
  refine wpAny_bind (wpAny_storeSet_of ho hd ?_ (fits_of_scanBound hb))
  by_cases c : (!wd && t2.tooFull) = true
  · rw [if_pos c]
    have perm := relayAll_perm t2 es1 (SetTable.grown es1.size)
    have fit := relayAll_fits t2 es1 (SetTable.grown es1.size)
    have ris := relayAll_ris t2 es1 (SetTable.grown es1.size)
    have led := relayAll_led t2 es1 (SetTable.grown es1.size)
    revert perm fit ris led
    generalize relayAll t2 es1 (SetTable.grown es1.size) = Z
    obtain ⟨es2, t3, gave⟩ := Z
    intro perm fit ris led
    have sz : es2.size = es1.size := by have := perm.length_eq; simpa using this
    have g2 : ElemsOf knd es2.toList := g1.perm perm
    obtain ⟨l2, m2, p2⟩ := keys_perm m1 g2 perm
    have hb2 : es2.size < scanBound := by rw [sz]; exact hb
    refine wpAny_bind (hg gave _ _ (wpAny_bind (wpAny_storeSet_of o1 rfl (wpAny_pure ?_) (fits_of_scanBound hb2))))
    refine hR _ l2 (b1.trans (Heap.SameBut.update _ a _)) ⟨_, es2, _, t3, put_at (es' := es2) (t' := t3) o1 rfl, hex, rfl, g2, m2, p2.nodup_iff.mpr n1, hb2, fit, ris, hl.imp id fun z => ?_⟩ p2
    have led' : t3.led = t2.led := led
    rw [led']; exact z
  · rw [if_neg c]
    exact wpAny_pure (hR _ l1 b1 ⟨_, es1, _, t2, o1, hex, rfl, g1, m1, n1, hb, hf, hr, hl⟩ (List.Perm.refl _))
/-- a key of the kind is added -/
theorem add_hashed {k : α} {x : Value} (hk : knd.is k x = true) (hs : x.scannable = true) {Q : Bool → Shared → Prop} (R : SetG knd s.heap a l) (room : l.length + 1 < scanBound)
    (hQ : ∀ h' l' b, Heap.SameBut a s.heap h' → SetG knd h' a l' → (k ∈ l → l' = l) → (k ∉ l → l'.Perm (k :: l)) → Q b { s with heap := h' }) : wpAny (model P w) A (setAddHashed a x (knd.hash k)) Q E s := by
  obtain ⟨o, es, ep, t, ho, hex, hd, g, hm, nd, hb, hf, hr, hl⟩ := R
  have lz : es.size = l.length := by have := congrArg List.length hm; simpa using this
  unfold setAddHashed setAddHashedIn
  refine wpAny_holding (wpAny_bind (wpAny_setState_of ho hd hf ?_))
  show wpAny (model P w) A _ _ _ _
  dsimp only
  rw [byScan_of hs hb g]
  simp only [↓reduceIte]
  unfold setAddByScan
  refine wpAny_bind (wpAny_bind (wpAny_rule (wpAny_bind (wpAny_setScan_of hk ho hd hf g ?_))))
  cases hfi : List.findIdx? (fun e => knd.is k e.2) es.toList with
  | some j =>
    obtain ⟨hj, pj, _⟩ := List.findIdx?_eq_some_iff_getElem.mp hfi
    have inl : k ∈ l := (SetG.mem hm).mpr ⟨es.toList[j], List.getElem_mem hj, pj⟩
    dsimp only
    exact wpAny_pure (wpAny_pure (hQ s.heap l false (Heap.SameBut.refl a s.heap) ⟨o, es, ep, t, ho, hex, hd, g, hm, nd, hb, hf, hr, hl⟩ (fun _ => rfl) fun n => absurd inl n))
  | none =>
    have out : k ∉ l := fun z => by
      obtain ⟨e, he, q⟩ := (SetG.mem hm).mp z
      rw [List.findIdx?_eq_none_iff.mp hfi e he] at q
      cases q
    dsimp only
    have gw : ∀ (b : Bool) {s₁ : Shared} {Q' : Unit → Shared → Prop}, Q' () s₁ → wpAny (model P w) A (match b with | true => rule "set.scan.the-table-gave-way" | false => pure ()) Q' E s₁ := fun b s₁ Q' q => by
      cases b with
      | true => exact wpAny_rule q
      | false => exact wpAny_pure q
    have perm := layNew_perm t es (knd.hash k) x
    have fit := layNew_fits t es (knd.hash k) x
    have ris := layNew_ris t es (knd.hash k) x hr
    have led := layNew_led t es (knd.hash k) x
    revert perm fit ris led
    generalize layNew t es (knd.hash k) x = Z
    obtain ⟨es1, t1, wd, gave⟩ := Z
    intro perm fit ris led
    dsimp only at perm fit ris led
    rw [Array.toList_push] at perm
    have g1 : ElemsOf knd es1.toList := (g.push hk hs).perm perm
    have mnew : (es.toList ++ [(knd.hash k, x)]).map (fun e => keyC knd e.2) = (l ++ [k]).map some := by rw [List.map_append, hm, List.map_append]; simp [keyC_is knd hk]
    obtain ⟨l1, m1, p1⟩ := keys_perm mnew g1 perm
    have pc : l1.Perm (k :: l) := p1.trans (List.perm_append_singleton k l)
    have n1 : l1.Nodup := pc.nodup_iff.mpr (List.nodup_cons.mpr ⟨out, nd⟩)
    have sz1 : es1.size = l.length + 1 := by have := perm.length_eq; simp at this; omega
    have hb1 : es1.size < scanBound := by omega
    have hled : w.params.followText "set-order" = true ∨ t1.led = true := hl.imp id fun z => by rw [led]; exact z
    refine wpAny_bind (gw gave ?_)
    split
    · refine wpAny_bind ?_
      rw [hashByValue_scannable 8 hs]; refine wpAny_pure ?_
      refine add_tail (l1 := l1) (knd := knd) (fun b s₁ Q' q => gw b q) ho hex hd g1 m1 n1 hb1 ?_ ?_ ?_ fun h' l' sb r pl => ?_
      · first | exact fit | (split <;> first | exact fit | exact SetTable.fits_plain_off fit)
      · first | exact ris | (split <;> exact ris)
      · first | exact hled | (split <;> exact hled)
      · exact wpAny_pure (hQ h' l' true sb r (fun z => absurd z out) fun _ => pl.trans pc)
    · refine wpAny_bind (wpAny_pure ?_)
      simp only [↓reduceIte]
      refine add_tail (l1 := l1) (knd := knd) (fun b s₁ Q' q => gw b q) ho hex hd g1 m1 n1 hb1 fit ris hled fun h' l' sb r pl => ?_
      exact wpAny_pure (hQ h' l' true sb r (fun z => absurd z out) fun _ => pl.trans pc)
end
end PLs

set_option maxHeartbeats 1000000
namespace PLs
open PySem PySem.Spec PyProof.Rows L2

/-! ### sets of texts -/
abbrev SetT (P : Program) (w : World) (h : Heap) (a : Addr) (l : List Str) : Prop := SetG (PySem.strKind P w) h a l
def SO (P : Program) (w : World) (a : Addr) (l : List Str) : HO := .ext fun h => SetT P w h a l
theorem isStr_self (P : Program) (w : World) (x : Str) (t : Tok) : (PySem.strKind P w).is x (.str x t) = true := by
  show Value.isStrOf x (.str x t) = true
  simp [Value.isStrOf]
section
variable {P : Program} {w : World} {H : Hp} {h : Heap} {a : Addr} {l : List Str}
theorem so_new (R : SetT P w h a l) : ObjOk P w H h a (SO P w a l) := by
  have ⟨o, _, _, _, ho, _⟩ := R
  exact ⟨R, ⟨o, ho⟩, fun h1 h2 p k => SetG.at p k⟩
theorem setT_fresh : SetT P w (h.push { cls := .type "set", dict := none, data := .set #[] 0 (.fresh 0 0 (!w.params.followText "set-order")) }) h.objs.size [] := by
  refine ⟨_, #[], 0, _, Heap.get?_push_size _ rfl, ⟨rfl, rfl, rfl⟩, rfl, ?_, rfl, List.nodup_nil, by decide, rfl, List.Pairwise.nil, ?_⟩
  · intro e he; simp at he
  · by_cases c : w.params.followText "set-order" = true
    · exact .inl c
    · exact .inr (by show (!w.params.followText "set-order") = true; simpa using c)
variable {A : Around} {E : Value → Shared → Prop} {s : Shared}
/-- found.add(x) -/
theorem addT {x : Str} {t : Tok} {Q : Value → Shared → Prop} (R : SetT P w s.heap a l) (room : l.length + 1 < scanBound)
    (hQ : ∀ h' l' tk, Heap.SameBut a s.heap h' → SetT P w h' a l' → (x ∈ l → l' = l) → (x ∉ l → l'.Perm (x :: l)) → Q .none { s with heap := h', toks := tk }) : wpAny (model P w) A (call (.builtin "set.add") [.ref a, .str x t]) Q E s := by
  have ty : s.TypeIs (.ref a) "set" := by
    obtain ⟨o, es, ep, tt, ho, hex, _⟩ := R
    exact ⟨o, ho, hex.1⟩
  refine wpAny_call_entry PySem.F.slot_set_add ty PySem.F.entry_set_add ?_ (PySem.F.args_set_add_2 _ _)
  unfold Builtin.«set.add» Builtin.Frozenset.oneOther Builtin.Frozenset.addrOf setAdd
  simp only [List.isEmpty_nil, bind_assoc]
  refine wpAny_bind (wpAny_pure ?_); try dsimp only
  refine wpAny_bind (wpAny_pure ?_); try dsimp only
  refine wpAny_bind (wpAny_holding (wpAny_bind ((PySem.strKind P w).pyHash (isStr_self P w x t) ?_)))
  refine add_hashed (s := { s with toks := s.toks + 1 }) (isStr_self P w x t) rfl R room fun h' l' b sb r e1 e2 => ?_
  exact wpAny_pure ⟨.none, rfl, hQ h' l' (s.toks + 1) sb r e1 e2⟩
/-- the members are texts -/
theorem strs_of {es : List (Int × Value)} : ∀ {l : List Str}, es.map (fun e => keyC (PySem.strKind P w) e.2) = l.map some → ∀ {vs : List Value}, vs = es.map (·.2) → StrsAre vs l := by
  induction es with
  | nil =>
    intro l h vs hv
    cases l with
    | nil => subst hv; exact .nil
    | cons x l => cases h
  | cons e es ih =>
    intro l h vs hv
    cases l with
    | nil => cases h
    | cons x l =>
      rw [List.map_cons, List.map_cons] at h
      injection h with h1 h2
      have q := is_keyC (PySem.strKind P w) h1
      obtain ⟨t, ht⟩ := Value.isStrOf_shape q
      subst hv
      rw [List.map_cons, ht]
      exact .cons x t (ih h2 rfl)
theorem strs_perm {vs us : List Value} (p : vs.Perm us) {l : List Str} (h : StrsAre us l) : ∃ l', StrsAre vs l' ∧ l'.Perm l := by
  induction p generalizing l with
  | nil => cases h; exact ⟨[], .nil, List.Perm.refl _⟩
  | cons x _ ih =>
    cases h with
    | cons y t h => obtain ⟨l', a, b⟩ := ih h; exact ⟨y :: l', .cons y t a, b.cons y⟩
  | swap x y l0 =>
    cases h with
    | cons y1 t1 h =>
      cases h with
      | cons y2 t2 h => exact ⟨y2 :: y1 :: _, .cons y2 t2 (.cons y1 t1 h), List.Perm.swap _ _ _⟩
  | trans _ _ ih1 ih2 =>
    obtain ⟨l1, a1, b1⟩ := ih2 h
    obtain ⟨l2, a2, b2⟩ := ih1 a1
    exact ⟨l2, a2, b2.trans b1⟩
/-- sorted(found) -/
theorem sortedT {Q : Value → Shared → Prop} (R : SetT P w s.heap a l) (hh : A.handled = none)
    (hQ : ∀ s' p (out : Array Value) (c : Nat) (ys : List Str), (∀ b o, s.heap.get? b = some o → s'.heap.get? b = some o) → s'.gens = s.gens → s'.os = s.os → s.heap.objs.size ≤ p → s'.heap.get? p = some (seqObj "list" out c) →
      StrsAre out.toList ys → ys.Perm l → sortedS ys = true → Q (.ref p) s') : wpAny (model P w) A (call (.builtin "sorted") [.ref a]) Q E s := by
  have hlen := R.len
  obtain ⟨o, es, ep, t, ho, hex, hd, g, hm, nd, hb, hf, hr, hl⟩ := R
  refine Calls.call_function_entry kind_sorted plain_sorted entry_sorted (args_sorted1 _) ?_
  unfold Builtin.«sorted»
  refine wpAny_bind (m := checkCount "sorted" 1 1 _) (wpAny_pure (wpAny_bind ?_))
  refine collect_set (A := A.in1) hh ⟨o, ho, hex.1, hd⟩ hf hb hr hl fun s1 vs k1 hz g1 o1 pm => ?_
  obtain ⟨l1, hS, p1⟩ := strs_perm pm (strs_of hm rfl)
  have hvl : vs.length ≤ sizeLine := by rw [pm.length_eq, List.length_map, Array.length_toList]; exact fits_of_scanBound hb
  refine wpAny_bind (wpAny_newList ?_ hvl)
  have hoL : (s1.heap.push (seqObj "list" vs.toArray 0)).get? s1.heap.objs.size = some (seqObj "list" vs.toArray 0) := Heap.get?_push_size _ rfl
  refine wpAny_bind (wpAny_holding (wpAny_call_entry slot_list_sort ⟨_, hoL, rfl⟩ entry_list_sort (list_sort_treeKAny strKind_oneLt hoL hS.keysOf (fun v₁ v₂ rest e => keyKind_strs (by rw [← e]; exact hS)) hvl fun st' hp hs => ⟨_, rfl, ?_⟩) (args_list_sort _)))
  obtain ⟨ys, q1, q2, q3⟩ := sorted_out_str hS hp hs
  obtain ⟨c, hc⟩ := sortedHeap_at (vs := vs) (out := (arrOf st').map (·.2)) hoL
  refine wpAny_pure ⟨_, rfl, hQ _ s1.heap.objs.size _ c ys (fun b u e => ?_) g1 o1 hz hc q1 (q2.trans p1) q3⟩
  have hlt := Heap.lt_size (k1 b u e)
  exact (sortedHeap_old (Nat.ne_of_lt hlt) (by rw [size_push']; exact Nat.lt_succ_of_lt hlt)).trans (Heap.get?_push_of_some _ (k1 b u e))
end
section
variable {X : Cx} {pins : List (Addr × Obj)} {σ : L2.St} {H : Hp} {s : Shared} {E : Value → Shared → Prop} {D : Addr} {l : List Str}
theorem so_get (I : L2.Inv X pins σ H s) (ha : H D = some (SO X.prog X.w D l)) : SetT X.prog X.w s.heap D l := (I.hok D _ ha).1
theorem addT_ok {y : Str} {t : Tok} {Q : Value → Shared → Prop} (I : L2.Inv X pins σ H s) (hD : H D = some (SO X.prog X.w D l)) (room : l.length + 1 < scanBound)
    (h : ∀ s' l', L2.Inv X pins σ (upd H D (SO X.prog X.w D l')) s' → (y ∈ l → l' = l) → (y ∉ l → l'.Perm (y :: l)) → Q .none s') : wpAny (model X.prog X.w) X.A (call (.builtin "set.add") [.ref D, .str y t]) Q E s := by
  refine addT (so_get I hD) room fun h' l' tk sb new e1 e2 => ?_
  have he : ∃ u, h'.get? D = some u := by
    have ⟨o, _, _, _, ho, _⟩ := new
    exact ⟨o, ho⟩
  exact h _ l' (I.write (e := D) (t' := tk) (by rw [hD]; trivial) (.inl rfl) (fun b u hb hu => (sb.2 b hb).trans hu) he (so_new new)) e1 e2
def rSortedT (P : Program) (w : World) : List V → Hp → VK → Prop := fun vs H Q => ∃ (a : Addr) (l : List Str), vs = [V.ref a] ∧ H a = some (SO P w a l) ∧ ∀ (ys : List Str) (p : Addr), ys.Perm l → sortedS ys = true → H p = none → Q (.ref p) (upd H p (.lst (ys.map V.str)))
theorem cr_sortedT (hc : X.calm = true) : CallR X (.builtin "sorted") (rSortedT X.prog X.w) := by
  intro pins s σ H vs us Q I r h
  obtain ⟨a, l, rfl, ha, q⟩ := h
  have R := so_get I ha
  rw [Vals.ref1 r]
  refine sortedT R (I.ok.hd hc) fun s' p out c ys k g o hp hg hi pm hs => ?_
  have hn : H p = none := I.hok.fresh hp
  have hlen : (ys.map V.str).length ≤ sizeLine := by rw [List.length_map, pm.length_eq]; exact fits_of_scanBound R.len
  have J : L2.Inv X pins σ (upd H p (.lst (ys.map V.str))) { s with heap := s'.heap, gens := s'.gens, drawn := s'.drawn, toks := s'.toks } :=
    I.call (ch := []) (Un.laid k hp hn) (I.hok.laid k hp ⟨hlen, out.toList, c, vals_of_strs hi, hg⟩) (by rw [g]; exact I.bare) (fun _ z => nomatch z)
  have e : s' = { s with heap := s'.heap, gens := s'.gens, drawn := s'.drawn, toks := s'.toks } := by
    obtain ⟨a1, a2, a3, a4, a5⟩ := s'
    cases o; rfl
  rw [e]
  exact ⟨.ref p, _, J, rfl, q ys p pm hs hn⟩
end
end PLs

set_option maxHeartbeats 2000000
namespace PLs
open PySem PySem.Spec PyProof.Rows L2 PpSet

/-! ### {elt for target in iter if ..}, elt a text -/
section
variable {X : Cx}
/-- one turn's wish -/
def turnT (P : Program) (w : World) (g : TG) (tt : TT) (te : TE) (vs : List Nat) (σ : L2.St) (D : Addr) (Nx : Hp → Prop) (x : V) (H' : Hp) : Prop := g x (wipe σ vs) H' fun σ2 H2 => wipe σ2 vs = wipe σ vs ∧ tt σ2 H2 fun b H3 =>
  if b = true then te σ2 H3 fun y H4 => ∃ (z : Str) (l : List Str), y = .str z ∧ H4 D = some (SO P w D l) ∧ l.length + 1 < scanBound ∧ ∀ l', (z ∈ l → l' = l) → (z ∉ l → l'.Perm (z :: l)) → @Nx (upd H4 D (SO P w D l')) else @Nx H3
def tScT (P : Program) (w : World) (wi : TI) (g : TG) (tt : TT) (te : TE) (vs : List Nat) : TE := fun σ H Q => wi σ H fun J H1 => ∀ D, H1 D = none → ∃ W : Nat → Nat → Hp → Prop, (∃ m, W 0 m (upd H1 D (SO P w D []))) ∧ ∀ i m H, W i m H →
  (J.stop i H ∧ Q (.ref D) H) ∨ (J.go i H ∧ ∃ Nx : Hp → Prop, (∀ H', @Nx H' → ∃ m', m' < m ∧ W (i + 1) m' H') ∧ ∀ x H', J.yld i H x H' → turnT P w g tt te vs σ D @Nx x H')
variable {pins : List (Addr × Obj)} {s : Shared} {σ : L2.St} {H : Hp} {Q : VK} {elt tg iter : Expr} {ifs : List Expr} {scope : Scope} {own : List (PySem.Str × Nat)} {pos pos' : Pos} {wi : TI} {g : TG} {tt : TT} {te : TE}
/-- the block's parts, in every block -/
structure Parts (X : Cx) (tg elt : Expr) (ifs : List Expr) (scope : Scope) (g : TG) (tt : TT) (te : TE) : Prop where
  g : ∀ (s : Shared) (H : Hp) (C : Addr) (cl : List (PySem.Str × Addr)) (fp : List Addr), PG (X.blk s H scope (compEnvC scope cl C X.env) fp) tg g
  t : ∀ (s : Shared) (H : Hp) (C : Addr) (cl : List (PySem.Str × Addr)) (fp : List Addr), PTs (X.blk s H scope (compEnvC scope cl C X.env) fp) ifs tt
  e : ∀ (s : Shared) (H : Hp) (C : Addr) (cl : List (PySem.Str × Addr)) (fp : List Addr), PE (X.blk s H scope (compEnvC scope cl C X.env) fp) elt te
theorem sc_run (hc : X.calm = true) (hN : X.N.Nodup) (I : L2.Inv X pins σ H s) (hi : PI X tg iter wi) (ok : BlkOk X.N X.env.scope scope own) (pa : Parts X tg elt ifs scope g tt te) (hs : ∀ x, foldedSetIterable iter X.env x = pure x)
    (h : tScT X.prog X.w wi g tt te (own.map (·.2)) σ H Q) : wpAny (model X.prog X.w) X.A (comprehension (.SetComp elt [⟨tg, iter, ifs, 0⟩] scope pos) scope X.env pos' (newSet (.type "set")) false (eval iter X.env) none) (EP X pins σ Q) X.xe s := by
  have free : ∀ y ∈ scope.names, y.2 = .free → ∃ c, X.env.cells.lookup y.1 = some c := fun y hy e => (ok.free y hy e).elim (fun k => I.ok.has _ (.inl k)) fun k => I.ok.has _ (.inr k)
  refine wpAny_comprehension_free (use := none) rfl hs (closure_ok free) ok.kind (fun y hy e => by rw [ok.uniq y hy, e]) (thn (hi.run pins s σ H _ I h) fun xv s1 hx => thn hx fun itv s2 ⟨it, fp, tn, J, H2, e, I2, T, st2, f2, q⟩ => ?_)
  subst e
  refine newSet_ok (newEnv_comp ?_)
  have hDn : H2 s2.heap.objs.size = none := I2.hok.fresh (Nat.le_refl _)
  obtain ⟨W, ⟨m0, w0⟩, turn⟩ := q s2.heap.objs.size hDn
  have lt : ∀ b ∈ fp, b < s2.heap.objs.size := fun b hb => let ⟨o, e, _⟩ := T.obj _ _ st2 b hb; Heap.lt_size e
  obtain ⟨D, eD⟩ : ∃ D, D = s2.heap.objs.size := ⟨_, rfl⟩
  rw [← eD] at hDn turn w0 ⊢
  obtain ⟨s3, e3⟩ : ∃ s3 : Shared, s3 = { s2 with heap := s2.heap.push { cls := .type "set", dict := none, data := .set #[] 0 (.fresh 0 0 (!X.w.params.followText "set-order")) } } := ⟨_, rfl⟩
  obtain ⟨H3, eH⟩ : ∃ H3, H3 = upd H2 D (SO X.prog X.w D []) := ⟨_, rfl⟩
  have more : ∀ b o, s2.heap.get? b = some o → s3.heap.get? b = some o := fun b o e => by rw [e3]; exact Heap.get?_push_of_some _ e
  have I3 : L2.Inv X pins σ H3 s3 := by
    rw [e3, eH]
    exact I2.laid (t' := s2.toks) (fun b o e => Heap.get?_push_of_some _ e) (Nat.le_of_eq eD.symm) (by rw [eD]; exact so_new setT_fresh)
  have f3 : ∀ b ∈ fp, FpOk X pins H3 b ∧ b < s3.heap.objs.size := fun b hb => by
    have hlt := lt b hb
    have hne : b ≠ D := by rw [eD]; exact Nat.ne_of_lt hlt
    refine ⟨⟨by rw [eH, upd_ne hne]; exact (f2 b hb).1, (f2 b hb).2⟩, ?_⟩
    rw [e3]; show b < (s2.heap.push _).objs.size
    rw [Heap.size_push]; exact Nat.lt_succ_of_lt hlt
  rw [← eH] at w0
  have st3 : tn 0 s3.heap := T.keep _ _ _ st2 fun b _ o e => more b o e
  obtain ⟨C, eC⟩ : ∃ C, C = s3.heap.objs.size := ⟨_, rfl⟩
  obtain ⟨cl, ecl⟩ : ∃ cl, cl = cellsFrom (s3.heap.objs.size + 1) scope.names (cloFrom X.env.cells scope.names []) := ⟨_, rfl⟩
  have I4 := block_start I3 ok hN f3
  have pg := pa.g s3 H3 C cl fp
  have pt := pa.t s3 H3 C cl fp
  have pe := pa.e s3 H3 C cl fp
  rw [← ecl, ← eC] at I4
  rw [← e3]
  show codeAny _ _ (.compStart (.SetComp elt [⟨tg, iter, ifs, 0⟩] scope pos) 0 (.ref it) (.ref D) (compEnvC scope (cellsFrom (s3.heap.objs.size + 1) scope.names (cloFrom X.env.cells scope.names [])) s3.heap.objs.size X.env)) (compPost (model X.prog X.w) X.A X.xe none (EP X pins σ Q) (.ref D) s3.heap.objs.size)
    { s3 with heap := pushCells (s3.heap.push { cls := .type "dict", data := .dict #[] }) scope.names }
  rw [← ecl, ← eC]
  obtain ⟨ce, ece⟩ : ∃ ce, ce = compEnvC scope cl C X.env := ⟨_, rfl⟩
  have cL : ce.locals = C := by rw [ece]; rfl
  rw [← ece] at I4 pg pt pe ⊢
  obtain ⟨s4, e4⟩ : ∃ s4 : Shared, s4 = { s3 with heap := pushCells (s3.heap.push { cls := .type "dict", data := .dict #[] }) scope.names } := ⟨_, rfl⟩
  rw [← e4] at I4 ⊢
  have st4 : tn 0 s4.heap := T.keep _ _ _ st3 fun b _ o e => by rw [e4]; exact pushCells_keeps _ _ _ _ (Heap.get?_push_of_some _ e)
  let B : Cx := X.blk s3 H3 scope ce fp
  have stand : ∀ {σ' : L2.St} {H' : Hp} {s' : Shared}, L2.Inv B [] σ' H' s' → (∀ b ∈ fp, H' b = none) → ∀ b ∈ fp, FpOk B [] H' b := fun {σ' H' s'} I' hn b hb =>
    ⟨hn b hb, (I'.ok.exf b hb).1, I'.ok.exfs b hb, .inl hb, fun x c e => (I'.ok.exf b hb).2 x c e, fun p hp => absurd (show p ∈ ([] : List (Addr × Obj)) ++ [] from hp) (by simp)⟩
  have run : codeAny (model X.prog X.w) X.A (.compLoop (.SetComp elt [⟨tg, iter, ifs, 0⟩] scope pos) 0 (.ref it) (.ref D) ce) (compPost (model X.prog X.w) X.A X.xe none (EP X pins σ Q) (.ref D) C) s4 := by
    refine compLoopS_any (fun n s' => ∃ i H', L2.Inv B [] (wipe σ (own.map (·.2))) H' s' ∧ tn i s'.heap ∧ (∀ b ∈ fp, H' b = none) ∧ W i n H') ?_ m0 ⟨0, H3, I4, st4, fun b hb => (f3 b hb).1.1, w0⟩
    rintro n s5 ⟨i, H5, I5, st5, n5, w5⟩
    rcases turn i n H5 w5 with ⟨stop, qq⟩ | ⟨go, Nx, hNx, step⟩
    · refine thnF (T.done B rfl rfl rfl hc i [] s5 _ H5 (fun _ _ => False) I5 (stand I5 n5) st5 stop) fun r s6 ⟨hr, I6⟩ => ?_
      subst hr
      have I7 : L2.Inv X pins σ H5 s6 := I3.call' (ch := fp) I6.os I6.base I6.hok I6.bare fun b hb => let z := (f3 b hb).1.2; ⟨z.2.2.1, z.1, z.2.2.2.1, z.2.2.2.2⟩
      have nC : H5 C = none := by have z : H5 ce.locals = none := I6.free; rw [cL] at z; exact z
      obtain ⟨m, hn, _⟩ := I6.loc
      have hn : s6.heap.Ns ce.locals m := hn
      rw [cL] at hn
      obtain ⟨k0, k1, k2, k3, k4, k5⟩ := I3.fpOk (Nat.le_of_eq eC.symm) nC
      exact ⟨m, hn, fun h'' sb => ⟨.ref D, H5, I7.turned (t' := s6.toks) (fun b o hb e => (sb.2 b hb).trans e) k0 k1 k3 k4 k5, rfl, qq⟩⟩
    · refine thnF (T.item B rfl rfl rfl hc i [] s5 _ H5 (fun _ _ => False) I5 (stand I5 n5) st5 go) fun r s6 ⟨u, hr, h6⟩ => ?_
      subst hr
      refine thnF h6 fun _ s7 ⟨x, H7, I7, r7, y7, st7, n7⟩ => ?_
      refine thnF (pg.run _ s7 _ H7 x u _ (I7.pinned (stand I7 n7) (T.obj _ _ st7)) r7 (step x H7 y7)) fun _ s8 ⟨σ8, H8, I8, hw8, q8⟩ => ?_
      refine thnF (pt.run _ s8 σ8 H8 _ I8 q8) fun b s9 ⟨H9, I9, q9⟩ => ?_
      have over : ∀ {s' : Shared} {H' : Hp}, L2.Inv B ([] ++ pinsAt fp s7.heap) σ8 H' s' → @Nx H' → ∃ m, m < n ∧ ∃ i H', L2.Inv B [] (wipe σ (own.map (·.2))) H' s' ∧ tn i s'.heap ∧ (∀ b ∈ fp, H' b = none) ∧ W i m H' := fun {s' H'} I' nx => by
        obtain ⟨m', hm, w'⟩ := hNx H' nx
        have at_ : ∀ b ∈ fp, ∀ o, s7.heap.get? b = some o → s'.heap.get? b = some o ∧ H' b = none := fun b hb o e => let z := I'.pin (b, o) (List.mem_append_right _ (List.mem_append_right _ (mem_pinsAt hb e))); ⟨z.1, z.2.1⟩
        have len : (wipe σ (own.map (·.2))).length = σ8.length := by rw [← hw8, wipe_length]
        refine ⟨m', hm, i + 1, H', (I'.unpinned (pins := [])).weak len (fun j v e => by rw [← hw8] at e; exact (wipe_some e).1), T.keep _ _ _ st7 fun b hb o e => (at_ b hb o e).1, fun b hb => ?_, w'⟩
        obtain ⟨o, e, _⟩ := T.obj _ _ st7 b hb
        exact (at_ b hb o e).2
      cases b with
      | false => exact over I9 q9
      | true =>
        have q9' : te σ8 H9 fun y H4 => ∃ (z : Str) (l : List Str), y = .str z ∧ H4 D = some (SO X.prog X.w D l) ∧ l.length + 1 < scanBound ∧ ∀ l', (z ∈ l → l' = l) → (z ∉ l → l'.Perm (z :: l)) → @Nx (upd H4 D (SO X.prog X.w D l')) := q9
        refine thnF (pe.run _ s9 σ8 H9 _ I9 q9') fun z s10 ⟨yv, H10, I10, r10, zz, l0, ey, hD10, room, nx⟩ => ?_
        subst ey
        obtain ⟨tk, rfl⟩ := (show ∃ tk, z = Value.str zz tk from r10)
        exact addT_ok (X := B) I10 hD10 room fun s11 l' I11 e1 e2 => over I11 (nx l' e1 e2)
  exact codeAny_compStart_set run (T.self X.A 0 _ _ _ st4 run)
theorem pe_scT (hc : X.calm = true) (hN : X.N.Nodup) (hi : PI X tg iter wi) (ok : BlkOk X.N X.env.scope scope own) (pa : Parts X tg elt ifs scope g tt te) (hs : ∀ x, foldedSetIterable iter X.env x = pure x := by intro _; rfl) :
    PE X (.SetComp elt [⟨tg, iter, ifs, 0⟩] scope pos) (tScT X.prog X.w wi g tt te (own.map (·.2))) :=
  ⟨fun pins s σ H Q I h => by rw [eval_SetComp]; exact sc_run hc hN I hi ok pa hs h⟩
end
end PLs

namespace PL
open PySem PySem.Spec PyProof.Rows L2

/-! ### the frame's own list, read while it still changes -/
section
variable {Y : Ctx} {b e : Expr} {es : List Expr} {eb : TE} {tb t0 : DE} {fa : TA} {t : DA} {x : Str} {p pos apos cpos : Pos}
/-- len(found) -/
def dOlen (i : Nat) : DE := fun ρ c Q => olP ρ[i]? fun l => Q (.int l.length) c
theorem pd_olen (i : Nat) (h : PD Y e (tCB (rLen Y.X.K) (tCons (tVar i) tNil)) t0) : PD Y e (tCB (rLen Y.X.K) (tCons (tVar i) tNil)) (dOlen i) := by
  refine ⟨h.p, fun G H c ρ σ Qd Q R ⟨l, hi, q⟩ k => ?_⟩
  obtain ⟨o, e1, a, xs, rfl, h1, h2, h3, h4, h5⟩ := R.sl i _ hi
  refine ⟨.ref a, e1, .inl ⟨a, xs, rfl, .inl (SqL.of h4), ?_⟩⟩
  rw [h5.length]
  exact k _ _ G H c (Evo.refl R.ok) (.int _) q
/-- found[e] -/
def dOix (i : Nat) (tb : DE) : DE := fun ρ c Q => olP ρ[i]? fun l => tb ρ c fun y c1 => asI y fun k => @atP (L2.atI l k) fun d => Q d c1
theorem pd_oix (i : Nat) (hp : PE Y.X (.Name x p) (tVar i)) (hb : PD Y b eb tb) (hs : PlainIx b := by exact fun _ _ => rfl) : PD Y (.Subscript (.Name x p) b pos) (tOp (rIx Y.X.K) (tVar i) eb) (dOix i tb) := by
  refine ⟨pe_ix ix_seq hp hb.p hs, fun G H c ρ σ Qd Q R ⟨l, hi, q⟩ k => ?_⟩
  obtain ⟨o, e1, a, xs, rfl, h1, h2, h3, h4, h5⟩ := R.sl i _ hi
  refine ⟨.ref a, e1, ?_⟩
  refine hb.s G H c ρ σ _ _ R q fun y v G1 H1 c1 ev r q => ?_
  obtain ⟨j, rfl, d, hd, q⟩ := q
  cases r
  obtain ⟨v, hv, rv⟩ := h5.atI hd
  exact .inl ⟨a, xs, j, v, rfl, rfl, SqL.of (ev.keep a _ h4 h2), hv, k d v G1 H1 c1 ev (rv.mono ev.le) q⟩
def lstP (d : D) (P : List D → Prop) : Prop := ∃ m, d = .lst m ∧ P m
theorem ev_lstP {m : List D} {P : List D → Prop} : lstP (.lst m) P = P m := by simp [lstP]
/-- found.extend(e) -/
def sExtend (i : Nat) (t : DA) : DS := fun DD ρ c => olP ρ[i]? fun l => t ρ c fun ds c1 => hd1 ds fun d => lstP d fun m => l.length + m.length ≤ 16777216 ∧ @Nx DD.nx (ρ.set i (.ol (l ++ m))) c1
theorem pds_extend (i : Nat) (hp : PE Y.X (.Name x p) (tVar i)) (ha : PDA Y [e] fa t)
    (hfew : ((backTo cpos (starEach [e] Y.X.env)).all (fun x => !x.1) && (backToKw cpos (keywordEach [] Y.X.env)).all (fun x => x.1.isSome)
      && decide ([e].length + ([] : List Keyword).length + (if ([] : List Keyword).isEmpty then 0 else 1) < 30)) = true := by rfl)
    (hline : (apos.endLine == cpos.line) = true := by rfl) (hs : starEach [e] Y.X.env = (false, eval e Y.X.env) :: starEach [] Y.X.env := by rfl) (hplain : (backTo cpos (starEach [] Y.X.env)).any (·.1) = false := by rfl)
    (hbase : attributeBase (.Name x p) "extend" Y.X.env (eval (.Name x p) Y.X.env) = eval (.Name x p) Y.X.env := by rfl) (hsw : swapsWith (.Call (.Attribute (.Name x p) "extend" apos) [e] [] cpos) none pos.line Y.X.env = pure false := by rfl) :
    PDS Y (.Expr (.Call (.Attribute (.Name x p) "extend" apos) [e] [] cpos) pos) (tDrop (tBM Y.X.K "list" rExtend (tVar i) fa)) (sExtend i t) := by
  refine ⟨ps_expr (pe_bm PySem.F.plainAttrs_list PySem.F.slot_list_extend PySem.F.type_list_extend mt_extend hp ha.p hbase hfew hline hs hplain) hsw, ?_⟩
  intro P G H c ρ σ DD EE K R q
  obtain ⟨l, hi, q⟩ := q
  obtain ⟨o, e1, a, xs, rfl, h1, h2, h3, h4, h5⟩ := R.r.sl i _ hi
  refine ⟨.ref a, e1, .inl ⟨rfl, _, SqL.of h4⟩, ?_⟩
  refine ha.s G H c ρ σ _ _ R.r q fun ds vs G1 H1 c1 ev rr ⟨d, ed, m, em, hl, q⟩ => ?_
  subst ed em
  cases rr with
  | cons r1 rr =>
    cases rr
    cases r1 with
    | lst g1 g2 =>
      have R1 := R.r.evo' ev
      have h4' : H1 a = some (.lst xs) := ev.keep a _ h4 h2
      refine ⟨a, _, xs, _, rfl, rfl, h4', ev.ok.same _ _ g1, by rw [h5.length, g2.length, sizeLine_eq]; exact hl, K.nx G1 _ c1 _ _ ⟨R1.put hi e1 ((h5.mono ev.le).append g2), R.le.trans ev.le⟩ q⟩
end

/-! ### x += n, range with a step, max of a list -/
section
variable {Y : Ctx} {a b d e tg : Expr} {ee : TE} {te : DE} {fa : TA} {t : DA} {pos p : Pos}
theorem br_iadd {K : PySem.W.Frag} : Br2 K (rI0 fun i j => .int (i + j)) aAdd := br_I0 fun _ _ _ => .int _
/-- i, i + c, .. (n of them) -/
def stepInts (lo c : Int) (n : Nat) : List D := (List.range n).map fun i => D.int (lo + (i : Nat) * c)
theorem stepInts_get {lo c : Int} {n i : Nat} {d : D} (h : (stepInts lo c n)[i]? = some d) : i < n ∧ d = .int (lo + (i : Nat) * c) := by
  unfold stepInts at h
  rw [List.getElem?_map] at h
  by_cases e : i < n
  · rw [List.getElem?_range e] at h
    cases h
    exact ⟨e, rfl⟩
  · rw [List.getElem?_eq_none (by simpa using e)] at h; cases h
theorem stepInts_length (lo c : Int) (n : Nat) : (stepInts lo c n).length = n := by simp [stepInts]
theorem walkD_step {K : PySem.W.Frag} (lo st : Int) (n : Nat) (G0 : GS) : WalkD K (Itc lo st n) (stepInts lo st n) G0 := by
  intro G H c le ok
  refine ⟨fun i d hd => ?_, by show n ≤ _; rw [stepInts_length]; exact Nat.le_refl _⟩
  obtain ⟨hi, rfl⟩ := stepInts_get hd
  refine ⟨hi, fun v H' y => ?_⟩
  obtain ⟨rfl, rfl⟩ := y
  exact ⟨G, Evo.refl ok, .int _⟩
/-- range(i, j, -1) -/
def downP (ds : List D) (P : List D → Prop) : Prop := ∃ i j : Int, ds = [.int i, .int j, .int (-1)] ∧ (-(2 ^ 62) ≤ i ∧ i < 2 ^ 62 ∧ -(2 ^ 62) ≤ j ∧ j < 2 ^ 62) ∧ P (stepInts i (-1) (i - j).toNat)
def diDown (t : DA) (ρ : DEnv) (c : Nat) (Q : List D → Nat → Prop) : Prop := t ρ c fun ds c1 => downP ds fun L => Q L c1
theorem pdi_range3 {p : Pos} (hm : Y.X.mg "range" = none) (ha : PDA Y [a, b, d] fa t) (hg : Gl Y.X "range" := by rfl) (hs : starEach [a, b, d] Y.X.env = (false, eval a Y.X.env) :: starEach [b, d] Y.X.env := by rfl)
    (hpl : (backTo pos (starEach [b, d] Y.X.env)).any (·.1) = false := by rfl) : PDI Y tg (.Call (.Name "range" p) [a, b, d] [] pos) (iRng3 fa) (diDown t) := by
  refine ⟨pi_range3 hg hm ha.p hs hpl, fun G H c ρ σ Qd R Rl q k => ?_⟩
  refine ha.s G H c ρ σ _ _ Rl q fun ds vs G1 H1 c1 ev r q => ?_
  obtain ⟨i, j, rfl, ⟨b1, b2, b3, b4⟩, q⟩ := q
  cases r with
  | cons r rr =>
    cases rr with
    | cons r' rr =>
      cases rr with
      | cons r'' rr =>
        cases rr; cases r; cases r'; cases r''
        exact ⟨i, j, -1, _, rfl, RgC.neg b1 b2 b3 b4, k _ _ G1 H1 c1 ev (walkD_step i (-1) _ G1) q⟩
/-- max of a list of whole numbers -/
def maxP (ds : List D) (P : Int → Prop) : Prop := ∃ l ns m, ds = [.lst l] ∧ intsD l = some ns ∧ m ∈ ns ∧ (∀ y, y ∈ ns → y ≤ m) ∧ P m
def aMaxL (ds : List D) (c : Nat) (Q : QD) : Prop := maxP ds fun m => Q (.int m) c
theorem br_maxL {K : PySem.W.Frag} : BrN K (rMax K) aMaxL := fun G H c xs ds Qd Q ok r q k => by
  obtain ⟨l, ns, m, rfl, hn, hm, hle, q⟩ := q
  cases r with
  | cons r rr =>
    cases rr
    cases r with
    | @lst a vs _ h1 h2 =>
      refine ⟨a, ns, rfl, ?_, List.length_pos_of_mem hm, fun m' hm' hle' => ?_⟩
      · rw [← intsD_rp hn h2]; exact ok.sq h1
      · rw [show m' = m from Int.le_antisymm (hle _ hm') (hle' _ hm)]
        exact k _ _ G H c (Evo.refl ok) (.int _) q
end
end PL

set_option maxHeartbeats 2000000
namespace PLs
open PySem PySem.Spec PyProof.Rows L2

/-! ### set(xs), xs a list of texts -/
/-- the members l are what stands among the first i of xs -/
structure GotS (xs : List Str) (i : Nat) (l : List Str) : Prop where
  len : l.length ≤ i
  mem : ∀ x, x ∈ l ↔ x ∈ xs.take i
  nd : l.Nodup
theorem GotS.next {xs : List Str} {i : Nat} {l l' : List Str} {x : Str} (g : GotS xs i l) (hx : xs[i]? = some x) (e1 : x ∈ l → l' = l) (e2 : x ∉ l → l'.Perm (x :: l)) : GotS xs (i + 1) l' := by
  have tk : ∀ y, y ∈ xs.take (i + 1) ↔ (y ∈ xs.take i ∨ y = x) := fun y => by rw [List.take_succ, hx]; simp
  by_cases c : x ∈ l
  · rw [e1 c]
    refine ⟨Nat.le_succ_of_le g.len, fun y => ?_, g.nd⟩
    rw [tk, ← g.mem]
    exact ⟨.inl, fun z => z.elim id fun e => e ▸ c⟩
  · have p := e2 c
    refine ⟨by rw [p.length_eq]; exact Nat.succ_le_succ g.len, fun y => ?_, p.nodup_iff.mpr (List.nodup_cons.mpr ⟨c, g.nd⟩)⟩
    rw [tk, ← g.mem, p.mem_iff, List.mem_cons]
    exact ⟨fun z => z.elim .inr .inl, fun z => z.elim .inr .inl⟩
section
variable {P : Program} {w : World} {A : Around} {E : Value → Shared → Prop} {s : Shared}
theorem setT_moved {wr : List Addr} {G : Array GenState → Array GenState → Prop} {s s' : Shared} {S : Addr} {l : List Str} (h : SetT P w s.heap S l) (m : Moved wr G s s') (hS : S ∉ wr) : SetT P w s'.heap S l := SetG.at h fun o e => m.heap S o hS e
theorem set_loopT {I : Addr} {fp wr : List Addr} {G : Array GenState → Array GenState → Prop} {n : Nat} {Pv : Nat → Value → Prop} {St : Nat → Shared → Prop} {R : Result → Shared → Prop} (W : WalksS P w A.in1 I fp wr G n Pv St) (S : Addr) (out : S ∉ fp)
    (xs : List Str) (hn : n = xs.length) (hval : ∀ i v, Pv i v → ∃ x t, xs[i]? = some x ∧ v = .str x t) (room : n + 1 < scanBound) (h0 : Heap) (hS0 : h0.get? S = none) (hw0 : ∀ b ∈ wr, h0.get? b = none) :
    ∀ (k i : Nat) (s : Shared), i + k = n → St i s → (∀ b o, h0.get? b = some o → s.heap.get? b = some o) → (∃ l, SetT P w s.heap S l ∧ GotS xs i l) →
      (∀ s' l, Moved (S :: wr) G s s' → SetT P w s'.heap S l → GotS xs n l → (∀ b o, h0.get? b = some o → s'.heap.get? b = some o) → R (.ok (.ret .none)) s') →
      codeAny (model P w) A (.builtin "set.update.loop" ⟨[.ref S, .ref I], []⟩) R s := by
  have nw : S ∉ wr := fun h => out (W.sub _ h)
  have up : ∀ b ∈ wr, b ∈ S :: wr := fun b => List.mem_cons_of_mem _
  have old : ∀ {s s' : Shared}, Moved wr G s s' → (∀ b o, h0.get? b = some o → s.heap.get? b = some o) → ∀ b o, h0.get? b = some o → s'.heap.get? b = some o := fun m kp b o e => m.heap b o (fun hb => nomatch (hw0 b hb).symm.trans e) (kp b o e)
  intro k
  induction k with
  | zero =>
    rintro i s rfl hst kp ⟨l, hl, g⟩ fin
    refine codeAny_builtin F.entry_set_update_loop ?_
    rw [Around.under_plainId F.plain_set_update_loop _]
    refine wpAny_bind (W.done s _ _ hst fun s' m => ?_)
    exact wpAny_pure (fin s' l (m.mono up) (setT_moved hl m nw) g (old m kp))
  | succ k ih =>
    rintro i s hk hst kp ⟨l, hl, g⟩ fin
    have lt : i < n := by omega
    refine codeAny_builtin F.entry_set_update_loop ?_
    rw [Around.under_plainId F.plain_set_update_loop _]
    refine wpAny_bind (W.item i s _ _ lt hst fun v s1 hP st1 m => ?_)
    obtain ⟨x, t, hx, rfl⟩ := hval i v hP
    have l1 := setT_moved hl m nw
    refine wpAny_bind (wpAny_holding ?_)
    unfold setAdd
    refine wpAny_holding (wpAny_bind ((PySem.strKind P w).pyHash (isStr_self P w x t) ?_))
    refine add_hashed (s := { s1 with toks := s1.toks + 1 }) (isStr_self P w x t) rfl l1 (by have := g.len; omega) fun h' l' b sb new e1 e2 => ?_
    have kp' : ∀ b o, h0.get? b = some o → h'.get? b = some o := fun b o e => (sb.2 b fun z => nomatch (z ▸ hS0).symm.trans e).trans (old m kp b o e)
    refine wpAny_pure ⟨plainId_quiet F.plain_set_update_loop _, ih (i + 1) _ (by omega) (W.frame _ s1 _ _ st1 (Nat.le_succ _) fun b hb o e => ?_) kp' ⟨l', new, g.next hx e1 e2⟩ fun s2 l2 m2 n2 g2 kp2 => ?_⟩
    · rw [sb.2 b fun z => out (z ▸ hb)]; exact e
    · refine fin s2 l2 (Moved.trans W.gtrans ((m.mono up).then_heap (Nat.le_succ _) fun b o hb e => ?_) m2) n2 g2 kp2
      rw [sb.2 b fun z => hb (z ▸ List.mem_cons_self)]; exact e
theorem none_ge {h : Heap} {b : Addr} (hb : h.objs.size ≤ b) : h.get? b = none := by
  cases q : h.get? b with
  | none => rfl
  | some o => exact absurd (Heap.lt_size q) (Nat.not_lt.mpr hb)
theorem strs_at : ∀ {vs : List Value} {xs : List Str}, StrsAre vs xs → ∀ (i : Nat) (v : Value), vs[i]? = some v → ∃ x t, xs[i]? = some x ∧ v = .str x t
  | _, _, .nil, i, v, e => by simp at e
  | _, _, .cons x t r, 0, v, e => by simp at e; exact ⟨x, t, rfl, e.symm⟩
  | _, _, .cons x t r, i + 1, v, e => by
    obtain ⟨y, t', h1, h2⟩ := strs_at r i v (by simpa using e)
    exact ⟨y, t', by simpa using h1, h2⟩
/-- the fresh set -/
abbrev newT (w : World) : Obj := { cls := .type "set", dict := none, data := .set #[] 0 (.fresh 0 0 (!w.params.followText "set-order")) }
theorem call_set_texts {a : Addr} {items : Array Value} {xs : List Str} {Q : Value → Shared → Prop} (hh : A.handled = none) (hl : s.heap.IsList a items) (hi : StrsAre items.toList xs) (room : xs.length + 1 < scanBound)
    (h : ∀ (h' : Heap) (tk : Nat) l, SetT P w h' s.heap.objs.size l → GotS xs xs.length l → (∀ b o, s.heap.get? b = some o → h'.get? b = some o) → Q (.ref s.heap.objs.size) { s with heap := h', toks := tk }) : wpAny (model P w) A (call (.type "set") [.ref a]) Q E s := by
  have sz : items.size = xs.length := by rw [← Array.length_toList]; exact hi.length
  obtain ⟨c, tl, hmro⟩ := F.called_set.mro
  have k1 := F.called_set.made
  have k2 := F.called_set.sub
  have k3 := F.called_set.notType
  have k4 := F.called_set.canCreate
  have k5 := F.typeCall_set_1 (.ref a)
  refine wpAny_call (codeAny_of_tree ?_)
  show wpAny _ _ (callAny (.type "set") _) _ _ _
  refine wpAny_pure ⟨Code.quiet_builtin _ (by decide +kernel), codeAny_builtin F.entry_type_call ?_⟩
  rw [Around.under_plain (weight_type_call_type "set" [.ref a] []) rfl]
  repeat (any_goals (first | assumption | wp_step))
  refine codeAny_mono (code_set_led1 (.ref a) (E := E) (Q₁ := fun obj s₁ => obj = .ref s.heap.objs.size ∧ s₁ = { s with heap := s.heap.push (newT w) }) ⟨rfl, rfl⟩) fun r s₁ hr => ?_
  cases r with
  | error e => exact hr
  | ok fl =>
    cases fl with
    | ret obj =>
      obtain ⟨rfl, rfl⟩ := hr
      have at0 : (s.heap.push (newT w)).get? s.heap.objs.size = some (newT w) := Heap.get?_push_size _ rfl
      have ty0 : Shared.TypeIs { s with heap := s.heap.push (newT w) } (.ref s.heap.objs.size) "set" := ⟨_, at0, rfl⟩
      have i1 := F.called_set.init.lookup
      have i2 := F.called_set.init.bind (.ref s.heap.objs.size)
      repeat (any_goals (first | assumption | wp_step))
      refine codeAny_mono (codeAny_call_builtin (R := wants (fun r s₂ => r = .none ∧ ∃ h' tk l, s₂ = { s with heap := h', toks := tk } ∧ SetT P w h' s.heap.objs.size l ∧ GotS xs xs.length l ∧ (∀ b o, s.heap.get? b = some o → h'.get? b = some o)) E) F.called_set.init.plain F.entry_set_init (check_set_init_1 ty0 ?_)) fun r₂ s₂ hr₂ => ?_
      · obtain ⟨ol, hol, hcl, nl, hdl⟩ := hl
        obtain ⟨ocls, odict, odata, oslots⟩ := ol
        simp only at hcl hdl
        subst hcl; subst hdl
        have at1 : (s.heap.push (newT w)).get? a = some { cls := .type "list", dict := odict, data := .seq items nl, slots := oslots } := Heap.get?_push_of_some _ hol
        have j1 := F.sub_list_set
        have j2 := F.sub_list_frozenset
        have j3 : (Value.type "list" == Value.type "dict") = false := by decide
        have lst1 : (s.heap.push (newT w)).IsList a items := ⟨_, at1, rfl, nl, rfl⟩
        unfold Builtin.«set.__init__» noKeywords Builtin.Frozenset.updateFrom
        generalize hPI : pyIter = PI
        wp_walk
        subst hPI
        refine wpAny_pyIter_list lst1 (wpAny_bind (wpAny_runValue ?_))
        have la : a < s.heap.objs.size := Heap.lt_size hol
        have h3 : A.in1.in1.in1.handled = none := by simp [hh]
        have ze : (s.heap.push (newT w)).objs.size = s.heap.objs.size + 1 := Heap.size_push ..
        have ne1 : a ≠ (s.heap.push (newT w)).objs.size := by rw [ze]; exact Nat.ne_of_lt (Nat.lt_succ_of_lt la)
        have out : s.heap.objs.size ∉ [(s.heap.push (newT w)).objs.size, a] := by
          rw [ze]; simp only [List.mem_cons, List.not_mem_nil, or_false, not_or]
          exact ⟨Nat.ne_of_lt (Nat.lt_succ_self _), Nat.ne_of_gt la⟩
        refine set_loopT ((Walks.list h3 _ a ne1 items).toS) s.heap.objs.size out xs sz (fun i v hv => strs_at hi i v (by rw [Array.getElem?_toList]; exact hv)) (by omega) s.heap (none_ge (Nat.le_refl _))
          (fun b hb => none_ge (by rw [List.mem_singleton.mp hb, ze]; exact Nat.le_succ _)) items.size 0 _ (Nat.zero_add _) ⟨⟨_, Heap.get?_push_size _ rfl, rfl, rfl⟩, (lst1.push _)⟩
          (fun b o e => Heap.get?_push_of_some _ (Heap.get?_push_of_some _ e)) ⟨[], SetG.at setT_fresh fun o e => Heap.get?_push_of_some _ e, Nat.le_refl _, fun x => by simp, List.nodup_nil⟩ ?_
        intro s' l m hS' g' kp
        obtain ⟨h', g2, d', tk', os'⟩ := s'
        have eg : g2 = s.gens := m.gens
        have ed : d' = s.drawn := m.drawn
        have eo : os' = s.os := m.os
        subst eg ed eo
        show wpAny _ _ _ _ _ _
        refine wpAny_pure ?_
        show wpAny _ _ (ret Value.none) _ _ _
        rw [sz] at g'
        exact wpAny_pure ⟨rfl, h', tk', l, rfl, hS', g', kp⟩
      · cases r₂ with
        | error e => exact hr₂
        | ok fl₂ =>
          cases fl₂ with
          | ret r =>
            obtain ⟨rfl, h', tk, l, rfl, hS', g', hk'⟩ := hr₂
            repeat (any_goals (first | assumption | wp_step))
            exact h _ _ _ hS' g' hk'
          | _ => exact hr₂.elim
    | _ => exact hr.elim
end
section
variable {X : Cx}
def rSetT (K : PySem.W.Frag) (P : Program) (w : World) : List V → Hp → VK → Prop := fun vs H Q => ∃ (a : Addr) (xs : List Str), vs = [V.ref a] ∧ SqL K H a (xs.map V.str) ∧ xs.length + 1 < scanBound ∧ ∀ p l, H p = none → GotS xs xs.length l → Q (.ref p) (upd H p (SO P w p l))
theorem strs_of_vals : ∀ {xs : List Str} {us : List Value}, Vals (xs.map V.str) us → StrsAre us xs
  | [], _, h => by cases h; exact .nil
  | x :: xs, _, h => by
    cases h with
    | cons r h => obtain ⟨t, rfl⟩ := r; exact .cons x t (strs_of_vals h)
theorem cr_setT (hc : X.calm = true) : CallR X (.type "set") (rSetT X.K X.prog X.w) := by
  intro pins s σ H vs us Q I r h
  obtain ⟨a, xs, rfl, ha, room, q⟩ := h
  rw [Vals.ref1 r]
  obtain ⟨its, rv, pl, hz⟩ := I.list ha
  have hn : H s.heap.objs.size = none := I.hok.fresh (Nat.le_refl _)
  refine call_set_texts (P := X.prog) (w := X.w) (I.ok.hd hc) pl.isList (by simpa using strs_of_vals rv) room fun h' tk l R g k => ?_
  exact ⟨.ref s.heap.objs.size, upd H s.heap.objs.size (SO X.prog X.w s.heap.objs.size l), I.laid (t' := tk) k (Nat.le_refl _) (so_new R), rfl, q _ l hn g⟩
end
end PLs

namespace PL
open PySem PySem.Spec PyProof.Rows L2 PLs

/-! ### the texts of a list, each once, in order -/
def leU (a b : Str) : Bool := !ltCps b.cps.toList a.cps.toList
def dedU : List Str → List Str
  | [] => []
  | x :: l => if x ∈ dedU l then dedU l else x :: dedU l
def sortU (l : List Str) : List Str := (dedU l).mergeSort leU
theorem mem_dedU {x : Str} : ∀ {l : List Str}, x ∈ dedU l ↔ x ∈ l
  | [] => Iff.rfl
  | y :: l => by
    unfold dedU
    by_cases c : y ∈ dedU l
    · rw [if_pos c, mem_dedU, List.mem_cons]
      exact ⟨.inr, fun z => z.elim (fun e => e ▸ mem_dedU.mp c) id⟩
    · rw [if_neg c, List.mem_cons, List.mem_cons, mem_dedU]
theorem nodup_dedU : ∀ l : List Str, (dedU l).Nodup
  | [] => List.nodup_nil
  | y :: l => by
    unfold dedU
    by_cases c : y ∈ dedU l
    · rw [if_pos c]; exact nodup_dedU l
    · rw [if_neg c]; exact List.nodup_cons.mpr ⟨c, nodup_dedU l⟩
theorem length_dedU : ∀ l : List Str, (dedU l).length ≤ l.length
  | [] => Nat.le_refl _
  | y :: l => by
    unfold dedU
    have := length_dedU l
    split
    · exact Nat.le_succ_of_le this
    · exact Nat.succ_le_succ this
theorem leU_iff {a b : Str} : leU a b = true ↔ a.cps.toList ≤ b.cps.toList := by
  unfold leU
  rw [ltCps_eq, Bool.not_eq_true', decide_eq_false_iff_not]
  exact List.not_lt
theorem leU_trans (a b c : Str) (h1 : leU a b = true) (h2 : leU b c = true) : leU a c = true := leU_iff.mpr (List.le_trans (leU_iff.mp h1) (leU_iff.mp h2))
theorem leU_total (a b : Str) : (leU a b || leU b a) = true := by
  rw [Bool.or_eq_true, leU_iff, leU_iff]
  exact List.le_total _ _
theorem leU_anti {a b : Str} (h1 : leU a b = true) (h2 : leU b a = true) : a = b := by
  have := List.le_antisymm (leU_iff.mp h1) (leU_iff.mp h2)
  cases a; cases b
  simp at this
  rw [this]
theorem risingS_pw : ∀ {p : Str} {l : List Str}, risingS p l = true → (p :: l).Pairwise (fun a b => leU a b = true)
  | p, [], _ => List.pairwise_singleton _ _
  | p, x :: r, h => by
    unfold risingS at h
    rw [Bool.and_eq_true] at h
    have ih := risingS_pw h.2
    refine List.pairwise_cons.mpr ⟨fun y hy => ?_, ih⟩
    rcases List.mem_cons.mp hy with rfl | hy
    · exact h.1
    · exact leU_trans _ _ _ h.1 ((List.pairwise_cons.mp ih).1 y hy)
theorem sortedS_pw {l : List Str} (h : sortedS l = true) : l.Pairwise (fun a b => leU a b = true) := by
  cases l with
  | nil => exact List.Pairwise.nil
  | cons x r => exact risingS_pw h
theorem mem_sortU {x : Str} {l : List Str} : x ∈ sortU l ↔ x ∈ l := by
  unfold sortU
  rw [List.mem_mergeSort, mem_dedU]
theorem length_sortU (l : List Str) : (sortU l).length ≤ l.length := by
  unfold sortU
  rw [List.length_mergeSort]; exact length_dedU l
theorem nodup_sortU (l : List Str) : (sortU l).Nodup := (List.mergeSort_perm _ _).nodup_iff.mpr (nodup_dedU l)
theorem sortU_of {ys l : List Str} (nd : ys.Nodup) (hm : ∀ x, x ∈ ys ↔ x ∈ l) (hs : sortedS ys = true) : ys = sortU l := by
  refine List.Perm.eq_of_pairwise (le := fun a b => leU a b = true) (fun a b _ _ => leU_anti) (sortedS_pw hs) (List.pairwise_mergeSort leU_trans leU_total _) ?_
  exact (List.perm_ext_iff_of_nodup nd (nodup_sortU l)).mpr fun x => by rw [hm, mem_sortU]
theorem sortU_congr {l m : List Str} (h : ∀ x, x ∈ l ↔ x ∈ m) : sortU l = sortU m := by
  refine List.Perm.eq_of_pairwise (le := fun a b => leU a b = true) (fun a b _ _ => leU_anti) (List.pairwise_mergeSort leU_trans leU_total _) (List.pairwise_mergeSort leU_trans leU_total _) ?_
  exact (List.perm_ext_iff_of_nodup (nodup_sortU l) (nodup_sortU m)).mpr fun x => by rw [mem_sortU, mem_sortU, h]
theorem sortU_nil : sortU [] = [] := by simp [sortU, dedU]

/-! ### sorted(set(xs)) -/
section
variable {K : PySem.W.Frag} {G : GS}
theorem strs_rp : ∀ {xs : List Str} {vs : List V}, RpAll K G vs (xs.map D.str) → vs = xs.map V.str
  | [], _, h => by cases h; rfl
  | x :: xs, _, h => by
    cases h with
    | cons r h => cases r; rw [strs_rp h]; rfl
theorem rp_strs : ∀ (xs : List Str), RpAll K G (xs.map V.str) (xs.map D.str)
  | [] => .nil
  | x :: xs => .cons (.str x) (rp_strs xs)
end
def strsP (d : D) (P : List Str → Prop) : Prop := ∃ xs, d = .lst (xs.map D.str) ∧ P xs
theorem ev_strsP {xs : List Str} {P : List Str → Prop} (h : strsP (.lst (xs.map D.str)) P) : strsP (.lst (xs.map D.str)) P := h
theorem strsP.mk {xs : List Str} {P : List Str → Prop} (h : P xs) : strsP (.lst (xs.map D.str)) P := ⟨xs, rfl, h⟩
def dSortSet (t : DA) : DE := fun ρ c Q => t ρ c fun ds c1 => hd1 ds fun d => strsP d fun xs => xs.length + 1 < 4096 ∧ Q (.lst ((sortU xs).map D.str)) c1
section
variable {Y : Ctx} {e : Expr} {es : List Expr} {fa : TA} {t : DA} {p p2 pos pos2 : Pos}
theorem pd_sortSet (hc : Y.X.calm = true) (hm : Y.X.mg "sorted" = none) (hm2 : Y.X.mg "set" = none) (ha : PDA Y [e] fa t) (hg : Gl Y.X "sorted" := by rfl) (hg2 : Gl Y.X "set" := by rfl) (he : starEach [e] Y.X.env = (false, eval e Y.X.env) :: starEach [] Y.X.env := by rfl) :
    PD Y (.Call (.Name "sorted" p) [.Call (.Name "set" p2) [e] [] pos2] [] pos) (tCB (rSortedT Y.X.prog Y.X.w) (tCons (tCB (rSetT Y.X.K Y.X.prog Y.X.w) fa) tNil)) (dSortSet t) := by
  refine ⟨pe_callB (cr_sortedT hc) hg hm (by decide +kernel) (pa_cons (pe_callTy (cr_setT hc) hg2 hm2 (by decide +kernel) ha.p (by decide) (by decide) he (by rfl)) pa_nil (by rfl)) (by decide) (by decide) (by rfl) (by rfl), ?_⟩
  intro G H c ρ σ Qd Q R q k
  refine ha.s G H c ρ σ _ _ R q fun ds vs G1 H1 c1 ev rr ⟨d, ed, xs, ex, room, q⟩ => ?_
  subst ed ex
  cases rr with
  | cons r rr =>
    cases rr
    cases r with
    | @lst a ys _ g1 g2 =>
      have e2 := strs_rp g2
      subst e2
      refine ⟨a, xs, rfl, ev.ok.sq g1, room, fun p l np g => ?_⟩
      refine ⟨p, l, rfl, upd_same, fun ys b pm hs nb => ?_⟩
      have ev2 := Evo.laidU ev.ok (SO Y.X.prog Y.X.w p l) np
      have es : ys = sortU xs := sortU_of (pm.nodup_iff.mpr g.nd) (fun x => by rw [pm.mem_iff, g.mem, List.take_length]) hs
      subst es
      exact k _ _ _ _ c1 ((ev.trans ev2).trans (Evo.laid ev2.ok _ nb)) (Rp.newLst ev2.ok nb (rp_strs _)) q
end

/-! ### sorted({e for x in xs if ..}) -/
/-- an object of the frame's own that is no list: it stands, nothing is settled of it -/
structure HasO (G : GS) (H : Hp) (a : Addr) (o : HO) : Prop where
  h : H a = some o
  f : G.f a = none
  p : ¬ G.pu a
theorem HasO.evo {G G' : GS} {H H' : Hp} {c c' : Nat} {a : Addr} {o : HO} (h : HasO G H a o) (e : Evo G H c G' H' c') : HasO G' H' a o := ⟨e.keep a o h.h h.p, e.new a o h.h h.f, fun z => h.p (e.npu a o h.h z)⟩
theorem Rel.mutX {Y : Ctx} {G : GS} {H : Hp} {c : Nat} {ρ : DEnv} {σ : L2.St} {a : Addr} {o o' : HO} (R : Rel Y G H c ρ σ) (h : HasO G H a o) (no : ∀ xs, o ≠ .lst xs) (h0 : Y.H0 a = none) (no2 : ∀ xs, o ≠ .dK xs := by exact fun _ e => nomatch e) : Rel Y G (upd H a o') c ρ σ := by
  have ev := R.evo.mut (o := o') h0 h.f h.p
  refine ⟨ev.ok, ev, R.len, fun i s e => ?_, R.sep, R.lo⟩
  obtain ⟨q, e1, r⟩ := R.sl i s e
  refine ⟨q, e1, ?_⟩
  cases s with
  | no => trivial
  | fz d => exact r
  | ol ds =>
    obtain ⟨b, xs, rfl, h1, h2, h3, h4, h5⟩ := r
    have ne : b ≠ a := fun z => by subst z; exact no xs (Option.some.inj (h.h.symm.trans h4))
    exact ⟨b, xs, rfl, h1, h2, h3, by rw [upd_ne ne]; exact h4, h5⟩
  | od ks ds =>
    obtain ⟨b, xs, rfl, h1, h2, h3, h4, h5⟩ := r
    have ne : b ≠ a := fun z => by subst z; exact no2 xs (Option.some.inj (h.h.symm.trans h4))
    exact ⟨b, xs, rfl, h1, h2, h3, by rw [upd_ne ne]; exact h4, h5⟩
def ScB (g : DG) (tt : DT) (te : DE) (vs : List Nat) (ρ : DEnv) (L : List D) (c1 : Nat) (Q : List Str → Nat → Prop) : Prop := ∃ I : Nat → List Str → Nat → Prop, I 0 [] c1 ∧
  (∀ k x acc c, L[k]? = some x → I k acc c → g x (wipeD ρ vs) c fun ρ2 c2 => tt ρ2 c2 fun b c3 => if b = true then te ρ2 c3 fun y c4 => ∃ z, y = .str z ∧ acc.length + 1 < 4096 ∧ I (k + 1) (acc ++ [z]) c4 else I (k + 1) acc c3) ∧ ∀ acc c, I L.length acc c → Q acc c
def dSortSc (ti : DI) (g : DG) (tt : DT) (te : DE) (vs : List Nat) : DE := fun ρ c Q => ti ρ c fun L c1 => ScB g tt te vs ρ L c1 fun acc c2 => Q (.lst ((sortU acc).map D.str)) c2
/-- the members l are the texts met -/
structure GotA (acc l : List Str) : Prop where
  len : l.length ≤ acc.length
  mem : ∀ x, x ∈ l ↔ x ∈ acc
  nd : l.Nodup
theorem GotA.next {acc l l' : List Str} {x : Str} (g : GotA acc l) (e1 : x ∈ l → l' = l) (e2 : x ∉ l → l'.Perm (x :: l)) : GotA (acc ++ [x]) l' := by
  have tk : ∀ y, y ∈ acc ++ [x] ↔ (y ∈ acc ∨ y = x) := fun y => by simp
  by_cases c : x ∈ l
  · rw [e1 c]
    refine ⟨by rw [List.length_append]; exact Nat.le_trans g.len (Nat.le_add_right _ _), fun y => ?_, g.nd⟩
    rw [tk, ← g.mem]
    exact ⟨.inl, fun z => z.elim id fun e => e ▸ c⟩
  · have p := e2 c
    refine ⟨by rw [p.length_eq, List.length_append]; exact Nat.succ_le_succ g.len, fun y => ?_, p.nodup_iff.mpr (List.nodup_cons.mpr ⟨c, g.nd⟩)⟩
    rw [tk, ← g.mem, p.mem_iff, List.mem_cons]
    exact ⟨fun z => z.elim .inr .inl, fun z => z.elim .inr .inl⟩
section
variable {Y : Ctx} {iter tg elt : Expr} {ifs : List Expr} {wi : TI} {ti : DI} {gg : TG} {g : DG} {eA : TT} {tA : DT} {ee : TE} {te : DE} {scope : Scope} {own : List (Str × Nat)} {p pos pos2 : Pos}
theorem SO_ne {P : Program} {w : World} {a : Addr} {l : List Str} : ∀ xs, SO P w a l ≠ .lst xs := fun xs e => by cases e
theorem sc_sim (hi : SimI Y wi ti) (b : Blk Y tg elt ifs scope gg g eA tA ee te (own.map (·.2))) : SimE Y (tCB (rSortedT Y.X.prog Y.X.w) (tCons (tScT Y.X.prog Y.X.w wi gg eA ee (own.map (·.2))) tNil)) (dSortSc ti g tA te (own.map (·.2))) := by
  intro G H c ρ σ Qd Q R q k
  have sg := (b.g Y.X.s_0 Y.X.H_0 0 [] []).s
  have st := (b.t Y.X.s_0 Y.X.H_0 0 [] []).s
  have se := (b.e Y.X.s_0 Y.X.H_0 0 [] []).s
  generalize own.map (·.2) = vs at *
  refine hi G H c ρ σ _ _ R q fun L J G1 H1 c1 ev wk q a ha => ?_
  obtain ⟨I, i0, step, fin⟩ := q
  have RR := R.evo' ev
  have h0 : Y.H0 a = none := RR.entry_none ha
  have lay := Evo.laidU ev.ok (SO Y.X.prog Y.X.w a []) ha
  refine ⟨fun i m H => m = L.length - i ∧ i ≤ L.length ∧ ∃ G c acc l, Rel Y G H c (wipeD ρ vs) (L2.wipe σ vs) ∧ Evo G1 H1 c1 G H c ∧ HasO G H a (SO Y.X.prog Y.X.w a l) ∧ GotA acc l ∧ I i acc c,
    ⟨_, rfl, Nat.zero_le _, G1, c1, [], [], (RR.evo' lay).wipe vs, lay, ⟨upd_same, ev.ok.fnone ha, ev.ok.punone ha⟩, ⟨Nat.le_refl _, fun _ => Iff.rfl, List.nodup_nil⟩, i0⟩, ?_⟩
  rintro i m H ⟨rfl, hil, G, c, acc, l, R2, e2, ho, got, ii⟩
  obtain ⟨wgo, wst⟩ := wk G H c e2.le e2.ok
  by_cases hlt : i < L.length
  · have hx : L[i]? = some L[i] := by simp [hlt]
    refine .inr ⟨(wgo i L[i] hx).1, fun H' => ∃ G c acc l, Rel Y G H' c (wipeD ρ vs) (L2.wipe σ vs) ∧ Evo G1 H1 c1 G H' c ∧ HasO G H' a (SO Y.X.prog Y.X.w a l) ∧ GotA acc l ∧ I (i + 1) acc c, fun H' z => ⟨L.length - (i + 1), by omega, rfl, hlt, z⟩, fun x H' y => ?_⟩
    obtain ⟨G', e', r'⟩ := (wgo i L[i] hx).2 x H' y
    have R3 := R2.evo' e'
    refine sg G' H' c _ _ L[i] x _ _ R3.toBlk r' (step i _ acc c hx ii) fun ρ2 σ2 R4 off q2 => ⟨?_, ?_⟩
    · rw [off vs fun _ h => h, wipe_wipe σ vs vs fun _ h => h]
    · refine st G' H' c ρ2 σ2 _ _ R4 q2 fun bb G5 H5 c5 e5 q5 => ?_
      have R5 := R3.evo' e5
      cases bb with
      | false =>
        rw [if_neg Bool.false_ne_true] at q5 ⊢
        exact ⟨G5, c5, acc, l, R5, (e2.trans e').trans e5, (ho.evo e').evo e5, got, q5⟩
      | true =>
        rw [if_pos rfl] at q5 ⊢
        refine se G5 H5 c5 ρ2 σ2 _ _ (R4.evo' e5) q5 fun d v G6 H6 c6 e6 r6 ⟨z, ez, room, q6⟩ => ?_
        subst ez
        cases r6
        have h6 := ((ho.evo e').evo e5).evo e6
        refine ⟨z, l, rfl, h6.h, Nat.lt_of_le_of_lt (Nat.succ_le_succ got.len) room, fun l' d1 d2 => ?_⟩
        exact ⟨G6, c6, acc ++ [z], l', (R5.evo' e6).mutX h6 SO_ne h0, (((e2.trans e').trans e5).trans e6).mut ha h6.f h6.p, ⟨upd_same, h6.f, h6.p⟩, got.next d1 d2, q6⟩
  · have e : i = L.length := by omega
    subst e
    refine .inl ⟨wst, a, l, rfl, ho.h, fun ys p pm hs np => ?_⟩
    have es : ys = sortU acc := sortU_of (pm.nodup_iff.mpr got.nd) (fun x => by rw [pm.mem_iff, got.mem]) hs
    subst es
    exact k _ _ _ _ c ((ev.trans e2).trans (Evo.laid e2.ok _ np)) (Rp.newLst e2.ok np (rp_strs _)) (fin acc c ii)
theorem pd_sortSc (hc : Y.X.calm = true) (hN : Y.X.N.Nodup) (hm : Y.X.mg "sorted" = none) (hi : PDI Y tg iter wi ti) (ok : BlkOk Y.X.N Y.X.env.scope scope own) (b : Blk Y tg elt ifs scope gg g eA tA ee te (own.map (·.2)))
    (hs : ∀ x, foldedSetIterable iter Y.X.env x = pure x := by intro _; rfl) (hg : Gl Y.X "sorted" := by rfl) : PD Y (.Call (.Name "sorted" p) [.SetComp elt [⟨tg, iter, ifs, 0⟩] scope pos2] [] pos) (tCB (rSortedT Y.X.prog Y.X.w) (tCons (tScT Y.X.prog Y.X.w wi gg eA ee (own.map (·.2))) tNil)) (dSortSc ti g tA te (own.map (·.2))) :=
  ⟨pe_callB (cr_sortedT hc) hg hm (by decide +kernel) (pa_cons (pe_scT hc hN hi.p ok ⟨fun s H C cl fp => (b.g s H C cl fp).p, fun s H C cl fp => (b.t s H C cl fp).p, fun s H C cl fp => (b.e s H C cl fp).p⟩ hs) pa_nil (by rfl)) (by decide) (by decide) (by rfl) (by rfl), sc_sim hi.s b⟩
end
end PL

set_option maxHeartbeats 1000000
namespace PL
open PySem PySem.Spec PyProof.Rows L2 PLs
open PySem.W in
section
variable {prog : Program} {w : World} {A : Around} {E : Value → Shared → Prop} {s : Shared} {K : Frag} {x C L f : Addr} {h₀ : Heap} {m : Str → Option Value} {ox : Obj} {od : Option Obj}
theorem fillsI_K {M : Model} {h : Heap} {nm : String} {add : Bool} {cd : ClassData} (X : K.In h) (hc : clsIn K C = some cd) (hn : ∀ c ∈ cd.mro, findIn K c (PySem.dunderI nm) = some none) : Looks M h (fillsInplaceSlot (.ref C) nm add) false := by
  intro A Q E s k q
  unfold fillsInplaceSlot
  refine wpAny_bind ((looks_clsIn X hc).andThen (f := fun cd => pure cd.mro) .now A _ E s k ?_)
  revert hn
  generalize cd.mro = l
  intro hn
  induction l with
  | nil => exact wpAny_pure q
  | cons c l ih =>
    rw [List.anyM_cons]
    refine wpAny_bind (wpAny_bind (looks_findIn X (hn c List.mem_cons_self) A _ E s k ?_))
    dsimp only
    refine wpAny_pure ?_
    rw [if_neg Bool.false_ne_true]
    exact ih fun d hd => hn d (List.mem_cons_of_mem _ hd)
/-- x op= b of two instances of a class without an own op=, with an own op -/
theorem iop_K {op : Operator} {b : Value} {Q : Value → Shared → Prop} (F : Fr h₀ L s.heap m) (X₀ : K.In h₀) (I : InstAt s.heap x ox C od) (hb : Looks (model prog w) s.heap (typeOf b) (.ref C)) (hc : selfFirst K C = true) (hn : ∀ cd, clsIn K C = some cd → ∀ c ∈ cd.mro, findIn K c (PySem.dunderI op.info.2) = some none)
    (hs : findIn K (.ref C) (PySem.dunder op.info.2) = some (some (.ref f))) (hf : isFn K (.ref f) = true) (h : wpAny (model prog w) A (call (.ref f) [.ref x, b]) (PySem.W.CmpBack Q) E s) : wpAny (model prog w) A (inplaceOp op (.ref x) b) Q E s := by
  have X := X₀.keeps F.keep
  obtain ⟨cd, hcd, hm⟩ := any_some hc
  have hn := hn cd hcd
  obtain ⟨rest, hm⟩ : ∃ rest, cd.mro = .ref C :: rest := by
    cases q : cd.mro with
    | nil => rw [q] at hm; cases hm
    | cons a r => rw [q] at hm; exact ⟨r, by rw [List.head?_cons] at hm; cases (beq_iff_eq.mp hm); rfl⟩
  unfold inplaceOp
  refine wpAny_holding (wpAny_bind (I.type.here (wpAny_bind ((fillsI_K X hcd hn).here ?_))))
  simp only [Bool.false_eq_true, if_false]
  refine wpAny_bind ?_
  unfold binaryOp1
  refine wpAny_bind (I.type.here (wpAny_bind (hb.here (wpAny_bind ((fills_K X hcd hm hs).here ?_)))))
  simp only [beq_self_eq_true, if_true]
  refine wpAny_bind (wpAny_pure ?_)
  simp only [Bool.and_false, Bool.false_eq_true, if_false, Bool.false_and]
  refine wpAny_bind (wpAny_pure ?_)
  simp only [Bool.false_eq_true, if_false]
  refine wpAny_bind (m := tryMethod (.ref x) _ b) ?_
  unfold tryMethod
  refine wpAny_bind (special_fn X I hs (beq_iff_eq.mp hf) (wpAny_mono h (fun v s' hv => ?_) fun _ _ e => e))
  cases v <;> first | exact hv.elim | exact wpAny_pure (wpAny_pure (wpAny_pure hv))
end
/-- x op= y, both instances of the class at C -/
def NoI (K : PySem.W.Frag) (C : Addr) (nm : String) : Prop := ∀ cd, PySem.W.clsIn K C = some cd → ∀ c ∈ cd.mro, PySem.W.findIn K c (PySem.dunderI nm) = some none
def noIB (K : PySem.W.Frag) (C : Addr) (nm : String) : Bool := match PySem.W.clsIn K C with
  | some cd => cd.mro.all fun c => He.eqO (PySem.W.findIn K c (PySem.dunderI nm)) (some none)
  | none => true
theorem noIB_ok {K : PySem.W.Frag} {C : Addr} {nm : String} (h : noIB K C nm = true) : NoI K C nm := fun cd e c hc => by
  unfold noIB at h
  rw [e] at h
  exact He.eqO_ok (List.all_eq_true.mp h c hc)
section
variable {X : Cx} {CX : CXT} {k : Nat} {f C : Addr} {fd : FuncData} {ps : List Str} {sp : Sp} {E : XK} {op : Operator}
theorem op_iopO (h1 : PySem.W.selfFirst X.K C = true) (hn : NoI X.K C op.info.2) (hs : PySem.W.findIn X.K (.ref C) (PySem.dunder op.info.2) = some (some (.ref f))) (hf : PySem.W.isFn X.K (.ref f) = true) (F : FnOk X.prog X.w X.K X.mg X.base CX k f fd ps sp) (hr : Room k X.A) (hb : Binds X.K fd ps [])
    (hx : ∀ σ, PassesAt CX X σ E) : PIp X op fun x y H Q => rBinO C sp (fun _ => E) [] x y H Q := by
  intro pins s σ H x y v u Q I rx ry h
  obtain ⟨a, dx, fs, b, dy, gs, rfl, rfl, ha, hb', q⟩ := h
  cases (show v = Value.ref a from rx)
  cases (show u = Value.ref b from ry)
  obtain ⟨mA, O, _⟩ := ins_get I.hok ha
  obtain ⟨mB, O2, _⟩ := ins_get I.hok hb'
  obtain ⟨od, J, _⟩ := O.look
  obtain ⟨od', J', _⟩ := O2.look
  obtain ⟨m, hF⟩ := I.fr
  refine iop_K hF I.ok.mod.kin J J'.type h1 hn hs hf (wpAny_mono (at_pos (E := fun _ => E) (us := [.ref a, .ref b]) (vs := [.ref a, .ref b]) (dvs := []) F hr hb .nil (hx σ) I (.cons rfl (.cons rfl .nil)) (by rw [List.append_nil]; exact q)) (fun w s' z => ?_) fun _ _ x => x)
  obtain ⟨z', H', I', rz, qz⟩ := z
  exact SlX.cmpback rz ⟨z', H', I', rz, qz⟩
end
/-- x op= e, two instances; the body has no try around it -/
def sAugO (C : Addr) (ED : DEnv → EDt) (i : Nat) (te : DE) (sp : SpD) : DS := fun DD ρ c => fzP ρ[i]? fun x => te ρ c fun y c1 => isIP C x ∧ isIP C y ∧ @Run sp [x, y] c1 (fun z c2 => @Nx DD.nx (ρ.set i (.fz z)) c2) (ED ρ)
section
variable {Y : Ctx} {k : Nat} {C f : Addr} {fd : FuncData} {ps : List Str} {e : Expr} {ee : TE} {te : DE} {pos pos' : Pos} {sp : SpD} {op : Operator} {x : Str} {E : XK}
theorem pds_augO (i : Nat) (hE : Y.E = fun _ => E) (hN : Y.X.N.Nodup) (g : Y.Good k) (O : OpsC Y.X.K C) (no : NoI Y.X.K C op.info.2) (m : Meth Y.X.K C (PySem.dunder op.info.2) f) (F : FnOk Y.X.prog Y.X.w Y.X.K Y.X.mg Y.X.base (L2.CX Y.X.prog Y.X.w) k f fd ps (spOf Y.X.K sp)) (hb : Binds Y.X.K fd ps []) (h : PD Y e ee te) (hi : Y.X.N[i]? = some x := by rfl) (hx : Loc Y.X.env.scope x := by first | exact Or.inl rfl | exact Or.inr rfl)
    (hf : Y.X.fn x = true ∨ Y.X.env.scope.names.lookup x = some .local := by first | exact .inl rfl | exact .inr rfl) : PDS Y (.AugAssign (.Name x pos') op e pos) (tAug i ee fun x y H Q => rBinO C (spOf Y.X.K sp) (fun _ => E) [] x y H Q) (sAugO C Y.ED i te sp) := by
  have pass : ∀ σ, PassesAt (L2.CX Y.X.prog Y.X.w) Y.X σ E := fun σ => by have := g.pass σ; rw [hE] at this; exact this
  refine ⟨ps_aug hN hi hx h.p (op_iopO O.sf no m.at_ m.fn F g.room hb pass) hf, fun P G H c ρ σ DD EE K R q => ?_⟩
  obtain ⟨x, ex, q⟩ := q
  obtain ⟨o, e1, v, rfl, r⟩ := R.r.sl i _ ex
  refine ⟨v, e1, ?_⟩
  refine h.s G H c ρ σ _ _ R.r q fun y u G1 H1 c1 ev ry ⟨⟨ns, es, ix⟩, ⟨ms, fs, iy⟩, q⟩ => ?_
  subst ix iy
  have rx := r.mono ev.le
  cases rx with
  | ins h1 h2 h3 =>
    cases ry with
    | ins g1 g2 g3 =>
      refine ⟨_, _, _, _, _, _, rfl, rfl, ev.ok.same _ _ h1, ev.ok.same _ _ g1, G1, c1, _, _, Y.ED ρ, ev.ok, .cons (.ins h1 h2 h3) (.cons (.ins g1 g2 g3) .nil), q, ?_, ?_⟩
      · exact fun d z G' H' c' e' r' q' => K.nx G' H' c' _ _ ⟨(R.r.evo' (ev.trans e')).set_fz r' i, R.le.trans (ev.trans e').le⟩ q'
      · intro C' ns es dx G' H' c' e' r' q'
        have := g.err ρ σ G H c R.r C' ns es dx G' H' c' (ev.trans e') r' q'
        rw [hE] at this
        exact this
end
/-! ### zip -/
def zipD : List D → List D → List D
  | x :: l, y :: m => .tup [x, y] :: zipD l m
  | _, _ => []
theorem zipD_get : ∀ {l m : List D} {i : Nat} {d : D}, (zipD l m)[i]? = some d → ∃ x y, l[i]? = some x ∧ m[i]? = some y ∧ d = .tup [x, y]
  | [], _, i, d, h => by simp [zipD] at h
  | _ :: _, [], i, d, h => by simp [zipD] at h
  | x :: l, y :: m, 0, d, h => by
    have : D.tup [x, y] = d := by simpa [zipD] using h
    exact ⟨x, y, rfl, rfl, this.symm⟩
  | x :: l, y :: m, i + 1, d, h => by
    obtain ⟨a, b, h1, h2, h3⟩ := zipD_get (l := l) (m := m) (i := i) (d := d) (by simpa [zipD] using h)
    exact ⟨a, b, by simpa using h1, by simpa using h2, h3⟩
theorem zipD_length : ∀ (l m : List D), l.length ≤ (zipD l m).length ∨ m.length ≤ (zipD l m).length
  | [], _ => .inl (Nat.zero_le _)
  | _ :: _, [] => .inr (Nat.zero_le _)
  | x :: l, y :: m => by
    rcases zipD_length l m with h | h
    · exact .inl (Nat.succ_le_succ h)
    · exact .inr (Nat.succ_le_succ h)
def zipP (ds : List D) (P : List D → Prop) : Prop := ∃ l m, ds = [.lst l, .lst m] ∧ P (zipD l m)
theorem ev_zipP {l m : List D} {P : List D → Prop} : zipP [.lst l, .lst m] P = P (zipD l m) := by
  apply propext; constructor
  · rintro ⟨_, _, e, h⟩; cases e; exact h
  · exact fun h => ⟨_, _, rfl, h⟩
def diZip (t : DA) : DI := fun ρ c Q => t ρ c fun ds c1 => zipP ds fun L => Q L c1
theorem walkD_zip {K : PySem.W.Frag} {a b : Addr} {xs ys : List V} {l m : List D} {G0 : GS} (h1 : SqL K G0.f a xs) (r1 : RpAll K G0 xs l) (h2 : SqL K G0.f b ys) (r2 : RpAll K G0 ys m) : WalkD K (Itz K a b) (zipD l m) G0 := by
  intro G H c le ok
  have q1 : SqL K H a xs := SqL.same (le.f.trans ok.same) h1
  have q2 : SqL K H b ys := SqL.same (le.f.trans ok.same) h2
  refine ⟨fun i d hd => ?_, ⟨xs, ys, q1, q2, ?_⟩⟩
  · obtain ⟨x, y, hx, hy, rfl⟩ := zipD_get hd
    obtain ⟨v, hv, rv⟩ := r1.get hx
    obtain ⟨u, hu, ru⟩ := r2.get hy
    refine ⟨⟨xs, ys, v, u, q1, q2, hv, hu⟩, fun z H' y => ?_⟩
    obtain ⟨T, v', u', rfl, hT, rfl, e1, e2⟩ := y
    cases hv.symm.trans (e1 xs q1)
    cases hu.symm.trans (e2 ys q2)
    exact ⟨_, Evo.laid ok _ hT, Rp.newTup ok hT (.cons (rv.mono le) (.cons (ru.mono le) .nil))⟩
  · rw [r1.length, r2.length]; exact zipD_length l m
theorem pdi_zip {Y : Ctx} {e e2 : Expr} {fa : TA} {t : DA} {p pos tpos : Pos} {elts : List Expr} {kk : Nat} (hm : Y.X.mg "zip" = none) (ha : PDA Y [e, e2] fa t) (hg : Gl Y.X "zip" := by rfl)
    (hs : starEach [e, e2] Y.X.env = (false, eval e Y.X.env) :: starEach [e2] Y.X.env := by rfl) (hpl : (backTo pos (starEach [e2] Y.X.env)).any (·.1) = false := by rfl) : PDI Y (.Tuple elts kk tpos) (.Call (.Name "zip" p) [e, e2] [] pos) (iZip Y.X.K fa) (diZip t) := by
  refine ⟨pi_zip hg hm ha.p hs hpl, fun G H c ρ σ Qd R Rl q k => ?_⟩
  refine ha.s G H c ρ σ _ _ Rl q fun ds vs G1 H1 c1 ev rr ⟨l, m, ed, q⟩ => ?_
  subst ed
  cases rr with
  | cons r rr =>
    cases rr with
    | cons r' rr =>
      cases rr
      cases r with
      | lst g1 g2 =>
        cases r' with
        | lst k1 k2 => exact ⟨_, _, _, _, rfl, ev.ok.sq g1, ev.ok.sq k1, k _ _ G1 H1 c1 ev (walkD_zip (SqL.of g1) g2 (SqL.of k1) k2) q⟩

/-! ### evaluated -/
section
variable {i : Nat} {ρ : DEnv} {c : Nat} {Q : QD} {QL : List D → Nat → Prop} {DD : DEnds} {t : DA} {te tb : DE} {ti : DI} {g : DG} {tt : DT} {vs : List Nat} {l m : List D} {C : Addr} {ED : DEnv → EDt} {sp : SpD} {ds : List D}
theorem ev_olen : dOlen i ρ c Q = olP ρ[i]? fun l => Q (.int l.length) c := propext Iff.rfl
theorem ev_oix : dOix i tb ρ c Q = olP ρ[i]? fun l => tb ρ c fun y c1 => asI y fun k => @atP (L2.atI l k) fun d => Q d c1 := propext Iff.rfl
theorem ev_extend : sExtend i t DD ρ c = olP ρ[i]? fun l => t ρ c fun ds c1 => hd1 ds fun d => lstP d fun m => l.length + m.length ≤ 16777216 ∧ @Nx DD.nx (ρ.set i (.ol (l ++ m))) c1 := propext Iff.rfl
theorem ev_down : diDown t ρ c QL = t ρ c fun ds c1 => downP ds fun L => QL L c1 := propext Iff.rfl
theorem ev_maxL : aMaxL ds c Q = maxP ds fun m => Q (.int m) c := propext Iff.rfl
theorem ev_sortSet : dSortSet t ρ c Q = t ρ c fun ds c1 => hd1 ds fun d => strsP d fun xs => xs.length + 1 < 4096 ∧ Q (.lst ((sortU xs).map D.str)) c1 := propext Iff.rfl
theorem ev_sortSc : dSortSc ti g tt te vs ρ c Q = ti ρ c fun L c1 => ScB g tt te vs ρ L c1 fun acc c2 => Q (.lst ((sortU acc).map D.str)) c2 := propext Iff.rfl
theorem ev_augO : sAugO C ED i te sp DD ρ c = fzP ρ[i]? fun x => te ρ c fun y c1 => isIP C x ∧ isIP C y ∧ @Run sp [x, y] c1 (fun z c2 => @Nx DD.nx (ρ.set i (.fz z)) c2) (ED ρ) := propext Iff.rfl
theorem ev_never : sNever DD ρ c = False := propext Iff.rfl
theorem ev_zip : diZip t ρ c QL = t ρ c fun ds c1 => zipP ds fun L => QL L c1 := propext Iff.rfl
end
end PL

namespace PL
open PySem PySem.Spec PyProof.Rows L2

/-! ### list(range(a, b)) -/
def dLstRg (ta tb : DE) : DE := fun ρ c Q => ta ρ c fun x c1 => tb ρ c1 fun y c2 => asI x fun i => asI y fun j => (0 ≤ i ∧ i ≤ 16777216 ∧ 0 ≤ j ∧ j ≤ 16777216) ∧ Q (.lst (upInts i (j - i).toNat)) c2
theorem rp_rgV {K : PySem.W.Frag} {G : GS} (a : Int) : ∀ n : Nat, RpAll K G ((List.range n).map fun i => V.int (a + (i : Nat))) (upInts a n)
  | 0 => .nil
  | n + 1 => by
    unfold upInts
    rw [List.range_succ, List.map_append, List.map_append]
    exact (rp_rgV a n).append (.cons (.int _) .nil)
section
variable {Y : Ctx} {a b : Expr} {ea eb : TE} {ta tb : DE} {p p2 pos pos2 : Pos}
theorem pd_listRg (hc : Y.X.calm = true) (hm : Y.X.mg "list" = none) (hm2 : Y.X.mg "range" = none) (ha : PD Y a ea ta) (hb : PD Y b eb tb) (hg : Gl Y.X "list" := by rfl) (hg2 : Gl Y.X "range" := by rfl) (na : starEach [a, b] Y.X.env = (false, eval a Y.X.env) :: starEach [b] Y.X.env := by rfl)
    (nb : starEach [b] Y.X.env = (false, eval b Y.X.env) :: starEach [] Y.X.env := by rfl) (hp : (backTo pos2 (starEach [b] Y.X.env)).any (·.1) = false := by rfl) (nc : starEach [Expr.Call (.Name "range" p2) [a, b] [] pos2] Y.X.env = (false, eval (Expr.Call (.Name "range" p2) [a, b] [] pos2) Y.X.env) :: starEach [] Y.X.env := by rfl) :
    PD Y (.Call (.Name "list" p) [.Call (.Name "range" p2) [a, b] [] pos2] [] pos) (tLstRg (tRg2 ea eb)) (dLstRg ta tb) := by
  refine ⟨pe_listRg hc hg hm (prg_2 hg2 hm2 ha.p hb.p na nb hp) nc, fun G H c ρ σ Qd Q R q k => ?_⟩
  refine ha.s G H c ρ σ _ _ R q fun d v G1 H1 c1 e1 r1 q1 => ?_
  refine hb.s G1 H1 c1 ρ σ _ _ (R.evo' e1) q1 fun d2 v2 G2 H2 c2 e2 r2 q2 => ?_
  obtain ⟨i, rfl, j, rfl, ⟨b1, b2, b3, b4⟩, q⟩ := q2
  cases r1; cases r2
  refine ⟨i, j, rfl, rfl, RgOk.of_le b1 b4 b2 b3, fun p np => ?_⟩
  exact k _ _ _ _ c2 ((e1.trans e2).trans (Evo.laid e2.ok _ np)) (Rp.newLst e2.ok np (rp_rgV i _)) q
end
theorem ev_lstRg {ta tb : DE} {ρ : DEnv} {c : Nat} {Q : QD} : dLstRg ta tb ρ c Q = ta ρ c fun x c1 => tb ρ c1 fun y c2 => asI x fun i => asI y fun j => (0 ≤ i ∧ i ≤ 16777216 ∧ 0 ≤ j ∧ j ≤ 16777216) ∧ Q (.lst (upInts i (j - i).toNat)) c2 := propext Iff.rfl
/-! ### x = a + b, a new list of the frame's own -/
def twoL (x y : D) (P : List D → List D → Prop) : Prop := ∃ l m, x = .lst l ∧ y = .lst m ∧ P l m
theorem ev_twoL {l m : List D} {P : List D → List D → Prop} : twoL (.lst l) (.lst m) P = P l m := by
  apply propext; constructor
  · rintro ⟨_, _, e, e', h⟩; cases e; cases e'; exact h
  · exact fun h => ⟨_, _, rfl, rfl, h⟩
def sNewCat (i : Nat) (ta tb : DE) : DS := fun DD ρ c => ta ρ c fun x c1 => tb ρ c1 fun y c2 => twoL x y fun l m => l.length + m.length ≤ 16777216 ∧ @Nx DD.nx (ρ.set i (.ol (l ++ m))) c2
theorem ev_newCat {i : Nat} {ta tb : DE} {DD : DEnds} {ρ : DEnv} {c : Nat} : sNewCat i ta tb DD ρ c = ta ρ c fun x c1 => tb ρ c1 fun y c2 => twoL x y fun l m => l.length + m.length ≤ 16777216 ∧ @Nx DD.nx (ρ.set i (.ol (l ++ m))) c2 := propext Iff.rfl
theorem pds_newCat {Y : Ctx} {a b : Expr} {ea eb : TE} {ta tb : DE} {x : Str} {p pos pos' : Pos} (i : Nat) (hN : Y.X.N.Nodup) (ha : PD Y a ea ta) (hb : PD Y b eb tb) (hi : Y.X.N[i]? = some x := by rfl) (hx : Loc Y.X.env.scope x := by first | exact Or.inl rfl | exact Or.inr rfl) (hs : swapsWith (.BinOp a .Add b pos) (some (.Name x pos')) p.line Y.X.env = pure false := by rfl)
    (hf : Y.X.fn x = true ∨ Y.X.env.scope.names.lookup x = some .local := by first | exact .inl rfl | exact .inr rfl) : PDS Y (.Assign [.Name x pos'] (.BinOp a .Add b pos) p) (tAsg (tOp (rSum2 Y.X.K) ea eb) (gName i)) (sNewCat i ta tb) := by
  refine ⟨ps_set hN hi hx (pe_op op_sum2 ha.p hb.p) hs hf, fun P G H c ρ σ DD EE K R q => ?_⟩
  refine ha.s G H c ρ σ _ _ R.r q fun d v G1 H1 c1 e1 r1 q1 => ?_
  refine hb.s G1 H1 c1 ρ σ _ _ (R.r.evo' e1) q1 fun d2 v2 G2 H2 c2 e2 r2 ⟨l, m, h1, h2, hl, q⟩ => ?_
  subst h1 h2
  have ev := e1.trans e2
  have r1 := r1.mono e2.le
  cases r1 with
  | lst g1 g2 =>
    cases r2 with
    | lst g3 g4 => exact .inr ⟨_, _, _, _, rfl, rfl, ev.ok.same _ _ g1, ev.ok.same _ _ g3, by rw [g2.length, g4.length, sizeLine_eq]; exact hl, fun p np => K.nx G2 _ c2 _ _ ⟨(R.r.evo' ev).set_new np (g2.append g4) i, R.le.trans ev.le⟩ q⟩
end PL

namespace PL
open PySem PySem.Spec PyProof.Rows L2

/-! ### forms of documents -/
inductive Fm where
  | text (x : Str) | brk (o : Option Str) | hole (x : Str) | join (a b : Fm) | choice (a b : Fm) | nested (i : Int) (a : Fm) | group (a : Fm) | flat (a : Fm)
def lettersL : List Nat := ("abcdefghijklmnopqrstuvwxyz" : Str).cps.toList
def nameB (x : Str) : Bool := decide (1 ≤ x.length) && decide (x.length ≤ 8) && x.cps.toList.all fun n => decide (n ∈ lettersL)
namespace Fm
def enc : Fm → D
  | text x => .tup [.str "text", .str x]
  | brk none => .tup [.str "break", .non]
  | brk (some x) => .tup [.str "break", .str x]
  | hole x => .tup [.str "hole", .str x]
  | join a b => .tup [.str "join", enc a, enc b]
  | choice a b => .tup [.str "choice", enc a, enc b]
  | nested i a => .tup [.str "nested", .int i, enc a]
  | group a => .tup [.str "group", enc a]
  | flat a => .tup [.str "flattened", enc a]
def inner : Fm → List Fm
  | join a b => [a, b]
  | choice a b => [a, b]
  | nested _ a => [a]
  | group a => [a]
  | flat a => [a]
  | _ => []
def parts : Fm → Nat
  | join a b => 1 + (parts a + parts b)
  | choice a b => 1 + (parts a + parts b)
  | nested _ a => 1 + parts a
  | group a => 1 + parts a
  | flat a => 1 + parts a
  | _ => 1
def fl : Fm → Int
  | brk none => 0
  | join a b => fl a * fl b
  | choice a b => fl a + fl b
  | nested _ a => fl a
  | group a => fl a
  | flat a => fl a
  | _ => 1
def bo : Fm → Int
  | join a b => bo a * bo b
  | choice a b => bo a + bo b
  | nested _ a => bo a
  | group a => bo a + fl a
  | flat a => fl a
  | _ => 1
def holes : Fm → List Str
  | hole x => [x]
  | join a b => holes a ++ holes b
  | choice a b => holes a ++ holes b
  | nested _ a => holes a
  | group a => holes a
  | flat a => holes a
  | _ => []
def ok : Fm → Prop
  | text x => strS x
  | brk none => True
  | brk (some x) => strS x
  | hole x => strS x ∧ nameB x = true
  | join a b => ok a ∧ ok b
  | choice a b => ok a ∧ ok b
  | nested i a => (0 ≤ i ∧ i ≤ 40) ∧ ok a
  | group a => ok a
  | flat a => ok a
theorem parts_pos (f : Fm) : 1 ≤ parts f := by cases f <;> simp [parts] <;> omega
theorem parts_inner (f : Fm) : parts f = 1 + (f.inner.map parts).sum := by cases f <;> simp [parts, inner]
theorem ok_inner {f g : Fm} (h : ok f) (hg : g ∈ f.inner) : ok g := by
  cases f <;> simp [inner] at hg <;> simp only [ok] at h
  · rcases hg with rfl | rfl; exact h.1; exact h.2
  · rcases hg with rfl | rfl; exact h.1; exact h.2
  · subst hg; exact h.2
  · subst hg; exact h
  · subst hg; exact h
theorem parts_lt {f g : Fm} (hg : g ∈ f.inner) : parts g < parts f := by
  cases f <;> simp [inner] at hg
  · rcases hg with rfl | rfl <;> simp [parts] <;> omega
  · rcases hg with rfl | rfl <;> simp [parts] <;> omega
  · subst hg; simp [parts]
  · subst hg; simp [parts]
  · subst hg; simp [parts]
theorem holes_inner {f : Fm} {x : Str} : x ∈ holes f ↔ f = hole x ∨ ∃ g ∈ f.inner, x ∈ holes g := by
  cases f <;> simp [holes, inner, eq_comm]
theorem inner_len (f : Fm) : f.inner.length ≤ 2 := by cases f <;> simp [inner]
theorem pl_leaf {k x : Str} {n : Nat} (hk : (decide (k.length ≤ 1000) && PyData.strOk k) = true) (h : strS x) : Pl (n + 1) (.tup [.str k, .str x]) := pl_cons (pl_str hk) (pl_cons (pl_str (by simp [h.1, h.2.2])) pl_nil)
theorem pl : ∀ {f : Fm}, ok f → Pl (parts f) (enc f)
  | text x, h => pl_leaf (n := 0) (by decide +kernel) h
  | brk none, h => pl_cons (n := 0) (pl_str (by decide +kernel)) (pl_cons pl_non pl_nil)
  | brk (some x), h => pl_leaf (n := 0) (by decide +kernel) h
  | hole x, h => pl_leaf (n := 0) (by decide +kernel) h.1
  | join a b, h => by
    show Pl (1 + (parts a + parts b)) _
    rw [Nat.add_comm 1]
    exact pl_cons (pl_str (by decide +kernel)) (pl_cons ((pl h.1).mono (by omega)) (pl_cons ((pl h.2).mono (by omega)) pl_nil))
  | choice a b, h => by
    show Pl (1 + (parts a + parts b)) _
    rw [Nat.add_comm 1]
    exact pl_cons (pl_str (by decide +kernel)) (pl_cons ((pl h.1).mono (by omega)) (pl_cons ((pl h.2).mono (by omega)) pl_nil))
  | nested i a, h => by
    show Pl (1 + parts a) _
    rw [Nat.add_comm 1]
    exact pl_cons (pl_str (by decide +kernel)) (pl_cons pl_int (pl_cons (pl h.2) pl_nil))
  | group a, h => by
    show Pl (1 + parts a) _
    rw [Nat.add_comm 1]
    exact pl_cons (pl_str (by decide +kernel)) (pl_cons (pl h) pl_nil)
  | flat a, h => by
    show Pl (1 + parts a) _
    rw [Nat.add_comm 1]
    exact pl_cons (pl_str (by decide +kernel)) (pl_cons (pl h) pl_nil)
/-- how many parts are no leaves; how deep it is -/
def nl : Fm → Nat
  | join a b => 1 + (nl a + nl b)
  | choice a b => 1 + (nl a + nl b)
  | nested _ a => 1 + nl a
  | group a => 1 + nl a
  | flat a => 1 + nl a
  | _ => 0
def dep : Fm → Nat
  | join a b => 1 + max (dep a) (dep b)
  | choice a b => 1 + max (dep a) (dep b)
  | nested _ a => 1 + dep a
  | group a => 1 + dep a
  | flat a => 1 + dep a
  | _ => 1
theorem dep_pos (f : Fm) : 1 ≤ dep f := by cases f <;> simp [dep] <;> omega
theorem nl_le : ∀ f : Fm, nl f ≤ parts f
  | text _ => Nat.zero_le _
  | brk _ => Nat.zero_le _
  | hole _ => Nat.zero_le _
  | join a b => by have := nl_le a; have := nl_le b; simp only [nl, parts]; omega
  | choice a b => by have := nl_le a; have := nl_le b; simp only [nl, parts]; omega
  | nested _ a => by have := nl_le a; simp only [nl, parts]; omega
  | group a => by have := nl_le a; simp only [nl, parts]; omega
  | flat a => by have := nl_le a; simp only [nl, parts]; omega
theorem dep_le : ∀ f : Fm, dep f ≤ parts f
  | text _ => Nat.le_refl _
  | brk _ => Nat.le_refl _
  | hole _ => Nat.le_refl _
  | join a b => by have := dep_le a; have := dep_le b; simp only [dep, parts]; omega
  | choice a b => by have := dep_le a; have := dep_le b; simp only [dep, parts]; omega
  | nested _ a => by have := dep_le a; simp only [dep, parts]; omega
  | group a => by have := dep_le a; simp only [dep, parts]; omega
  | flat a => by have := dep_le a; simp only [dep, parts]; omega
theorem dep_lt {f g : Fm} (hg : g ∈ f.inner) : dep g < dep f := by
  cases f <;> simp [inner] at hg
  · rcases hg with rfl | rfl <;> simp only [dep] <;> omega
  · rcases hg with rfl | rfl <;> simp only [dep] <;> omega
  · subst hg; simp only [dep]; omega
  · subst hg; simp only [dep]; omega
  · subst hg; simp only [dep]; omega
theorem nl_lt {f g : Fm} (hg : g ∈ f.inner) : nl g < nl f := by
  cases f <;> simp [inner] at hg
  · rcases hg with rfl | rfl <;> simp only [nl] <;> omega
  · rcases hg with rfl | rfl <;> simp only [nl] <;> omega
  · subst hg; simp only [nl]; omega
  · subst hg; simp only [nl]; omega
  · subst hg; simp only [nl]; omega
theorem pld : ∀ {f : Fm}, ok f → Pl (dep f) (enc f)
  | text x, h => pl_leaf (n := 0) (by decide +kernel) h
  | brk none, h => pl_cons (n := 0) (pl_str (by decide +kernel)) (pl_cons pl_non pl_nil)
  | brk (some x), h => pl_leaf (n := 0) (by decide +kernel) h
  | hole x, h => pl_leaf (n := 0) (by decide +kernel) h.1
  | join a b, h => by
    show Pl (1 + max (dep a) (dep b)) _
    rw [Nat.add_comm 1]
    exact pl_cons (pl_str (by decide +kernel)) (pl_cons ((pld h.1).mono (by omega)) (pl_cons ((pld h.2).mono (by omega)) pl_nil))
  | choice a b, h => by
    show Pl (1 + max (dep a) (dep b)) _
    rw [Nat.add_comm 1]
    exact pl_cons (pl_str (by decide +kernel)) (pl_cons ((pld h.1).mono (by omega)) (pl_cons ((pld h.2).mono (by omega)) pl_nil))
  | nested i a, h => by
    show Pl (1 + dep a) _
    rw [Nat.add_comm 1]
    exact pl_cons (pl_str (by decide +kernel)) (pl_cons pl_int (pl_cons (pld h.2) pl_nil))
  | group a, h => by
    show Pl (1 + dep a) _
    rw [Nat.add_comm 1]
    exact pl_cons (pl_str (by decide +kernel)) (pl_cons (pld h) pl_nil)
  | flat a, h => by
    show Pl (1 + dep a) _
    rw [Nat.add_comm 1]
    exact pl_cons (pl_str (by decide +kernel)) (pl_cons (pld h) pl_nil)
/-- small enough for all readings -/
def small (f : Fm) : Prop := parts f ≤ 900 ∧ nl f ≤ 60 ∧ dep f ≤ 59
theorem small_of {f : Fm} (h : parts f ≤ 59) : small f := ⟨Nat.le_trans h (by decide), Nat.le_trans (nl_le f) (Nat.le_trans h (by decide)), Nat.le_trans (dep_le f) h⟩
theorem small.in {f g : Fm} (h : small f) (hg : g ∈ f.inner) : small g := ⟨Nat.le_trans (Nat.le_of_lt (parts_lt hg)) h.1, Nat.le_trans (Nat.le_of_lt (nl_lt hg)) h.2.1, Nat.le_trans (Nat.le_of_lt (dep_lt hg)) h.2.2⟩
theorem small.pl9 {f : Fm} (h : small f) (hk : ok f) : Pl 59 (enc f) := (pld hk).mono h.2.2
theorem small.pl {f : Fm} (h : small f) (hk : ok f) : Pl 60 (enc f) := (h.pl9 hk).mono (by decide)
/-- the numbers of ways are below 2 ^ parts -/
theorem pow_le {a b : Nat} (h : a ≤ b) : (2 : Int) ^ a ≤ 2 ^ b := by exact_mod_cast Nat.pow_le_pow_right (by decide : 0 < 2) h
theorem pow_ge (a : Nat) : (1 : Int) ≤ 2 ^ a := by have := pow_le (Nat.zero_le a); simpa using this
theorem prod_le {x y : Int} {a b : Nat} (hx : 0 ≤ x ∧ x ≤ 2 ^ a) (hy : 0 ≤ y ∧ y ≤ 2 ^ b) : 0 ≤ x * y ∧ x * y ≤ 2 ^ (1 + (a + b)) := by
  refine ⟨Int.mul_nonneg hx.1 hy.1, Int.le_trans (Int.mul_le_mul hx.2 hy.2 hy.1 (Int.le_trans hx.1 hx.2)) ?_⟩
  rw [← Int.pow_add]; exact pow_le (by omega)
theorem sum_le {x y : Int} {a b : Nat} (hx : 0 ≤ x ∧ x ≤ 2 ^ a) (hy : 0 ≤ y ∧ y ≤ 2 ^ b) : 0 ≤ x + y ∧ x + y ≤ 2 ^ (1 + (a + b)) := by
  refine ⟨by omega, ?_⟩
  have h1 := pow_le (show a ≤ a + b by omega)
  have h2 := pow_le (show b ≤ a + b by omega)
  have e : (2 : Int) ^ (1 + (a + b)) = 2 * 2 ^ (a + b) := by rw [Nat.add_comm, Int.pow_succ]; omega
  omega
theorem up_le {x : Int} {a : Nat} (hx : 0 ≤ x ∧ x ≤ 2 ^ a) : 0 ≤ x ∧ x ≤ 2 ^ (1 + a) := ⟨hx.1, Int.le_trans hx.2 (pow_le (by omega))⟩
theorem dbl_le {x y : Int} {a : Nat} (hx : 0 ≤ x ∧ x ≤ 2 ^ a) (hy : 0 ≤ y ∧ y ≤ 2 ^ a) : 0 ≤ x + y ∧ x + y ≤ 2 ^ (1 + a) := by
  have e : (2 : Int) ^ (1 + a) = 2 * 2 ^ a := by rw [Nat.add_comm, Int.pow_succ]; omega
  omega
theorem fl_le : ∀ f : Fm, 0 ≤ fl f ∧ fl f ≤ 2 ^ parts f
  | text x => ⟨by simp [fl], by simp [fl, parts]⟩
  | brk none => ⟨by simp [fl], by simp [fl, parts]⟩
  | brk (some x) => ⟨by simp [fl], by simp [fl, parts]⟩
  | hole x => ⟨by simp [fl], by simp [fl, parts]⟩
  | join a b => prod_le (fl_le a) (fl_le b)
  | choice a b => sum_le (fl_le a) (fl_le b)
  | nested _ a => up_le (fl_le a)
  | group a => up_le (fl_le a)
  | flat a => up_le (fl_le a)
theorem bo_le : ∀ f : Fm, 0 ≤ bo f ∧ bo f ≤ 2 ^ parts f
  | text x => ⟨by simp [bo], by simp [bo, parts]⟩
  | brk _ => ⟨by simp [bo], by simp [bo, parts]⟩
  | hole x => ⟨by simp [bo], by simp [bo, parts]⟩
  | join a b => prod_le (bo_le a) (bo_le b)
  | choice a b => sum_le (bo_le a) (bo_le b)
  | nested _ a => up_le (bo_le a)
  | group a => dbl_le (bo_le a) (fl_le a)
  | flat a => up_le (fl_le a)
theorem fl_nl : ∀ f : Fm, 0 ≤ fl f ∧ fl f ≤ 2 ^ nl f
  | text x => ⟨by simp [fl], by simp [fl, nl]⟩
  | brk none => ⟨by simp [fl], by simp [fl, nl]⟩
  | brk (some x) => ⟨by simp [fl], by simp [fl, nl]⟩
  | hole x => ⟨by simp [fl], by simp [fl, nl]⟩
  | join a b => prod_le (fl_nl a) (fl_nl b)
  | choice a b => sum_le (fl_nl a) (fl_nl b)
  | nested _ a => up_le (fl_nl a)
  | group a => up_le (fl_nl a)
  | flat a => up_le (fl_nl a)
theorem bo_nl : ∀ f : Fm, 0 ≤ bo f ∧ bo f ≤ 2 ^ nl f
  | text x => ⟨by simp [bo], by simp [bo, nl]⟩
  | brk _ => ⟨by simp [bo], by simp [bo, nl]⟩
  | hole x => ⟨by simp [bo], by simp [bo, nl]⟩
  | join a b => prod_le (bo_nl a) (bo_nl b)
  | choice a b => sum_le (bo_nl a) (bo_nl b)
  | nested _ a => up_le (bo_nl a)
  | group a => dbl_le (bo_nl a) (fl_nl a)
  | flat a => up_le (fl_nl a)
theorem cmul {x y : Int} {a : Nat} (hx : 0 ≤ x ∧ x ≤ 2 ^ a) (ha : a ≤ 60) : CMul x y := .inl ⟨by omega, by
  have := pow_le ha
  have : (2 : Int) ^ 60 < 2 ^ 64 := by decide
  omega⟩
theorem small.cmB {a b : Fm} (h : small (join a b)) : CMul (bo a) (bo b) := cmul (bo_nl a) (by have := h.2.1; simp only [nl] at this; omega)
theorem small.cmF {a b : Fm} (h : small (join a b)) : CMul (fl a) (fl b) := cmul (fl_nl a) (by have := h.2.1; simp only [nl] at this; omega)

/-! ### the parts of a form, breadth first -/
def cp (L : List Fm) (i : Nat) : Nat := 1 + ((L.take i).map fun g => g.inner.length).sum
theorem cp_append {L M : List Fm} {i : Nat} (h : i ≤ L.length) : cp (L ++ M) i = cp L i := by unfold cp; rw [List.take_append_of_le_length h]
theorem cp_succ {L : List Fm} {i : Nat} {g : Fm} (h : L[i]? = some g) : cp L (i + 1) = cp L i + g.inner.length := by
  unfold cp
  rw [List.take_succ, h]
  simp; omega
structure Bfs (f : Fm) (L : List Fm) (k : Nat) : Prop where
  first : L[0]? = some f
  le : k ≤ L.length
  size : L.length = cp L k
  gap : ∀ i, i < k → i < cp L i
  kids : ∀ i g, i < k → L[i]? = some g → ∀ j h, g.inner[j]? = some h → L[cp L i + j]? = some h
  tot : k + ((L.drop k).map parts).sum = parts f
  hol : ∀ x, x ∈ holes f ↔ (∃ g ∈ L.take k, g = hole x) ∨ ∃ g ∈ L.drop k, x ∈ holes g
  ok : Fm.ok f → ∀ g ∈ L, Fm.ok g
  sm : ∀ g ∈ L, parts g ≤ parts f
  her : ∀ p : Fm → Prop, (∀ x y, p x → y ∈ x.inner → p y) → p f → ∀ g ∈ L, p g
theorem Bfs.start (f : Fm) : Bfs f [f] 0 where
  first := rfl
  le := Nat.zero_le _
  size := by simp [cp]
  gap := fun _ h => absurd h (Nat.not_lt_zero _)
  kids := fun _ _ h => absurd h (Nat.not_lt_zero _)
  tot := by simp
  hol := fun x => by simp
  ok := fun h g hg => by rw [List.mem_singleton.mp hg]; exact h
  sm := fun g hg => by rw [List.mem_singleton.mp hg]; exact Nat.le_refl _
  her := fun p _ h g hg => by rw [List.mem_singleton.mp hg]; exact h
theorem Bfs.step {f : Fm} {L : List Fm} {k : Nat} {g : Fm} (b : Bfs f L k) (h : L[k]? = some g) : Bfs f (L ++ g.inner) (k + 1) := by
  have lt : k < L.length := (List.getElem?_eq_some_iff.mp h).1
  have dr : L.drop k = g :: L.drop (k + 1) := by
    rw [List.drop_eq_getElem_cons lt]
    have := (List.getElem?_eq_some_iff.mp h).2
    rw [this]
  have tk : (L ++ g.inner).take (k + 1) = L.take k ++ [g] := by rw [List.take_append_of_le_length lt, List.take_succ, h]; rfl
  have dr2 : (L ++ g.inner).drop (k + 1) = L.drop (k + 1) ++ g.inner := List.drop_append_of_le_length lt
  refine ⟨?_, ?_, ?_, ?_, ?_, ?_, ?_, ?_, ?_, ?_⟩
  · rw [List.getElem?_append_left (by omega)]; exact b.first
  · rw [List.length_append]; omega
  · rw [List.length_append, cp_append lt, cp_succ h, ← b.size]
  · intro i hi
    rw [cp_append (by omega)]
    by_cases c : i < k
    · exact b.gap i c
    · have e : i = k := by omega
      subst e
      rw [← b.size]; exact lt
  · intro i g' hi hg j h' hj
    rw [cp_append (by omega)]
    rw [List.getElem?_append_left (by omega)] at hg
    by_cases c : i < k
    · have q := b.kids i g' c hg j h' hj
      rw [List.getElem?_append_left (List.getElem?_eq_some_iff.mp q).1]; exact q
    · have e : i = k := by omega
      subst e
      rw [h] at hg
      cases hg
      rw [← b.size, List.getElem?_append_right (Nat.le_add_right _ _), Nat.add_sub_cancel_left]; exact hj
  · have t := b.tot
    rw [dr, List.map_cons, List.sum_cons, parts_inner g] at t
    rw [dr2, List.map_append, List.sum_append]
    omega
  · intro x
    rw [b.hol, tk, dr2, dr]
    constructor
    · rintro (⟨y, hy, e⟩ | ⟨y, hy, e⟩)
      · exact .inl ⟨y, List.mem_append_left _ hy, e⟩
      · rcases List.mem_cons.mp hy with rfl | hy
        · rcases holes_inner.mp e with e | ⟨z, hz, e⟩
          · exact .inl ⟨y, by simp, e⟩
          · exact .inr ⟨z, List.mem_append_right _ hz, e⟩
        · exact .inr ⟨y, List.mem_append_left _ hy, e⟩
    · rintro (⟨y, hy, e⟩ | ⟨y, hy, e⟩)
      · rcases List.mem_append.mp hy with hy | hy
        · exact .inl ⟨y, hy, e⟩
        · rw [List.mem_singleton.mp hy] at e
          exact .inr ⟨g, List.mem_cons_self, holes_inner.mpr (.inl e)⟩
      · rcases List.mem_append.mp hy with hy | hy
        · exact .inr ⟨y, List.mem_cons_of_mem _ hy, e⟩
        · exact .inr ⟨g, List.mem_cons_self, holes_inner.mpr (.inr ⟨y, hy, e⟩)⟩
  · intro hf y hy
    rcases List.mem_append.mp hy with hy | hy
    · exact b.ok hf y hy
    · exact ok_inner (b.ok hf g (List.mem_of_getElem? h)) hy
  · intro y hy
    rcases List.mem_append.mp hy with hy | hy
    · exact b.sm y hy
    · exact Nat.le_trans (Nat.le_of_lt (parts_lt hy)) (b.sm g (List.mem_of_getElem? h))
  · intro p hp hf y hy
    rcases List.mem_append.mp hy with hy | hy
    · exact b.her p hp hf y hy
    · exact hp g y (b.her p hp hf g (List.mem_of_getElem? h)) hy
theorem Bfs.room {f : Fm} {L : List Fm} {k : Nat} (b : Bfs f L k) : L.length ≤ parts f := by
  have t := b.tot
  have h : (L.drop k).length ≤ ((L.drop k).map parts).sum := by
    generalize L.drop k = M
    induction M with
    | nil => simp
    | cons x M ih => have := parts_pos x; rw [List.map_cons, List.sum_cons, List.length_cons]; omega
  rw [List.length_drop] at h
  have := b.le
  omega
theorem Bfs.len {f : Fm} {L : List Fm} (b : Bfs f L L.length) : L.length = parts f := by have t := b.tot; rw [List.drop_length] at t; simpa using t
theorem Bfs.holesL {f : Fm} {L : List Fm} (b : Bfs f L L.length) (x : Str) : x ∈ holes f ↔ hole x ∈ L := by
  rw [b.hol, List.take_length, List.drop_length]; simp
/-- ways of the parts, as told -/
inductive Trip : List Fm → List D → Prop
  | nil : Trip [] []
  | cons {fs : List Fm} {ds : List D} (h : Fm) (p : Int) : Trip fs ds → Trip (h :: fs) (.tup [.int (bo h), .int (fl h), .int p] :: ds)
theorem Trip.length : ∀ {fs : List Fm} {ds : List D}, Trip fs ds → ds.length = fs.length
  | _, _, .nil => rfl
  | _, _, .cons _ _ h => congrArg (· + 1) h.length
theorem Trip.snoc {fs : List Fm} {ds : List D} (h : Trip fs ds) (g : Fm) (p : Int) : Trip (fs ++ [g]) (ds ++ [.tup [.int (bo g), .int (fl g), .int p]]) := by
  induction h with
  | nil => exact .cons g p .nil
  | cons k q _ ih => exact .cons k q ih
theorem Trip.get : ∀ {fs : List Fm} {ds : List D} {i : Nat} {g : Fm}, Trip fs ds → fs[i]? = some g → ∃ p, ds[i]? = some (.tup [.int (bo g), .int (fl g), .int p])
  | _, _, _, _, .nil, e => by simp at e
  | _, _, 0, _, .cons k q _, e => by simp at e; subst e; exact ⟨q, rfl⟩
  | _, _, i + 1, _, .cons k q h, e => by
    obtain ⟨p, hp⟩ := h.get (i := i) (by simpa using e)
    exact ⟨p, by simpa using hp⟩
end Fm
theorem exists_max : ∀ (ns : List Int), ns ≠ [] → ∃ m, m ∈ ns ∧ ∀ y, y ∈ ns → y ≤ m
  | [], h => absurd rfl h
  | [x], _ => ⟨x, by simp, by simp⟩
  | x :: y :: l, _ => by
    obtain ⟨m, hm, hl⟩ := exists_max (y :: l) (by simp)
    by_cases c : x ≤ m
    · refine ⟨m, List.mem_cons_of_mem _ hm, fun z hz => ?_⟩
      rcases List.mem_cons.mp hz with rfl | hz
      · exact c
      · exact hl z hz
    · refine ⟨x, List.mem_cons_self, fun z hz => ?_⟩
      rcases List.mem_cons.mp hz with rfl | hz
      · exact Int.le_refl _
      · have := hl z hz; omega
end PL

namespace PL
open PySem PySem.Spec PyProof.Rows L2

/-! ### names of kinds compared -/
theorem char_inj {a b : Char} (h : a.toNat = b.toNat) : a = b := Char.ext (UInt32.toNat_inj.mp h)
theorem ofS_inj {a b : String} (h : Str.ofString a = Str.ofString b) : a = b := by
  rw [Str.ofString_eq_toList, Str.ofString_eq_toList] at h
  have h : a.toList.map Char.toNat = b.toList.map Char.toNat := by simpa using h
  exact String.toList_inj.mp (List.map_inj_right (fun _ _ e => char_inj e) |>.mp h)
theorem ofS_beq {a b : String} : (Str.ofString a == Str.ofString b) = (a == b) := by
  by_cases c : a = b
  · subst c; simp
  · have : Str.ofString a ≠ Str.ofString b := fun h => c (ofS_inj h)
    rw [beq_eq_false_iff_ne.mpr this, beq_eq_false_iff_ne.mpr c]
theorem pl_lit {n : Nat} {x : Str} (h : (decide (x.length ≤ 1000) && PyData.strOk x) = true) : Pl n (.str x) = True := eq_true (pl_str h)
theorem pk_text {n : Nat} : Pl n (.str "text") = True := pl_lit (by decide +kernel)
theorem pk_break {n : Nat} : Pl n (.str "break") = True := pl_lit (by decide +kernel)
theorem pk_hole {n : Nat} : Pl n (.str "hole") = True := pl_lit (by decide +kernel)
theorem pk_join {n : Nat} : Pl n (.str "join") = True := pl_lit (by decide +kernel)
theorem pk_choice {n : Nat} : Pl n (.str "choice") = True := pl_lit (by decide +kernel)
theorem pk_nested {n : Nat} : Pl n (.str "nested") = True := pl_lit (by decide +kernel)
theorem pk_group {n : Nat} : Pl n (.str "group") = True := pl_lit (by decide +kernel)
theorem pk_flattened {n : Nat} : Pl n (.str "flattened") = True := pl_lit (by decide +kernel)
theorem fd_str {x : Str} : flatD (.str x) = true := rfl
theorem fd_int {i : Int} : flatD (.int i) = true := rfl
theorem fd_non : flatD .non = true := rfl
theorem fd_bl {b : Bool} : flatD (.bl b) = true := rfl
theorem cut_to2 {α : Type} (x y z : α) : cut [x, y, z] none (some 2) = [x, y] := by
  unfold cut
  simp [HT.sIx]
theorem atI_last {α : Type} {xs : List α} {x : α} (h : xs[xs.length - 1]? = some x) : L2.atI xs (-1) = some x := by
  have hl : xs.length - 1 < xs.length := (List.getElem?_eq_some_iff.mp h).1
  unfold L2.atI L2.ixN
  rw [if_neg (by decide), if_pos (by omega)]
  show xs[((-1 : Int) + xs.length).toNat]? = some x
  rw [show ((-1 : Int) + xs.length).toNat = xs.length - 1 by omega]
  exact h
/-- where the parts of the i-th part stand -/
def plc (L : List Fm) (i : Nat) : D := .lst (upInts (Fm.cp L i : Nat) (match L[i]? with | some g => g.inner.length | none => 0))
theorem plc_of {L : List Fm} {i : Nat} {g : Fm} (h : L[i]? = some g) : plc L i = .lst (upInts (Fm.cp L i : Nat) g.inner.length) := by unfold plc; rw [h]
theorem Fm.cp_le {L : List Fm} {i j : Nat} (h : i ≤ j) : Fm.cp L i ≤ Fm.cp L j := by
  obtain ⟨d, rfl⟩ : ∃ d, j = i + d := ⟨j - i, by omega⟩
  clear h
  induction d with
  | zero => exact Nat.le_refl _
  | succ d ih =>
    refine Nat.le_trans ih ?_
    cases hk : L[i + d]? with
    | some g => rw [show i + (d + 1) = (i + d) + 1 from rfl, Fm.cp_succ hk]; exact Nat.le_add_right _ _
    | none =>
      have := List.getElem?_eq_none_iff.mp hk
      unfold Fm.cp
      rw [List.take_of_length_le (by omega), List.take_of_length_le (by omega)]; exact Nat.le_refl _
theorem sub_toNat (a b : Nat) : ((a : Int) + b - a).toNat = b := by omega
/-- a comprehension that draws nothing: what is gathered fulfils I -/
theorem lc_inv {L : List D} {c : Nat} {g : DG} {te : DE} {vs : List Nat} {ρ : DEnv} {Q : QD} (I : Nat → List D → Prop) (hL : L.length ≤ 16777216) (h0 : I 0 [])
    (step : ∀ k x acc, L[k]? = some x → I k acc → acc.length = k → ∀ R : QD, (∀ y, I (k + 1) (acc ++ [y]) → R y c) → g x (wipeD ρ vs) c fun ρ2 c2 => te ρ2 c2 R) (hq : ∀ acc, I L.length acc → Q (.lst acc) c) : LcB g dtYes te vs ρ L c Q := by
  refine ⟨fun k acc c' => c' = c ∧ acc.length = k ∧ I k acc, ⟨rfl, rfl, h0⟩, ?_, ?_⟩
  · rintro k x acc c' hk ⟨rfl, hl, ha⟩
    have hlt : k < L.length := (List.getElem?_eq_some_iff.mp hk).1
    have := step k x acc hk ha hl (fun y c4 => acc.length < sizeLine ∧ c4 = c' ∧ (acc ++ [y]).length = k + 1 ∧ I (k + 1) (acc ++ [y])) fun y hy => ⟨by rw [sizeLine_eq]; omega, rfl, by simp [hl], hy⟩
    simpa [dtYes] using this
  · rintro acc c' ⟨rfl, hl, ha⟩
    exact hq acc ha
theorem Fm.Trip.item : ∀ {fs : List Fm} {ds : List D} {i : Nat} {d : D}, Fm.Trip fs ds → ds[i]? = some d → ∃ (h : Fm) (p : Int), d = .tup [.int h.bo, .int h.fl, .int p]
  | _, _, _, _, .nil, e => by simp at e
  | _, _, 0, _, .cons k q _, e => by simp at e; exact ⟨k, q, e.symm⟩
  | _, _, i + 1, _, .cons k q h, e => h.item (i := i) (by simpa using e)
theorem maxP.of {ns : List Int} {P : Int → Prop} (hn : ns ≠ []) (k : ∀ m, P m) : maxP [.lst (ns.map .int)] P := by
  obtain ⟨m, hm, hl⟩ := exists_max ns hn
  exact ⟨_, ns, m, rfl, intsD_map ns, hm, hl, k m⟩
/-- one letter -/
def inL : D → Bool
  | .str s => match s.cps.toList with
    | [n] => decide (n ∈ lettersL)
    | _ => false
  | _ => false
theorem signs_inL (x : Str) : (signs x).all inL = x.cps.toList.all fun n => decide (n ∈ lettersL) := by
  unfold signs
  rw [List.all_map]
  rfl
theorem nameB_parts {x : Str} : nameB x = (decide (1 ≤ x.length) && decide (x.length ≤ 8) && (signs x).all inL) := by rw [signs_inL]; rfl
theorem sc_inv {L : List D} {c : Nat} {g : DG} {tt : DT} {te : DE} {vs : List Nat} {ρ : DEnv} {Q : List Str → Nat → Prop} (I : Nat → List Str → Prop) (hL : L.length < 4096) (h0 : I 0 [])
    (step : ∀ k x acc, L[k]? = some x → I k acc → ∀ (R1 : QD) (R0 : Nat → Prop), (∀ z, I (k + 1) (acc ++ [z]) → R1 (.str z) c) → (I (k + 1) acc → R0 c) → g x (wipeD ρ vs) c fun ρ2 c2 => tt ρ2 c2 fun b c3 => @Br b (te ρ2 c3 R1) (R0 c3)) (hq : ∀ acc, I L.length acc → Q acc c) : ScB g tt te vs ρ L c Q := by
  refine ⟨fun k acc c' => c' = c ∧ acc.length ≤ k ∧ I k acc, ⟨rfl, Nat.le_refl _, h0⟩, ?_, ?_⟩
  · rintro k x acc c' hk ⟨rfl, hl, ha⟩
    have hlt : k < L.length := (List.getElem?_eq_some_iff.mp hk).1
    exact step k x acc hk ha (fun y c4 => ∃ z, y = .str z ∧ acc.length + 1 < 4096 ∧ c4 = c' ∧ (acc ++ [z]).length ≤ k + 1 ∧ I (k + 1) (acc ++ [z])) (fun c4 => c4 = c' ∧ acc.length ≤ k + 1 ∧ I (k + 1) acc) (fun z hz => ⟨z, rfl, by omega, rfl, by simp; omega, hz⟩) fun hz => ⟨rfl, by omega, hz⟩
  · rintro acc c' ⟨rfl, hl, ha⟩
    exact hq acc ha
theorem Fm.holes_len : ∀ f : Fm, (Fm.holes f).length ≤ Fm.parts f
  | .text _ => Nat.zero_le _
  | .brk _ => Nat.zero_le _
  | .hole _ => Nat.le_refl _
  | .join a b => by have := Fm.holes_len a; have := Fm.holes_len b; simp only [Fm.holes, Fm.parts, List.length_append]; omega
  | .choice a b => by have := Fm.holes_len a; have := Fm.holes_len b; simp only [Fm.holes, Fm.parts, List.length_append]; omega
  | .nested _ a => by have := Fm.holes_len a; simp only [Fm.holes, Fm.parts]; omega
  | .group a => by have := Fm.holes_len a; simp only [Fm.holes, Fm.parts]; omega
  | .flat a => by have := Fm.holes_len a; simp only [Fm.holes, Fm.parts]; omega
theorem intsD_nat (l : List Nat) : intsD (l.map fun n => .int ((n : Nat) : Int)) = some (l.map fun n => ((n : Nat) : Int)) := by rw [← intsD_map, List.map_map]; rfl
theorem sum_nat (l : List Nat) : (l.map fun n => ((n : Nat) : Int)).sum = ((l.sum : Nat) : Int) := by
  induction l with
  | nil => rfl
  | cons x l ih => rw [List.map_cons, List.sum_cons, List.sum_cons, ih, Int.natCast_add]
theorem Fm.ok_holes : ∀ {f : Fm} {x : Str}, Fm.ok f → x ∈ Fm.holes f → strS x
  | .hole y, x, h, e => by
    have : x = y := by simpa [Fm.holes] using e
    rw [this]; exact h.1
  | .join a b, x, h, e => (List.mem_append.mp e).elim (Fm.ok_holes h.1) (Fm.ok_holes h.2)
  | .choice a b, x, h, e => (List.mem_append.mp e).elim (Fm.ok_holes h.1) (Fm.ok_holes h.2)
  | .nested _ a, x, h, e => Fm.ok_holes (f := a) h.2 e
  | .group a, x, h, e => Fm.ok_holes (f := a) h e
  | .flat a, x, h, e => Fm.ok_holes (f := a) h e
  | .text _, x, h, e => nomatch e
  | .brk _, x, h, e => nomatch e
theorem Fm.pl_holes {f : Fm} (h : Fm.ok f) : Pl 60 (.tup ((sortU f.holes).map D.str)) := fun d hd => by
  obtain ⟨x, hx, rfl⟩ := List.mem_map.mp hd
  have := Fm.ok_holes h (mem_sortU.mp hx)
  exact pl_str (by simp [this.1, this.2.2])
/-! ### eqD, kind by kind -/
theorem eqd_nn : eqD .non .non = true := by simp [eqD]
theorem eqd_nb {y : Bool} : eqD .non (.bl y) = false := by simp [eqD]
theorem eqd_ni {y : Int} : eqD .non (.int y) = false := by simp [eqD]
theorem eqd_ns {y : Str} : eqD .non (.str y) = false := by simp [eqD]
theorem eqd_nt {y : List D} : eqD .non (.tup y) = false := by simp [eqD]
theorem eqd_nl {y : List D} : eqD .non (.lst y) = false := by simp [eqD]
theorem eqd_bn {x : Bool} : eqD (.bl x) .non = false := by simp [eqD]
theorem eqd_bb {x : Bool} {y : Bool} : eqD (.bl x) (.bl y) = (x == y) := by simp [eqD]
theorem eqd_bi {x : Bool} {y : Int} : eqD (.bl x) (.int y) = (b2n x == y) := by simp [eqD]
theorem eqd_bs {x : Bool} {y : Str} : eqD (.bl x) (.str y) = false := by simp [eqD]
theorem eqd_bt {x : Bool} {y : List D} : eqD (.bl x) (.tup y) = false := by simp [eqD]
theorem eqd_bl {x : Bool} {y : List D} : eqD (.bl x) (.lst y) = false := by simp [eqD]
theorem eqd_in {x : Int} : eqD (.int x) .non = false := by simp [eqD]
theorem eqd_ib {x : Int} {y : Bool} : eqD (.int x) (.bl y) = (x == b2n y) := by simp [eqD]
theorem eqd_ii {x : Int} {y : Int} : eqD (.int x) (.int y) = (x == y) := by simp [eqD]
theorem eqd_is {x : Int} {y : Str} : eqD (.int x) (.str y) = false := by simp [eqD]
theorem eqd_it {x : Int} {y : List D} : eqD (.int x) (.tup y) = false := by simp [eqD]
theorem eqd_il {x : Int} {y : List D} : eqD (.int x) (.lst y) = false := by simp [eqD]
theorem eqd_sn {x : Str} : eqD (.str x) .non = false := by simp [eqD]
theorem eqd_sb {x : Str} {y : Bool} : eqD (.str x) (.bl y) = false := by simp [eqD]
theorem eqd_si {x : Str} {y : Int} : eqD (.str x) (.int y) = false := by simp [eqD]
theorem eqd_ss {x : Str} {y : Str} : eqD (.str x) (.str y) = (x == y) := by simp [eqD]
theorem eqd_st {x : Str} {y : List D} : eqD (.str x) (.tup y) = false := by simp [eqD]
theorem eqd_sl {x : Str} {y : List D} : eqD (.str x) (.lst y) = false := by simp [eqD]
theorem eqd_tn {x : List D} : eqD (.tup x) .non = false := by simp [eqD]
theorem eqd_tb {x : List D} {y : Bool} : eqD (.tup x) (.bl y) = false := by simp [eqD]
theorem eqd_ti {x : List D} {y : Int} : eqD (.tup x) (.int y) = false := by simp [eqD]
theorem eqd_ts {x : List D} {y : Str} : eqD (.tup x) (.str y) = false := by simp [eqD]
theorem eqd_tt {x : List D} {y : List D} : eqD (.tup x) (.tup y) = eqDs x y := by simp [eqD]
theorem eqd_tl {x : List D} {y : List D} : eqD (.tup x) (.lst y) = false := by simp [eqD]
theorem eqd_ln {x : List D} : eqD (.lst x) .non = false := by simp [eqD]
theorem eqd_lb {x : List D} {y : Bool} : eqD (.lst x) (.bl y) = false := by simp [eqD]
theorem eqd_li {x : List D} {y : Int} : eqD (.lst x) (.int y) = false := by simp [eqD]
theorem eqd_ls {x : List D} {y : Str} : eqD (.lst x) (.str y) = false := by simp [eqD]
theorem eqd_lt {x : List D} {y : List D} : eqD (.lst x) (.tup y) = false := by simp [eqD]
theorem eqd_ll {x : List D} {y : List D} : eqD (.lst x) (.lst y) = eqDs x y := by simp [eqD]
theorem eqds_nn : eqDs [] [] = true := by simp [eqDs]
theorem eqds_cc {x y : D} {l m : List D} : eqDs (x :: l) (y :: m) = (eqD x y && eqDs l m) := by simp [eqDs]
theorem eqds_nc {y : D} {m : List D} : eqDs [] (y :: m) = false := by simp [eqDs]
theorem eqds_cn {x : D} {l : List D} : eqDs (x :: l) [] = false := by simp [eqDs]
theorem Fm.isa_tup (f : Fm) : isaB "tuple" f.enc = true := by
  cases f with
  | brk o => cases o <;> rfl
  | _ => rfl
theorem Fm.kind_enc (f : Fm) : kind f.enc = some "tuple" := by
  cases f with
  | brk o => cases o <;> rfl
  | _ => rfl
end PL

namespace PL
open PySem PySem.Spec PyProof.Rows L2
/-- a call with n values and the keywords ks, no defaults -/
theorem kbn2 {K : PySem.W.Frag} {x qual : Str} {params : Arguments} {body : List Stmt} {scope : Scope} {kw : List (Str × V)} {f : Addr} {fd : FuncData} {ps : List Str} (F : FunD K x qual params body scope [] kw f fd) (n : Nat) (ks : List Str) (g : {α : Type} → List α → List α → List α)
    (hr : ∀ {α β : Type} {R : α → β → Prop} {vs : List α} {us : List β} {zs : List α} {ws : List β}, Paired R vs us → Paired R zs ws → Paired R (g vs zs) (g us ws))
    (h : ∀ (kV doc pm : Value) (an : Option Addr) (cdv ct : Value) (us ws : List Value), us.length = n → ws.length = ks.length → bindArgs (PySem.W.fnOf x qual params body scope .none kV doc pm an cdv ct) ⟨us, ks.zip ws⟩ = pure (ps.zip (g us ws))) : ∃ g', KBn K fd ps n ks g' g := by
  refine ⟨g, fun s us ws X l1 l2 => ?_, fun r1 r2 => hr r1 r2⟩
  obtain ⟨oc, od, dV, kV, doc, pm, an, cdv, ct, osl, rfl, lk, hcd, hD, hK⟩ := F.ex
  rcases hD with ⟨_, rfl⟩ | ⟨e, _⟩
  · exact .of_eq (h kV doc pm an cdv ct us ws l1 l2)
  · exact absurd rfl e
theorem Fm.enc_tup (f : Fm) : ∃ l, f.enc = .tup l := by
  cases f with
  | brk o => cases o <;> exact ⟨_, rfl⟩
  | _ => exact ⟨_, rfl⟩
theorem aEqO_enc {K : PySem.W.Frag} {C : Addr} {ng : Bool} {sp : SpD} {f : Fm} {y : D} {c : Nat} {Q : QD} (h1 : Pl 60 f.enc) (h2 : Pl 60 y) (q : Q (.bl (ng != eqD f.enc y)) c) : aEqO K C ng sp f.enc y c Q := by
  obtain ⟨l, e⟩ := f.enc_tup
  rw [e] at h1 q ⊢
  exact ⟨h1, h2, q⟩
theorem aEqO_lst {K : PySem.W.Frag} {C : Addr} {ng : Bool} {sp : SpD} {l : List D} {y : D} {c : Nat} {Q : QD} (h1 : Pl 60 (.lst l)) (h2 : Pl 60 y) (q : Q (.bl (ng != eqD (.lst l) y)) c) : aEqO K C ng sp (.lst l) y c Q := ⟨h1, h2, q⟩
theorem zipD_map {α : Type} (f g : α → D) : ∀ l : List α, zipD (l.map f) (l.map g) = l.map fun x => .tup [f x, g x]
  | [] => rfl
  | x :: l => by rw [List.map_cons, List.map_cons, List.map_cons, zipD, zipD_map f g l]
end PL

namespace PL
open PySem PySem.Spec PyProof.Rows L2

/-! ### T.get(e, f), T a table of the module's top: texts to whole numbers -/
structure KTab (K : PySem.W.Frag) (w : World) (p : Addr) (tbl : List (Str × Int)) : Prop where
  at_ : ∃ es n, K.lookup p = some ⟨.type "dict", none, .dict es n, #[]⟩ ∧ PySem.W.KeysLit w.params es.toList
  low : (p == sysModules) = false
  say : ∀ q ∈ tbl, ∃ t, PySem.W.nsIn K p q.1 = some (some (.int q.2 t))
def tKGet2 (K : PySem.W.Frag) (w : World) (to te tf : TE) : TE := fun σ H Q => to σ H fun x H1 => ∃ p tbl, x = .ref p ∧ KTab K w p tbl ∧ te σ H1 fun y H2 => tf σ H2 fun r H3 => ∃ z i, y = .str z ∧ (z, i) ∈ tbl ∧ Q (.int i) H3
theorem pe_kget2 {X : Cx} {o e f : Expr} {apos cpos : Pos} {to te tf : TE} (ho : PE X o to) (he : PE X e te) (hf : PE X f tf) (m : M2 X o "get" apos e f cpos) : PE X (.Call (.Attribute o "get" apos) [e, f] [] cpos) (tKGet2 X.K X.w to te tf) := by
  refine ⟨fun pins s σ H Q I h => ?_⟩
  refine wpAny_Call_method m.base m.few m.line PySem.F.plainAttrs_dict PySem.F.slot_dict_get PySem.F.type_dict_get (thn (ho.run pins s σ H _ I h) fun u s1 ⟨x, H1, I1, rx, p, tbl, ex, kt, q1⟩ => ?_)
  subst ex
  obtain rfl : u = Value.ref p := rx
  obtain ⟨es, n, hl, hk⟩ := kt.at_
  refine ⟨(PySem.W.mapOf_K (prog := X.prog) (w := X.w) I1.kIn hl hk).typeIs, fun b e => ?_, ?_⟩
  · cases e
    exact ⟨_, I1.kIn _ _ hl, rfl⟩
  rw [m.trees]
  refine Calls.callWith_builtin rfl (Calls.evalArgs_plain (Calls.spliced_cons (thn (he.run pins s1 σ H1 _ I1 q1) fun iv s2 ⟨y, H2, I2, ry, q2⟩ => Calls.spliced_cons (thn (hf.run pins s2 σ H2 _ I2 q2) fun fv s3 ⟨r, H3, I3, rr, z, i, ey, mem, q3⟩ => Calls.spliced_nil ?_))))
  subst ey
  obtain ⟨t, rfl⟩ := (show ∃ t, iv = Value.str z t from ry)
  have hm := PySem.W.mapOf_K (prog := X.prog) (w := X.w) I3.kIn hl hk
  refine call_meetsIn PySem.F.slot_dict_get hm.typeIs PySem.F.entry_dict_get (PySem.F.args_dict_get_3 _ _ _) (meets_dict_get_default (PySem.strKind X.prog X.w) p (strKind_is X.prog X.w z t) kt.low fv) ⟨_, hm, ?_⟩
  obtain ⟨t', hs⟩ := kt.say _ mem
  rw [PySem.W.find_K hl hs]
  exact ⟨.int i, H3, I3.tok _, ⟨t', rfl⟩, q3⟩
/-- T.get(e, f) -/
def tabP (tbl : List (Str × Int)) (y : D) (P : Int → Prop) : Prop := ∃ z i, y = .str z ∧ (z, i) ∈ tbl ∧ P i
def dKGet (tbl : List (Str × Int)) (te tf : DE) : DE := fun ρ c Q => te ρ c fun y c1 => tf ρ c1 fun _ c2 => tabP tbl y fun i => Q (.int i) c2
theorem ev_kget {tbl : List (Str × Int)} {te tf : DE} {ρ : DEnv} {c : Nat} {Q : QD} : dKGet tbl te tf ρ c Q = te ρ c fun y c1 => tf ρ c1 fun _ c2 => tabP tbl y fun i => Q (.int i) c2 := propext Iff.rfl
theorem pd_kget2 {Y : Ctx} {x : Str} {p : Addr} {tbl : List (Str × Int)} {e f : Expr} {te tf : TE} {de df : DE} {xp apos cpos : Pos} (hm : Y.X.mg x = some (.ref p)) (kt : KTab Y.X.K Y.X.w p tbl) (he : PD Y e te de) (hf : PD Y f tf df) (hg : Gl Y.X x := by rfl) (hd : (x == ("__debug__" : Str)) = false := by decide)
    (m : M2 Y.X (.Name x xp) "get" apos e f cpos := by exact ⟨rfl, rfl, rfl, rfl⟩) : PD Y (.Call (.Attribute (.Name x xp) "get" apos) [e, f] [] cpos) (tKGet2 Y.X.K Y.X.w (tC (.ref p)) te tf) (dKGet tbl de df) := by
  refine ⟨pe_kget2 (pe_glob hg hm (show RelV (.ref p) (.ref p) from rfl) hd) he.p hf.p m, fun G H c ρ σ Qd Q R q k => ?_⟩
  refine ⟨p, tbl, rfl, kt, ?_⟩
  refine he.s G H c ρ σ _ _ R q fun y v G1 H1 c1 e1 r1 q1 => ?_
  refine hf.s G1 H1 c1 ρ σ _ _ (R.evo' e1) q1 fun r u G2 H2 c2 e2 r2 ⟨z, i, ey, mem, q2⟩ => ?_
  subst ey
  cases r1
  exact ⟨z, i, rfl, mem, k _ _ G2 H2 c2 (e1.trans e2) (.int i) q2⟩

/-! ### heads that tell of tables too -/
abbrev AlQ : Type := AlP × List (Option (List (Option (Str × Int))))
def obsQ (fn : List DefP) (ex : Looks') (ts : List He.Tab) (K : PySem.W.Frag) : AlQ := (obsP fn ex K, ts.map fun t => He.dicW K (t.1 K))
def valQ (fn : List DefP) (ts : List He.Tab) (w : World) : AlQ := (valP fn, ts.map fun t => some (He.keysIn w.params t.2))
def SaysQ (fn : List DefP) (ex : Looks') (ts : List He.Tab) (w : World) (K : PySem.W.Frag) : Prop := obsQ fn ex ts K = valQ fn ts w
def obsQG (n : Nat) (fn : List DefP) (ex : Looks') (ts : List He.Tab) (g : Addr → Option Obj) : AlQ := obsQ fn ex ts (He.frG g (He.asD g n))
def hookQ (n : Nat) (fn : List DefP) (ex : Looks') (ts : List He.Tab) : PySem.W.Hook where
  α := AlQ
  obs := fun s => obsQG n fn ex ts s.heap.get?
  val := fun w => valQ fn ts w
  says := fun w h => ∃ K : PySem.W.Frag, K.In h ∧ SaysQ fn ex ts w K
  of := fun _ _ e => ⟨_, He.frG_in, e⟩
  keeps := fun _ _ _ ⟨K, hK, c⟩ k => ⟨K, PySem.W.Frag.In.keeps hK k, c⟩
theorem obsQG_eq {n : Nat} {fn : List DefP} {ex : Looks'} {ts : List He.Tab} {g : Addr → Option Obj} {s : Shared} (h : ∀ a, g a = s.heap.get? a) : obsQG n fn ex ts g = (hookQ n fn ex ts).obs s := by
  have e : g = s.heap.get? := funext h
  rw [e] <;> rfl
section
variable {fn : List DefP} {ex : Looks'} {ts : List He.Tab} {w : World} {K : PySem.W.Frag}
theorem SaysQ.p (c : SaysQ fn ex ts w K) : SaysP fn ex K := congrArg (fun z : AlQ => z.1) c
theorem SaysQ.look (c : SaysQ fn ex ts w K) (i : Nat) {f : PySem.W.Frag → Bool} (h : ex[i]? = some f := by rfl) : f K = true := c.p.look i h
theorem SaysQ.def_ (c : SaysQ fn ex ts w K) (i : Nat) {d : DefP} (h : fn[i]? = some d := by rfl) : ∃ fd, FunD K d.name d.qual d.params d.body d.scope (d.dvs K) (d.kws K) (d.ad K) fd := c.p.def_ i h
theorem SaysQ.tab (c : SaysQ fn ex ts w K) (i : Nat) {t : He.Tab} {tbl : List (Str × Int)} (h : ts[i]? = some t) (v : He.valsB K (t.1 K) (tbl.map fun q => (q.1, .int q.2)) = true) : KTab K w (t.1 K) tbl := by
  have e : ts.map (fun t => He.dicW K (t.1 K)) = ts.map fun t => some (He.keysIn w.params t.2) := congrArg (fun z : AlQ => z.2) c
  have e2 : (ts.map fun t => He.dicW K (t.1 K))[i]? = (ts.map fun t => some (He.keysIn w.params t.2))[i]? := by rw [e]
  rw [List.getElem?_map, List.getElem?_map, h] at e2
  obtain ⟨es, n, h1, h2, h3⟩ := He.dicW_ok (Option.some.inj e2)
  refine ⟨⟨es, n, h1, h2⟩, h3, fun q hq => ?_⟩
  obtain ⟨u, e3, t', rfl⟩ := He.valsB_ok v (List.mem_map.mpr ⟨q, hq, rfl⟩)
  exact ⟨t', e3⟩
end
/-- the world, with b for what it says of a special's __get__ that raises: a top that asks it (hash, repr, a dict display) is run for both -/
def fw (w : World) (b : Bool) : World := { w with params := { w.params with followText := fun s => if s = "special-get-raises" then b else w.params.followText s } }
theorem fw_eq (w : World) : fw w (w.params.followText "special-get-raises") = w := by
  have : (fun s => if s = "special-get-raises" then w.params.followText "special-get-raises" else w.params.followText s) = w.params.followText := by
    funext s; split
    · rename_i h; rw [h]
    · rfl
  unfold fw
  rw [this]
end PL

namespace PL
open PySem PySem.Spec PyProof.Rows L2 StX

/-! ### defs that make objects while they bind (*args, **kw) -/
abbrev SpS := List D → List D → Nat → QD → EDt → Prop
/-- a def's promise about a call with positional values and the keywords ks -/
def FnS (P : Program) (w : World) (K : PySem.W.Frag) (mg : Str → Option Value) (base : Heap) (CX : CXT) (k : Nat) (f : Addr) (ks : List Str) (sp : List V → List V → Hp → VK → XK → Prop) : Prop :=
  ∀ (A : Around) (outer : List Env) (s : Shared) (H : Hp) (us ws : List Value) (vs zs : List V) (Q : VK) (E : XK), Room k A → Env0 P w K mg base A outer s H → Vals vs us → Vals zs ws → ws.length = ks.length → sp vs zs H Q E →
    codeAny (model P w) A (.call (.ref f) ⟨us, ks.zip ws⟩) (CR CX outer P w H s Q E) s
theorem FnS.mono {P : Program} {w : World} {K : PySem.W.Frag} {mg : Str → Option Value} {base : Heap} {CX : CXT} {j k : Nat} {f : Addr} {ks : List Str} {sp} (F : FnS P w K mg base CX j f ks sp) (h : j ≤ k) : FnS P w K mg base CX k f ks sp :=
  fun A outer s H us ws vs zs Q E hr => F A outer s H us ws vs zs Q E (hr.mono h)
def spOfS (K : PySem.W.Frag) (sp : SpS) : List V → List V → Hp → VK → XK → Prop := fun vs zs H Q E => ∃ G c ds es Qd ED, G.Ok H c ∧ RpAll K G vs ds ∧ RpAll K G zs es ∧ sp ds es c Qd ED ∧
  (∀ d v G' H' c', Evo G H c G' H' c' → Rp K G' v d → Qd d c' → Q v H') ∧
  ∀ C ns es dx G' H' c', Evo G H c G' H' c' → RpE K G' dx ns es → ED C ns es c' → E (.ref C) dx H'
/-- a def of the text, its body read, not yet how it binds -/
structure FnB (P : Program) (w : World) (K : PySem.W.Frag) (mg : Str → Option Value) (base : Heap) (k : Nat) (x qual : Str) (params : Arguments) (body : List Stmt) (scope : Scope) (dvs : List V) (kws : List (Str × V)) (f : Addr) (fd : FuncData) (N ps : List Str) (sp : SpD) : Prop where
  F : FunD K x qual params body scope dvs kws f fd
  S : FnScope N ps scope
  b : ∀ (cdv : Value) (A : Around) (outer : List Env) (s : Shared) (H : Hp) (E : XK) (G0 : GS) (c0 : Nat) (ED : EDt), Ctx.Good ⟨cxOf (L2.CX P w) P w K mg base N qual scope f cdv A outer s H E, G0, H, c0, fun _ => E, fun _ => ED, G0⟩ k →
      ∃ ts t, PDSs ⟨cxOf (L2.CX P w) P w K mg base N qual scope f cdv A outer s H E, G0, H, c0, fun _ => E, fun _ => ED, G0⟩ body ts t ∧ ∀ ds Qd, sp ds c0 Qd ED → t { nx := fun _ c => Qd .non c, rt := Qd } (startD N ds) c0
/-- what the binding of such a call leaves -/
def BnS (P : Program) (w : World) (K : PySem.W.Frag) (mg : Str → Option Value) (base : Heap) (fd : FuncData) (ks ps : List Str) (sd : List D → List D → Prop) (g : List D → List D → List D) : Prop :=
  ∀ (A : Around) (outer : List Env) (s : Shared) (H : Hp) (E : XK) (us ws : List Value) (vs zs : List V) (ds es : List D) (G : GS) (c : Nat), Env0 P w K mg base A outer s H → G.Ok H c → Vals vs us → Vals zs ws → ws.length = ks.length → RpAll K G vs ds → RpAll K G zs es → sd ds es →
    Bnd (L2.CX P w) P w K mg base fd ⟨us, ks.zip ws⟩ ps A outer s H E fun xs H2 => ∃ G2, Evo G H c G2 H2 c ∧ RpAll K G2 xs (g ds es)
section
variable {P : Program} {w : World} {K : PySem.W.Frag} {mg : Str → Option Value} {base : Heap} {x qual : Str} {params : Arguments} {body : List Stmt} {scope : Scope} {dvs : List V} {kws : List (Str × V)} {f : Addr} {fd : FuncData}
def spS (sd : List D → List D → Prop) (g : List D → List D → List D) (sp : SpD) : SpS := fun ds es c Q E => sd ds es ∧ @Run sp (g ds es) c Q E
theorem FnB.star {N ps ks : List Str} {k : Nat} {sp : SpD} {sd : List D → List D → Prop} {g : List D → List D → List D} (B : FnB P w K mg base k x qual params body scope dvs kws f fd N ps sp) (b : BnS P w K mg base fd ks ps sd g) :
    FnS P w K mg base (L2.CX P w) (k + 1) f ks (spOfS K (spS sd g sp)) := by
  intro A outer s H us ws vs zs Q E hr e0 r rz hl h
  obtain ⟨oc, od, dV, kV, doc, pm, an, cdv, ct, osl, efd, lk, hcd, _, _⟩ := B.F.ex
  obtain ⟨G, c, ds, es, Qd, ED, ok, rd, re, ⟨hs, h⟩, hQ, hE⟩ := h
  subst efd
  refine run_bnd lk hcd B.S hr e0 (b A outer s H E us ws vs zs ds es G c e0 ok r rz hl rd re hs) fun s2 H2 xs ⟨G2, ev, rx⟩ hr' => ?_
  obtain ⟨ts, t, hb, ht⟩ := B.b cdv A outer s2 H2 E G2 c ED ⟨takes_of rfl rfl rfl rfl, fun ρ σ G1 H1 c1 R C ns es dx G' H' c' ev2 r q => hE C ns es dx G' H' c' (ev.trans (R.evo.trans ev2)) r q, hr', rfl⟩
  refine ⟨ts, hb.p, hb.s G2 G2 H2 c (startD N (g ds es)) _ { nx := fun _ c => Qd .non c, rt := Qd } _ ?_ ⟨rel_start (Y := ⟨cxOf (L2.CX P w) P w K mg base N qual scope f cdv A outer s2 H2 E, G2, H2, c, fun _ => E, fun _ => ED, G2⟩) ev.ok rx (GS.Le.refl _), GS.Le.refl _⟩ (ht (g ds es) Qd h)⟩
  exact ⟨fun G' H' c' ρ σ R q => hQ _ _ G' H' c' (ev.trans R.r.evo) .non q, fun G' H' c' d v e r q => hQ d v G' H' c' (ev.trans e) r q, fun _ _ _ _ _ _ z => z.elim, fun _ _ _ _ _ _ z => z.elim⟩

/-! ### binding with a star parameter -/
theorem vals_splitAt : ∀ {n : Nat} {vs : List V} {us : List Value}, Vals vs us → Vals (vs.take n) (us.take n) ∧ Vals (vs.drop n) (us.drop n)
  | 0, _, _, r => ⟨.nil, r⟩
  | _ + 1, _, _, .nil => ⟨.nil, .nil⟩
  | n + 1, _, _, .cons a r => ⟨.cons a (vals_splitAt r).1, (vals_splitAt r).2⟩
/-- t looks names up in the dict at D, one behind another, and goes on as u -/
def KwChainT {α : Type} (D : Addr) : List (Str × Value) → Sem α → Sem α → Prop
  | [], t, u => t = u
  | q :: l, t, u => ∃ (β γ : Type) (k1 : Option Value → Sem β) (k2 : β → Sem γ) (k3 : γ → Sem α) (a : β), t = ((nsGet D q.1 >>= k1) >>= k2) >>= k3 ∧ k1 (some q.2) = pure a ∧ KwChainT D l (k2 a >>= k3) u
theorem KwChainT.run {α : Type} {M : Model} {D : Addr} {A : Around} {E : Value → Shared → Prop} {s : Shared} {Q : α → Shared → Prop} (X : K.In s.heap) : ∀ {l : List (Str × Value)} {t u : Sem α}, (∀ q ∈ l, PySem.W.nsIn K D q.1 = some (some q.2)) → KwChainT D l t u → wpAny M A u Q E s → wpAny M A t Q E s
  | [], t, u, _, e, h => by cases e; exact h
  | q :: l, t, u, hl, e, h => by
    obtain ⟨β, γ, k1, k2, k3, a, e1, e2, e3⟩ := e
    have l1 : PySem.W.Looks M s.heap (nsGet D q.1 >>= k1) a := (PySem.W.looks_nsIn X (hl q (List.mem_cons_self ..))).andThen (PySem.W.Looks.of_pure e2)
    rw [e1, bind_assoc]
    exact wpAny_bind (l1.here (KwChainT.run X (fun p hp => hl p (List.mem_cons_of_mem _ hp)) e3 h))
/-- a new tuple of what is left over, behind the values bound: the heart -/
theorem bnd_tup {ps : List Str} {pv : Str} {A : Around} {outer : List Env} {s : Shared} {H : Hp} {E : XK} {args : Args} {vs rest : List V} {us ru : List Value} {ds rd : List D} {G : GS} {c : Nat} (e0 : Env0 P w K mg base A outer s H) (ok : G.Ok H c) (r : Vals vs us) (rr : Vals rest ru) (hl : us.length = ps.length) (hz : rest.length ≤ sizeLine)
    (rp : RpAll K G vs ds) (rpr : RpAll K G rest rd) (B : Sem (List (Str × Value))) (hB : B = (newTuple ru >>= fun t => pure (ps.zip us ++ [(pv, t)]))) (hgo : ∀ (A' : Around) (Ex : Value → Shared → Prop) (Q : List (Str × Value) → Shared → Prop), wpAny (model P w) A' B Q Ex s → wpAny (model P w) A' (bindArgs fd args) Q Ex s) :
    Bnd (L2.CX P w) P w K mg base fd args (ps ++ [pv]) A outer s H E fun xs H2 => ∃ G2, Evo G H c G2 H2 c ∧ RpAll K G2 xs (ds ++ [.tup rd]) := by
  intro A' Ex Q' h
  refine hgo A' Ex Q' ?_
  rw [hB]
  have hn : H s.heap.objs.size = Option.none := e0.hok.fresh (Nat.le_refl _)
  have hz2 : ru.length ≤ sizeLine := by rw [← rr.length]; exact hz
  refine wpAny_bind (wpAny_newTuple (wpAny_pure ?_) hz2)
  have new : ObjOk P w (upd H s.heap.objs.size (.tup rest)) (s.heap.push ({ cls := .type "tuple", data := .seq ru.toArray } : Obj)) s.heap.objs.size (.tup rest) := ⟨hz, ru, rr, ⟨_, Heap.get?_push_size _ rfl, rfl, _, rfl⟩⟩
  have un := un_laid (fs := frs outer) (s := s) (o := ({ cls := .type "tuple", data := .seq ru.toArray } : Obj)) (u := .tup rest) hn
  have z := h _ _ (vs ++ [V.ref s.heap.objs.size]) (us ++ [Value.ref s.heap.objs.size]) (env0_laid e0 new) un rfl (fun e s' => cxUp outer s H _ _ E e s' un (fun b o q => Heap.get?_push_of_some _ q) rfl) (r.append (.cons rfl .nil))
    (by rw [List.length_append, List.length_append, r.length, hl] <;> rfl) ⟨_, Evo.laid ok _ hn, RpAll.append (rp.mono (Evo.laid ok (.tup rest) hn).le) (.cons (Rp.newTup ok hn rpr) .nil)⟩
  rw [List.zip_append hl.symm] at z
  exact z
/-- n parameters, then *pv, called by position -/
theorem bns_star {ps : List Str} {pv : Str} (F : FunD K x qual params body scope [] kws f fd) (hk : kws = []) (h : ∀ (kV doc pm : Value) (an : Option Addr) (cdv ct : Value) (us rest : List Value), us.length = ps.length → bindArgs (PySem.W.fnOf x qual params body scope .none kV doc pm an cdv ct) ⟨us ++ rest, []⟩ = (newTuple rest >>= fun t => pure (ps.zip us ++ [(pv, t)]))) :
    BnS P w K mg base fd [] (ps ++ [pv]) (fun ds _ => ps.length ≤ ds.length ∧ ds.length ≤ 16777216) fun ds _ => ds.take ps.length ++ [.tup (ds.drop ps.length)] := by
  intro A outer s H E us ws vs zs ds es G c e0 ok r rz hl rd re ⟨h1, h2⟩
  rw [← sizeLine_eq] at h2
  obtain ⟨oc, od, dV, kV, doc, pm, an, cdv, ct, osl, rfl, lk, hcd, hD, hK⟩ := F.ex
  rcases hD with ⟨_, rfl⟩ | ⟨e, _⟩
  · have hw : ws = [] := List.length_eq_zero_iff.mp hl
    subst hw
    have l1 := rd.length
    have l2 := r.length
    have e := List.take_append_drop ps.length us
    obtain ⟨r1, r2⟩ := vals_splitAt (n := ps.length) r
    refine bnd_tup e0 ok r1 r2 (by rw [List.length_take]; omega) (by rw [List.length_drop]; omega) (rd.take _) (rd.drop _) _ (h kV doc pm an cdv ct (us.take ps.length) (us.drop ps.length) (by rw [List.length_take]; omega)) fun A' Ex Q z => ?_
    rw [e] at z
    exact z
  · exact absurd rfl e
/-- f(p = e): the parameters by keywords, nothing left over -/
theorem bns_star_kw {ps ks : List Str} {pv : Str} (F : FunD K x qual params body scope [] kws f fd) (g : {α : Type} → List α → List α) (hlen : ∀ {α : Type} {l : List α}, l.length = ks.length → (g l).length = ps.length)
    (hg : ∀ {α β : Type} {R : α → β → Prop} {l : List α} {m : List β}, Paired R l m → Paired R (g l) (g m)) (hg2 : ∀ {G : GS} {vs ds}, RpAll K G vs ds → RpAll K G (g vs) (g ds))
    (h : ∀ (kV doc pm : Value) (an : Option Addr) (cdv ct : Value) (ws : List Value), ws.length = ks.length → bindArgs (PySem.W.fnOf x qual params body scope .none kV doc pm an cdv ct) ⟨[], ks.zip ws⟩ = (newTuple [] >>= fun t => pure (ps.zip (g ws) ++ [(pv, t)]))) :
    BnS P w K mg base fd ks (ps ++ [pv]) (fun ds _ => ds = []) fun _ es => g es ++ [.tup []] := by
  intro A outer s H E us ws vs zs ds es G c e0 ok r rz hl rd re h1
  subst h1
  cases rd
  cases r
  obtain ⟨oc, od, dV, kV, doc, pm, an, cdv, ct, osl, rfl, lk, hcd, hD, hK⟩ := F.ex
  rcases hD with ⟨_, rfl⟩ | ⟨e, _⟩
  · exact bnd_tup e0 ok (hg rz) .nil (hlen hl) (Nat.zero_le _) (hg2 re) .nil _ (h kV doc pm an cdv ct ws hl) fun A' Ex Q z => z
  · exact absurd rfl e
/-- *pv, then keyword-only parameters with defaults: called by position -/
theorem bns_kwo0 {kws : List (Str × V)} {dks : List D} {pv : Str} (F : FunD K x qual params body scope [] kws f fd) (hk : kws ≠ []) (hdk : ∀ G, RpAll K G (kws.map (·.2)) dks)
    (h : ∀ (D : Addr) (doc pm : Value) (an : Option Addr) (cdv ct : Value) (us ks : List Value), ks.length = kws.length → KwChainT D ((kws.map (·.1)).zip ks) (bindArgs (PySem.W.fnOf x qual params body scope .none (.ref D) doc pm an cdv ct) ⟨us, []⟩) (newTuple us >>= fun t => pure ((kws.map (·.1)).zip ks ++ [(pv, t)]))) :
    BnS P w K mg base fd [] (kws.map (·.1) ++ [pv]) (fun ds _ => ds.length ≤ 16777216) fun ds _ => dks ++ [.tup ds] := by
  intro A outer s H E us ws vs zs ds es G c e0 ok r rz hl rd re h2
  rw [← sizeLine_eq] at h2
  obtain ⟨oc, od, dV, kV, doc, pm, an, cdv, ct, osl, rfl, lk, hcd, hD, hK⟩ := F.ex
  have X := e0.mod.kin.keeps fun b o e => (e0.bs b o e).1
  rcases hD with ⟨_, rfl⟩ | ⟨e, _⟩
  · rcases hK with e | ⟨D, rfl, hq⟩
    · exact absurd e hk
    · obtain ⟨ks, hlk, rk, hks⟩ := kwd_vals hq
      have hw : ws = [] := List.length_eq_zero_iff.mp hl
      subst hw
      exact bnd_tup e0 ok rk r (by simpa using hlk) (by rw [rd.length]; exact h2) (hdk G) rd _ rfl fun A' Ex Q z => KwChainT.run X hks (h D doc pm an cdv ct us ks hlk) z
  · exact absurd rfl e
/-- .. all of them given by keywords -/
theorem bns_kwo1 {ps ks : List Str} {pv : Str} (F : FunD K x qual params body scope [] kws f fd) (g : {α : Type} → List α → List α) (hlen : ∀ {α : Type} {l : List α}, l.length = ks.length → (g l).length = ps.length)
    (hg : ∀ {α β : Type} {R : α → β → Prop} {l : List α} {m : List β}, Paired R l m → Paired R (g l) (g m)) (hg2 : ∀ {G : GS} {vs ds}, RpAll K G vs ds → RpAll K G (g vs) (g ds))
    (h : ∀ (kV doc pm : Value) (an : Option Addr) (cdv ct : Value) (us ws : List Value), ws.length = ks.length → bindArgs (PySem.W.fnOf x qual params body scope .none kV doc pm an cdv ct) ⟨us, ks.zip ws⟩ = (newTuple us >>= fun t => pure (ps.zip (g ws) ++ [(pv, t)]))) :
    BnS P w K mg base fd ks (ps ++ [pv]) (fun ds _ => ds.length ≤ 16777216) fun ds es => g es ++ [.tup ds] := by
  intro A outer s H E us ws vs zs ds es G c e0 ok r rz hl rd re h2
  rw [← sizeLine_eq] at h2
  obtain ⟨oc, od, dV, kV, doc, pm, an, cdv, ct, osl, rfl, lk, hcd, hD, hK⟩ := F.ex
  rcases hD with ⟨_, rfl⟩ | ⟨e, _⟩
  · exact bnd_tup e0 ok (hg rz) r (hlen hl) (by rw [rd.length]; exact h2) (hg2 re) rd _ (h kV doc pm an cdv ct us ws hl) fun A' Ex Q z => z
  · exact absurd rfl e
end

/-! ### calls -/
section
variable {X : Cx} {CX : CXT} {k : Nat} {f : Addr} {ks : List Str} {sp : List V → List V → Hp → VK → XK → Prop} {E : L2.St → XK} {x : Str} {p pos sp_ : Pos} {e : Expr} {es : List Expr} {kws : List Keyword} {t tk : TA} {te : TE}
theorem backS {pins : List (Addr × Obj)} {σ : L2.St} {H : Hp} {s : Shared} {Q : VK} {us ws : List Value} {vs zs : List V} (F : FnS X.prog X.w X.K X.mg X.base CX k f ks sp) (hr : Room k X.A) (hx : PassesAt CX X σ (E σ)) (I : L2.Inv X pins σ H s) (r : Vals vs us) (rz : Vals zs ws) (l : zs.length = ks.length)
    (h : sp vs zs H Q (E σ)) : wpAny (model X.prog X.w) X.A (call (.ref f) us (ks.zip ws)) (EP X pins σ Q) X.xe s := by
  refine wpAny_call (codeAny_mono (F X.A X.stack s H us ws vs zs Q (E σ) hr I.env0 r rz (rz.length.symm.trans l) h) fun rr s' hq => ?_)
  cases rr with
  | error e => exact hx pins H s e s' I hq
  | ok fl =>
    cases fl with
    | ret u => exact I.after hq
    | next => exact False.elim hq
    | brk => exact False.elim hq
    | cont => exact False.elim hq
def tCallS (m : Nat) (sp : List V → List V → Hp → VK → XK → Prop) (E : L2.St → XK) (t tk : TA) : TE := fun σ H Q => t σ H fun vs H1 => tk σ H1 fun zs H2 => zs.length = m ∧ sp vs zs H2 Q (E σ)
variable (hr : Room k X.A) (hg : Gl X x) (hm : X.mg x = some (.ref f)) (hk : PySem.W.keepIn X.K (.ref f) = true) (hx : ∀ σ, PassesAt CX X σ (E σ)) (hdb : (x == ("__debug__" : Str)) = false)
include hr hg hm hk hx hdb
theorem pe_sPos (F : FnS X.prog X.w X.K X.mg X.base CX k f [] sp) (ha : PA X (e :: es) t) (he : starEach (e :: es) X.env = (false, eval e X.env) :: starEach es X.env) (hpl : (backTo pos (starEach es X.env)).any (·.1) = false) : PE X (.Call (.Name x p) (e :: es) [] pos) (tCallS 0 sp E t tNil) :=
  ⟨fun pins s σ H Q I h => wpAny_Call_Name_kw (ld_glob I hg hm (PySem.W.callWith_K (h₀ := X.base) I.ok.mod.kin hk (thn (ha.run pos pins s σ H _ I h) fun us s1 ⟨vs, H1, I1, r, _, q⟩ => ⟨I1.kIn, backS (ws := []) (zs := []) F hr (hx σ) I1 r .nil rfl q⟩) he hpl) hdb)⟩
theorem pe_sPos0 (F : FnS X.prog X.w X.K X.mg X.base CX k f [] sp) : PE X (.Call (.Name x p) [] [] pos) (tCallS 0 sp E tNil tNil) :=
  ⟨fun pins s σ H Q I h => wpAny_Call_Name_kw (ld_glob I hg hm (PySem.W.callWith_K0 I.kIn hk (backS (us := []) (ws := []) (zs := []) F hr (hx σ) I .nil .nil rfl h.2)) hdb)⟩
theorem pe_sKw (F : FnS X.prog X.w X.K X.mg X.base CX k f ks sp) (ha : PA X (e :: es) t) (hkw : PK X kws tk) (hall : (backToKw pos (keywordEach kws X.env)).all (·.1.isSome) = true) (hks : (backToKw pos (keywordEach kws X.env)).filterMap (·.1) = ks)
    (he : starEach (e :: es) X.env = (false, eval e X.env) :: starEach es X.env) (hpl : ((backTo pos (starEach (e :: es) X.env)).any (·.1) || (backToKw pos (keywordEach kws X.env)).any (·.1.isNone)) = false) : PE X (.Call (.Name x p) (e :: es) kws pos) (tCallS ks.length sp E t tk) := by
  refine ⟨fun pins s σ H Q I h => wpAny_Call_Name_kw (ld_glob I hg hm (PySem.W.callWith_KW (h₀ := X.base) I.ok.mod.kin hk hall (thn (ha.run pos pins s σ H _ I h) fun us s1 ⟨vs, H1, I1, r, q⟩ => thn (hkw.run pos pins s1 σ H1 _ I1 q) fun ws s2 ⟨zs, H2, I2, rz, l2, q2⟩ => ⟨I2.kIn, ?_⟩) hpl he) hdb)⟩
  rw [hks]
  exact backS F hr (hx σ) I2 r rz l2 q2
theorem pe_sKw0 (F : FnS X.prog X.w X.K X.mg X.base CX k f ks sp) (hkw : PK X kws tk) (hall : (backToKw pos (keywordEach kws X.env)).all (·.1.isSome) = true) (hks : (backToKw pos (keywordEach kws X.env)).filterMap (·.1) = ks)
    (hpl : (backToKw pos (keywordEach kws X.env)).any (·.1.isNone) = false) : PE X (.Call (.Name x p) [] kws pos) (tCallS ks.length sp E tNil tk) := by
  refine ⟨fun pins s σ H Q I h => wpAny_Call_Name_kw (ld_glob I hg hm (PySem.W.callWith_KW0 (h₀ := X.base) I.ok.mod.kin hk hall (thn (hkw.run pos pins s σ H _ I h) fun ws s2 ⟨zs, H2, I2, rz, l2, q2⟩ => ⟨I2.kIn, ?_⟩) hpl) hdb)⟩
  rw [hks]
  exact backS (us := []) F hr (hx σ) I2 .nil rz l2 q2
theorem pe_sStar (F : FnS X.prog X.w X.K X.mg X.base CX k f [] sp) (he : PE X e te) (hst : starEach [.Starred e sp_] X.env = [(true, eval e X.env)]) : PE X (.Call (.Name x p) [.Starred e sp_] [] pos) (tCallS 0 sp E (tStar X.K te tNil) tNil) :=
  ⟨fun pins s σ H Q I h => wpAny_Call_Name_kw (ld_glob I hg hm (PySem.W.callWith_S (h₀ := X.base) I.ok.mod.kin hk (thn (he.run pins s σ H _ I h) fun v s1 ⟨y, H1, I1, ry, a, xs, ey, hxs, q⟩ => by
    subst ey
    obtain rfl : v = Value.ref a := ry
    exact star_any I1 hxs fun us s2 I2 rv => ⟨I2.kIn, backS (ws := []) (zs := []) F hr (hx σ) I2 (by rw [List.append_nil]; exact rv) .nil rfl q.2⟩) hst) hdb)⟩
end
section
variable {Y : Ctx} {k : Nat} {f : Addr} {ks : List Str} {sp : SpS} {x : Str} {p pos sp_ : Pos} {e : Expr} {es : List Expr} {kws : List Keyword} {fa fk : TA} {t tk : DA} {te : TE} {de : DE}
/-- how a star def is called: its name -/
structure CalS (K : PySem.W.Frag) (mg : Str → Option Value) (x : Str) (f : Addr) : Prop where
  m : mg x = some (.ref f)
  k : PySem.W.keepIn K (.ref f) = true
def dCallS (ED : DEnv → EDt) (m : Nat) (sp : SpS) (t tk : DA) : DE := fun ρ c Q => t ρ c fun ds c1 => tk ρ c1 fun es c2 => es.length = m ∧ sp ds es c2 Q (ED ρ)
theorem callS_sim {m : Nat} (g : Y.Good k) (ha : SimA Y fa t) (hk : SimA Y fk tk) : SimE Y (tCallS m (spOfS Y.X.K sp) Y.E fa fk) (dCallS Y.ED m sp t tk) := fun G H c ρ σ Qd Q R q kk =>
  ha G H c ρ σ _ _ R q fun ds vs G1 H1 c1 ev r q => hk G1 H1 c1 ρ σ _ _ (R.evo' ev) q fun es zs G2 H2 c2 ev2 r2 ⟨l2, q⟩ =>
    ⟨by rw [r2.length]; exact l2, G2, c2, ds, es, Qd, Y.ED ρ, ev2.ok, r.mono ev2.le, r2, q, fun d v G' H' c' e' r' q' => kk d v G' H' c' ((ev.trans ev2).trans e') r' q',
      fun C ns es dx G' H' c' e' r' q' => g.err ρ σ G H c R C ns es dx G' H' c' ((ev.trans ev2).trans e') r' q'⟩
theorem pd_sPos (g : Y.Good k) (F : FnS Y.X.prog Y.X.w Y.X.K Y.X.mg Y.X.base (L2.CX Y.X.prog Y.X.w) k f [] (spOfS Y.X.K sp)) (C : CalS Y.X.K Y.X.mg x f) (ha : PDA Y (e :: es) fa t) (hg : Gl Y.X x := by rfl) (hdb : (x == ("__debug__" : Str)) = false := by decide)
    (he : starEach (e :: es) Y.X.env = (false, eval e Y.X.env) :: starEach es Y.X.env := by rfl) (hpl : (backTo pos (starEach es Y.X.env)).any (·.1) = false := by rfl) : PD Y (.Call (.Name x p) (e :: es) [] pos) (tCallS 0 (spOfS Y.X.K sp) Y.E fa tNil) (dCallS Y.ED 0 sp t dNil) :=
  ⟨pe_sPos g.room hg C.m C.k g.pass hdb F ha.p he hpl, callS_sim g ha.s pda_nil.s⟩
theorem pd_sPos0 (g : Y.Good k) (F : FnS Y.X.prog Y.X.w Y.X.K Y.X.mg Y.X.base (L2.CX Y.X.prog Y.X.w) k f [] (spOfS Y.X.K sp)) (C : CalS Y.X.K Y.X.mg x f) (hg : Gl Y.X x := by rfl) (hdb : (x == ("__debug__" : Str)) = false := by decide) : PD Y (.Call (.Name x p) [] [] pos) (tCallS 0 (spOfS Y.X.K sp) Y.E tNil tNil) (dCallS Y.ED 0 sp dNil dNil) :=
  ⟨pe_sPos0 g.room hg C.m C.k g.pass hdb F, callS_sim g pda_nil.s pda_nil.s⟩
theorem pd_sKw (g : Y.Good k) (F : FnS Y.X.prog Y.X.w Y.X.K Y.X.mg Y.X.base (L2.CX Y.X.prog Y.X.w) k f ks (spOfS Y.X.K sp)) (C : CalS Y.X.K Y.X.mg x f) (ha : PDA Y (e :: es) fa t) (hk : PDK Y kws fk tk) (hall : (backToKw pos (keywordEach kws Y.X.env)).all (·.1.isSome) = true := by rfl) (hks : (backToKw pos (keywordEach kws Y.X.env)).filterMap (·.1) = ks := by rfl) (hg : Gl Y.X x := by rfl)
    (hdb : (x == ("__debug__" : Str)) = false := by decide) (he : starEach (e :: es) Y.X.env = (false, eval e Y.X.env) :: starEach es Y.X.env := by rfl)
    (hpl : ((backTo pos (starEach (e :: es) Y.X.env)).any (·.1) || (backToKw pos (keywordEach kws Y.X.env)).any (·.1.isNone)) = false := by rfl) : PD Y (.Call (.Name x p) (e :: es) kws pos) (tCallS ks.length (spOfS Y.X.K sp) Y.E fa fk) (dCallS Y.ED ks.length sp t tk) :=
  ⟨pe_sKw g.room hg C.m C.k g.pass hdb F ha.p hk.p hall hks he hpl, callS_sim g ha.s hk.s⟩
theorem pd_sKw0 (g : Y.Good k) (F : FnS Y.X.prog Y.X.w Y.X.K Y.X.mg Y.X.base (L2.CX Y.X.prog Y.X.w) k f ks (spOfS Y.X.K sp)) (C : CalS Y.X.K Y.X.mg x f) (hk : PDK Y kws fk tk) (hall : (backToKw pos (keywordEach kws Y.X.env)).all (·.1.isSome) = true := by rfl) (hks : (backToKw pos (keywordEach kws Y.X.env)).filterMap (·.1) = ks := by rfl) (hg : Gl Y.X x := by rfl)
    (hdb : (x == ("__debug__" : Str)) = false := by decide) (hpl : (backToKw pos (keywordEach kws Y.X.env)).any (·.1.isNone) = false := by rfl) : PD Y (.Call (.Name x p) [] kws pos) (tCallS ks.length (spOfS Y.X.K sp) Y.E tNil fk) (dCallS Y.ED ks.length sp dNil tk) :=
  ⟨pe_sKw0 g.room hg C.m C.k g.pass hdb F hk.p hall hks hpl, callS_sim g pda_nil.s hk.s⟩
/-- a tuple or a list: its items -/
def asSeq (x : D) (P : List D → Prop) : Prop := ∃ l, (x = .tup l ∨ x = .lst l) ∧ P l
theorem ev_asSeqT {l : List D} {P : List D → Prop} : asSeq (.tup l) P = P l := by
  apply propext; constructor
  · rintro ⟨_, e | e, h⟩ <;> cases e; exact h
  · exact fun h => ⟨_, .inl rfl, h⟩
theorem ev_asSeqL {l : List D} {P : List D → Prop} : asSeq (.lst l) P = P l := by
  apply propext; constructor
  · rintro ⟨_, e | e, h⟩ <;> cases e; exact h
  · exact fun h => ⟨_, .inr rfl, h⟩
def dStar (te : DE) (t : DA) (ρ : DEnv) (c : Nat) (Q : List D → Nat → Prop) : Prop := te ρ c fun x c1 => asSeq x fun l => t ρ c1 fun ds c2 => Q (l ++ ds) c2
theorem star_sim (he : SimE Y te de) (hr : SimA Y fa t) : SimA Y (tStar Y.X.K te fa) (dStar de t) := fun G H c ρ σ Qd Q R q k =>
  he G H c ρ σ _ _ R q fun d v G1 H1 c1 e1 r1 ⟨l, hl, q1⟩ => by
    rcases hl with rfl | rfl
    · cases r1 with
      | tup h1 h2 =>
        refine ⟨_, _, rfl, .inl (SqT.same e1.ok.same h1), ?_⟩
        exact hr G1 H1 c1 ρ σ _ _ (R.evo' e1) q1 fun ds vs G2 H2 c2 e2 r2 q2 => k _ _ G2 H2 c2 (e1.trans e2) ((h2.mono e2.le).append r2) q2
    · cases r1 with
      | lst h1 h2 =>
        refine ⟨_, _, rfl, .inr (e1.ok.sq h1), ?_⟩
        exact hr G1 H1 c1 ρ σ _ _ (R.evo' e1) q1 fun ds vs G2 H2 c2 e2 r2 q2 => k _ _ G2 H2 c2 (e1.trans e2) ((h2.mono e2.le).append r2) q2
theorem pd_sStar (g : Y.Good k) (F : FnS Y.X.prog Y.X.w Y.X.K Y.X.mg Y.X.base (L2.CX Y.X.prog Y.X.w) k f [] (spOfS Y.X.K sp)) (C : CalS Y.X.K Y.X.mg x f) (he : PD Y e te de) (hg : Gl Y.X x := by rfl) (hdb : (x == ("__debug__" : Str)) = false := by decide)
    (hst : starEach [.Starred e sp_] Y.X.env = [(true, eval e Y.X.env)] := by rfl) : PD Y (.Call (.Name x p) [.Starred e sp_] [] pos) (tCallS 0 (spOfS Y.X.K sp) Y.E (tStar Y.X.K te tNil) tNil) (dCallS Y.ED 0 sp (dStar de dNil) dNil) :=
  ⟨pe_sStar g.room hg C.m C.k g.pass hdb F he.p hst, callS_sim g (star_sim he.s pda_nil.s) pda_nil.s⟩
end

section
variable {ED : DEnv → EDt} {E : EDt} {m c : Nat} {sp : SpD} {sq : SpS} {sd : List D → List D → Prop} {g : List D → List D → List D} {ds es : List D} {t tk : DA} {te : DE} {ρ : DEnv} {Q : QD} {QL : List D → Nat → Prop} {d : D} {l : List D}
theorem ev_callS : dCallS ED m sq t tk ρ c Q = t ρ c fun ds c1 => tk ρ c1 fun es c2 => es.length = m ∧ sq ds es c2 Q (ED ρ) := propext Iff.rfl
theorem ev_spS : spS sd g sp ds es c Q E = (sd ds es ∧ @Run sp (g ds es) c Q E) := propext Iff.rfl
theorem ev_star : dStar te t ρ c QL = te ρ c fun x c1 => asSeq x fun l => t ρ c1 fun ds c2 => QL (l ++ ds) c2 := propext Iff.rfl
theorem take_1 : (d :: l).take 1 = [d] := rfl
theorem drop_1 : (d :: l).drop 1 = l := rfl
end
/-! ### t == () -/
section
variable {X : Cx} {Y : Ctx} {a : Expr} {ea : TE} {ta : DE} {pos p2 : Pos} {x2 : ExprContext}
def rEqN (K : PySem.W.Frag) : R2 := fun x y H Q => ∃ a b xs, x = .ref a ∧ y = .ref b ∧ SqT K H a xs ∧ SqT K H b [] ∧ Q (.bl (xs.length == 0)) H
theorem op_eqN (hu : X.A.units < cLine) : OpR X (compareOp .Eq) (rEqN X.K) := by
  intro pins s σ H x y v u Q I rx ry h
  obtain ⟨a, b, xs, rfl, rfl, h1, h2, q⟩ := h
  cases (show v = Value.ref a from rx)
  cases (show u = Value.ref b from ry)
  obtain ⟨i1, r1, t1, _⟩ := I.tuple h1
  obtain ⟨i2, r2, t2, _⟩ := I.tuple h2
  cases r2
  refine SeqAt.eq_tupleAt (e := fun _ => true) t1 t2 hu (fun j h1 h2 => absurd h2 (by simp)) ?_
  refine ⟨.bl _, H, I, ?_, q⟩
  rw [r1.length]
  simp [L2.RelV]
def asT (x : D) (P : List D → Prop) : Prop := ∃ l, x = .tup l ∧ P l
theorem ev_asT {l : List D} {P : List D → Prop} : asT (.tup l) P = P l := by
  apply propext; constructor
  · rintro ⟨_, e, h⟩; cases e; exact h
  · exact fun h => ⟨_, rfl, h⟩
def aEqN : RD2 := fun x y c Q => asT x fun l => y = .tup [] ∧ Q (.bl (l.length == 0)) c
theorem ev_eqN {x y : D} {c : Nat} {Q : QD} : aEqN x y c Q = asT x fun l => y = .tup [] ∧ Q (.bl (l.length == 0)) c := propext Iff.rfl
theorem br_eqN {K : PySem.W.Frag} : Br2 K (rEqN K) aEqN := fun G H c x y d e Qd Q ok rx ry ⟨l, ed, ee, q⟩ k => by
  subst ed ee
  cases rx with
  | tup h1 h2 =>
    cases ry with
    | tup g1 g2 =>
      cases g2
      refine ⟨_, _, _, rfl, rfl, SqT.same ok.same h1, SqT.same ok.same g1, ?_⟩
      rw [h2.length]
      exact k _ _ G H c (Evo.refl ok) (.bl _) q
theorem pdc_eqN (g : Y.Good k) {b : Expr} {eb : TE} {tb : DE} (ha : PD Y a ea ta) (hb : PD Y b eb tb) : PDC Y .Eq a b (tOp (rEqN Y.X.K) ea eb) (dOp aEqN ta tb) := pdc_op (op_eqN (by have := g.room.units; omega)) br_eqN ha hb
end
end PL

namespace PL
open PySem PySem.Spec PyProof.Rows L2

/-! ### rows of forms put together from the left -/
inductive Fm.Op where
  | join | choice
def Fm.Op.name : Fm.Op → Str
  | .join => "join"
  | .choice => "choice"
def Fm.Op.mk : Fm.Op → Fm → Fm → Fm
  | .join => .join
  | .choice => .choice
def Fm.nx (o : Fm.Op) (mid : Option Fm) (f g : Fm) : Fm := match mid with
  | none => o.mk f g
  | some m => o.mk (o.mk f m) g
def Fm.row (o : Fm.Op) (mid : Option Fm) (f : Fm) (gs : List Fm) : Fm := gs.foldl (Fm.nx o mid) f
def optF (o : Option Fm) (e : Fm → D) : D := match o with
  | none => .non
  | some f => e f
theorem Fm.Op.enc (o : Fm.Op) (f g : Fm) : (o.mk f g).enc = .tup [.str o.name, f.enc, g.enc] := by cases o <;> rfl
theorem Fm.Op.ok {o : Fm.Op} {f g : Fm} : (o.mk f g).ok ↔ f.ok ∧ g.ok := by cases o <;> exact Iff.rfl
theorem Fm.Op.parts (o : Fm.Op) (f g : Fm) : (o.mk f g).parts = 1 + (f.parts + g.parts) := by cases o <;> rfl
def Fm.midP (mid : Option Fm) : Nat := match mid with
  | none => 0
  | some m => 1 + m.parts
theorem Fm.nx_parts (o : Fm.Op) (mid : Option Fm) (f g : Fm) : (Fm.nx o mid f g).parts = f.parts + (1 + g.parts + Fm.midP mid) := by
  cases mid with
  | none => simp only [Fm.nx, Fm.Op.parts, Fm.midP]; omega
  | some m => simp only [Fm.nx, Fm.Op.parts, Fm.midP]; omega
theorem Fm.row_parts (o : Fm.Op) (mid : Option Fm) : ∀ (gs : List Fm) (f : Fm), (Fm.row o mid f gs).parts = f.parts + (gs.map fun g => 1 + g.parts + Fm.midP mid).sum
  | [], f => rfl
  | g :: gs, f => by
    show (Fm.row o mid (Fm.nx o mid f g) gs).parts = _
    rw [Fm.row_parts o mid gs, Fm.nx_parts, List.map_cons, List.sum_cons]; omega
theorem Fm.nx_ok {o : Fm.Op} {mid : Option Fm} {f g : Fm} (hf : f.ok) (hg : g.ok) (hm : ∀ m, mid = some m → m.ok) : (Fm.nx o mid f g).ok := by
  cases mid with
  | none => exact Fm.Op.ok.mpr ⟨hf, hg⟩
  | some m => exact Fm.Op.ok.mpr ⟨Fm.Op.ok.mpr ⟨hf, hm m rfl⟩, hg⟩
theorem Fm.row_ok {o : Fm.Op} {mid : Option Fm} (hm : ∀ m, mid = some m → m.ok) : ∀ {gs : List Fm} {f : Fm}, f.ok → (∀ g ∈ gs, g.ok) → (Fm.row o mid f gs).ok
  | [], f, hf, _ => hf
  | g :: gs, f, hf, hg => Fm.row_ok hm (gs := gs) (Fm.nx_ok hf (hg g (by simp)) hm) fun x hx => hg x (by simp [hx])
theorem Fm.row_snoc {o : Fm.Op} {mid : Option Fm} {f g : Fm} {gs : List Fm} {k : Nat} (h : gs[k]? = some g) : Fm.row o mid f (gs.take (k + 1)) = Fm.nx o mid (Fm.row o mid f (gs.take k)) g := by
  rw [take_snoc h]; simp [Fm.row]
theorem Fm.parts_sum_le {b : Nat} {t : Nat} : ∀ {gs : List Fm}, (∀ g ∈ gs, g.parts ≤ b) → (gs.map fun g => 1 + g.parts + t).sum ≤ gs.length * (1 + b + t)
  | [], _ => by simp
  | g :: gs, h => by
    have := Fm.parts_sum_le (t := t) (b := b) (gs := gs) fun x hx => h x (by simp [hx])
    have := h g (by simp)
    rw [List.map_cons, List.sum_cons, List.length_cons, Nat.succ_mul]; omega
end PL

namespace PL
open PySem PySem.Spec PyProof.Rows L2 StX

/-! ### dicts with keys that are ints and texts -/
def kD : Key → D
  | .inl i => .int i
  | .inr x => .str x
def dgetD : List Key → List D → Key → Option D
  | k' :: ks, d :: ds, k => if k' = k then some d else dgetD ks ds k
  | _, _, _ => none
def dputK (ks : List Key) (k : Key) : List Key := if (ks.any fun x => decide (x = k)) = true then ks else ks ++ [k]
def dputD : List Key → List D → Key → D → List D
  | k' :: ks, d :: ds, k, e => if k' = k then e :: ds else d :: dputD ks ds k e
  | _, _, _, e => [e]
section
variable {K : PySem.W.Frag} {G : GS}
theorem kV_rp {y : V} {k : Key} (h : Rp K G y (kD k)) : y = kV k := by cases k <;> (cases h; rfl)
theorem rp_kV (k : Key) : Rp K G (kV k) (kD k) := by
  cases k with
  | inl i => exact .int i
  | inr x => exact .str x
theorem valV_dget : ∀ {kvs : List (Key × V)} {ds : List D} (k : Key), RpAll K G (kvs.map (·.2)) ds → (valV kvs k = none ∧ dgetD (kvs.map (·.1)) ds k = none) ∨ ∃ v d, valV kvs k = some v ∧ dgetD (kvs.map (·.1)) ds k = some d ∧ Rp K G v d
  | [], _, k, h => .inl ⟨rfl, by cases h; rfl⟩
  | p :: kvs, _, k, h => by
    cases h with
    | @cons _ _ d ds r h =>
      by_cases e : p.1 = k
      · exact .inr ⟨p.2, d, valV_pos e, by simp [dgetD, e], r⟩
      · rcases valV_dget k h with ⟨e1, e2⟩ | ⟨v, d', e1, e2, r'⟩
        · exact .inl ⟨by rw [valV_neg e]; exact e1, by simp [dgetD, e, e2]⟩
        · exact .inr ⟨v, d', by rw [valV_neg e]; exact e1, by simp [dgetD, e, e2], r'⟩
theorem putK_map {kvs : List (Key × V)} {k : Key} {v : V} : (putK kvs k v).map (·.1) = dputK (kvs.map (·.1)) k := by
  unfold putK dputK
  have e : ((kvs.map (·.1)).any fun x => decide (x = k)) = kvs.any fun kv => decide (kv.1 = k) := by rw [List.any_map]; rfl
  rw [e]
  by_cases c : (kvs.any fun kv => decide (kv.1 = k)) = true
  · rw [if_pos c, if_pos c, List.map_map]
    refine List.map_congr_left fun p _ => ?_
    show (if p.1 = k then (p.1, v) else p).1 = p.1
    split <;> rfl
  · rw [if_neg c, if_neg c, List.map_append]; rfl
theorem same_keys {v : V} {k : Key} : ∀ {kvs : List (Key × V)}, k ∉ kvs.map (·.1) → kvs.map (fun kv => if kv.1 = k then (kv.1, v) else kv) = kvs
  | [], _ => rfl
  | p :: kvs, h => by
    simp only [List.map_cons, List.mem_cons, not_or] at h
    rw [List.map_cons, same_keys h.2, if_neg (fun e => h.1 e.symm)]
theorem putK_cons {p : Key × V} {kvs : List (Key × V)} {k : Key} {v : V} (nd : p.1 ∉ kvs.map (·.1)) : putK (p :: kvs) k v = if p.1 = k then (p.1, v) :: kvs else p :: putK kvs k v := by
  unfold putK
  by_cases e : p.1 = k
  · simp only [List.any_cons, e, decide_true, Bool.true_or, if_true, List.map_cons]
    rw [same_keys (e ▸ nd)]
  · rw [if_neg e]
    simp only [List.any_cons, e, decide_false, Bool.false_or, List.map_cons, if_false]
    split <;> rfl
theorem putK_rp {k : Key} {v : V} {d : D} (r : Rp K G v d) : ∀ {kvs : List (Key × V)} {ds : List D}, (kvs.map (·.1)).Nodup → RpAll K G (kvs.map (·.2)) ds → RpAll K G ((putK kvs k v).map (·.2)) (dputD (kvs.map (·.1)) ds k d)
  | [], _, _, h => by cases h; exact .cons r .nil
  | p :: kvs, _, nd, h => by
    rw [List.map_cons, List.nodup_cons] at nd
    cases h with
    | @cons _ _ d0 ds r0 h =>
      rw [putK_cons nd.1]
      by_cases e : p.1 = k
      · simp only [e, if_true, List.map_cons, dputD]
        exact .cons r h
      · simp only [e, if_false, List.map_cons, dputD]
        exact .cons r0 (putK_rp r nd.2 h)
end
/-- a dict; a key -/
def dctP (x : D) (P : List Key → List D → Prop) : Prop := ∃ ks ds, x = .dct ks ds ∧ P ks ds
def keyP (y : D) (P : Key → Prop) : Prop := ∃ k, y = kD k ∧ P k
section
variable {ks : List Key} {ds : List D} {P : List Key → List D → Prop} {Pk : Key → Prop} {x : Str} {i : Int}
theorem ev_dctP : dctP (.dct ks ds) P = P ks ds := by
  apply propext; constructor
  · rintro ⟨_, _, e, h⟩; cases e; exact h
  · exact fun h => ⟨_, _, rfl, h⟩
theorem ev_keyS : keyP (.str x) Pk = Pk (.inr x) := by
  apply propext; constructor
  · rintro ⟨k, e, h⟩
    cases k with
    | inl j => cases e
    | inr y => cases e; exact h
  · exact fun h => ⟨.inr x, rfl, h⟩
theorem ev_keyI : keyP (.int i) Pk = Pk (.inl i) := by
  apply propext; constructor
  · rintro ⟨k, e, h⟩
    cases k with
    | inl j => cases e; exact h
    | inr y => cases e
  · exact fun h => ⟨.inl i, rfl, h⟩
end
section
variable {Y : Ctx} {k : Nat} {a b e f o : Expr} {ea eb ec : TE} {ta tb tc : DE} {pos apos cpos : Pos}
theorem DGet.of {G : GS} {H : Hp} {c : Nat} {x y : V} {ks : List Key} {ds : List D} {kk : Key} (ok : G.Ok H c) (rx : Rp Y.X.K G x (.dct ks ds)) (ry : Rp Y.X.K G y (kD kk)) : ∃ p, x = .ref p ∧ L2.IsD H p ∧ ((DGet H p y none ∧ dgetD ks ds kk = none) ∨ ∃ v d, DGet H p y (some v) ∧ dgetD ks ds kk = some d ∧ Rp Y.X.K G v d) := by
  cases rx with
  | @dct p kvs _ _ h1 h2 h3 =>
    have h1' := Rd.same ok.same h1
    refine ⟨p, rfl, .inl ⟨kvs, h1'⟩, ?_⟩
    rw [kV_rp ry]
    subst h2
    rcases valV_dget kk h3 with ⟨e1, e2⟩ | ⟨v, d, e1, e2, r⟩
    · exact .inl ⟨.inl ⟨kvs, kk, h1', rfl, e1.symm⟩, e2⟩
    · exact .inr ⟨v, d, .inl ⟨kvs, kk, h1', rfl, e1.symm⟩, e2, r⟩
/-- d[k] -/
def dDGet (ta tb : DE) : DE := fun ρ c Q => ta ρ c fun x c1 => tb ρ c1 fun y c2 => dctP x fun ks ds => keyP y fun k => ∃ d, dgetD ks ds k = some d ∧ Q d c2
theorem pd_dget (g : Y.Good k) (ha : PD Y a ea ta) (hb : PD Y b eb tb) (hs : NoSl b := by exact fun _ _ => rfl) : PD Y (.Subscript a b pos) (tDGet ea eb) (dDGet ta tb) :=
  ⟨pe_dget (by have := g.room.units; omega) ha.p hb.p hs, fun G H c ρ σ Qd Q R q kk => two R ha.s hb.s q fun d e x y G1 H1 c1 ev r1 r2 ⟨ks, ds, ed, k, ee, z, hz, q⟩ => by
    subst ed ee
    obtain ⟨p, rfl, _, w⟩ := DGet.of ev.ok r1 r2
    rcases w with ⟨_, w⟩ | ⟨v, d, w1, w2, w3⟩
    · rw [hz] at w; cases w
    · rw [hz] at w2
      cases w2
      exact ⟨p, v, rfl, w1, kk _ _ _ _ _ ev w3 q⟩⟩
/-- d.get(k, e) -/
def dGet2 (ta tb tc : DE) : DE := fun ρ c Q => ta ρ c fun x c1 => dctP x fun ks ds => tb ρ c1 fun y c2 => tc ρ c2 fun z c3 => keyP y fun k => Q ((dgetD ks ds k).getD z) c3
theorem pd_dget2 (g : Y.Good k) (ha : PD Y o ea ta) (hb : PD Y e eb tb) (hc : PD Y f ec tc) (m : M2 Y.X o "get" apos e f cpos := by exact ⟨rfl, rfl, rfl, rfl⟩) : PD Y (.Call (.Attribute o "get" apos) [e, f] [] cpos) (tDGet2 ea eb ec) (dGet2 ta tb tc) :=
  ⟨pe_dget2 (by have := g.room.units; omega) ha.p hb.p hc.p m, fun G H c ρ σ Qd Q R q kk => ha.s G H c ρ σ _ _ R q fun d x G1 H1 c1 e1 r1 ⟨ks, ds, ed, q⟩ => by
    subst ed
    obtain ⟨p, rfl, hd⟩ : ∃ p, x = .ref p ∧ L2.IsD H1 p := by
      cases r1 with
      | @dct p kvs _ _ h1 h2 h3 => exact ⟨p, rfl, .inl ⟨kvs, Rd.same e1.ok.same h1⟩⟩
    refine ⟨p, rfl, hd, ?_⟩
    refine hb.s G1 H1 c1 ρ σ _ _ (R.evo' e1) q fun dy y G2 H2 c2 e2 r2 q => ?_
    refine hc.s G2 H2 c2 ρ σ _ _ (R.evo' (e1.trans e2)) q fun dz z G3 H3 c3 e3 r3 ⟨kk', ek, q3⟩ => ?_
    subst ek
    obtain ⟨p', ep, _, w⟩ := DGet.of e3.ok (r1.mono (e2.le.trans e3.le)) (r2.mono e3.le)
    cases ep
    have q : Qd ((dgetD ks ds kk').getD dz) c3 := q3
    rcases w with ⟨w1, w2⟩ | ⟨v, d, w1, w2, w3⟩
    · rw [w2] at q
      exact ⟨none, w1, kk _ _ _ _ _ ((e1.trans e2).trans e3) r3 q⟩
    · rw [w2] at q
      exact ⟨some v, w1, kk _ _ _ _ _ ((e1.trans e2).trans e3) w3 q⟩⟩
/-- k in d, k not in d -/
def dDIn (ng : Bool) (tb ta : DE) : DE := fun ρ c Q => tb ρ c fun y c1 => ta ρ c1 fun x c2 => dctP x fun ks ds => keyP y fun k => Q (.bl (ng != (dgetD ks ds k).isSome)) c2
theorem pdc_dIn (g : Y.Good k) (hb : PD Y b eb tb) (ha : PD Y a ea ta) : PDC Y .In b a (tDIn eb ea) (dDIn false tb ta) :=
  ⟨pc_din (by have := g.room.units; omega) hb.p ha.p, fun G H c ρ σ Qd Q R q kk => two R hb.s ha.s q fun d e x y G1 H1 c1 ev r1 r2 ⟨ks, ds, ed, k, ee, q⟩ => by
    subst ed ee
    obtain ⟨p, rfl, _, w⟩ := DGet.of ev.ok r2 r1
    dsimp only at q
    rcases w with ⟨w1, w2⟩ | ⟨v, d, w1, w2, w3⟩
    · rw [w2] at q; exact ⟨p, none, rfl, w1, kk _ _ _ _ _ ev (.bl _) (by simpa using q)⟩
    · rw [w2] at q; exact ⟨p, some v, rfl, w1, kk _ _ _ _ _ ev (.bl _) (by simpa using q)⟩⟩
theorem pdc_dNotIn (g : Y.Good k) (hb : PD Y b eb tb) (ha : PD Y a ea ta) : PDC Y .NotIn b a (tDNotIn eb ea) (dDIn true tb ta) :=
  ⟨pc_dnotin (by have := g.room.units; omega) hb.p ha.p, fun G H c ρ σ Qd Q R q kk => two R hb.s ha.s q fun d e x y G1 H1 c1 ev r1 r2 ⟨ks, ds, ed, k, ee, q⟩ => by
    subst ed ee
    obtain ⟨p, rfl, _, w⟩ := DGet.of ev.ok r2 r1
    dsimp only at q
    rcases w with ⟨w1, w2⟩ | ⟨v, d, w1, w2, w3⟩
    · rw [w2] at q; exact ⟨p, none, rfl, w1, kk _ _ _ _ _ ev (.bl _) (by simpa using q)⟩
    · rw [w2] at q; exact ⟨p, some v, rfl, w1, kk _ _ _ _ _ ev (.bl _) (by simpa using q)⟩⟩
/-- sorted(d): its keys, which are texts -/
def bSortD : RDn := fun ds c Q => hd1 ds fun d => dctP d fun ks _ => ∃ xs : List Str, ks = xs.map Sum.inr ∧ xs.length < 64 ∧ xs.Nodup ∧ Q (.lst ((sortU xs).map D.str)) c
theorem br_sortD {K : PySem.W.Frag} : BrN K (fun xs H Q => ∃ (a : Addr) (kvs : List (Key × V)) (ks : List Str), xs = [.ref a] ∧ Rd H a (.dK kvs) ∧ kvs.map (·.1) = ks.map Sum.inr ∧ ks.length < 64 ∧ ∀ ys p, ys.Perm ks → sortedS ys = true → H p = none → Q (.ref p) (upd H p (.lst (ys.map V.str)))) bSortD := by
  intro G H c vs ds Qd Q ok rr q kk
  obtain ⟨d, ed, ks, es, ed2, xs, ek, h64, nd, q⟩ := q
  subst ed ed2
  cases rr with
  | cons r rr =>
    cases rr
    cases r with
    | @dct p kvs _ _ h1 h2 h3 =>
      refine ⟨p, kvs, xs, rfl, Rd.same ok.same h1, h2.trans ek, h64, fun ys b pm hs nb => ?_⟩
      have es : ys = sortU xs := sortU_of (pm.nodup_iff.mpr nd) (fun x => pm.mem_iff) hs
      subst es
      exact kk _ _ _ _ c (Evo.laid ok _ nb) (Rp.newLst ok nb (rp_strs _)) q
end
/-! ### displays -/
def dPairs : List (DE × DE) → DEnv → Nat → (List (D × D) → Nat → Prop) → Prop
  | [], _, c, Q => Q [] c
  | (tk, tv) :: r, ρ, c, Q => tk ρ c fun x c1 => tv ρ c1 fun y c2 => dPairs r ρ c2 fun ps c3 => Q ((x, y) :: ps) c3
def RpPs (K : PySem.W.Frag) (G : GS) (ps : List (V × V)) (ds : List (D × D)) : Prop := RpAll K G (ps.map (·.1)) (ds.map (·.1)) ∧ RpAll K G (ps.map (·.2)) (ds.map (·.2))
structure PDP (Y : Ctx) (pos : Pos) (keys : List (Option Expr)) (values : List Expr) (trs : List (TE × TE)) (drs : List (DE × DE)) : Prop where
  p : PPs Y.X pos keys values trs
  s : ∀ G H c ρ σ (Qd : List (D × D) → Nat → Prop) (Q : List (V × V) → Hp → Prop), Rel Y G H c ρ σ → dPairs drs ρ c Qd → (∀ ds ps G' H' c', Evo G H c G' H' c' → RpPs Y.X.K G' ps ds → Qd ds c' → Q ps H') → tPairs trs σ H Q
section
variable {Y : Ctx} {pos : Pos} {k v : Expr} {ks : List (Option Expr)} {vs : List Expr} {ek ev : TE} {tk tv : DE} {trs : List (TE × TE)} {drs : List (DE × DE)}
theorem pdp_nil : PDP Y pos [] [] [] [] := ⟨pps_nil, fun G H c ρ σ Qd Q R q kk => kk [] [] G H c (Evo.refl R.ok) ⟨.nil, .nil⟩ q⟩
theorem pdp_cons (hk : PD Y k ek tk) (hv : PD Y v ev tv) (hr : PDP Y pos ks vs trs drs) : PDP Y pos (some k :: ks) (v :: vs) ((ek, ev) :: trs) ((tk, tv) :: drs) :=
  ⟨pps_cons hk.p hv.p hr.p, fun G H c ρ σ Qd Q R q kk => hk.s G H c ρ σ _ _ R q fun d x G1 H1 c1 e1 r1 q => hv.s G1 H1 c1 ρ σ _ _ (R.evo' e1) q fun d2 y G2 H2 c2 e2 r2 q =>
    hr.s G2 H2 c2 ρ σ _ _ (R.evo' (e1.trans e2)) q fun ds ps G3 H3 c3 e3 r3 q => kk ((d, d2) :: ds) ((x, y) :: ps) G3 H3 c3 ((e1.trans e2).trans e3) ⟨.cons (r1.mono (e2.le.trans e3.le)) r3.1, .cons (r2.mono e3.le) r3.2⟩ q⟩
theorem mergeK_app : ∀ {kvs acc : List (Key × V)}, ((acc ++ kvs).map (·.1)).Nodup → mergeK acc kvs = acc ++ kvs
  | [], acc, _ => by simp [mergeK]
  | p :: kvs, acc, nd => by
    have n1 : p.1 ∉ acc.map (·.1) := fun h => by
      rw [List.map_append, List.map_cons] at nd
      exact (List.nodup_append.mp nd).2.2 _ h _ List.mem_cons_self rfl
    have e : putK acc p.1 p.2 = acc ++ [p] := by
      refine putK_new p.2 ?_
      unfold valV
      rw [List.find?_eq_none.mpr fun x hx => by simpa using fun h : x.1 = p.1 => n1 (h ▸ List.mem_map_of_mem hx)]
      rfl
    show mergeK (putK acc p.1 p.2) kvs = _
    rw [e, mergeK_app (by simpa using nd)]
    simp
theorem keys_rp {K : PySem.W.Frag} {G : GS} : ∀ {ks : List Key} {vs : List V}, RpAll K G vs (ks.map kD) → vs = ks.map kV
  | [], _, h => by cases h; rfl
  | k :: ks, _, h => by
    cases h with
    | cons r h => rw [kV_rp r, keys_rp h]; rfl
/-- {k: e, ..} with different keys -/
def dDisp (drs : List (DE × DE)) : DE := fun ρ c Q => dPairs drs ρ c fun ps c1 => ps.length ≤ 15 ∧ ∃ ks : List Key, ps.map (·.1) = ks.map kD ∧ ks.Nodup ∧ Q (.dct ks (ps.map (·.2))) c1
theorem zip_back {α β γ : Type} (g : α → γ) : ∀ {ps : List (γ × β)} {ks : List α}, ps.map (·.1) = ks.map g → ps = (ks.zip (ps.map (·.2))).map fun kv => (g kv.1, kv.2)
  | [], [], _ => rfl
  | [], _ :: _, h => by cases h
  | _ :: _, [], h => by cases h
  | p :: ps, k :: ks, h => by
    simp only [List.map_cons, List.cons.injEq] at h
    rw [List.map_cons, List.zip_cons_cons, List.map_cons, ← zip_back g h.2, ← h.1]
theorem pd_disp (h : PDP Y pos ks vs trs drs) (hall : ks.all (·.isSome) = true := by rfl) (hl : ks.length = vs.length := by rfl) (h0 : ks ≠ [] := by simp) (h15 : ks.length ≤ 15 := by decide) : PD Y (.Dict ks vs pos) (tDisp trs) (dDisp drs) :=
  ⟨pe_disp h.p hall hl h0 h15, fun G H c ρ σ Qd Q R q kk p np => by
    have lay := Evo.laidU R.ok (.dK []) np
    refine h.s G _ c ρ σ _ _ (R.evo' lay) q fun ds ps G1 H1 c1 e1 ⟨r1, r2⟩ ⟨h15', ks', ek, nd, q⟩ => ?_
    have f1 := R.ok.fnone np
    have p1 := R.ok.punone np
    have hp : H1 p = some (.dK []) := e1.keep p _ upd_same p1
    have f2 : G1.f p = none := e1.new p _ upd_same f1
    have p2 : ¬ G1.pu p := fun z => p1 (e1.npu p _ upd_same z)
    rw [ek] at r1
    have e2 := keys_rp r1
    have ez := zip_back kV e2
    have l1 : ps.length = ks'.length := by have := congrArg List.length e2; simpa using this
    have l2 : ds.length = ks'.length := by have := congrArg List.length ek; simpa using this
    have k1 : (ks'.zip (ps.map (·.2))).map (·.1) = ks' := List.map_fst_zip (by rw [List.length_map, l1]; exact Nat.le_refl _)
    have k2 : (ks'.zip (ps.map (·.2))).map (·.2) = ps.map (·.2) := List.map_snd_zip (by rw [List.length_map, l1]; exact Nat.le_refl _)
    refine ⟨hp, ks'.zip (ps.map (·.2)), ez, by rw [List.length_zip, List.length_map]; omega, ?_⟩
    rw [mergeK_app (by rw [List.nil_append, k1]; exact nd), List.nil_append]
    have em := (lay.trans e1).mut (o := .dK (ks'.zip (ps.map (·.2)))) np f2 p2
    have ef := em.freeze np f2 p2 upd_same
    have le : G1.Le { G1 with f := upd G1.f p (.dK (ks'.zip (ps.map (·.2)))) } := by
      refine ⟨fun b u e => ?_, fun _ z => z⟩
      have : b ≠ p := fun z => by subst z; rw [f2] at e; cases e
      show upd G1.f p _ b = some u
      rw [upd_ne this]; exact e
    have rr : RpAll Y.X.K { G1 with f := upd G1.f p (.dK (ks'.zip (ps.map (·.2)))) } ((ks'.zip (ps.map (·.2))).map (·.2)) (ds.map (·.2)) := by rw [k2]; exact r2.mono le
    exact kk _ _ _ _ c1 ef (.dct (kvs := ks'.zip (ps.map (·.2))) (.inl upd_same) k1 rr) q⟩
end
/-! ### own dicts -/
section
variable {Y : Ctx} {P G : GS} {H : Hp} {c : Nat} {ρ : DEnv} {σ : L2.St}
/-- a dict of the frame's own is changed -/
theorem Rel.putOd {i : Nat} {a : Addr} {kvs' : List (Key × V)} {ks ks' : List Key} {ds es : List D} (R : Rel Y G H c ρ σ) (hi : ρ[i]? = some (.od ks ds)) (hs : σ[i]? = some (some (.ref a))) (hk : kvs'.map (·.1) = ks') (r : RpAll Y.X.K G (kvs'.map (·.2)) es) :
    Rel Y G (upd H a (.dK kvs')) c (ρ.set i (.od ks' es)) σ := by
  obtain ⟨o, e1, b, ys, rfl, h1, h2, h3, h4, _, h5⟩ := R.sl i _ hi
  rw [hs] at e1
  cases e1
  have ev := R.evo.mut (o := .dK kvs') h3 h1 h2
  refine ⟨ev.ok, ev, by simp [R.len], fun j s e => ?_, fun j k s t ne e1 e2 q1 q2 => ?_, R.lo⟩
  · rcases getElem?_set_cases e with ⟨rfl, rfl, _⟩ | ⟨ne, e⟩
    · exact ⟨_, hs, a, kvs', rfl, h1, h2, h3, upd_same, hk, r⟩
    · obtain ⟨o', e2, q⟩ := R.sl j s e
      refine ⟨o', e2, ?_⟩
      cases s with
      | no => trivial
      | fz d => exact q
      | ol fs =>
        obtain ⟨b, zs, rfl, g1, g2, g3, g4, g5⟩ := q
        have nb : b ≠ a := fun z => by
          subst z
          exact R.sep i j _ _ (Ne.symm ne) hi e rfl rfl (hs.trans e2.symm)
        exact ⟨b, zs, rfl, g1, g2, g3, by rw [upd_ne nb]; exact g4, g5⟩
      | od ls fs =>
        obtain ⟨b, zs, rfl, g1, g2, g3, g4, g5⟩ := q
        have nb : b ≠ a := fun z => by
          subst z
          exact R.sep i j _ _ (Ne.symm ne) hi e rfl rfl (hs.trans e2.symm)
        exact ⟨b, zs, rfl, g1, g2, g3, by rw [upd_ne nb]; exact g4, g5⟩
  · have back : ∀ {j : Nat} {s : Sl}, (ρ.set i (.od ks' es))[j]? = some s → s.isOl = true → ∃ s', ρ[j]? = some s' ∧ s'.isOl = true := fun {j s} e q => by
      rcases getElem?_set_cases e with ⟨rfl, rfl, _⟩ | ⟨_, e⟩
      · exact ⟨_, hi, rfl⟩
      · exact ⟨_, e, q⟩
    obtain ⟨s', f1, w1⟩ := back e1 q1
    obtain ⟨t', f2, w2⟩ := back e2 q2
    exact R.sep j k s' t' ne f1 f2 w1 w2
/-- a new dict, the frame's own, in slot i -/
theorem Rel.set_newOd {a : Addr} {kvs : List (Key × V)} {ks : List Key} {ds : List D} (R : Rel Y G H c ρ σ) (h : H a = none) (hk : kvs.map (·.1) = ks) (r : RpAll Y.X.K G (kvs.map (·.2)) ds) (i : Nat) : Rel Y G (upd H a (.dK kvs)) c (ρ.set i (.od ks ds)) (σ.set i (some (.ref a))) := by
  refine (R.evo' (Evo.laidU R.ok (.dK kvs) h)).set_sl ⟨a, kvs, rfl, R.ok.fnone h, R.ok.punone h, R.entry_none h, upd_same, hk, r⟩ fun _ j _ ⟨t, e, q⟩ z => ?_
  obtain ⟨o, e1, r1⟩ := R.sl j t e
  rw [z] at e1
  cases e1
  cases t with
  | no => cases q
  | fz d => cases q
  | ol ds =>
    obtain ⟨b, ys, eb, g1, g2, g3, g4, g5⟩ := r1
    cases eb
    rw [h] at g4; cases g4
  | od ks ds =>
    obtain ⟨b, ys, eb, g1, g2, g3, g4, g5⟩ := r1
    cases eb
    rw [h] at g4; cases g4
/-- the dict of slot i is settled -/
theorem RelP.freezeOd {ks : List Key} {ds : List D} {i : Nat} (R : RelP Y P G H c ρ σ) (hi : ρ[i]? = some (.od ks ds)) : ∃ G', RelP Y P G' H c (ρ.set i (.fz (.dct ks ds))) σ := by
  obtain ⟨o, e1, a, kvs, rfl, h1, h2, h3, h4, h5, h6⟩ := R.r.sl i _ hi
  have le : G.Le { G with f := upd G.f a (.dK kvs) } := ⟨fun b u q => by
    have : b ≠ a := fun z => by subst z; rw [h1] at q; cases q
    show upd G.f a _ b = some u
    rw [upd_ne this]; exact q, fun _ z => z⟩
  refine ⟨{ G with f := upd G.f a (.dK kvs) }, ⟨?_, R.r.evo.freeze h3 h1 h2 h4, by simp [R.r.len], fun j s e => ?_, fun j k s t ne e2 e3 q1 q2 => ?_, R.r.lo.trans le⟩, R.le.trans le⟩
  · exact (R.r.evo.freeze h3 h1 h2 h4).ok
  · rcases getElem?_set_cases e with ⟨rfl, rfl, _⟩ | ⟨ne, e⟩
    · exact ⟨_, e1, .ref a, rfl, .dct (.inl upd_same) h5 (h6.mono le)⟩
    · obtain ⟨o', e2, r⟩ := R.r.sl j s e
      refine ⟨o', e2, ?_⟩
      have nab : ∀ {b : Addr}, s.isOl = true → o' = some (.ref b) → b ≠ a := fun {b} ho eb z => by
        subst z
        exact R.r.sep i j _ _ (Ne.symm ne) hi e rfl ho (e1.trans (eb ▸ e2.symm))
      cases s with
      | no => trivial
      | fz d => obtain ⟨v, q, r⟩ := r; exact ⟨v, q, r.mono le⟩
      | ol es =>
        obtain ⟨b, ys, eb, g1, g2, g3, g4, g5⟩ := r
        exact ⟨b, ys, eb, by show upd G.f a _ b = none; rw [upd_ne (nab rfl eb)]; exact g1, g2, g3, g4, g5.mono le⟩
      | od ks es =>
        obtain ⟨b, ys, eb, g1, g2, g3, g4, g5, g6⟩ := r
        exact ⟨b, ys, eb, by show upd G.f a _ b = none; rw [upd_ne (nab rfl eb)]; exact g1, g2, g3, g4, g5, g6.mono le⟩
  · rcases getElem?_set_cases e2 with ⟨rfl, rfl, _⟩ | ⟨ne2, e2⟩
    · cases q1
    · rcases getElem?_set_cases e3 with ⟨rfl, rfl, _⟩ | ⟨ne3, e3⟩
      · cases q2
      · exact R.r.sep j k s t ne e2 e3 q1 q2
end
section
variable {Y : Ctx} {rest : List Stmt} {s1 : TS} {t : DS} {k : Nat} {e i0 : Expr} {x : Str} {ee ei : TE} {te ti : DE} {p pos pos' pos2 : Pos}
/-- x = {} -/
def sNewD (i : Nat) : DS := fun DD ρ c => DD.nx (ρ.set i (.od [] [])) c
theorem pds_newD (i : Nat) (hN : Y.X.N.Nodup) (hi : Y.X.N[i]? = some x := by rfl) (hx : Loc Y.X.env.scope x := by first | exact Or.inl rfl | exact Or.inr rfl) (hs : swapsWith (.Dict [] [] pos) (some (.Name x pos')) p.line Y.X.env = pure false := by rfl)
    (hf : Y.X.fn x = true ∨ Y.X.env.scope.names.lookup x = some .local := by first | exact .inl rfl | exact .inr rfl) : PDS Y (.Assign [.Name x pos'] (.Dict [] [] pos) p) (tAsg tDNewK (gName i)) (sNewD i) :=
  ⟨ps_set hN hi hx pe_dnewK hs hf, fun P G H c ρ σ DD EE K R q a na => K.nx G _ c _ _ ⟨R.r.set_newOd na rfl .nil i, R.le⟩ q⟩
/-- x[k] = e -/
def odP (s : Option Sl) (P : List Key → List D → Prop) : Prop := ∃ ks ds, s = some (.od ks ds) ∧ P ks ds
def sPutD (i : Nat) (te ti : DE) : DS := fun DD ρ c => te ρ c fun d c1 => odP ρ[i]? fun ks ds => ti ρ c1 fun y c2 => keyP y fun k => ks.length < 16777216 ∧ ks.Nodup ∧ DD.nx (ρ.set i (.od (dputK ks k) (dputD ks ds k d))) c2
theorem pds_putD (i : Nat) (g : Y.Good k) (hp : PE Y.X (.Name x p) (tVar i)) (he : PD Y e ee te) (hi : PD Y i0 ei ti) (hs : swapsWith e (some (.Subscript (.Name x p) i0 pos')) pos.line Y.X.env = pure false := by rfl) : PDS Y (.Assign [.Subscript (.Name x p) i0 pos'] e pos) (sDPut (tVar i) ei ee) (sPutD i te ti) :=
  ⟨ps_dput (by have := g.room.units; omega) hp hi.p he.p hs, fun P G H c ρ σ DD EE K R q => he.s G H c ρ σ _ _ R.r q fun d v G1 H1 c1 e1 r1 q => by
    obtain ⟨ks, ds, ho, q⟩ := q
    have R1 := R.r.evo' e1
    obtain ⟨o, es, a, kvs, eo, h1, h2, h3, h4, h5, h6⟩ := R1.sl i _ ho
    subst eo
    refine ⟨.ref a, es, ?_⟩
    refine hi.s G1 H1 c1 ρ σ _ _ R1 q fun dy y G2 H2 c2 e2 r2 ⟨kk, ek, hl, nd, q⟩ => ?_
    subst ek
    have h4' := e2.keep a _ h4 h2
    rw [kV_rp r2]
    have hlen : kvs.length < sizeLine := by rw [sizeLine_eq]; have := congrArg List.length h5; rw [List.length_map] at this; omega
    refine ⟨a, _, rfl, DPut.k h4' hlen, K.nx G2 _ c2 _ _ ⟨(R1.evo' e2).putOd ho es (putK_map.trans (by rw [h5])) ?_, R.le.trans (e1.trans e2).le⟩ q⟩
    have := putK_rp (k := kk) (r1.mono e2.le) (h5 ▸ nd) (h6.mono e2.le)
    rw [h5] at this
    exact this⟩
/-- ahead of a block, a dict of the frame's own is settled -/
def sFreezeD (i : Nat) (t : DS) : DS := fun DD ρ c => odP ρ[i]? fun ks ds => t DD (ρ.set i (.fz (.dct ks ds))) c
theorem pds_freezeD (i : Nat) (h : PDSs Y rest s1 t) : PDSs Y rest s1 (sFreezeD i t) := ⟨h.p, fun P G H c ρ σ DD EE K R q => by
  obtain ⟨ks, ds, e, q⟩ := q
  obtain ⟨G', R'⟩ := R.freezeOd e
  exact h.s P G' H c _ σ DD EE K R' q⟩
/-- k in x, x[k], read while it changes -/
theorem odGet {G : GS} {H : Hp} {c : Nat} {ρ : DEnv} {σ : L2.St} {i : Nat} {ks : List Key} {ds : List D} {y : V} {kk : Key} (R : Rel Y G H c ρ σ) (ho : ρ[i]? = some (.od ks ds)) (ry : Rp Y.X.K G y (kD kk)) :
    ∃ a, σ[i]? = some (some (.ref a)) ∧ ((DGet H a y none ∧ dgetD ks ds kk = none) ∨ ∃ v d, DGet H a y (some v) ∧ dgetD ks ds kk = some d ∧ Rp Y.X.K G v d) := by
  obtain ⟨o, es, a, kvs, eo, h1, h2, h3, h4, h5, h6⟩ := R.sl i _ ho
  subst eo
  refine ⟨a, es, ?_⟩
  rw [kV_rp ry, ← h5]
  rcases valV_dget kk h6 with ⟨e1, e2⟩ | ⟨v, d, e1, e2, r⟩
  · exact .inl ⟨.inl ⟨kvs, kk, .inl h4, rfl, e1.symm⟩, e2⟩
  · exact .inr ⟨v, d, .inl ⟨kvs, kk, .inl h4, rfl, e1.symm⟩, e2, r⟩
def dOdGet (i : Nat) (ti : DE) : DE := fun ρ c Q => odP ρ[i]? fun ks ds => ti ρ c fun y c1 => keyP y fun k => ∃ d, dgetD ks ds k = some d ∧ Q d c1
theorem pd_odget (i : Nat) (g : Y.Good k) (hp : PE Y.X (.Name x p) (tVar i)) (hi : PD Y i0 ei ti) (hs : NoSl i0 := by exact fun _ _ => rfl) : PD Y (.Subscript (.Name x p) i0 pos) (tDGet (tVar i) ei) (dOdGet i ti) :=
  ⟨pe_dget (by have := g.room.units; omega) hp hi.p hs, fun G H c ρ σ Qd Q R ⟨ks, ds, ho, q⟩ kk => by
    obtain ⟨o, es, a, kvs, eo, h1, h2, h3, h4, h5, h6⟩ := R.sl i _ ho
    subst eo
    refine ⟨.ref a, es, ?_⟩
    refine hi.s G H c ρ σ _ _ R q fun dy y G1 H1 c1 e1 r1 ⟨k, ek, z, hz, q⟩ => ?_
    subst ek
    obtain ⟨a', es', w⟩ := odGet (R.evo' e1) ho r1
    rw [es] at es'
    cases es'
    rcases w with ⟨_, w⟩ | ⟨v, d, w1, w2, w3⟩
    · rw [hz] at w; cases w
    · rw [hz] at w2
      cases w2
      exact ⟨a, v, rfl, w1, kk _ _ _ _ _ e1 w3 q⟩⟩
def dOdIn (ng : Bool) (i : Nat) (ti : DE) : DE := fun ρ c Q => ti ρ c fun y c1 => odP ρ[i]? fun ks ds => keyP y fun k => Q (.bl (ng != (dgetD ks ds k).isSome)) c1
theorem pdc_odIn (i : Nat) (g : Y.Good k) (hi : PD Y i0 ei ti) (hp : PE Y.X (.Name x p) (tVar i)) : PDC Y .In i0 (.Name x p) (tDIn ei (tVar i)) (dOdIn false i ti) :=
  ⟨pc_din (by have := g.room.units; omega) hi.p hp, fun G H c ρ σ Qd Q R q kk => hi.s G H c ρ σ _ _ R q fun dy y G1 H1 c1 e1 r1 ⟨ks, ds, ho, k, ek, q⟩ => by
    subst ek
    obtain ⟨a, es, w⟩ := odGet (R.evo' e1) ho r1
    refine ⟨.ref a, es, ?_⟩
    dsimp only at q
    rcases w with ⟨w1, w2⟩ | ⟨v, d, w1, w2, w3⟩
    · rw [w2] at q; exact ⟨a, none, rfl, w1, kk _ _ _ _ _ e1 (.bl _) (by simpa using q)⟩
    · rw [w2] at q; exact ⟨a, some v, rfl, w1, kk _ _ _ _ _ e1 (.bl _) (by simpa using q)⟩⟩
theorem pdc_odNotIn (i : Nat) (g : Y.Good k) (hi : PD Y i0 ei ti) (hp : PE Y.X (.Name x p) (tVar i)) : PDC Y .NotIn i0 (.Name x p) (tDNotIn ei (tVar i)) (dOdIn true i ti) :=
  ⟨pc_dnotin (by have := g.room.units; omega) hi.p hp, fun G H c ρ σ Qd Q R q kk => hi.s G H c ρ σ _ _ R q fun dy y G1 H1 c1 e1 r1 ⟨ks, ds, ho, k, ek, q⟩ => by
    subst ek
    obtain ⟨a, es, w⟩ := odGet (R.evo' e1) ho r1
    refine ⟨.ref a, es, ?_⟩
    dsimp only at q
    rcases w with ⟨w1, w2⟩ | ⟨v, d, w1, w2, w3⟩
    · rw [w2] at q; exact ⟨a, none, rfl, w1, kk _ _ _ _ _ e1 (.bl _) (by simpa using q)⟩
    · rw [w2] at q; exact ⟨a, some v, rfl, w1, kk _ _ _ _ _ e1 (.bl _) (by simpa using q)⟩⟩
end
end PL

namespace PL
open PySem PySem.Spec PyProof.Rows L2 StX
open PySem.W (dictOf kwEs putL putName_dict putL_new putN)

/-! ### defs with **kw -/
section
variable {P : Program} {w : World} {A : Around} {E : Value → Shared → Prop} {d : Addr}
/-- one keyword stored -/
theorem nsOne {s : Shared} {es : List DictEntry} {n : Nat} {x : Str} {v : Value} {Q : Unit → Shared → Prop} (D : s.heap.get? d = some (dictOf es n)) (hs : ∀ e ∈ es, e.key.isStr x = false) (hr : ∀ e ∈ es, e.refKey = false)
    (h : ∀ h', h'.get? d = some (dictOf (es ++ [⟨PyData.keyHash w.params x, .str x s.toks, v⟩]) (n + 1)) → Heap.SameBut d s.heap h' → Q () { s with heap := h', toks := s.toks + 1 }) : wpAny (model P w) A (nsSet d x v) Q E s := by
  have noS : es.any (·.key.isStr x) = false := List.any_eq_false.mpr fun e he => by rw [hs e he]; decide
  have noR : es.any (·.refKey) = false := List.any_eq_false.mpr fun e he => by rw [hr e he]; decide
  have upd : Obj.putName x (PyData.keyHash w.params x) (.str x s.toks) v (dictOf es n) = dictOf (es ++ [⟨PyData.keyHash w.params x, .str x s.toks, v⟩]) (n + 1) := by
    rw [putName_dict, putL_new hs]
    have e : putN x es n = n + 1 := by unfold putN; rw [noS]; rfl
    rw [e]
  have key : aRefKeyMayBeTheName x es.toArray = false := by
    have z : (!es.any (·.key.isStr x) && es.any (·.refKey)) = false := by rw [noR, Bool.and_false]
    have e1 := Array.any_toList (as := es.toArray) (p := fun e : DictEntry => e.key.isStr x)
    have e2 := Array.any_toList (as := es.toArray) (p := fun e : DictEntry => e.refKey)
    rw [aRefKeyMayBeTheName_at, ← e1, ← e2]
    exact z
  have got : (s.heap.update d (Obj.putName x (PyData.keyHash w.params x) (.str x s.toks) v)).get? d = some (dictOf (es ++ [⟨PyData.keyHash w.params x, .str x s.toks, v⟩]) (n + 1)) := by
    rw [Heap.get?_update_self _ D (by rw [upd]; rfl), upd]
  unfold nsSet
  refine wpAny_bind (wpAny_bind (wpAny_askSetting (wpAny_pure ?_)))
  refine wpAny_bind (wpAny_mkText (wpAny_bind (wpAny_loadPart D ?_)))
  dsimp only
  rw [key]
  exact wpAny_updatePart D (h _ got (Heap.SameBut.update ..))
/-- all of them -/
theorem nsAll {Q : PUnit → Shared → Prop} : ∀ (ex : List (Str × Value)) (s : Shared) (es : List DictEntry) (n : Nat), s.heap.get? d = some (dictOf es n) → (∀ e ∈ es, ∃ k u, e.key = .str k u ∧ k ∉ ex.map (·.1)) → (ex.map (·.1)).Nodup →
    (∀ h', h'.get? d = some (dictOf (es ++ kwEs w.params s.toks ex) (n + ex.length)) → Heap.SameBut d s.heap h' → Q ⟨⟩ { s with heap := h', toks := s.toks + ex.length }) →
    wpAny (model P w) A (forIn ex PUnit.unit fun x _ => (nsSet d x.1 x.2 >>= fun _ => pure (ForInStep.yield PUnit.unit))) Q E s := by
  intro ex
  induction ex with
  | nil =>
    intro s es n D _ _ h
    rw [List.forIn_nil]
    exact wpAny_pure (h s.heap (by simpa [kwEs] using D) (Heap.SameBut.refl d s.heap))
  | cons x r ih =>
    intro s es n D hk hn h
    rw [List.map_cons, List.nodup_cons] at hn
    rw [List.forIn_cons]
    have isx : ∀ e ∈ es, e.key.isStr x.1 = false := fun e he => by
      obtain ⟨k, u, e1, e2⟩ := hk e he
      rw [e1]
      exact beq_eq_false_iff_ne.mpr fun z => e2 (by rw [z]; exact List.mem_cons_self)
    have isr : ∀ e ∈ es, e.refKey = false := fun e he => by
      obtain ⟨k, u, e1, _⟩ := hk e he
      unfold DictEntry.refKey
      rw [e1]
    refine wpAny_bind (wpAny_bind (nsOne D isx isr fun h' D' sb => wpAny_pure ?_))
    refine ih { s with heap := h', toks := s.toks + 1 } _ _ D' (fun e he => ?_) hn.2 fun h'' D'' sb' => ?_
    · rcases List.mem_append.mp he with he | he
      · obtain ⟨k, u, e1, e2⟩ := hk e he
        exact ⟨k, u, e1, fun z => e2 (List.mem_cons_of_mem _ z)⟩
      · rw [List.mem_singleton.mp he]
        exact ⟨x.1, _, rfl, hn.1⟩
    · have t1 : s.toks + 1 + r.length = s.toks + (x :: r).length := by rw [List.length_cons]; omega
      have t2 : n + 1 + r.length = n + (x :: r).length := by rw [List.length_cons]; omega
      have D2 : h''.get? d = some (dictOf (es ++ kwEs w.params s.toks (x :: r)) (n + (x :: r).length)) := by
        rw [← t2]
        rw [List.append_assoc] at D''
        exact D''
      have := h h'' D2 (sb.trans sb')
      rw [← t1] at this
      exact this
/-- the entries are those of a dict of the layer -/
theorem kwEs_mix : ∀ (ex : List (Str × Value)) (t : Tok), Pairs (mixKind P w) (kwEs w.params t ex) (ex.map fun p => (Sum.inr p.1, p.2)) ∧ ∀ e ∈ kwEs w.params t ex, ∃ k, (mixKind P w).is k e.key = true ∧ e.hash = (mixKind P w).hash k
  | [], _ => ⟨.nil, fun e he => nomatch he⟩
  | x :: r, t => by
    obtain ⟨h1, h2⟩ := kwEs_mix r (t + 1)
    have hx : (mixKind P w).is (Sum.inr x.1) (.str x.1 t) = true := kV_is (k := .inr x.1) ⟨t, rfl⟩
    refine ⟨.cons hx rfl h1, fun e he => ?_⟩
    rcases List.mem_cons.mp (show e ∈ (⟨PyData.keyHash w.params x.1, .str x.1 t, x.2⟩ : DictEntry) :: kwEs w.params (t + 1) r from he) with rfl | he
    · exact ⟨.inr x.1, hx, rfl⟩
    · exact h2 e he
end
section
variable {P : Program} {w : World} {K : PySem.W.Frag} {mg : Str → Option Value} {base : Heap} {x qual : Str} {params : Arguments} {body : List Stmt} {scope : Scope} {dvs : List V} {kws : List (Str × V)} {f : Addr} {fd : FuncData}
theorem mapInr {zs : List V} {ws : List Value} : ∀ {ks : List Str}, Vals zs ws → KV ((ks.map (Sum.inr : Str → Key)).zip zs) ((ks.zip ws).map fun p => ((Sum.inr p.1 : Key), p.2)) := by
  intro ks
  induction ks generalizing zs ws with
  | nil => intro _; exact .nil
  | cons k ks ih =>
    intro r
    cases r with
    | nil => exact .nil
    | cons a r => exact .cons ⟨rfl, a⟩ (ih r)
theorem nodup_inr : ∀ {ks : List Str}, ks.Nodup → (ks.map (Sum.inr : Str → Key)).Nodup
  | [], _ => List.nodup_nil
  | k :: ks, h => by
    rw [List.nodup_cons] at h
    rw [List.map_cons, List.nodup_cons]
    refine ⟨fun z => h.1 ?_, nodup_inr h.2⟩
    obtain ⟨y, hy, e⟩ := List.mem_map.mp z
    rw [← Sum.inr.inj e]; exact hy
/-- new objects are laid ahead of a def's body, one of them told -/
theorem env0_kept {A : Around} {outer : List Env} {s : Shared} {H : Hp} {h' : Heap} {tk : Nat} {u : HO} (e0 : Env0 P w K mg base A outer s H) (old : ∀ b o, s.heap.get? b = some o → h'.get? b = some o) (new : ObjOk P w (upd H s.heap.objs.size u) h' s.heap.objs.size u)
    (sz : s.heap.objs.size ≤ h'.objs.size := by exact Nat.le_of_lt (by assumption)) : Env0 P w K mg base A outer { s with heap := h', toks := tk } (upd H s.heap.objs.size u) where
  frames := e0.frames
  mod := e0.mod
  bs := fun b x e => ⟨old b x (e0.bs b x e).1, by rw [upd_ne (Nat.ne_of_lt (Heap.lt_size (e0.bs b x e).1))]; exact (e0.bs b x e).2⟩
  bsz := Nat.le_trans e0.bsz sz
  funs := Heap.FunFrames.of_keeps (fun b x e _ => ⟨x, old b x e, rfl⟩) e0.funs
  frf := fun b hb => by
    obtain ⟨_, x, hx, _⟩ := e0.funs.mem hb
    rw [upd_ne (Nat.ne_of_lt (Heap.lt_size hx))]
    exact e0.frf b hb
  hok := e0.hok.laid old (Nat.le_refl _) new
  bare := e0.bare
/-- a new dict of the keywords left over, behind the values bound -/
theorem bnd_kwd {ps ks : List Str} {pv : Str} {A : Around} {outer : List Env} {s : Shared} {H : Hp} {E : XK} {args : Args} {vs zs : List V} {us ws : List Value} {ds es : List D} {G : GS} {c : Nat} (e0 : Env0 P w K mg base A outer s H) (ok : G.Ok H c) (r : Vals vs us) (rz : Vals zs ws) (hl : us.length = ps.length) (hk : ws.length = ks.length) (nd : ks.Nodup) (hz : ks.length ≤ sizeLine)
    (rp : RpAll K G vs ds) (rpz : RpAll K G zs es) (B : Sem (List (Str × Value)))
    (hB : B = ((alloc ({ cls := .type "dict", data := .dict #[] } : Obj) : Sem Addr) >>= fun d => (forIn (ks.zip ws) PUnit.unit fun x _ => (nsSet d x.1 x.2 >>= fun _ => pure (ForInStep.yield PUnit.unit))) >>= fun _ => pure (ps.zip us ++ [(pv, Value.ref d)])))
    (hgo : ∀ (A' : Around) (Ex : Value → Shared → Prop) (Q : List (Str × Value) → Shared → Prop), wpAny (model P w) A' B Q Ex s → wpAny (model P w) A' (bindArgs fd args) Q Ex s) :
    Bnd (L2.CX P w) P w K mg base fd args (ps ++ [pv]) A outer s H E fun xs H2 => ∃ G2, Evo G H c G2 H2 c ∧ RpAll K G2 xs (ds ++ [.dct (ks.map Sum.inr) es]) := by
  intro A' Ex Q' h
  refine hgo A' Ex Q' ?_
  rw [hB]
  have hn : H s.heap.objs.size = Option.none := e0.hok.fresh (Nat.le_refl _)
  refine wpAny_bind (wpAny_alloc ?_)
  have at0 : (s.heap.push ({ cls := .type "dict", data := .dict #[] } : Obj)).get? s.heap.objs.size = some (PySem.W.dictOf [] 0) := Heap.get?_push_size _ rfl
  have l1 : (ks.zip ws).map (·.1) = ks := List.map_fst_zip (by rw [hk]; exact Nat.le_refl _)
  refine wpAny_bind (nsAll (ks.zip ws) { s with heap := s.heap.push ({ cls := .type "dict", data := .dict #[] } : Obj) } [] 0 at0 (fun e he => nomatch he) (by rw [l1]; exact nd) fun h' D' sb => wpAny_pure ?_)
  have old : ∀ b o, s.heap.get? b = some o → h'.get? b = some o := fun b o e => by
    have ne : b ≠ s.heap.objs.size := Nat.ne_of_lt (Heap.lt_size e)
    rw [sb.2 b ne]; exact Heap.get?_push_of_some _ e
  have len : (ks.map (Sum.inr : Str → Key)).length = zs.length := by rw [List.length_map, ← hk, rz.length]
  have k1 : ((ks.map (Sum.inr : Str → Key)).zip zs).map (·.1) = ks.map Sum.inr := List.map_fst_zip (by rw [len]; exact Nat.le_refl _)
  have k2 : ((ks.map (Sum.inr : Str → Key)).zip zs).map (·.2) = zs := List.map_snd_zip (by rw [len]; exact Nat.le_refl _)
  obtain ⟨m1, m2⟩ := kwEs_mix (P := P) (w := w) (ks.zip ws) s.toks
  have new : ObjOk P w (upd H s.heap.objs.size (.dK ((ks.map (Sum.inr : Str → Key)).zip zs))) h' s.heap.objs.size (.dK ((ks.map (Sum.inr : Str → Key)).zip zs)) := by
    refine ⟨by rw [List.length_zip, len, Nat.min_self, ← len, List.length_map]; exact hz, beq_eq_false_iff_ne.mpr (Nat.ne_of_gt (env0_big e0)), (ks.zip ws).map fun p => ((Sum.inr p.1 : Key), p.2), mapInr rz, ?_⟩
    refine ⟨_, _, _, D', ⟨rfl, rfl, rfl⟩, rfl, fun e he => m2 e (by simpa using he), by simpa using m1, ?_⟩
    have : ((ks.zip ws).map fun p => ((Sum.inr p.1 : Key), p.2)).map (·.1) = ks.map Sum.inr := by
      have z := congrArg (List.map (Sum.inr : Str → Key)) l1
      rw [List.map_map] at z ⊢
      exact z
    rw [this]
    exact nodup_inr nd
  have ue := Un.laid (fs := frs outer) (ex := []) (o := .dK ((ks.map (Sum.inr : Str → Key)).zip zs)) old (Nat.le_refl _) hn
  have z := h { s with heap := h', toks := s.toks + (ks.zip ws).length } (upd H s.heap.objs.size (.dK ((ks.map (Sum.inr : Str → Key)).zip zs))) (vs ++ [V.ref s.heap.objs.size]) (us ++ [Value.ref s.heap.objs.size]) (env0_kept e0 old new (by have q := Heap.lt_size D'; exact Nat.le_of_lt q)) ue rfl (fun e s' => cxUp outer s H _ _ E e s' ue old rfl) (r.append (.cons rfl .nil))
    (by rw [List.length_append, List.length_append, r.length, hl] <;> rfl) ⟨_, Evo.laid ok _ hn, RpAll.append (rp.mono (Evo.laid ok (.dK ((ks.map (Sum.inr : Str → Key)).zip zs)) hn).le) (.cons (.dct (kvs := (ks.map (Sum.inr : Str → Key)).zip zs) (.inl upd_same) k1 (by rw [k2]; exact rpz.mono (Evo.laid ok (.dK ((ks.map (Sum.inr : Str → Key)).zip zs)) hn).le)) .nil)⟩
  rw [List.zip_append hl.symm] at z
  exact z
/-- n parameters, then **pv: the keywords ks are all left over -/
theorem bns_kw {ps ks : List Str} {pv : Str} (F : FunD K x qual params body scope [] kws f fd) (nd : ks.Nodup) (hz : ks.length ≤ 16777216)
    (h : ∀ (kV doc pm : Value) (an : Option Addr) (cdv ct : Value) (us ws : List Value), us.length = ps.length → ws.length = ks.length → bindArgs (PySem.W.fnOf x qual params body scope .none kV doc pm an cdv ct) ⟨us, ks.zip ws⟩ =
      ((alloc ({ cls := .type "dict", data := .dict #[] } : Obj) : Sem Addr) >>= fun d => (forIn (ks.zip ws) PUnit.unit fun x _ => (nsSet d x.1 x.2 >>= fun _ => pure (ForInStep.yield PUnit.unit))) >>= fun _ => pure (ps.zip us ++ [(pv, Value.ref d)]))) :
    BnS P w K mg base fd ks (ps ++ [pv]) (fun ds _ => ds.length = ps.length) fun ds es => ds ++ [.dct (ks.map Sum.inr) es] := by
  intro A outer s H E us ws vs zs ds es G c e0 ok r rz hl rd re h1
  obtain ⟨oc, od, dV, kV, doc, pm, an, cdv, ct, osl, rfl, lk, hcd, hD, hK⟩ := F.ex
  have l : us.length = ps.length := by rw [← h1, ← rd.length, r.length]
  rcases hD with ⟨_, rfl⟩ | ⟨e, _⟩
  · exact bnd_kwd e0 ok r rz l hl nd (by rw [sizeLine_eq]; exact hz) rd re _ (h kV doc pm an cdv ct us ws l hl) fun A' Ex Q z => z
  · exact absurd rfl e
/-- .. the first n keywords are the parameters -/
theorem bns_kwAll {ps ks : List Str} {pv : Str} (F : FunD K x qual params body scope [] kws f fd) (nd : ks.Nodup) (hz : ks.length ≤ 16777216)
    (h : ∀ (kV doc pm : Value) (an : Option Addr) (cdv ct : Value) (us ws : List Value), us.length = ps.length → ws.length = ks.length → bindArgs (PySem.W.fnOf x qual params body scope .none kV doc pm an cdv ct) ⟨[], (ps ++ ks).zip (us ++ ws)⟩ =
      ((alloc ({ cls := .type "dict", data := .dict #[] } : Obj) : Sem Addr) >>= fun d => (forIn (ks.zip ws) PUnit.unit fun x _ => (nsSet d x.1 x.2 >>= fun _ => pure (ForInStep.yield PUnit.unit))) >>= fun _ => pure (ps.zip us ++ [(pv, Value.ref d)]))) :
    BnS P w K mg base fd (ps ++ ks) (ps ++ [pv]) (fun ds _ => ds = []) fun _ es => es.take ps.length ++ [.dct (ks.map Sum.inr) (es.drop ps.length)] := by
  intro A outer s H E us ws vs zs ds es G c e0 ok r rz hl rd re h1
  subst h1
  cases rd
  cases r
  obtain ⟨oc, od, dV, kV, doc, pm, an, cdv, ct, osl, rfl, lk, hcd, hD, hK⟩ := F.ex
  rw [List.length_append] at hl
  have e := List.take_append_drop ps.length ws
  obtain ⟨r1, r2⟩ := vals_splitAt (n := ps.length) rz
  have l1 : (ws.take ps.length).length = ps.length := by rw [List.length_take]; omega
  have l2 : (ws.drop ps.length).length = ks.length := by rw [List.length_drop]; omega
  rcases hD with ⟨_, rfl⟩ | ⟨e, _⟩
  · refine bnd_kwd e0 ok r1 r2 l1 l2 nd (by rw [sizeLine_eq]; exact hz) (re.take _) (re.drop _) _ (h kV doc pm an cdv ct (ws.take ps.length) (ws.drop ps.length) l1 l2) fun A' Ex Q z => ?_
    rw [e] at z
    exact z
  · exact absurd rfl e
end
/-- {} -/
def dDict0 : DE := fun _ c Q => Q (.dct [] []) c
theorem pd_dict0 {Y : Ctx} {pos : Pos} : PD Y (.Dict [] [] pos) tDNewK dDict0 := ⟨pe_dnewK, fun G H c ρ σ Qd Q R q kk p np => kk _ _ _ _ c (Evo.laid R.ok _ np) (.dct (kvs := []) (.inl upd_same) rfl .nil) q⟩
theorem ev_dict0 {ρ : DEnv} {c : Nat} {Q : QD} : dDict0 ρ c Q = Q (.dct [] []) c := propext Iff.rfl
section
variable {Q : QD} {c i : Nat} {ρ : DEnv} {ta tb tc te ti : DE} {drs : List (DE × DE)} {t : DS} {DD : DEnds} {ks : List Key} {ds : List D} {P : Key → Prop} {Pd : List Key → List D → Prop} {ng : Bool} {tk tv : DE} {QP : List (D × D) → Nat → Prop} {r : List (DE × DE)}
theorem ev_dget : dDGet ta tb ρ c Q = ta ρ c fun x c1 => tb ρ c1 fun y c2 => dctP x fun ks ds => keyP y fun k => @atP (dgetD ks ds k) fun d => Q d c2 := propext Iff.rfl
theorem ev_dget2 : dGet2 ta tb tc ρ c Q = ta ρ c fun x c1 => dctP x fun ks ds => tb ρ c1 fun y c2 => tc ρ c2 fun z c3 => keyP y fun k => Q ((dgetD ks ds k).getD z) c3 := propext Iff.rfl
theorem ev_dIn : dDIn ng tb ta ρ c Q = tb ρ c fun y c1 => ta ρ c1 fun x c2 => dctP x fun ks ds => keyP y fun k => Q (.bl (ng != (dgetD ks ds k).isSome)) c2 := propext Iff.rfl
theorem ev_disp : dDisp drs ρ c Q = dPairs drs ρ c fun ps c1 => ps.length ≤ 15 ∧ ∃ ks : List Key, ps.map (·.1) = ks.map kD ∧ ks.Nodup ∧ Q (.dct ks (ps.map (·.2))) c1 := propext Iff.rfl
theorem ev_pairs0 : dPairs [] ρ c QP = QP [] c := propext Iff.rfl
theorem ev_pairs1 : dPairs ((tk, tv) :: r) ρ c QP = tk ρ c fun x c1 => tv ρ c1 fun y c2 => dPairs r ρ c2 fun ps c3 => QP ((x, y) :: ps) c3 := propext Iff.rfl
theorem ev_newD : sNewD i DD ρ c = @Nx DD.nx (ρ.set i (.od [] [])) c := propext Iff.rfl
theorem ev_odP : odP (some (.od ks ds)) Pd = Pd ks ds := by
  apply propext; constructor
  · rintro ⟨_, _, e, h⟩; cases e; exact h
  · exact fun h => ⟨_, _, rfl, h⟩
theorem ev_putD : sPutD i te ti DD ρ c = te ρ c fun d c1 => odP ρ[i]? fun ks ds => ti ρ c1 fun y c2 => keyP y fun k => ks.length < 16777216 ∧ ks.Nodup ∧ @Nx DD.nx (ρ.set i (.od (dputK ks k) (dputD ks ds k d))) c2 := propext Iff.rfl
theorem ev_freezeD : sFreezeD i t DD ρ c = odP ρ[i]? fun ks ds => @Nx (t DD) (ρ.set i (.fz (.dct ks ds))) c := propext Iff.rfl
theorem ev_odget : dOdGet i ti ρ c Q = odP ρ[i]? fun ks ds => ti ρ c fun y c1 => keyP y fun k => @atP (dgetD ks ds k) fun d => Q d c1 := propext Iff.rfl
theorem ev_odIn : dOdIn ng i ti ρ c Q = ti ρ c fun y c1 => odP ρ[i]? fun ks ds => keyP y fun k => Q (.bl (ng != (dgetD ks ds k).isSome)) c1 := propext Iff.rfl
theorem ev_sortD : bSortD ds c Q = hd1 ds fun d => dctP d fun ks _ => ∃ xs : List Str, ks = xs.map Sum.inr ∧ xs.length < 64 ∧ xs.Nodup ∧ Q (.lst ((sortU xs).map D.str)) c := propext Iff.rfl
end
end PL

namespace PL
open PySem PySem.Spec PyProof.Rows L2

/-! ### holes filled -/
/-- the names ks, x by φ x -/
def Fm.fill (ks : List Str) (φ : Str → Fm) : Fm → Fm
  | hole x => if (ks.any fun y => decide (y = x)) = true then φ x else hole x
  | join a b => join (fill ks φ a) (fill ks φ b)
  | choice a b => choice (fill ks φ a) (fill ks φ b)
  | nested i a => nested i (fill ks φ a)
  | group a => group (fill ks φ a)
  | flat a => flat (fill ks φ a)
  | f => f
def keysS (ks : List Str) : List Key := ks.map Sum.inr
theorem dget_keys {x : Str} {g : Str → D} : ∀ {ks : List Str}, dgetD (keysS ks) (ks.map g) (.inr x) = if (ks.any fun y => decide (y = x)) = true then some (g x) else none
  | [] => rfl
  | k :: ks => by
    have ih := dget_keys (x := x) (g := g) (ks := ks)
    simp only [keysS, List.map_cons, dgetD] at ih ⊢
    by_cases e : k = x
    · subst e; simp
    · rw [if_neg (fun z => e (Sum.inr.inj z)), ih]
      simp [e]
theorem dput_keys {x : Str} {g : Str → D} {ks : List Str} (h : x ∉ ks) : dputK (keysS ks) (.inr x) = keysS (ks ++ [x]) ∧ dputD (keysS ks) (ks.map g) (.inr x) (g x) = (ks ++ [x]).map g := by
  constructor
  · unfold dputK keysS
    rw [if_neg, List.map_append]; rfl
    simp only [List.any_map, List.any_eq_true, Function.comp, decide_eq_true_eq, not_exists, not_and]
    exact fun y hy e => h (Sum.inr.inj e ▸ hy)
  · induction ks with
    | nil => rfl
    | cons k ks ih =>
      simp only [List.mem_cons, not_or] at h
      have := ih h.2
      simp only [keysS, List.map_cons, dputD, List.cons_append] at this ⊢
      rw [if_neg (fun z => h.1 (Sum.inr.inj z).symm), this]
theorem Fm.fill_congr {ks ls : List Str} {φ ψ : Str → Fm} (h : ∀ x, x ∈ ks ↔ x ∈ ls) (e : ∀ x, x ∈ ks → φ x = ψ x) : ∀ f : Fm, Fm.fill ks φ f = Fm.fill ls ψ f := by
  have hb : ∀ x, (ks.any fun y => decide (y = x)) = (ls.any fun y => decide (y = x)) := fun x => by
    rw [Bool.eq_iff_iff]
    simp [h]
  intro f
  induction f with
  | hole x =>
    simp only [Fm.fill, hb]
    split
    · rename_i c
      exact e x ((h x).mpr (by simpa using c))
    · rfl
  | join a b i1 i2 => simp only [Fm.fill, i1, i2]
  | choice a b i1 i2 => simp only [Fm.fill, i1, i2]
  | nested i a i1 => simp only [Fm.fill, i1]
  | group a i1 => simp only [Fm.fill, i1]
  | flat a i1 => simp only [Fm.fill, i1]
  | text x => rfl
  | brk o => rfl
theorem Fm.fill_ok {ks : List Str} {φ : Str → Fm} (h : ∀ x, x ∈ ks → (φ x).ok) : ∀ {f : Fm}, f.ok → (Fm.fill ks φ f).ok
  | .hole x, hf => by
    simp only [Fm.fill]
    split
    · rename_i c; exact h x (by simpa using c)
    · exact hf
  | .join a b, hf => ⟨Fm.fill_ok h hf.1, Fm.fill_ok h hf.2⟩
  | .choice a b, hf => ⟨Fm.fill_ok h hf.1, Fm.fill_ok h hf.2⟩
  | .nested i a, hf => ⟨hf.1, Fm.fill_ok h hf.2⟩
  | .group a, hf => Fm.fill_ok (f := a) h hf
  | .flat a, hf => Fm.fill_ok (f := a) h hf
  | .text x, hf => hf
  | .brk o, hf => hf
/-- of fillings with at most m parts, n of them no leaves, d deep -/
theorem Fm.fill_size {ks : List Str} {φ : Str → Fm} {m n d : Nat} (h : ∀ x, x ∈ ks → (φ x).parts ≤ m ∧ (φ x).nl ≤ n ∧ (φ x).dep ≤ d) (m1 : 1 ≤ m) (d1 : 1 ≤ d) : ∀ f : Fm, (Fm.fill ks φ f).parts ≤ f.parts * m ∧ (Fm.fill ks φ f).nl ≤ f.nl + (f.parts - f.nl) * n ∧ (Fm.fill ks φ f).dep + 1 ≤ f.dep + d
  | .hole x => by
    simp only [Fm.fill]
    split
    · rename_i c
      have := h x (by simpa using c)
      simp only [Fm.parts, Fm.nl, Fm.dep]; omega
    · simp only [Fm.parts, Fm.nl, Fm.dep]; omega
  | .join a b => by
    have := Fm.fill_size h m1 d1 a; have := Fm.fill_size h m1 d1 b; have := Fm.nl_le a; have := Fm.nl_le b
    have e1 : (1 + (a.parts + b.parts)) * m = m + (a.parts * m + b.parts * m) := by rw [Nat.add_mul, Nat.add_mul, Nat.one_mul]
    have e2 : (1 + (a.parts + b.parts) - (1 + (a.nl + b.nl))) * n = (a.parts - a.nl) * n + (b.parts - b.nl) * n := by rw [← Nat.add_mul]; congr 1; omega
    simp only [Fm.fill, Fm.parts, Fm.nl, Fm.dep]; omega
  | .choice a b => by
    have := Fm.fill_size h m1 d1 a; have := Fm.fill_size h m1 d1 b; have := Fm.nl_le a; have := Fm.nl_le b
    have e1 : (1 + (a.parts + b.parts)) * m = m + (a.parts * m + b.parts * m) := by rw [Nat.add_mul, Nat.add_mul, Nat.one_mul]
    have e2 : (1 + (a.parts + b.parts) - (1 + (a.nl + b.nl))) * n = (a.parts - a.nl) * n + (b.parts - b.nl) * n := by rw [← Nat.add_mul]; congr 1; omega
    simp only [Fm.fill, Fm.parts, Fm.nl, Fm.dep]; omega
  | .nested i a => by
    have := Fm.fill_size h m1 d1 a; have := Fm.nl_le a
    have e1 : (1 + a.parts) * m = m + a.parts * m := by rw [Nat.add_mul, Nat.one_mul]
    have e2 : (1 + a.parts - (1 + a.nl)) * n = (a.parts - a.nl) * n := by congr 1; omega
    simp only [Fm.fill, Fm.parts, Fm.nl, Fm.dep]; omega
  | .group a => by
    have := Fm.fill_size h m1 d1 a; have := Fm.nl_le a
    have e1 : (1 + a.parts) * m = m + a.parts * m := by rw [Nat.add_mul, Nat.one_mul]
    have e2 : (1 + a.parts - (1 + a.nl)) * n = (a.parts - a.nl) * n := by congr 1; omega
    simp only [Fm.fill, Fm.parts, Fm.nl, Fm.dep]; omega
  | .flat a => by
    have := Fm.fill_size h m1 d1 a; have := Fm.nl_le a
    have e1 : (1 + a.parts) * m = m + a.parts * m := by rw [Nat.add_mul, Nat.one_mul]
    have e2 : (1 + a.parts - (1 + a.nl)) * n = (a.parts - a.nl) * n := by congr 1; omega
    simp only [Fm.fill, Fm.parts, Fm.nl, Fm.dep]; omega
  | .text x => by simp only [Fm.fill, Fm.parts, Fm.nl, Fm.dep]; omega
  | .brk o => by simp only [Fm.fill, Fm.parts, Fm.nl, Fm.dep]; omega
theorem Fm.parts_nl : ∀ f : Fm, f.parts ≤ 2 * f.nl + 1
  | .text _ => by simp only [Fm.parts, Fm.nl, Fm.dep]; omega
  | .brk _ => by simp only [Fm.parts, Fm.nl, Fm.dep]; omega
  | .hole _ => by simp only [Fm.parts, Fm.nl, Fm.dep]; omega
  | .join a b => by have := Fm.parts_nl a; have := Fm.parts_nl b; simp only [Fm.parts, Fm.nl, Fm.dep]; omega
  | .choice a b => by have := Fm.parts_nl a; have := Fm.parts_nl b; simp only [Fm.parts, Fm.nl, Fm.dep]; omega
  | .nested _ a => by have := Fm.parts_nl a; simp only [Fm.parts, Fm.nl, Fm.dep]; omega
  | .group a => by have := Fm.parts_nl a; simp only [Fm.parts, Fm.nl, Fm.dep]; omega
  | .flat a => by have := Fm.parts_nl a; simp only [Fm.parts, Fm.nl, Fm.dep]; omega
theorem Fm.dep_nl : ∀ f : Fm, f.dep ≤ f.nl + 1
  | .text _ => by simp only [Fm.parts, Fm.nl, Fm.dep]; omega
  | .brk _ => by simp only [Fm.parts, Fm.nl, Fm.dep]; omega
  | .hole _ => by simp only [Fm.parts, Fm.nl, Fm.dep]; omega
  | .join a b => by have := Fm.dep_nl a; have := Fm.dep_nl b; simp only [Fm.parts, Fm.nl, Fm.dep]; omega
  | .choice a b => by have := Fm.dep_nl a; have := Fm.dep_nl b; simp only [Fm.parts, Fm.nl, Fm.dep]; omega
  | .nested _ a => by have := Fm.dep_nl a; simp only [Fm.parts, Fm.nl, Fm.dep]; omega
  | .group a => by have := Fm.dep_nl a; simp only [Fm.parts, Fm.nl, Fm.dep]; omega
  | .flat a => by have := Fm.dep_nl a; simp only [Fm.parts, Fm.nl, Fm.dep]; omega
theorem Fm.nl_leaf {f : Fm} (h : f.parts = 1) : f.nl = 0 := by
  cases f <;> simp only [Fm.parts, Fm.nl] at h ⊢ <;> first | rfl | (rename_i a b; have := a.parts_pos; have := b.parts_pos; omega) | (rename_i a; have := a.parts_pos; omega)
theorem Fm.fill_small {ks : List Str} {φ : Str → Fm} {n d : Nat} (h : ∀ x, x ∈ ks → (φ x).nl ≤ n) {f : Fm} (hf : f.nl ≤ d) (h1 : (2 * d + 1) * (2 * n + 1) ≤ 900) (h2 : d + (d + 1) * n ≤ 60) (h3 : d + n + 1 ≤ 59) : (Fm.fill ks φ f).small := by
  obtain ⟨a, b, c⟩ := Fm.fill_size (ks := ks) (φ := φ) (m := 2 * n + 1) (n := n) (d := n + 1) (fun x hx => by
    have := h x hx; have := Fm.parts_nl (φ x); have := Fm.dep_nl (φ x); omega) (by omega) (by omega) f
  have p := Fm.parts_nl f
  have q := Fm.dep_nl f
  have r : f.parts * (2 * n + 1) ≤ (2 * d + 1) * (2 * n + 1) := Nat.mul_le_mul_right _ (by omega)
  have s : (f.parts - f.nl) * n ≤ (d + 1) * n := Nat.mul_le_mul_right _ (by omega)
  exact ⟨by omega, by omega, by omega⟩
/-- the same at the holes that there are -/
theorem Fm.fill_holes {ks ls : List Str} {φ ψ : Str → Fm} : ∀ {f : Fm}, (∀ x, x ∈ f.holes → (x ∈ ks ↔ x ∈ ls) ∧ (x ∈ ks → φ x = ψ x)) → Fm.fill ks φ f = Fm.fill ls ψ f
  | .hole x, h => by
    obtain ⟨h1, h2⟩ := h x (by simp [Fm.holes])
    simp only [Fm.fill]
    by_cases c : x ∈ ks
    · rw [if_pos (by simpa using c), if_pos (by simpa using h1.mp c), h2 c]
    · rw [if_neg (by simpa using c), if_neg (by simpa using fun z => c (h1.mpr z))]
  | .join a b, h => by simp only [Fm.fill]; rw [Fm.fill_holes (f := a) fun x hx => h x (by simp [Fm.holes, hx]), Fm.fill_holes (f := b) fun x hx => h x (by simp [Fm.holes, hx])]
  | .choice a b, h => by simp only [Fm.fill]; rw [Fm.fill_holes (f := a) fun x hx => h x (by simp [Fm.holes, hx]), Fm.fill_holes (f := b) fun x hx => h x (by simp [Fm.holes, hx])]
  | .nested i a, h => by simp only [Fm.fill]; rw [Fm.fill_holes (f := a) fun x hx => h x (by simp [Fm.holes, hx])]
  | .group a, h => by simp only [Fm.fill]; rw [Fm.fill_holes (f := a) fun x hx => h x (by simp [Fm.holes, hx])]
  | .flat a, h => by simp only [Fm.fill]; rw [Fm.fill_holes (f := a) fun x hx => h x (by simp [Fm.holes, hx])]
  | .text x, h => rfl
  | .brk o, h => rfl
theorem Fm.fill_nil {φ : Str → Fm} : ∀ f : Fm, Fm.fill [] φ f = f
  | .hole x => rfl
  | .join a b => by simp only [Fm.fill, Fm.fill_nil a, Fm.fill_nil b]
  | .choice a b => by simp only [Fm.fill, Fm.fill_nil a, Fm.fill_nil b]
  | .nested i a => by simp only [Fm.fill, Fm.fill_nil a]
  | .group a => by simp only [Fm.fill, Fm.fill_nil a]
  | .flat a => by simp only [Fm.fill, Fm.fill_nil a]
  | .text x => rfl
  | .brk o => rfl
/-- the name's form in a list of names and forms -/
def look : List Str → List Fm → Str → Fm
  | k :: ks, g :: gs, x => if k = x then g else look ks gs x
  | _, _, x => .hole x
theorem look_map {α : Type} (e : Fm → α) : ∀ {ks : List Str} {gs : List Fm}, ks.Nodup → ks.length = gs.length → gs.map e = ks.map fun x => e (look ks gs x)
  | [], [], _, _ => rfl
  | [], _ :: _, _, h => by cases h
  | _ :: _, [], _, h => by cases h
  | k :: ks, g :: gs, nd, h => by
    rw [List.nodup_cons] at nd
    simp only [List.length_cons, Nat.succ.injEq] at h
    rw [List.map_cons, List.map_cons, look_map e nd.2 h]
    simp only [look, if_true]
    congr 1
    refine List.map_congr_left fun x hx => ?_
    rw [if_neg (fun q : k = x => nd.1 (q ▸ hx))]
theorem look_all {p : Fm → Prop} : ∀ {ks : List Str} {gs : List Fm} {x : Str}, ks.length = gs.length → (∀ g, g ∈ gs → p g) → x ∈ ks → p (look ks gs x)
  | [], _, _, _, _, hx => nomatch hx
  | _ :: _, [], _, h, _, _ => by cases h
  | k :: ks, g :: gs, x, h, hp, hx => by
    simp only [List.length_cons, Nat.succ.injEq] at h
    simp only [look]
    by_cases e : k = x
    · rw [if_pos e]; exact hp g (by simp)
    · rw [if_neg e]
      exact look_all h (fun g hg => hp g (by simp [hg])) ((List.mem_cons.mp hx).elim (fun z => absurd z.symm e) id)
end PL


namespace K04
open PySem PySem.Spec PyProof.Rows L2 PL
def top (i : Nat) : Stmt := PySem.Challenge.pw_layoutsets_k04_holes_filled.main.body.getD i (.Pass ⟨0, 0, 0, 0⟩)
abbrev s_is_string : Stmt := top 10
abbrev s_is_integer : Stmt := top 11
abbrev s_inner_forms : Stmt := top 13
abbrev s_all_forms : Stmt := top 14
abbrev s_own_ways : Stmt := top 15
abbrev s_form_counts : Stmt := top 16
abbrev s_form_ways : Stmt := top 17
abbrev s_filled_form : Stmt := top 18
abbrev s_is_name : Stmt := top 12
abbrev s_Doc_form : Stmt := inClass (top 19) 1
abbrev s_Doc_parts : Stmt := inClass (top 19) 2
abbrev s_Doc_holes : Stmt := inClass (top 19) 3
abbrev s_Doc_ways : Stmt := inClass (top 19) 4
abbrev s_Doc_flat_ways : Stmt := inClass (top 19) 5
abbrev s_require_doc : Stmt := top 20
abbrev s_Doc___add__ : Stmt := inClass (top 19) 6
abbrev s_Doc___or__ : Stmt := inClass (top 19) 7
abbrev s_Doc___eq__ : Stmt := inClass (top 19) 8
abbrev s_Doc_nested : Stmt := inClass (top 19) 9
abbrev s_Doc_group : Stmt := inClass (top 19) 10
abbrev s_Doc_flattened : Stmt := inClass (top 19) 11
abbrev s_text : Stmt := top 21
abbrev s_line : Stmt := top 22
abbrev s_hole : Stmt := top 23
abbrev s_filled : Stmt := top 24
abbrev s__law_at : Stmt := top 26
abbrev s__law_mixed : Stmt := top 27
abbrev s__law_purse : Stmt := top 28
abbrev s__law_draw : Stmt := top 29
abbrev s__law_inner : Stmt := top 30
abbrev s__law_ways : Stmt := top 31
abbrev s__law_leaf : Stmt := top 32
abbrev s__law_form : Stmt := top 33
abbrev s__law_doc : Stmt := top 35
abbrev s__law_parts : Stmt := top 37
abbrev s__law_holes : Stmt := top 38
abbrev s__law_put : Stmt := top 36
abbrev s_law : Stmt := top 39
theorem sc_is_string : FnScope ["thing", "sign"] ["thing"] (defScope s_is_string) := scope_of (by decide +kernel)
theorem sc_is_integer : FnScope ["thing", "least", "most"] ["thing", "least", "most"] (defScope s_is_integer) := scope_of (by decide +kernel)
theorem sc_inner_forms : FnScope ["form"] ["form"] (defScope s_inner_forms) := scope_of (by decide +kernel)
theorem sc_all_forms : FnScope ["form", "found", "at"] ["form"] (defScope s_all_forms) := scope_of (by decide +kernel)
theorem sc_own_ways : FnScope ["form", "inner", "kind", "broken", "flat"] ["form", "inner"] (defScope s_own_ways) := scope_of (by decide +kernel)
theorem sc_form_counts : FnScope ["form", "forms", "places", "last", "one", "counts", "at", "inner", "broken", "flat", "place", "some"] ["form"] (defScope s_form_counts) := scope_of (by decide +kernel)
theorem sc_form_ways : FnScope ["form"] ["form"] (defScope s_form_ways) := scope_of (by decide +kernel)
theorem sc_filled_form : FnScope ["form", "fillings"] ["form", "fillings"] (defScope s_filled_form) := scope_of (by decide +kernel)
theorem sc_is_name : FnScope ["thing", "sign"] ["thing"] (defScope s_is_name) := scope_of (by decide +kernel)
theorem sc_Doc_form : FnScope ["self"] ["self"] (defScope s_Doc_form) := scope_of (by decide +kernel)
theorem sc_Doc_parts : FnScope ["self"] ["self"] (defScope s_Doc_parts) := scope_of (by decide +kernel)
theorem sc_Doc_holes : FnScope ["self", "form"] ["self"] (defScope s_Doc_holes) := scope_of (by decide +kernel)
theorem sc_Doc_ways : FnScope ["self"] ["self"] (defScope s_Doc_ways) := scope_of (by decide +kernel)
theorem sc_Doc_flat_ways : FnScope ["self"] ["self"] (defScope s_Doc_flat_ways) := scope_of (by decide +kernel)
theorem sc_require_doc : FnScope ["thing"] ["thing"] (defScope s_require_doc) := scope_of (by decide +kernel)
theorem sc_Doc___add__ : FnScope ["self", "other"] ["self", "other"] (defScope s_Doc___add__) := scope_of (by decide +kernel)
theorem sc_Doc___or__ : FnScope ["self", "other"] ["self", "other"] (defScope s_Doc___or__) := scope_of (by decide +kernel)
theorem sc_Doc___eq__ : FnScope ["self", "other"] ["self", "other"] (defScope s_Doc___eq__) := scope_of (by decide +kernel)
theorem sc_Doc_nested : FnScope ["self", "steps"] ["self", "steps"] (defScope s_Doc_nested) := scope_of (by decide +kernel)
theorem sc_Doc_group : FnScope ["self"] ["self"] (defScope s_Doc_group) := scope_of (by decide +kernel)
theorem sc_Doc_flattened : FnScope ["self"] ["self"] (defScope s_Doc_flattened) := scope_of (by decide +kernel)
theorem sc_text : FnScope ["string"] ["string"] (defScope s_text) := scope_of (by decide +kernel)
theorem sc_line : FnScope ["flat"] ["flat"] (defScope s_line) := scope_of (by decide +kernel)
theorem sc_hole : FnScope ["name"] ["name"] (defScope s_hole) := scope_of (by decide +kernel)
theorem sc_filled : FnScope ["the_doc", "fillings", "forms", "name"] ["the_doc", "fillings"] (defScope s_filled) := scope_of (by decide +kernel)
theorem sc__law_at : FnScope ["_law_script", "_law_k"] ["_law_script", "_law_k"] (defScope s__law_at) := scope_of (by decide +kernel)
theorem sc__law_mixed : FnScope ["_law_cell", "_law_k", "_law_number"] ["_law_cell", "_law_k"] (defScope s__law_mixed) := scope_of (by decide +kernel)
theorem sc__law_purse : FnScope ["_law_script", "_law_at_here", "_law_cell"] ["_law_script", "_law_at_here"] (defScope s__law_purse) := scope_of (by decide +kernel)
theorem sc__law_draw : FnScope ["_law_purse_here", "_law_out_of", "_law_drawn"] ["_law_purse_here", "_law_out_of"] (defScope s__law_draw) := scope_of (by decide +kernel)
theorem sc__law_inner : FnScope ["_law_form_here"] ["_law_form_here"] (defScope s__law_inner) := scope_of (by decide +kernel)
theorem sc__law_ways : FnScope ["_law_form_here", "_law_inner_here", "_law_part"] ["_law_form_here"] (defScope s__law_ways) := scope_of (by decide +kernel)
theorem sc__law_leaf : FnScope ["_law_purse_here", "_law_names", "_law_way"] ["_law_purse_here", "_law_names"] (defScope s__law_leaf) := scope_of (by decide +kernel)
theorem sc__law_form : FnScope ["_law_purse_here", "_law_size", "_law_names", "_law_way", "_law_inner_here", "_law_cut", "_law_one", "_law_two"] ["_law_purse_here", "_law_size", "_law_names"] (defScope s__law_form) := scope_of (by decide +kernel)
theorem sc__law_doc : FnScope ["_law_form_here", "_law_kind"] ["_law_form_here"] (defScope s__law_doc) := scope_of (by decide +kernel)
theorem sc__law_parts : FnScope ["_law_form_here", "_law_part"] ["_law_form_here"] (defScope s__law_parts) := scope_of (by decide +kernel)
theorem sc__law_holes : FnScope ["_law_form_here", "_law_found", "_law_part"] ["_law_form_here"] (defScope s__law_holes) := scope_of (by decide +kernel)
theorem sc__law_put : FnScope ["_law_form_here", "_law_rows"] ["_law_form_here", "_law_rows"] (defScope s__law_put) := scope_of (by decide +kernel)
theorem sc_law : FnScope ["_law_script", "_law_at_here", "_law_purse_here", "_law_form_here", "_law_kept", "_law_forms", "_law_told", "_law_rows", "_law_made", "_law_one", "_law_two", "_law_three", "_law_due", "_law_turn", "_law_part", "_law_row"] ["_law_script"] (defScope s_law) := scope_of (by decide +kernel)
abbrev si_Doc : Stmt := inClass (top 19) 0
theorem sci_Doc : FnScope ["self", "shape"] ["self", "shape"] (defScope si_Doc) := scope_of (by decide +kernel)
abbrev si_InvalidName : Stmt := inClass (top 4) 0
theorem sci_InvalidName : FnScope ["self", "name"] ["self", "name"] (defScope si_InvalidName) := scope_of (by decide +kernel)
abbrev si_InvalidSteps : Stmt := inClass (top 3) 0
theorem sci_InvalidSteps : FnScope ["self", "steps"] ["self", "steps"] (defScope si_InvalidSteps) := scope_of (by decide +kernel)
abbrev si_InvalidText : Stmt := inClass (top 2) 0
theorem sci_InvalidText : FnScope ["self", "string"] ["self", "string"] (defScope si_InvalidText) := scope_of (by decide +kernel)
abbrev si_NotADocument : Stmt := inClass (top 5) 0
theorem sci_NotADocument : FnScope ["self", "thing"] ["self", "thing"] (defScope si_NotADocument) := scope_of (by decide +kernel)
structure Ad where
  c_InvalidText : Addr
  c_InvalidSteps : Addr
  c_InvalidName : Addr
  c_NotADocument : Addr
  c_Doc : Addr
  i_InvalidText : Addr
  i_InvalidSteps : Addr
  i_InvalidName : Addr
  i_NotADocument : Addr
  i_Doc : Addr
  f_is_string : Addr
  f_is_integer : Addr
  f_inner_forms : Addr
  f_all_forms : Addr
  f_own_ways : Addr
  f_form_counts : Addr
  f_form_ways : Addr
  f_filled_form : Addr
  f_is_name : Addr
  p_Doc_form : Addr
  f_Doc_form : Addr
  p_Doc_parts : Addr
  f_Doc_parts : Addr
  p_Doc_holes : Addr
  f_Doc_holes : Addr
  p_Doc_ways : Addr
  f_Doc_ways : Addr
  p_Doc_flat_ways : Addr
  f_Doc_flat_ways : Addr
  f_require_doc : Addr
  f_Doc___add__ : Addr
  f_Doc___or__ : Addr
  f_Doc___eq__ : Addr
  f_Doc_nested : Addr
  f_Doc_group : Addr
  f_Doc_flattened : Addr
  f_text : Addr
  f_line : Addr
  f_hole : Addr
  f_filled : Addr
  f__law_at : Addr
  f__law_mixed : Addr
  f__law_purse : Addr
  f__law_draw : Addr
  f__law_inner : Addr
  f__law_ways : Addr
  f__law_leaf : Addr
  f__law_form : Addr
  f__law_doc : Addr
  f__law_parts : Addr
  f__law_holes : Addr
  f__law_put : Addr
  f_law : Addr
  d_is_string : FuncData
  d_is_integer : FuncData
  d_inner_forms : FuncData
  d_all_forms : FuncData
  d_own_ways : FuncData
  d_form_counts : FuncData
  d_form_ways : FuncData
  d_filled_form : FuncData
  d_is_name : FuncData
  d_Doc_form : FuncData
  d_Doc_parts : FuncData
  d_Doc_holes : FuncData
  d_Doc_ways : FuncData
  d_Doc_flat_ways : FuncData
  d_require_doc : FuncData
  d_Doc___add__ : FuncData
  d_Doc___or__ : FuncData
  d_Doc___eq__ : FuncData
  d_Doc_nested : FuncData
  d_Doc_group : FuncData
  d_Doc_flattened : FuncData
  d_text : FuncData
  d_line : FuncData
  d_hole : FuncData
  d_filled : FuncData
  d__law_at : FuncData
  d__law_mixed : FuncData
  d__law_purse : FuncData
  d__law_draw : FuncData
  d__law_inner : FuncData
  d__law_ways : FuncData
  d__law_leaf : FuncData
  d__law_form : FuncData
  d__law_doc : FuncData
  d__law_parts : FuncData
  d__law_holes : FuncData
  d__law_put : FuncData
  d_law : FuncData
  d_init_Doc : FuncData
  d_init_InvalidName : FuncData
  d_init_InvalidSteps : FuncData
  d_init_InvalidText : FuncData
  d_init_NotADocument : FuncData
structure Txt (K : PySem.W.Frag) (mg : Str → Option Value) (a : Ad) : Prop where
  m_InvalidText : mg "InvalidText" = some (.ref a.c_InvalidText)
  m_InvalidSteps : mg "InvalidSteps" = some (.ref a.c_InvalidSteps)
  m_InvalidName : mg "InvalidName" = some (.ref a.c_InvalidName)
  m_NotADocument : mg "NotADocument" = some (.ref a.c_NotADocument)
  m_Doc : mg "Doc" = some (.ref a.c_Doc)
  x_InvalidText : XCls K mg "InvalidText" "string" a.c_InvalidText a.i_InvalidText
  x_InvalidSteps : XCls K mg "InvalidSteps" "steps" a.c_InvalidSteps a.i_InvalidSteps
  x_InvalidName : XCls K mg "InvalidName" "name" a.c_InvalidName a.i_InvalidName
  x_NotADocument : XCls K mg "NotADocument" "thing" a.c_NotADocument a.i_NotADocument
  D_Doc : DCls K mg "Doc" "shape" a.c_Doc a.i_Doc
  O_Doc : OpsC K a.c_Doc
  N_Doc : ∀ T ∈ kinds7, PySem.W.notFirst K a.c_Doc (.type T) = true
  kt_Doc : ∀ T ∈ kinds7, PySem.W.kitOne K (.type T) (.ref a.c_Doc) = some false
  k_InvalidText_Doc : PySem.W.kitOne K (.ref a.c_InvalidText) (.ref a.c_Doc) = some false
  k_InvalidSteps_Doc : PySem.W.kitOne K (.ref a.c_InvalidSteps) (.ref a.c_Doc) = some false
  k_InvalidName_Doc : PySem.W.kitOne K (.ref a.c_InvalidName) (.ref a.c_Doc) = some false
  k_NotADocument_Doc : PySem.W.kitOne K (.ref a.c_NotADocument) (.ref a.c_Doc) = some false
  k_Doc_Doc : PySem.W.kitOne K (.ref a.c_Doc) (.ref a.c_Doc) = some true
  z_all : mg "all" = none
  z_bool : mg "bool" = none
  z_int : mg "int" = none
  z_isinstance : mg "isinstance" = none
  z_len : mg "len" = none
  z_list : mg "list" = none
  z_max : mg "max" = none
  z_min : mg "min" = none
  z_range : mg "range" = none
  z_set : mg "set" = none
  z_sorted : mg "sorted" = none
  z_str : mg "str" = none
  z_sum : mg "sum" = none
  z_tuple : mg "tuple" = none
  g_LETTERS : ∃ t, mg "LETTERS" = some (.str "abcdefghijklmnopqrstuvwxyz" t)
  g_MOST_LETTERS : ∃ t, mg "MOST_LETTERS" = some (.int 8 t)
  g_MOST_STEPS : ∃ t, mg "MOST_STEPS" = some (.int 40 t)
  m_is_string : mg "is_string" = some (.ref a.f_is_string)
  m_is_integer : mg "is_integer" = some (.ref a.f_is_integer)
  m_inner_forms : mg "inner_forms" = some (.ref a.f_inner_forms)
  m_all_forms : mg "all_forms" = some (.ref a.f_all_forms)
  m_own_ways : mg "own_ways" = some (.ref a.f_own_ways)
  m_form_counts : mg "form_counts" = some (.ref a.f_form_counts)
  m_form_ways : mg "form_ways" = some (.ref a.f_form_ways)
  m_filled_form : mg "filled_form" = some (.ref a.f_filled_form)
  m_is_name : mg "is_name" = some (.ref a.f_is_name)
  P_Doc_form : PropOf K a.c_Doc "form" a.p_Doc_form a.f_Doc_form
  P_Doc_parts : PropOf K a.c_Doc "parts" a.p_Doc_parts a.f_Doc_parts
  P_Doc_holes : PropOf K a.c_Doc "holes" a.p_Doc_holes a.f_Doc_holes
  P_Doc_ways : PropOf K a.c_Doc "ways" a.p_Doc_ways a.f_Doc_ways
  P_Doc_flat_ways : PropOf K a.c_Doc "flat_ways" a.p_Doc_flat_ways a.f_Doc_flat_ways
  m_require_doc : mg "require_doc" = some (.ref a.f_require_doc)
  M_Doc___add__ : Meth K a.c_Doc "__add__" a.f_Doc___add__
  M_Doc___or__ : Meth K a.c_Doc "__or__" a.f_Doc___or__
  M_Doc___eq__ : Meth K a.c_Doc "__eq__" a.f_Doc___eq__
  M_Doc_nested : Meth K a.c_Doc "nested" a.f_Doc_nested
  M_Doc_group : Meth K a.c_Doc "group" a.f_Doc_group
  M_Doc_flattened : Meth K a.c_Doc "flattened" a.f_Doc_flattened
  m_text : mg "text" = some (.ref a.f_text)
  m_line : mg "line" = some (.ref a.f_line)
  m_hole : mg "hole" = some (.ref a.f_hole)
  m_filled : mg "filled" = some (.ref a.f_filled)
  m__law_at : mg "_law_at" = some (.ref a.f__law_at)
  m__law_mixed : mg "_law_mixed" = some (.ref a.f__law_mixed)
  m__law_purse : mg "_law_purse" = some (.ref a.f__law_purse)
  m__law_draw : mg "_law_draw" = some (.ref a.f__law_draw)
  m__law_inner : mg "_law_inner" = some (.ref a.f__law_inner)
  m__law_ways : mg "_law_ways" = some (.ref a.f__law_ways)
  m__law_leaf : mg "_law_leaf" = some (.ref a.f__law_leaf)
  m__law_form : mg "_law_form" = some (.ref a.f__law_form)
  m__law_doc : mg "_law_doc" = some (.ref a.f__law_doc)
  m__law_parts : mg "_law_parts" = some (.ref a.f__law_parts)
  m__law_holes : mg "_law_holes" = some (.ref a.f__law_holes)
  m__law_put : mg "_law_put" = some (.ref a.f__law_put)
  m_law : mg "law" = some (.ref a.f_law)
  F_is_string : FunD K "is_string" "is_string" (defArgs s_is_string) (defBody s_is_string) (defScope s_is_string) [] [] a.f_is_string a.d_is_string
  F_is_integer : FunD K "is_integer" "is_integer" (defArgs s_is_integer) (defBody s_is_integer) (defScope s_is_integer) [.non, .non] [] a.f_is_integer a.d_is_integer
  F_inner_forms : FunD K "inner_forms" "inner_forms" (defArgs s_inner_forms) (defBody s_inner_forms) (defScope s_inner_forms) [] [] a.f_inner_forms a.d_inner_forms
  F_all_forms : FunD K "all_forms" "all_forms" (defArgs s_all_forms) (defBody s_all_forms) (defScope s_all_forms) [] [] a.f_all_forms a.d_all_forms
  F_own_ways : FunD K "own_ways" "own_ways" (defArgs s_own_ways) (defBody s_own_ways) (defScope s_own_ways) [] [] a.f_own_ways a.d_own_ways
  F_form_counts : FunD K "form_counts" "form_counts" (defArgs s_form_counts) (defBody s_form_counts) (defScope s_form_counts) [] [] a.f_form_counts a.d_form_counts
  F_form_ways : FunD K "form_ways" "form_ways" (defArgs s_form_ways) (defBody s_form_ways) (defScope s_form_ways) [] [] a.f_form_ways a.d_form_ways
  F_filled_form : FunD K "filled_form" "filled_form" (defArgs s_filled_form) (defBody s_filled_form) (defScope s_filled_form) [] [] a.f_filled_form a.d_filled_form
  F_is_name : FunD K "is_name" "is_name" (defArgs s_is_name) (defBody s_is_name) (defScope s_is_name) [] [] a.f_is_name a.d_is_name
  F_Doc_form : FunD K "form" "Doc.form" (defArgs s_Doc_form) (defBody s_Doc_form) (defScope s_Doc_form) [] [] a.f_Doc_form a.d_Doc_form
  F_Doc_parts : FunD K "parts" "Doc.parts" (defArgs s_Doc_parts) (defBody s_Doc_parts) (defScope s_Doc_parts) [] [] a.f_Doc_parts a.d_Doc_parts
  F_Doc_holes : FunD K "holes" "Doc.holes" (defArgs s_Doc_holes) (defBody s_Doc_holes) (defScope s_Doc_holes) [] [] a.f_Doc_holes a.d_Doc_holes
  F_Doc_ways : FunD K "ways" "Doc.ways" (defArgs s_Doc_ways) (defBody s_Doc_ways) (defScope s_Doc_ways) [] [] a.f_Doc_ways a.d_Doc_ways
  F_Doc_flat_ways : FunD K "flat_ways" "Doc.flat_ways" (defArgs s_Doc_flat_ways) (defBody s_Doc_flat_ways) (defScope s_Doc_flat_ways) [] [] a.f_Doc_flat_ways a.d_Doc_flat_ways
  F_require_doc : FunD K "require_doc" "require_doc" (defArgs s_require_doc) (defBody s_require_doc) (defScope s_require_doc) [] [] a.f_require_doc a.d_require_doc
  F_Doc___add__ : FunD K "__add__" "Doc.__add__" (defArgs s_Doc___add__) (defBody s_Doc___add__) (defScope s_Doc___add__) [] [] a.f_Doc___add__ a.d_Doc___add__
  F_Doc___or__ : FunD K "__or__" "Doc.__or__" (defArgs s_Doc___or__) (defBody s_Doc___or__) (defScope s_Doc___or__) [] [] a.f_Doc___or__ a.d_Doc___or__
  F_Doc___eq__ : FunD K "__eq__" "Doc.__eq__" (defArgs s_Doc___eq__) (defBody s_Doc___eq__) (defScope s_Doc___eq__) [] [] a.f_Doc___eq__ a.d_Doc___eq__
  F_Doc_nested : FunD K "nested" "Doc.nested" (defArgs s_Doc_nested) (defBody s_Doc_nested) (defScope s_Doc_nested) [] [] a.f_Doc_nested a.d_Doc_nested
  F_Doc_group : FunD K "group" "Doc.group" (defArgs s_Doc_group) (defBody s_Doc_group) (defScope s_Doc_group) [] [] a.f_Doc_group a.d_Doc_group
  F_Doc_flattened : FunD K "flattened" "Doc.flattened" (defArgs s_Doc_flattened) (defBody s_Doc_flattened) (defScope s_Doc_flattened) [] [] a.f_Doc_flattened a.d_Doc_flattened
  F_text : FunD K "text" "text" (defArgs s_text) (defBody s_text) (defScope s_text) [.str ""] [] a.f_text a.d_text
  F_line : FunD K "line" "line" (defArgs s_line) (defBody s_line) (defScope s_line) [.str " "] [] a.f_line a.d_line
  F_hole : FunD K "hole" "hole" (defArgs s_hole) (defBody s_hole) (defScope s_hole) [] [] a.f_hole a.d_hole
  F_filled : FunD K "filled" "filled" (defArgs s_filled) (defBody s_filled) (defScope s_filled) [] [] a.f_filled a.d_filled
  F__law_at : FunD K "_law_at" "_law_at" (defArgs s__law_at) (defBody s__law_at) (defScope s__law_at) [] [] a.f__law_at a.d__law_at
  F__law_mixed : FunD K "_law_mixed" "_law_mixed" (defArgs s__law_mixed) (defBody s__law_mixed) (defScope s__law_mixed) [] [] a.f__law_mixed a.d__law_mixed
  F__law_purse : FunD K "_law_purse" "_law_purse" (defArgs s__law_purse) (defBody s__law_purse) (defScope s__law_purse) [] [] a.f__law_purse a.d__law_purse
  F__law_draw : FunD K "_law_draw" "_law_draw" (defArgs s__law_draw) (defBody s__law_draw) (defScope s__law_draw) [] [] a.f__law_draw a.d__law_draw
  F__law_inner : FunD K "_law_inner" "_law_inner" (defArgs s__law_inner) (defBody s__law_inner) (defScope s__law_inner) [] [] a.f__law_inner a.d__law_inner
  F__law_ways : FunD K "_law_ways" "_law_ways" (defArgs s__law_ways) (defBody s__law_ways) (defScope s__law_ways) [] [] a.f__law_ways a.d__law_ways
  F__law_leaf : FunD K "_law_leaf" "_law_leaf" (defArgs s__law_leaf) (defBody s__law_leaf) (defScope s__law_leaf) [] [] a.f__law_leaf a.d__law_leaf
  F__law_form : FunD K "_law_form" "_law_form" (defArgs s__law_form) (defBody s__law_form) (defScope s__law_form) [] [] a.f__law_form a.d__law_form
  F__law_doc : FunD K "_law_doc" "_law_doc" (defArgs s__law_doc) (defBody s__law_doc) (defScope s__law_doc) [] [] a.f__law_doc a.d__law_doc
  F__law_parts : FunD K "_law_parts" "_law_parts" (defArgs s__law_parts) (defBody s__law_parts) (defScope s__law_parts) [] [] a.f__law_parts a.d__law_parts
  F__law_holes : FunD K "_law_holes" "_law_holes" (defArgs s__law_holes) (defBody s__law_holes) (defScope s__law_holes) [] [] a.f__law_holes a.d__law_holes
  F__law_put : FunD K "_law_put" "_law_put" (defArgs s__law_put) (defBody s__law_put) (defScope s__law_put) [] [] a.f__law_put a.d__law_put
  F_law : FunD K "law" "law" (defArgs s_law) (defBody s_law) (defScope s_law) [] [] a.f_law a.d_law
  F_init_Doc : FunD K "__init__" "Doc.__init__" (defArgs si_Doc) (defBody si_Doc) (defScope si_Doc) [] [] a.i_Doc a.d_init_Doc
  F_init_InvalidName : FunD K "__init__" "InvalidName.__init__" (defArgs si_InvalidName) (defBody si_InvalidName) (defScope si_InvalidName) [.non] [] a.i_InvalidName a.d_init_InvalidName
  F_init_InvalidSteps : FunD K "__init__" "InvalidSteps.__init__" (defArgs si_InvalidSteps) (defBody si_InvalidSteps) (defScope si_InvalidSteps) [.non] [] a.i_InvalidSteps a.d_init_InvalidSteps
  F_init_InvalidText : FunD K "__init__" "InvalidText.__init__" (defArgs si_InvalidText) (defBody si_InvalidText) (defScope si_InvalidText) [.non] [] a.i_InvalidText a.d_init_InvalidText
  F_init_NotADocument : FunD K "__init__" "NotADocument.__init__" (defArgs si_NotADocument) (defBody si_NotADocument) (defScope si_NotADocument) [.non] [] a.i_NotADocument a.d_init_NotADocument
def IC0 (a : Ad) : Addr → Prop := fun C => C = a.c_Doc
theorem hI0 {K : PySem.W.Frag} {mg : Str → Option Value} {a : Ad} (T : Txt K mg a) : ∀ C, IC0 a C → ICls K C := fun C h => by
  rcases h with rfl
  · exact T.D_Doc.ic
local macro_rules | `(tactic| walk_at "ev") => `(tactic| simp only [↓ev_brT, ↓ev_brF, ↓ev_asB, ↓ev_atP, ↓ev_var0, ↓ev_varS, ↓ev_c, ↓ev_op, ↓ev_chain, ↓ev_tchain, ↓ev_nil, ↓ev_cons, ↓ev_cb, ↓ev_tup, ↓ev_lst, ↓ev_b, ↓ev_andV, ↓ev_orV, ↓ev_notV, ↓ev_if, ↓ev_tand, ↓ev_tor, ↓ev_tnot, ↓ev_yes, ↓ev_next, ↓ev_seq, ↓ev_ret, ↓ev_retN, ↓ev_brk, ↓ev_cnt, ↓ev_sif, ↓ev_drop, ↓ev_set, ↓ev_asg, ↓ev_kname, ↓ev_knil, ↓ev_kcons, ↓ev_ktup, ↓ev_kseqT, ↓ev_kseqL, ↓ev_for, ↓ev_lc, ↓ev_any, ↓ev_anyL, ↓ev_anyT, ↓ev_anyS, ↓ev_rng1, ↓ev_rng1i, ↓ev_rng2, ↓ev_rng2i, ↓ev_enum, ↓ev_sl, ↓ev_nop, ↓ev_part, ↓ev_asI, ↓ev_call, ↓ev_callK, ↓ev_plusI, ↓ev_plusS, ↓ev_plusT, ↓ev_i0, ↓ev_iC, ↓ev_leI, ↓ev_leS, ↓ev_isN, ↓ev_notN, ↓ev_itL, ↓ev_itT, ↓ev_slT, ↓ev_slL, ↓ev_lenL, ↓ev_lenT, ↓ev_lenS, ↓ev_intI, ↓ev_intB, ↓ev_isa, ↓ev_listL, ↓ev_listT, ↓ev_tupL, ↓ev_tupT, ↓ev_max, ↓ev_min, ↓ev_eq, ↓ev_ne, ↓ev_neg, ↓ev_all, ↓ev_purse, ↓ev_pix, ↓ev_pset, ↓ev_itScr, ↓ev_lenScr, ↓ev_tmI, ↓ev_tmS, ↓ev_tmL, ↓ev_tmT, ↓ev_s2I, ↓ev_s2S, ↓ev_s2T, ↓ev_s2L, ↓ev_p2T, ↓ev_p2L, ↓ev_p2S, ↓ev_inS, ↓ev_inT, ↓ev_inL, ↓ev_newL, ↓ev_raise, ↓ev_try, ↓ev_fldX1, ↓ev_bits, ↓ev_olen, ↓ev_oix, ↓ev_extend, ↓ev_lstP, ↓ev_down, ↓ev_maxL, ↓ev_sortSet, ↓ev_sortSc, ↓ev_augO, ↓ev_never, ↓ev_zip, ↓ev_zipP, ↓ev_lstRg, ↓ev_kget, ↓ev_newCat, ↓ev_twoL, ↓ev_append, ↓ev_freeze, ↓ev_olP, ↓ev_hd1, ↓ev_excP, ↓ev_sum, ↓ev_aug, ↓ev_fzP, ↓ev_anyB, ↓ev_twoP, ↓set_nx', ↓gone_nx, ↓gone_bk, ↓gone_ct, ↓gone_rt, ↓ev_par, ↓ev_make, ↓ev_fldI, ↓ev_prop, ↓ev_meth, ↓ev_methK, ↓ev_opS, ↓ev_binI, ↓ev_bin_i, ↓ev_bin_s, ↓ev_bin_t, ↓ev_bin_l, ↓ev_eqOI, ↓ev_eqO_n, ↓ev_eqO_b, ↓ev_eqO_i, ↓ev_eqO_s, ↓ev_eqO_t, ↓ev_eqO_l, ↓ev_callS, ↓ev_dctP, ↓ev_keyS, ↓ev_keyI, ↓ev_dget, ↓ev_dget2, ↓ev_dIn, ↓ev_disp, ↓ev_pairs0, ↓ev_pairs1, ↓ev_newD, ↓ev_odP, ↓ev_putD, ↓ev_freezeD, ↓ev_odget, ↓ev_odIn, ↓ev_sortD, ↓ev_dict0, ↓ev_spS, ↓ev_star, ↓ev_asSeqT, ↓ev_asSeqL, ↓ev_eqN, ↓ev_asT, take_1, drop_1, ↓ev_insP, ev_isIP, ev_noFP, eqY_ins, ev_nx, n_exc, n_ins, n_dct, n_opq, k_exc, k_ins, k_dct, i_ins, i_dct, is_ins, n_non, n_bl, n_int, n_str, n_tup, n_lst, k_non, k_bl, k_int, k_str, k_tup, k_lst, i_non, i_bl, i_int, i_str, i_tup, i_lst,
  startD_eq, List.map_cons, List.map_nil, List.length_cons, List.length_nil, List.replicate, List.cons_append, List.nil_append, List.append_nil, Nat.zero_add, Nat.reduceAdd, Nat.reduceSub, Nat.reduceLeDiff, List.set_cons_zero, List.set_cons_succ, wipeD, List.getElem?_cons_zero, List.getElem?_cons_succ,
  mb_int, mb_str, mb_bool, mb_tuple, mb_list, mb_dict, beq_self_eq_true, String.reduceBEq, Bool.or_true, Bool.or_false, Bool.true_or, Bool.false_or, Bool.and_false, Bool.false_and, Bool.and_true, Bool.true_and, Bool.not_true, Bool.not_false,
  Option.isSome_some, Option.isSome_none, true_and, and_true, true_or, or_true, Pl_int, Pl_bl, Pl_non, atI_0, atI_1, atI_2, cut_1, Int.reduceBEq, Int.reduceNeg, Int.cast_ofNat_Int, Int.natCast_add, Int.reduceAdd, eqd_nn, eqd_nb, eqd_ni, eqd_ns, eqd_nt, eqd_nl, eqd_bn, eqd_bb, eqd_bi, eqd_bs, eqd_bt, eqd_bl, eqd_in, eqd_ib, eqd_ii, eqd_is, eqd_it, eqd_il, eqd_sn, eqd_sb, eqd_si, eqd_ss, eqd_st, eqd_sl, eqd_tn, eqd_tb, eqd_ti, eqd_ts, eqd_tt, eqd_tl, eqd_ln, eqd_lb, eqd_li, eqd_ls, eqd_lt, eqd_ll, eqds_nn, eqds_cc, eqds_nc, eqds_cn])
local macro_rules | `(tactic| walk_at "w") => `(tactic| try (walk_at "ev"))
local macro_rules | `(tactic| walk_at "fx") => `(tactic| simp only [cut_to2, fd_str, fd_int, fd_non, fd_bl, List.all_cons, List.all_nil, List.any_cons, List.any_nil, ofS_beq, String.reduceBEq, Bool.and_true, Bool.true_and, Bool.or_false, Bool.false_or, Bool.or_true, Bool.true_or, Bool.bne_false, Bool.bne_true, Bool.false_bne, Bool.true_bne, bne_self_eq_false, Bool.not_true, Bool.not_false, true_and, and_true, pk_text, pk_break, pk_hole, pk_join, pk_choice, pk_nested, pk_group, pk_flattened])
local macro_rules | `(tactic| walk_at "f") => `(tactic| repeat (first | walk_at "ev" | walk_at "fx"))

section
variable {P : Program} {w : World} {K : PySem.W.Frag} {mg : Str → Option Value} {base : Heap} {a : Ad}
theorem ok_init_Doc (T : Txt K mg a) : FnOk P w K mg base (L2.CX P w) 1 a.i_Doc a.d_init_Doc ["self", "shape"] (spDI K "shape") := okDI T.F_init_Doc sci_Doc fun cdv A outer s H E => pss_one (ps_fld (pv 0) (pv 1) rfl)
theorem b_init_Doc (T : Txt K mg a) : Binds K a.d_init_Doc ["self", "shape"] [] := T.F_init_Doc.bindsN fun _ _ _ _ _ _ us hl => match us, hl with | [_, _], _ => (by kernel_rfl)
theorem ok_init_InvalidName (T : Txt K mg a) : FnOk P w K mg base (L2.CX P w) 1 a.i_InvalidName a.d_init_InvalidName ["self", "name"] (spXI K "name") := okXI T.F_init_InvalidName sci_InvalidName fun cdv A outer s H E => pss_one (ps_ost (pv 0) (pv 1))
theorem b_init_InvalidName (T : Txt K mg a) : Binds K a.d_init_InvalidName ["self", "name"] [] := by
  obtain ⟨ds, h1, h2⟩ := T.F_init_InvalidName.binds1 (ps := ["self", "name"]) 2 1 (by simp) rfl fun _ _ _ _ _ _ _ us its h1 h2 => match us, its, h1, h2 with | [_, _], [_], _, _ => ⟨_, rfl, rfl⟩
  cases h1
  exact h2
theorem ok_init_InvalidSteps (T : Txt K mg a) : FnOk P w K mg base (L2.CX P w) 1 a.i_InvalidSteps a.d_init_InvalidSteps ["self", "steps"] (spXI K "steps") := okXI T.F_init_InvalidSteps sci_InvalidSteps fun cdv A outer s H E => pss_one (ps_ost (pv 0) (pv 1))
theorem b_init_InvalidSteps (T : Txt K mg a) : Binds K a.d_init_InvalidSteps ["self", "steps"] [] := by
  obtain ⟨ds, h1, h2⟩ := T.F_init_InvalidSteps.binds1 (ps := ["self", "steps"]) 2 1 (by simp) rfl fun _ _ _ _ _ _ _ us its h1 h2 => match us, its, h1, h2 with | [_, _], [_], _, _ => ⟨_, rfl, rfl⟩
  cases h1
  exact h2
theorem ok_init_InvalidText (T : Txt K mg a) : FnOk P w K mg base (L2.CX P w) 1 a.i_InvalidText a.d_init_InvalidText ["self", "string"] (spXI K "string") := okXI T.F_init_InvalidText sci_InvalidText fun cdv A outer s H E => pss_one (ps_ost (pv 0) (pv 1))
theorem b_init_InvalidText (T : Txt K mg a) : Binds K a.d_init_InvalidText ["self", "string"] [] := by
  obtain ⟨ds, h1, h2⟩ := T.F_init_InvalidText.binds1 (ps := ["self", "string"]) 2 1 (by simp) rfl fun _ _ _ _ _ _ _ us its h1 h2 => match us, its, h1, h2 with | [_, _], [_], _, _ => ⟨_, rfl, rfl⟩
  cases h1
  exact h2
theorem ok_init_NotADocument (T : Txt K mg a) : FnOk P w K mg base (L2.CX P w) 1 a.i_NotADocument a.d_init_NotADocument ["self", "thing"] (spXI K "thing") := okXI T.F_init_NotADocument sci_NotADocument fun cdv A outer s H E => pss_one (ps_ost (pv 0) (pv 1))
theorem b_init_NotADocument (T : Txt K mg a) : Binds K a.d_init_NotADocument ["self", "thing"] [] := by
  obtain ⟨ds, h1, h2⟩ := T.F_init_NotADocument.binds1 (ps := ["self", "thing"]) 2 1 (by simp) rfl fun _ _ _ _ _ _ _ us its h1 h2 => match us, its, h1, h2 with | [_, _], [_], _, _ => ⟨_, rfl, rfl⟩
  cases h1
  exact h2
theorem IC0_Doc : IC0 a a.c_Doc := by simp [IC0]
theorem b_Doc___add__ (T : Txt K mg a) : Binds K a.d_Doc___add__ ["self", "other"] [] := T.F_Doc___add__.bindsN fun _ _ _ _ _ _ us hl => match us, hl with | [_, _], _ => (by kernel_rfl)
theorem b_Doc___eq__ (T : Txt K mg a) : Binds K a.d_Doc___eq__ ["self", "other"] [] := T.F_Doc___eq__.bindsN fun _ _ _ _ _ _ us hl => match us, hl with | [_, _], _ => (by kernel_rfl)
theorem b_Doc___or__ (T : Txt K mg a) : Binds K a.d_Doc___or__ ["self", "other"] [] := T.F_Doc___or__.bindsN fun _ _ _ _ _ _ us hl => match us, hl with | [_, _], _ => (by kernel_rfl)
theorem b_Doc_flat_ways (T : Txt K mg a) : Binds K a.d_Doc_flat_ways ["self"] [] := T.F_Doc_flat_ways.bindsN fun _ _ _ _ _ _ us hl => match us, hl with | [_], _ => (by kernel_rfl)
theorem cm_Doc_flattened (T : Txt K mg a) : CalM K a.c_Doc "flattened" a.f_Doc_flattened a.d_Doc_flattened ["self"] [] := ⟨T.D_Doc.cl, T.M_Doc_flattened, [], .nil, T.F_Doc_flattened.bindsN fun _ _ _ _ _ _ us hl => match us, hl with | [_], _ => (by kernel_rfl)⟩
theorem b_Doc_form (T : Txt K mg a) : Binds K a.d_Doc_form ["self"] [] := T.F_Doc_form.bindsN fun _ _ _ _ _ _ us hl => match us, hl with | [_], _ => (by kernel_rfl)
theorem cm_Doc_group (T : Txt K mg a) : CalM K a.c_Doc "group" a.f_Doc_group a.d_Doc_group ["self"] [] := ⟨T.D_Doc.cl, T.M_Doc_group, [], .nil, T.F_Doc_group.bindsN fun _ _ _ _ _ _ us hl => match us, hl with | [_], _ => (by kernel_rfl)⟩
theorem b_Doc_holes (T : Txt K mg a) : Binds K a.d_Doc_holes ["self"] [] := T.F_Doc_holes.bindsN fun _ _ _ _ _ _ us hl => match us, hl with | [_], _ => (by kernel_rfl)
theorem cm_Doc_nested (T : Txt K mg a) : CalM K a.c_Doc "nested" a.f_Doc_nested a.d_Doc_nested ["self", "steps"] [] := ⟨T.D_Doc.cl, T.M_Doc_nested, [], .nil, T.F_Doc_nested.bindsN fun _ _ _ _ _ _ us hl => match us, hl with | [_, _], _ => (by kernel_rfl)⟩
theorem b_Doc_parts (T : Txt K mg a) : Binds K a.d_Doc_parts ["self"] [] := T.F_Doc_parts.bindsN fun _ _ _ _ _ _ us hl => match us, hl with | [_], _ => (by kernel_rfl)
theorem b_Doc_ways (T : Txt K mg a) : Binds K a.d_Doc_ways ["self"] [] := T.F_Doc_ways.bindsN fun _ _ _ _ _ _ us hl => match us, hl with | [_], _ => (by kernel_rfl)
theorem c__law_at_2 (T : Txt K mg a) : Cal K mg "_law_at" a.f__law_at a.d__law_at ["_law_script", "_law_k"] [] := (⟨T.F__law_at, T.m__law_at⟩ : Df K mg "_law_at" s__law_at [] [] a.f__law_at a.d__law_at).cal0 fun _ _ _ _ _ _ us hl => match us, hl with | [_, _], _ => (by kernel_rfl)
theorem c__law_doc_1 (T : Txt K mg a) : Cal K mg "_law_doc" a.f__law_doc a.d__law_doc ["_law_form_here"] [] := (⟨T.F__law_doc, T.m__law_doc⟩ : Df K mg "_law_doc" s__law_doc [] [] a.f__law_doc a.d__law_doc).cal0 fun _ _ _ _ _ _ us hl => match us, hl with | [_], _ => (by kernel_rfl)
theorem c__law_draw_2 (T : Txt K mg a) : Cal K mg "_law_draw" a.f__law_draw a.d__law_draw ["_law_purse_here", "_law_out_of"] [] := (⟨T.F__law_draw, T.m__law_draw⟩ : Df K mg "_law_draw" s__law_draw [] [] a.f__law_draw a.d__law_draw).cal0 fun _ _ _ _ _ _ us hl => match us, hl with | [_, _], _ => (by kernel_rfl)
theorem c__law_form_3 (T : Txt K mg a) : Cal K mg "_law_form" a.f__law_form a.d__law_form ["_law_purse_here", "_law_size", "_law_names"] [] := (⟨T.F__law_form, T.m__law_form⟩ : Df K mg "_law_form" s__law_form [] [] a.f__law_form a.d__law_form).cal0 fun _ _ _ _ _ _ us hl => match us, hl with | [_, _, _], _ => (by kernel_rfl)
theorem c__law_holes_1 (T : Txt K mg a) : Cal K mg "_law_holes" a.f__law_holes a.d__law_holes ["_law_form_here"] [] := (⟨T.F__law_holes, T.m__law_holes⟩ : Df K mg "_law_holes" s__law_holes [] [] a.f__law_holes a.d__law_holes).cal0 fun _ _ _ _ _ _ us hl => match us, hl with | [_], _ => (by kernel_rfl)
theorem c__law_inner_1 (T : Txt K mg a) : Cal K mg "_law_inner" a.f__law_inner a.d__law_inner ["_law_form_here"] [] := (⟨T.F__law_inner, T.m__law_inner⟩ : Df K mg "_law_inner" s__law_inner [] [] a.f__law_inner a.d__law_inner).cal0 fun _ _ _ _ _ _ us hl => match us, hl with | [_], _ => (by kernel_rfl)
theorem c__law_leaf_2 (T : Txt K mg a) : Cal K mg "_law_leaf" a.f__law_leaf a.d__law_leaf ["_law_purse_here", "_law_names"] [] := (⟨T.F__law_leaf, T.m__law_leaf⟩ : Df K mg "_law_leaf" s__law_leaf [] [] a.f__law_leaf a.d__law_leaf).cal0 fun _ _ _ _ _ _ us hl => match us, hl with | [_, _], _ => (by kernel_rfl)
theorem c__law_mixed_2 (T : Txt K mg a) : Cal K mg "_law_mixed" a.f__law_mixed a.d__law_mixed ["_law_cell", "_law_k"] [] := (⟨T.F__law_mixed, T.m__law_mixed⟩ : Df K mg "_law_mixed" s__law_mixed [] [] a.f__law_mixed a.d__law_mixed).cal0 fun _ _ _ _ _ _ us hl => match us, hl with | [_, _], _ => (by kernel_rfl)
theorem c__law_parts_1 (T : Txt K mg a) : Cal K mg "_law_parts" a.f__law_parts a.d__law_parts ["_law_form_here"] [] := (⟨T.F__law_parts, T.m__law_parts⟩ : Df K mg "_law_parts" s__law_parts [] [] a.f__law_parts a.d__law_parts).cal0 fun _ _ _ _ _ _ us hl => match us, hl with | [_], _ => (by kernel_rfl)
theorem c__law_purse_2 (T : Txt K mg a) : Cal K mg "_law_purse" a.f__law_purse a.d__law_purse ["_law_script", "_law_at_here"] [] := (⟨T.F__law_purse, T.m__law_purse⟩ : Df K mg "_law_purse" s__law_purse [] [] a.f__law_purse a.d__law_purse).cal0 fun _ _ _ _ _ _ us hl => match us, hl with | [_, _], _ => (by kernel_rfl)
theorem c__law_put_2 (T : Txt K mg a) : Cal K mg "_law_put" a.f__law_put a.d__law_put ["_law_form_here", "_law_rows"] [] := (⟨T.F__law_put, T.m__law_put⟩ : Df K mg "_law_put" s__law_put [] [] a.f__law_put a.d__law_put).cal0 fun _ _ _ _ _ _ us hl => match us, hl with | [_, _], _ => (by kernel_rfl)
theorem c__law_ways_1 (T : Txt K mg a) : Cal K mg "_law_ways" a.f__law_ways a.d__law_ways ["_law_form_here"] [] := (⟨T.F__law_ways, T.m__law_ways⟩ : Df K mg "_law_ways" s__law_ways [] [] a.f__law_ways a.d__law_ways).cal0 fun _ _ _ _ _ _ us hl => match us, hl with | [_], _ => (by kernel_rfl)
theorem c_all_forms_1 (T : Txt K mg a) : Cal K mg "all_forms" a.f_all_forms a.d_all_forms ["form"] [] := (⟨T.F_all_forms, T.m_all_forms⟩ : Df K mg "all_forms" s_all_forms [] [] a.f_all_forms a.d_all_forms).cal0 fun _ _ _ _ _ _ us hl => match us, hl with | [_], _ => (by kernel_rfl)
theorem c_filled_form_2 (T : Txt K mg a) : Cal K mg "filled_form" a.f_filled_form a.d_filled_form ["form", "fillings"] [] := (⟨T.F_filled_form, T.m_filled_form⟩ : Df K mg "filled_form" s_filled_form [] [] a.f_filled_form a.d_filled_form).cal0 fun _ _ _ _ _ _ us hl => match us, hl with | [_, _], _ => (by kernel_rfl)
theorem c_form_counts_1 (T : Txt K mg a) : Cal K mg "form_counts" a.f_form_counts a.d_form_counts ["form"] [] := (⟨T.F_form_counts, T.m_form_counts⟩ : Df K mg "form_counts" s_form_counts [] [] a.f_form_counts a.d_form_counts).cal0 fun _ _ _ _ _ _ us hl => match us, hl with | [_], _ => (by kernel_rfl)
theorem c_form_ways_1 (T : Txt K mg a) : Cal K mg "form_ways" a.f_form_ways a.d_form_ways ["form"] [] := (⟨T.F_form_ways, T.m_form_ways⟩ : Df K mg "form_ways" s_form_ways [] [] a.f_form_ways a.d_form_ways).cal0 fun _ _ _ _ _ _ us hl => match us, hl with | [_], _ => (by kernel_rfl)
theorem c_hole_1 (T : Txt K mg a) : Cal K mg "hole" a.f_hole a.d_hole ["name"] [] := (⟨T.F_hole, T.m_hole⟩ : Df K mg "hole" s_hole [] [] a.f_hole a.d_hole).cal0 fun _ _ _ _ _ _ us hl => match us, hl with | [_], _ => (by kernel_rfl)
theorem c_inner_forms_1 (T : Txt K mg a) : Cal K mg "inner_forms" a.f_inner_forms a.d_inner_forms ["form"] [] := (⟨T.F_inner_forms, T.m_inner_forms⟩ : Df K mg "inner_forms" s_inner_forms [] [] a.f_inner_forms a.d_inner_forms).cal0 fun _ _ _ _ _ _ us hl => match us, hl with | [_], _ => (by kernel_rfl)
theorem c_is_integer_3 (T : Txt K mg a) : Cal K mg "is_integer" a.f_is_integer a.d_is_integer ["thing", "least", "most"] [] := (⟨T.F_is_integer, T.m_is_integer⟩ : Df K mg "is_integer" s_is_integer [.non, .non] [] a.f_is_integer a.d_is_integer).cal1 3 2 (by simp) rfl fun _ _ _ _ _ _ _ us its h1 h2 => match us, its, h1, h2 with | [_, _, _], [_, _], _, _ => ⟨_, rfl, rfl⟩
theorem c_is_name_1 (T : Txt K mg a) : Cal K mg "is_name" a.f_is_name a.d_is_name ["thing"] [] := (⟨T.F_is_name, T.m_is_name⟩ : Df K mg "is_name" s_is_name [] [] a.f_is_name a.d_is_name).cal0 fun _ _ _ _ _ _ us hl => match us, hl with | [_], _ => (by kernel_rfl)
theorem c_is_string_1 (T : Txt K mg a) : Cal K mg "is_string" a.f_is_string a.d_is_string ["thing"] [] := (⟨T.F_is_string, T.m_is_string⟩ : Df K mg "is_string" s_is_string [] [] a.f_is_string a.d_is_string).cal0 fun _ _ _ _ _ _ us hl => match us, hl with | [_], _ => (by kernel_rfl)
theorem c_line_1 (T : Txt K mg a) : Cal K mg "line" a.f_line a.d_line ["flat"] [] := (⟨T.F_line, T.m_line⟩ : Df K mg "line" s_line [.str " "] [] a.f_line a.d_line).cal1 1 1 (by simp) rfl fun _ _ _ _ _ _ _ us its h1 h2 => match us, its, h1, h2 with | [_], [_], _, _ => ⟨_, rfl, rfl⟩
theorem c_own_ways_2 (T : Txt K mg a) : Cal K mg "own_ways" a.f_own_ways a.d_own_ways ["form", "inner"] [] := (⟨T.F_own_ways, T.m_own_ways⟩ : Df K mg "own_ways" s_own_ways [] [] a.f_own_ways a.d_own_ways).cal0 fun _ _ _ _ _ _ us hl => match us, hl with | [_, _], _ => (by kernel_rfl)
theorem c_require_doc_1 (T : Txt K mg a) : Cal K mg "require_doc" a.f_require_doc a.d_require_doc ["thing"] [] := (⟨T.F_require_doc, T.m_require_doc⟩ : Df K mg "require_doc" s_require_doc [] [] a.f_require_doc a.d_require_doc).cal0 fun _ _ _ _ _ _ us hl => match us, hl with | [_], _ => (by kernel_rfl)
theorem c_text_1 (T : Txt K mg a) : Cal K mg "text" a.f_text a.d_text ["string"] [] := (⟨T.F_text, T.m_text⟩ : Df K mg "text" s_text [.str ""] [] a.f_text a.d_text).cal1 1 1 (by simp) rfl fun _ _ _ _ _ _ _ us its h1 h2 => match us, its, h1, h2 with | [_], [_], _, _ => ⟨_, rfl, rfl⟩
end
section
variable {P : Program} {w : World} {K : PySem.W.Frag} {mg : Str → Option Value} {base : Heap} {a : Ad} (T : Txt K mg a)
include T
def Kd (a : Ad) (d : D) : Prop := (kind d).isSome = true ∨ ∃ C, isIns d = some C ∧ IC0 a C
omit T in
theorem kd_of {d : D} {n : Nat} (h : Pl n d) : Kd a d := .inl (kind_pl h)
def sp_is_string (a : Ad) : SpD := fun ds c Q _ => ∃ d, ds = [d] ∧ Kd a d ∧ (∀ x, d = .str x → x.length ≤ 1000000) ∧ Q (.bl (isStr d)) c
theorem ok_is_string : FnOk P w K mg base (L2.CX P w) 1 a.f_is_string a.d_is_string ["thing"] (spOf K (sp_is_string a)) := by
  refine okD T.F_is_string sc_is_string (fun ds c Q E h => ?_) (fun cdv A outer s H E G0 c0 ED good => ⟨_, _, (pds_one (pds_ret (pd_and (pd_callB call_isi (br_isaA (IC := IC0 a) (hI0 T)) T.z_isinstance bt_isinstance (pda_cons (pd_v 0) (pda_cons (pd_bty T.z_str bt_str) pda_nil))) (pd_one (pd_callB (cr_all good.calm) br_all T.z_all bt_all (pda_cons (pd_lc (own := [("sign", 1)]) good.calm sc_is_string.nd (pdi_any (pd_v 0)) (blkOk_by (N := ["thing", "sign"]) (sc := (defScope s_is_string)) (by decide +kernel)) ⟨fun s1 H1 C1 cl1 fp1 => (pdg_cast (pdg_name 1 sc_is_string.nd) (by first | rfl | (dsimp only [Ctx.blk, Cx.blk] <;> rfl)) (by first | rfl | (dsimp only [Ctx.blk, Cx.blk] <;> rfl))), fun s1 H1 C1 cl1 fp1 => (pdts_cast pdts_nil (by first | rfl | (dsimp only [Ctx.blk, Cx.blk] <;> rfl)) (by first | rfl | (dsimp only [Ctx.blk, Cx.blk] <;> rfl))), fun s1 H1 C1 cl1 fp1 => (pd_cast (pd_leP2 pd_str (pd_v 1) pd_str) (by first | rfl | (dsimp only [Ctx.blk, Cx.blk] <;> rfl)) (by first | rfl | (dsimp only [Ctx.blk, Cx.blk] <;> rfl)))⟩) pda_nil)))))), ?_⟩)
  · obtain ⟨d, rfl, _⟩ := h; rfl
  · rintro ds Qd ⟨d, rfl, hk, hf, q⟩
    cases d with
    | str x =>
      walk_at "w"
      have hf := hf x rfl
      refine lc_by (fun d => some (.bl (signOk d))) (Nat.le_trans (Nat.le_of_eq (signs_length x)) (Nat.le_trans hf (by decide))) (fun d hd R R0 h1 h0 => ?_) ?_
      · obtain ⟨z, rfl⟩ := signs_str hd
        walk_at "w"
        have h1 := h1 _ rfl
        simp only [signOk] at h1
        refine Br.by (fun e => ?_) fun e => ?_ <;> (simp only [Bool.not_eq_true', Bool.not_eq_false'] at e; rw [e] at h1; exact h1)
      · refine allP.mk (by rw [filterMap_some, bools_map]) ?_
        rw [List.all_map]
        exact q
    | _ => walk_at "w"; first | exact q | exact ⟨hk, q⟩
def sp_is_integer (a : Ad) : SpD := fun ds c Q _ => ∃ d lo hi, ds = [d, lo, hi] ∧ Kd a d ∧ bnd lo = true ∧ bnd hi = true ∧ Q (.bl (isIntG d lo hi)) c
theorem ok_is_integer : FnOk P w K mg base (L2.CX P w) 1 a.f_is_integer a.d_is_integer ["thing", "least", "most"] (spOf K (sp_is_integer a)) := by
  refine okD T.F_is_integer sc_is_integer (fun ds c Q E h => ?_) (fun cdv A outer s H E G0 c0 ED good => ⟨_, _, (pds_cons (pds_if (pdw_pt (pdw_or (pdt_not (pdt_val (pd_callB call_isi (br_isaA (IC := IC0 a) (hI0 T)) T.z_isinstance bt_isinstance (pda_cons (pd_v 0) (pda_cons (pd_bty T.z_int bt_int) pda_nil))))) (pdw_or1 (pdt_val (pd_callB call_isi (br_isaA (IC := IC0 a) (hI0 T)) T.z_isinstance bt_isinstance (pda_cons (pd_v 0) (pda_cons (pd_bty T.z_bool bt_bool) pda_nil))))))) (pds_one (pds_ret pd_bl)) pss_nil')
      (pds_one (pds_ret (pd_and (pd_or (pd_cm (pdc_isN (pd_v 1))) (pd_one (pd_cm (pdc_ge (pd_v 0) (pd_v 1))))) (pd_one (pd_or (pd_cm (pdc_isN (pd_v 2))) (pd_one (pd_cm (pdc_leP (pd_v 0) (pd_v 2)))))))))), ?_⟩)
  · obtain ⟨d, lo, hi, rfl, _⟩ := h; rfl
  · rintro ds Qd ⟨d, lo, hi, rfl, hk, h1, h2, q⟩
    cases d with
    | int i =>
      cases lo <;> cases h1 <;> cases hi <;> cases h2 <;> (walk_at "w"; simp only [isIntG, loOk, hiOk, Bool.and_true, Bool.true_and] at q) <;> first | exact q | (refine Br.by (fun e => ?_) fun e => ?_ <;> (rw [e] at q; exact q))
    | _ => walk_at "w"; first | exact q | exact ⟨hk, q⟩

def sp_inner_forms : SpD := fun ds c Q _ => ∃ f : Fm, ds = [f.enc] ∧ Q (.lst (f.inner.map Fm.enc)) c
theorem ok_inner_forms : FnOk P w K mg base (L2.CX P w) 1 a.f_inner_forms a.d_inner_forms ["form"] (spOf K sp_inner_forms) := by
  refine okD T.F_inner_forms sc_inner_forms (fun ds c Q E h => ?_) (fun cdv A outer s H E G0 c0 ED good => ⟨_, _, (pds_cons (pds_if (pdt_cm (pdc_in good (pd_at (pd_v 0) pd_int) (pd_tup (pda_cons pd_str (pda_cons pd_str pda_nil))))) (pds_one (pds_ret (pd_lst (pda_cons (pd_at (pd_v 0) pd_int) (pda_cons (pd_at (pd_v 0) pd_int) pda_nil))))) pss_nil')
      (pds_cons (pds_if (pdt_cm (pdc_eqD good (pd_at (pd_v 0) pd_int) pd_str)) (pds_one (pds_ret (pd_lst (pda_cons (pd_at (pd_v 0) pd_int) pda_nil)))) pss_nil')
      (pds_cons (pds_if (pdt_cm (pdc_in good (pd_at (pd_v 0) pd_int) (pd_tup (pda_cons pd_str (pda_cons pd_str pda_nil))))) (pds_one (pds_ret (pd_lst (pda_cons (pd_at (pd_v 0) pd_int) pda_nil)))) pss_nil')
      (pds_one (pds_ret (pd_lst pda_nil)))))), ?_⟩)
  · obtain ⟨f, rfl, _⟩ := h; rfl
  · rintro ds Qd ⟨f, rfl, q⟩
    cases f with
    | brk o => cases o <;> simp only [Fm.enc] <;> walk_at "f" <;> exact q
    | _ => simp only [Fm.enc] <;> walk_at "f" <;> exact q
def sp_all_forms : SpD := fun ds c Q _ => ∃ f : Fm, ds = [f.enc] ∧ f.parts ≤ 1000 ∧ ∀ L, Fm.Bfs f L L.length → Q (.lst (L.map Fm.enc)) c
theorem ok_all_forms : FnOk P w K mg base (L2.CX P w) 3 a.f_all_forms a.d_all_forms ["form"] (spOf K sp_all_forms) := by
  refine okD T.F_all_forms sc_all_forms (fun ds c Q E h => ?_) (fun cdv A outer s H E G0 c0 ED good => ⟨_, _, (pds_cons (pds_newL 1 sc_all_forms.nd (pda_cons (pd_v 0) pda_nil))
      (pds_cons (pds_set 2 sc_all_forms.nd pd_int)
      (pds_cons (pds_while PassesOwn.leaving (pdt_cm (pdc_lt (pd_v 2) (pd_olen 1 (pd_callB cr_len br_lenA T.z_len bt_len (pda_cons (pd_v 1) pda_nil)))))
      (pds_cons (pds_extend 1 (pv 1) (pda_cons (pd_callC good ((ok_inner_forms T).mono (by omega)) (c_inner_forms_1 T) (fun _ => .nil) (pda_cons (pd_oix 1 (pv 1) (pd_v 2)) pda_nil)) pda_nil))
      (pds_one (pds_aug 2 sc_all_forms.nd iop_add br_iadd pd_int))))
      (pds_freeze 1 (pds_one (pds_ret (pd_v 1))))))), ?_⟩)
  · obtain ⟨f, rfl, _⟩ := h; rfl
  · rintro ds Qd ⟨f, rfl, hp, q⟩
    walk_at "w"
    refine ⟨fun m ρ c => c = c0 ∧ ∃ L k, Fm.Bfs f L k ∧ m = 1000 - k ∧ ρ = [.fz f.enc, .ol (L.map Fm.enc), .fz (.int (k : Nat))], ⟨_, rfl, [f], 0, .start f, rfl, rfl⟩, ?_⟩
    rintro m ρ c ⟨rfl, L, k, b, rfl, rfl⟩
    have hr := b.room
    walk_at "w"
    refine Br.by (fun e => ?_) fun e => ?_
    · simp only [decide_eq_true_eq, List.length_map] at e
      have lt : k < L.length := by omega
      have hk : L[k]? = some L[k] := List.getElem?_eq_getElem lt
      refine atP.mk (d := (L[k]).enc) (atI_nat (by rw [List.getElem?_map, hk]; rfl)) ?_
      refine ⟨L[k], rfl, ?_⟩
      walk_at "w"
      have := Fm.inner_len L[k]
      refine ⟨by simp only [List.length_map]; omega, ?_⟩
      exact ⟨1000 - (k + 1), by omega, L ++ (L[k]).inner, k + 1, b.step hk, rfl, by simp⟩
    · simp only [decide_eq_false_iff_not, List.length_map] at e
      have : k = L.length := by have := b.le; omega
      subst this
      exact q L b
def sp_own_ways : SpD := fun ds c Q _ => ∃ (f : Fm) (es : List D), ds = [f.enc, .lst es] ∧ Fm.Trip f.inner es ∧ f.small ∧ Q (.tup [.int f.bo, .int f.fl]) c
theorem ok_own_ways : FnOk P w K mg base (L2.CX P w) 1 a.f_own_ways a.d_own_ways ["form", "inner"] (spOf K sp_own_ways) := by
  refine okD T.F_own_ways sc_own_ways (fun ds c Q E h => ?_) (fun cdv A outer s H E G0 c0 ED good => ⟨_, _, (pds_cons (pds_set 2 sc_own_ways.nd (pd_at (pd_v 0) pd_int))
      (pds_cons (pds_if (pdt_cm (pdc_eqD good (pd_v 2) pd_str)) (pds_one (pds_ret (pd_tup (pda_cons pd_int (pda_cons (pd_callTy call_int1 br_intA T.z_int bt_int (pda_cons (pd_cm (pdc_notN (pd_at (pd_v 0) pd_int))) pda_nil)) pda_nil))))) pss_nil')
      (pds_cons (pds_if (pdt_cm (pdc_in good (pd_v 2) (pd_tup (pda_cons pd_str (pda_cons pd_str pda_nil))))) (pds_one (pds_ret (pd_tup (pda_cons pd_int (pda_cons pd_int pda_nil))))) pss_nil')
      (pds_cons (pds_if (pdt_cm (pdc_eqD good (pd_v 2) pd_str)) (pds_one (pds_ret (pd_tup (pda_cons (pd_times (pd_at (pd_at (pd_v 1) pd_int) pd_int) (pd_at (pd_at (pd_v 1) pd_int) pd_int)) (pda_cons (pd_times (pd_at (pd_at (pd_v 1) pd_int) pd_int) (pd_at (pd_at (pd_v 1) pd_int) pd_int)) pda_nil))))) pss_nil')
      (pds_cons (pds_if (pdt_cm (pdc_eqD good (pd_v 2) pd_str)) (pds_one (pds_ret (pd_tup (pda_cons (pd_sum2 (pd_at (pd_at (pd_v 1) pd_int) pd_int) (pd_at (pd_at (pd_v 1) pd_int) pd_int)) (pda_cons (pd_sum2 (pd_at (pd_at (pd_v 1) pd_int) pd_int) (pd_at (pd_at (pd_v 1) pd_int) pd_int)) pda_nil))))) pss_nil')
      (pds_cons (pds_asg (pd_part2 (pd_at (pd_v 1) pd_int) pdo_none (pdo_some pd_int)) (pdg_seq (n := 2) good.calm (pdg_cons (pdg_name 3 sc_own_ways.nd) (pdg_cons (pdg_name 4 sc_own_ways.nd) pdg_nil))))
      (pds_cons (pds_if (pdt_cm (pdc_eqD good (pd_v 2) pd_str)) (pds_one (pds_ret (pd_tup (pda_cons (pd_sum2 (pd_v 3) (pd_v 4)) (pda_cons (pd_v 4) pda_nil))))) pss_nil')
      (pds_cons (pds_if (pdt_cm (pdc_eqD good (pd_v 2) pd_str)) (pds_one (pds_ret (pd_tup (pda_cons (pd_v 4) (pda_cons (pd_v 4) pda_nil))))) pss_nil')
      (pds_one (pds_ret (pd_tup (pda_cons (pd_v 3) (pda_cons (pd_v 4) pda_nil))))))))))))), ?_⟩)
  · obtain ⟨f, es, rfl, _⟩ := h; rfl
  · rintro ds Qd ⟨f, es, rfl, ht, hp, q⟩
    cases f with
    | brk o => cases o <;> simp only [Fm.enc] <;> walk_at "f" <;> exact q
    | text x => simp only [Fm.enc]; walk_at "f"; exact q
    | hole x => simp only [Fm.enc]; walk_at "f"; exact q
    | join f1 f2 =>
      cases ht with
      | cons _ _ ht =>
        cases ht with
        | cons _ _ ht =>
          cases ht
          simp only [Fm.enc]; walk_at "f"
          exact ⟨hp.cmB, hp.cmF, q⟩
    | choice f1 f2 =>
      cases ht with
      | cons _ _ ht =>
        cases ht with
        | cons _ _ ht =>
          cases ht
          simp only [Fm.enc]; walk_at "f"
          exact q
    | _ =>
      cases ht with
      | cons _ _ ht =>
        cases ht
        simp only [Fm.enc]; walk_at "f"
        exact q
def sp_form_counts : SpD := fun ds c Q _ => ∃ f : Fm, ds = [f.enc] ∧ f.small ∧ ∀ p, Q (.tup [.int f.bo, .int f.fl, .int p]) c
theorem ok_form_counts : FnOk P w K mg base (L2.CX P w) 5 a.f_form_counts a.d_form_counts ["form"] (spOf K sp_form_counts) := by
  refine okD T.F_form_counts sc_form_counts (fun ds c Q E h => ?_) (fun cdv A outer s H E G0 c0 ED good => ⟨_, _, (pds_cons (pds_set 1 sc_form_counts.nd (pd_callC good ((ok_all_forms T).mono (by omega)) (c_all_forms_1 T) (fun _ => .nil) (pda_cons (pd_v 0) pda_nil)))
      (pds_cons (pds_newL 2 sc_form_counts.nd pda_nil)
      (pds_cons (pds_set 3 sc_form_counts.nd pd_int)
      (pds_cons (pds_for PassesOwn.leaving good.calm (pdi_any (pd_v 1)) (pdg_name 4 sc_form_counts.nd)
      (pds_cons (pds_append 2 (pv 2) (pda_cons (pd_listRg good.calm T.z_list T.z_range (pd_v 3) (pd_sum2 (pd_v 3) (pd_callB cr_len br_lenA T.z_len bt_len (pda_cons (pd_callC good ((ok_inner_forms T).mono (by omega)) (c_inner_forms_1 T) (fun _ => .nil) (pda_cons (pd_v 4) pda_nil)) pda_nil)))) pda_nil))
      (pds_one (pds_aug 3 sc_form_counts.nd iop_add br_iadd (pd_callB cr_len br_lenA T.z_len bt_len (pda_cons (pd_callC good ((ok_inner_forms T).mono (by omega)) (c_inner_forms_1 T) (fun _ => .nil) (pda_cons (pd_v 4) pda_nil)) pda_nil))))))
      (pds_freeze 2 (pds_cons (pds_newL 5 sc_form_counts.nd pda_nil)
      (pds_cons (pds_for PassesOwn.leaving good.calm (pdi_range3 T.z_range (pda_cons (pd_sub (pd_callB cr_len br_lenA T.z_len bt_len (pda_cons (pd_v 1) pda_nil)) pd_int) (pda_cons (pd_neg pd_int) (pda_cons (pd_neg pd_int) pda_nil)))) (pdg_name 6 sc_form_counts.nd)
      (pds_cons (pds_setLc (own := [("place", 10)]) 7 good.calm sc_form_counts.nd (pdi_any (pd_at (pd_v 2) (pd_v 6))) (blkOk_by (N := ["form", "forms", "places", "last", "one", "counts", "at", "inner", "broken", "flat", "place", "some"]) (sc := (defScope s_form_counts)) (by decide +kernel)) ⟨fun s2 H2 C2 cl2 fp2 => (pdg_cast (pdg_name 10 sc_form_counts.nd) (by first | rfl | (dsimp only [Ctx.blk, Cx.blk] <;> rfl)) (by first | rfl | (dsimp only [Ctx.blk, Cx.blk] <;> rfl))), fun s2 H2 C2 cl2 fp2 => (pdts_cast pdts_nil (by first | rfl | (dsimp only [Ctx.blk, Cx.blk] <;> rfl)) (by first | rfl | (dsimp only [Ctx.blk, Cx.blk] <;> rfl))), fun s2 H2 C2 cl2 fp2 => (pd_cast (pd_oix 5 (pv 5) (pd_sub (pd_sub (pd_callB cr_len br_lenA T.z_len bt_len (pda_cons (pd_v 1) pda_nil)) pd_int) (pd_v 10))) (by first | rfl | (dsimp only [Ctx.blk, Cx.blk] <;> rfl)) (by first | rfl | (dsimp only [Ctx.blk, Cx.blk] <;> rfl)))⟩ (sw_true rfl rfl rfl (by decide +kernel)))
      (pds_cons (pds_asg (pd_callC good ((ok_own_ways T).mono (by omega)) (c_own_ways_2 T) (fun _ => .nil) (pda_cons (pd_at (pd_v 1) (pd_v 6)) (pda_cons (pd_v 7) pda_nil))) (pdg_seq (n := 2) good.calm (pdg_cons (pdg_name 8 sc_form_counts.nd) (pdg_cons (pdg_name 9 sc_form_counts.nd) pdg_nil))))
      (pds_one (pds_append 5 (pv 5) (pda_cons (pd_tup (pda_cons (pd_v 8) (pda_cons (pd_v 9) (pda_cons (pd_callB (cr_max good.calm) br_maxL T.z_max bt_max (pda_cons (pd_sum2 (pd_lst (pda_cons (pd_v 8) (pda_cons (pd_v 9) pda_nil))) (pd_lc (own := [("some", 11)]) good.calm sc_form_counts.nd (pdi_any (pd_v 7)) (blkOk_by (N := ["form", "forms", "places", "last", "one", "counts", "at", "inner", "broken", "flat", "place", "some"]) (sc := (defScope s_form_counts)) (by decide +kernel)) ⟨fun s1 H1 C1 cl1 fp1 => (pdg_cast (pdg_name 11 sc_form_counts.nd) (by first | rfl | (dsimp only [Ctx.blk, Cx.blk] <;> rfl)) (by first | rfl | (dsimp only [Ctx.blk, Cx.blk] <;> rfl))), fun s1 H1 C1 cl1 fp1 => (pdts_cast pdts_nil (by first | rfl | (dsimp only [Ctx.blk, Cx.blk] <;> rfl)) (by first | rfl | (dsimp only [Ctx.blk, Cx.blk] <;> rfl))), fun s1 H1 C1 cl1 fp1 => (pd_cast (pd_at (pd_v 11) pd_int) (by first | rfl | (dsimp only [Ctx.blk, Cx.blk] <;> rfl)) (by first | rfl | (dsimp only [Ctx.blk, Cx.blk] <;> rfl)))⟩)) pda_nil)) pda_nil)))) pda_nil))))))
      (pds_freeze 5 (pds_one (pds_ret (pd_at (pd_v 5) (pd_neg pd_int)))))))))))), ?_⟩)
  · obtain ⟨f, rfl, _⟩ := h; rfl
  · rintro ds Qd ⟨f, rfl, hsm, q⟩
    have hp := hsm.1
    walk_at "w"
    refine ⟨f, rfl, by omega, fun L b => ?_⟩
    have hL := b.len
    walk_at "w"
    refine for_det (fun k ρ => ∃ s4 s5 s6 s7 s8 s9 s10 s11, ρ = [.fz f.enc, .fz (.lst (L.map Fm.enc)), .ol ((List.range k).map (plc L)), .fz (.int (Fm.cp L k : Nat)), s4, s5, s6, s7, s8, s9, s10, s11]) ⟨_, _, _, _, _, _, _, _, rfl⟩ ?_ ?_
    · rintro k x ρ hx ⟨s4, s5, s6, s7, s8, s9, s10, s11, rfl⟩
      rw [List.getElem?_map] at hx
      cases hk : L[k]? with
      | none => rw [hk] at hx; cases hx
      | some g =>
        rw [hk] at hx
        cases hx
        walk_at "w"
        have lt : k < L.length := (List.getElem?_eq_some_iff.mp hk).1
        have hc : Fm.cp L (k + 1) ≤ L.length := by rw [b.size]; exact Fm.cp_le lt
        have hs := Fm.cp_succ hk
        refine ⟨by rw [List.length_map, List.length_range]; omega, g, rfl, ?_⟩
        walk_at "w"
        rw [List.length_map]
        refine ⟨⟨by omega, by omega, by omega, by omega⟩, g, rfl, ?_⟩
        walk_at "w"
        rw [List.length_map, sub_toNat]
        refine ⟨_, _, _, _, _, _, _, _, by rw [List.range_succ, List.map_append, List.map_singleton, plc_of hk, hs, Int.natCast_add]⟩
    · rintro ρ ⟨s4, s5, s6, s7, s8, s9, s10, s11, rfl⟩
      walk_at "w"
      have hll : (L.map Fm.enc).length = L.length := List.length_map _
      rw [hll]
      refine ⟨_, _, rfl, ⟨by omega, by omega, by decide, by decide⟩, ?_⟩
      rw [show ((L.length : Int) - 1 - -1).toNat = L.length by omega]
      refine for_det (fun k ρ => ∃ es s4 s6 s7 s8 s9 s10 s11, Fm.Trip (L.reverse.take k) es ∧ ρ = [.fz f.enc, .fz (.lst (L.map Fm.enc)), .fz (.lst ((List.range L.length).map (plc L))), .fz (.int (Fm.cp L L.length : Nat)), s4, .ol es, s6, s7, s8, s9, s10, s11]) ⟨[], _, _, _, _, _, _, _, .nil, rfl⟩ ?_ ?_
      · rintro k x ρ hx ⟨es, s4, s6, s7, s8, s9, s10, s11, ht, rfl⟩
        obtain ⟨lt, rfl⟩ := stepInts_get hx
        obtain ⟨i, hi⟩ : ∃ i, i + k + 1 = L.length := ⟨L.length - 1 - k, by omega⟩
        have hel : es.length = k := by rw [ht.length, List.length_take, List.length_reverse]; omega
        have ea : (L.length : Int) - 1 + (k : Nat) * -1 = (i : Nat) := by omega
        rw [ea]
        have hg : L[i]? = some L[i] := List.getElem?_eq_getElem (by omega)
        generalize L[i] = g at hg
        have kid : ∀ j h, g.inner[j]? = some h → L[Fm.cp L i + j]? = some h := b.kids i g (by omega) hg
        have gap := b.gap i (by omega)
        walk_at "w"
        refine atP.mk (d := plc L i) (atI_nat (by rw [List.getElem?_map, List.getElem?_range (by omega)]; rfl)) ?_
        rw [plc_of hg]
        walk_at "w"
        have two := Fm.inner_len g
        refine lc_inv (fun k acc => Fm.Trip (g.inner.take k) acc) (by rw [upInts_length]; omega) .nil ?_ fun es2 ht2 => ?_
        · rintro j x acc hx ha hj R hR
          obtain ⟨lj, rfl⟩ := upInts_get hx
          have hj : g.inner[j]? = some g.inner[j] := List.getElem?_eq_getElem lj
          have hq := kid j _ hj
          have hlt := (List.getElem?_eq_some_iff.mp hq).1
          generalize g.inner[j] = h at hj hq
          walk_at "w"
          rw [List.length_map]
          obtain ⟨n, hn⟩ : ∃ n, n + 1 + (Fm.cp L i + j) = L.length := ⟨L.length - 1 - (Fm.cp L i + j), by omega⟩
          rw [show (L.length : Int) - 1 - (((Fm.cp L i : Nat) : Int) + ((j : Nat) : Int)) = (n : Nat) by omega]
          obtain ⟨p, hp⟩ := ht.get (i := n) (g := h) (by
            rw [List.getElem?_take, if_pos (by omega), List.getElem?_reverse (by omega), show L.length - 1 - n = Fm.cp L i + j by omega]; exact hq)
          refine atP.mk (atI_nat hp) (hR _ ?_)
          rw [take_snoc hj]
          exact ha.snoc h p
        rw [upInts_length, List.take_length] at ht2
        refine atP.mk (d := g.enc) (atI_nat (by rw [List.getElem?_map, hg]; rfl)) ?_
        refine ⟨g, es2, rfl, ht2, b.her Fm.small (fun _ _ hx hy => hx.in hy) hsm g (List.mem_of_getElem? hg), ?_⟩
        walk_at "w"
        have h2 := ht2.length
        refine ⟨by omega, lc_inv (fun k acc => ∃ ps : List Int, acc = ps.map .int ∧ ps.length = k) (by omega) ⟨[], rfl, rfl⟩ ?_ fun acc hacc => ?_⟩
        · rintro j x acc hx ⟨ps, rfl, hps⟩ _ R hR
          obtain ⟨h, p, rfl⟩ := ht2.item hx
          walk_at "w"
          exact hR _ ⟨ps ++ [p], by simp, by simp [hps]⟩
        obtain ⟨ps, rfl, hps⟩ := hacc
        walk_at "w"
        refine ⟨by rw [List.length_map]; omega, maxP.of (ns := g.bo :: g.fl :: ps) (by simp) fun m => ⟨_, _, _, _, _, _, _, _, ?_, rfl⟩⟩
        rw [take_snoc (x := g) (by rw [List.getElem?_reverse (by omega), show L.length - 1 - k = i by omega]; exact hg)]
        exact ht.snoc g m
      · rintro ρ ⟨es, s4, s6, s7, s8, s9, s10, s11, ht, rfl⟩
        walk_at "w"
        rw [stepInts_length, show L.length = L.reverse.length from (List.length_reverse).symm, List.take_length] at ht
        obtain ⟨p, hp⟩ := ht.get (i := es.length - 1) (g := f) (by
          rw [ht.length, List.length_reverse, List.getElem?_reverse (by have := f.parts_pos; omega), show L.length - 1 - (L.length - 1) = 0 by omega]; exact b.first)
        exact atP.mk (atI_last hp) (q p)
def sp_form_ways : SpD := fun ds c Q _ => ∃ f : Fm, ds = [f.enc] ∧ f.small ∧ Q (.tup [.int f.bo, .int f.fl]) c
theorem ok_form_ways : FnOk P w K mg base (L2.CX P w) 7 a.f_form_ways a.d_form_ways ["form"] (spOf K sp_form_ways) := by
  refine okD T.F_form_ways sc_form_ways (fun ds c Q E h => ?_) (fun cdv A outer s H E G0 c0 ED good => ⟨_, _, (pds_one (pds_ret (pd_part2 (pd_callC good ((ok_form_counts T).mono (by omega)) (c_form_counts_1 T) (fun _ => .nil) (pda_cons (pd_v 0) pda_nil)) pdo_none (pdo_some pd_int)))), ?_⟩)
  · obtain ⟨f, rfl, _⟩ := h; rfl
  · rintro ds Qd ⟨f, rfl, hp, q⟩
    walk_at "w"
    refine ⟨f, rfl, hp, fun p => ?_⟩
    walk_at "f"
    exact q

def sp_filled_form : Nat → SpD
  | 0 => fun _ _ _ _ => False
  | n + 1 => fun ds c Q _ => ∃ (f : Fm) (ks : List Str) (φ : Str → Fm), ds = [f.enc, .dct (keysS ks) (ks.map fun x => (φ x).enc)] ∧ f.dep ≤ n + 1 ∧ Q (f.fill ks φ).enc c
omit T in
theorem no_filled_form (ds : List D) (c : Nat) (Q : QD) (E : EDt) : sp_filled_form 0 ds c Q E → False := id
omit T in
theorem sp_filled_form_of {n : Nat} {f : Fm} {ks : List Str} {φ : Str → Fm} {c : Nat} {Q : QD} {E : EDt} (h : f.dep ≤ n) (q : Q (f.fill ks φ).enc c) : sp_filled_form n [f.enc, .dct (keysS ks) (ks.map fun x => (φ x).enc)] c Q E := by
  cases n with
  | zero => have := f.dep_pos; omega
  | succ n => exact ⟨f, ks, φ, rfl, h, q⟩
theorem ok_filled_form : ∀ n : Nat, FnOk P w K mg base (L2.CX P w) (1 + n) a.f_filled_form a.d_filled_form ["form", "fillings"] (spOf K (sp_filled_form n)) := by
  intro n
  induction n with
  | zero => exact FnOk.no T.F_filled_form sc_filled_form (spOf_no no_filled_form)
  | succ n ih =>
  refine okD (k := 1 + n) T.F_filled_form sc_filled_form (fun ds c Q E h => ?_) (fun cdv A outer s H E G0 c0 ED good => ⟨_, _, (pds_cons (pds_if (pdt_cm (pdc_eqD good (pd_at (pd_v 0) pd_int) pd_str)) (pds_one (pds_ret (pd_dget2 good (pd_v 1) (pd_at (pd_v 0) pd_int) (pd_v 0)))) pss_nil')
      (pds_cons (pds_if (pdt_cm (pdc_in good (pd_at (pd_v 0) pd_int) (pd_tup (pda_cons pd_str (pda_cons pd_str pda_nil))))) (pds_one (pds_ret (pd_tup (pda_cons (pd_at (pd_v 0) pd_int) (pda_cons (pd_callC good ih (c_filled_form_2 T) (fun _ => .nil) (pda_cons (pd_at (pd_v 0) pd_int) (pda_cons (pd_v 1) pda_nil))) (pda_cons (pd_callC good ih (c_filled_form_2 T) (fun _ => .nil) (pda_cons (pd_at (pd_v 0) pd_int) (pda_cons (pd_v 1) pda_nil))) pda_nil)))))) pss_nil')
      (pds_cons (pds_if (pdt_cm (pdc_eqD good (pd_at (pd_v 0) pd_int) pd_str)) (pds_one (pds_ret (pd_tup (pda_cons pd_str (pda_cons (pd_at (pd_v 0) pd_int) (pda_cons (pd_callC good ih (c_filled_form_2 T) (fun _ => .nil) (pda_cons (pd_at (pd_v 0) pd_int) (pda_cons (pd_v 1) pda_nil))) pda_nil)))))) pss_nil')
      (pds_cons (pds_if (pdt_cm (pdc_in good (pd_at (pd_v 0) pd_int) (pd_tup (pda_cons pd_str (pda_cons pd_str pda_nil))))) (pds_one (pds_ret (pd_tup (pda_cons (pd_at (pd_v 0) pd_int) (pda_cons (pd_callC good ih (c_filled_form_2 T) (fun _ => .nil) (pda_cons (pd_at (pd_v 0) pd_int) (pda_cons (pd_v 1) pda_nil))) pda_nil))))) pss_nil')
      (pds_one (pds_ret (pd_v 0))))))), ?_⟩)
  · obtain ⟨f, ks, φ, rfl, _⟩ := h; rfl
  · rintro ds Qd ⟨f, ks, φ, rfl, hn, q⟩
    have low : ∀ g ∈ f.inner, g.dep ≤ n := fun g hg => by have := Fm.dep_lt hg; omega
    cases f with
    | brk o => cases o <;> (simp only [Fm.enc]; walk_at "f"; exact q)
    | text x => simp only [Fm.enc]; walk_at "f"; exact q
    | hole x =>
      simp only [Fm.enc]; walk_at "f"
      rw [dget_keys]
      simp only [Fm.fill] at q
      split at q
      · rename_i h; rw [if_pos h]; exact q
      · rename_i h; rw [if_neg h]; exact q
    | join g1 g2 =>
      simp only [Fm.enc]; walk_at "f"
      refine sp_filled_form_of (low g1 (by simp [Fm.inner])) ?_
      walk_at "w"
      refine sp_filled_form_of (low g2 (by simp [Fm.inner])) ?_
      walk_at "w"
      exact q
    | choice g1 g2 =>
      simp only [Fm.enc]; walk_at "f"
      refine sp_filled_form_of (low g1 (by simp [Fm.inner])) ?_
      walk_at "w"
      refine sp_filled_form_of (low g2 (by simp [Fm.inner])) ?_
      walk_at "w"
      exact q
    | nested i g1 =>
      simp only [Fm.enc]; walk_at "f"
      refine sp_filled_form_of (low g1 (by simp [Fm.inner])) ?_
      walk_at "w"
      exact q
    | group g1 =>
      simp only [Fm.enc]; walk_at "f"
      refine sp_filled_form_of (low g1 (by simp [Fm.inner])) ?_
      walk_at "w"
      exact q
    | flat g1 =>
      simp only [Fm.enc]; walk_at "f"
      refine sp_filled_form_of (low g1 (by simp [Fm.inner])) ?_
      walk_at "w"
      exact q
def docD (a : Ad) (f : Fm) : D := .ins a.c_Doc ["shape"] [f.enc]
def sp_is_name : SpD := fun ds c Q _ => ∃ x, ds = [.str x] ∧ x.length ≤ 1000 ∧ Q (.bl (nameB x)) c
theorem ok_is_name : FnOk P w K mg base (L2.CX P w) 1 a.f_is_name a.d_is_name ["thing"] (spOf K sp_is_name) := by
  refine okD T.F_is_name sc_is_name (fun ds c Q E h => ?_) (fun cdv A outer s H E G0 c0 ED good => ⟨_, _, (pds_one (pds_ret (pd_and (pd_callB call_isi (br_isaA (IC := IC0 a) (hI0 T)) T.z_isinstance bt_isinstance (pda_cons (pd_v 0) (pda_cons (pd_bty T.z_str bt_str) pda_nil))) (pd_and (pd_leP2 pd_int (pd_callB cr_len br_lenA T.z_len bt_len (pda_cons (pd_v 0) pda_nil)) (pd_gint T.g_MOST_LETTERS)) (pd_one (pd_callB (cr_all good.calm) br_all T.z_all bt_all (pda_cons (pd_lc (own := [("sign", 1)]) good.calm sc_is_name.nd (pdi_any (pd_v 0)) (blkOk_by (N := ["thing", "sign"]) (sc := (defScope s_is_name)) (by decide +kernel)) ⟨fun s1 H1 C1 cl1 fp1 => (pdg_cast (pdg_name 1 sc_is_name.nd) (by first | rfl | (dsimp only [Ctx.blk, Cx.blk] <;> rfl)) (by first | rfl | (dsimp only [Ctx.blk, Cx.blk] <;> rfl))), fun s1 H1 C1 cl1 fp1 => (pdts_cast pdts_nil (by first | rfl | (dsimp only [Ctx.blk, Cx.blk] <;> rfl)) (by first | rfl | (dsimp only [Ctx.blk, Cx.blk] <;> rfl))), fun s1 H1 C1 cl1 fp1 => (pd_cast (pd_cm (pdc_in (good.blk s1 H1 _ _ fp1) (pd_v 1) (pd_gstr T.g_LETTERS))) (by first | rfl | (dsimp only [Ctx.blk, Cx.blk] <;> rfl)) (by first | rfl | (dsimp only [Ctx.blk, Cx.blk] <;> rfl)))⟩) pda_nil))))))), ?_⟩)
  · obtain ⟨x, rfl, _⟩ := h; rfl
  · rintro ds Qd ⟨x, rfl, hl, q⟩
    walk_at "w"
    refine ⟨by omega, ?_⟩
    rw [nameB_parts] at q
    refine Br.by (fun e1 => ?_) fun e1 => ?_
    · simp only [decide_eq_true_eq] at e1
      rw [decide_eq_true (show 1 ≤ x.length by omega), Bool.true_and] at q
      refine Br.by (fun e2 => ?_) fun e2 => ?_
      · simp only [decide_eq_true_eq] at e2
        rw [decide_eq_true (show x.length ≤ 8 by omega), Bool.true_and] at q
        refine lc_by (fun d => some (.bl (inL d))) (Nat.le_trans (Nat.le_of_eq (signs_length x)) (Nat.le_trans hl (by decide))) (fun d hd R R0 h1 h0 => ?_) ?_
        · obtain ⟨n, _, rfl⟩ := List.mem_map.mp hd
          walk_at "f"
          exact h1 _ rfl
        · refine allP.mk (by rw [filterMap_some, bools_map]) ?_
          rw [List.all_map]
          exact q
      · simp only [decide_eq_false_iff_not] at e2
        rw [decide_eq_false (show ¬ x.length ≤ 8 by omega), Bool.false_and] at q
        exact q
    · simp only [decide_eq_false_iff_not] at e1
      rw [decide_eq_false (show ¬ 1 ≤ x.length by omega), Bool.false_and, Bool.false_and] at q
      exact q
def sp_Doc_form (a : Ad) : SpD := fun ds c Q _ => ∃ f : Fm, ds = [docD a f] ∧ Q f.enc c
theorem ok_Doc_form : FnOk P w K mg base (L2.CX P w) 1 a.f_Doc_form a.d_Doc_form ["self"] (spOf K (sp_Doc_form a)) := by
  refine okD T.F_Doc_form sc_Doc_form (fun ds c Q E h => ?_) (fun cdv A outer s H E G0 c0 ED good => ⟨_, _, (pds_one (pds_ret (pd_fldI T.D_Doc.cl T.D_Doc.no (pd_v 0)))), ?_⟩)
  · obtain ⟨f, rfl, _⟩ := h; rfl
  · rintro ds Qd ⟨f, rfl, q⟩
    simp only [docD]
    walk_at "w"
    exact q
def sp_Doc_parts (a : Ad) : SpD := fun ds c Q _ => ∃ f : Fm, ds = [docD a f] ∧ f.small ∧ Q (.int f.parts) c
theorem ok_Doc_parts : FnOk P w K mg base (L2.CX P w) 5 a.f_Doc_parts a.d_Doc_parts ["self"] (spOf K (sp_Doc_parts a)) := by
  refine okD T.F_Doc_parts sc_Doc_parts (fun ds c Q E h => ?_) (fun cdv A outer s H E G0 c0 ED good => ⟨_, _, (pds_one (pds_ret (pd_callB cr_len br_lenA T.z_len bt_len (pda_cons (pd_callC good ((ok_all_forms T).mono (by omega)) (c_all_forms_1 T) (fun _ => .nil) (pda_cons (pd_fldI T.D_Doc.cl T.D_Doc.no (pd_v 0)) pda_nil)) pda_nil)))), ?_⟩)
  · obtain ⟨f, rfl, _⟩ := h; rfl
  · rintro ds Qd ⟨f, rfl, hp, q⟩
    simp only [docD]
    walk_at "w"
    refine ⟨f, rfl, by have := hp.1; omega, fun L b => ?_⟩
    walk_at "w"
    rw [List.length_map, b.len]
    exact q
def sp_Doc_holes (a : Ad) : SpD := fun ds c Q _ => ∃ f : Fm, ds = [docD a f] ∧ f.small ∧ Q (.tup ((sortU f.holes).map D.str)) c
theorem ok_Doc_holes : FnOk P w K mg base (L2.CX P w) 5 a.f_Doc_holes a.d_Doc_holes ["self"] (spOf K (sp_Doc_holes a)) := by
  refine okD T.F_Doc_holes sc_Doc_holes (fun ds c Q E h => ?_) (fun cdv A outer s H E G0 c0 ED good => ⟨_, _, (pds_one (pds_ret (pd_callTy call_tuple_of br_tupleA T.z_tuple bt_tuple (pda_cons (pd_sortSc (own := [("form", 1)]) good.calm sc_Doc_holes.nd T.z_sorted (pdi_any (pd_callC good ((ok_all_forms T).mono (by omega)) (c_all_forms_1 T) (fun _ => .nil) (pda_cons (pd_fldI T.D_Doc.cl T.D_Doc.no (pd_v 0)) pda_nil))) (blkOk_by (N := ["self", "form"]) (sc := (defScope s_Doc_holes)) (by decide +kernel)) ⟨fun s1 H1 C1 cl1 fp1 => (pdg_cast (pdg_name 1 sc_Doc_holes.nd) (by first | rfl | (dsimp only [Ctx.blk, Cx.blk] <;> rfl)) (by first | rfl | (dsimp only [Ctx.blk, Cx.blk] <;> rfl))), fun s1 H1 C1 cl1 fp1 => (pdts_cast (pdts_one (pdt_cm (pdc_eqD (good.blk s1 H1 _ _ fp1) (pd_at (pd_v 1) pd_int) pd_str))) (by first | rfl | (dsimp only [Ctx.blk, Cx.blk] <;> rfl)) (by first | rfl | (dsimp only [Ctx.blk, Cx.blk] <;> rfl))), fun s1 H1 C1 cl1 fp1 => (pd_cast (pd_at (pd_v 1) pd_int) (by first | rfl | (dsimp only [Ctx.blk, Cx.blk] <;> rfl)) (by first | rfl | (dsimp only [Ctx.blk, Cx.blk] <;> rfl)))⟩) pda_nil)))), ?_⟩)
  · obtain ⟨f, rfl, _⟩ := h; rfl
  · rintro ds Qd ⟨f, rfl, hp, q⟩
    simp only [docD]
    walk_at "w"
    have hp1 := hp.1
    refine ⟨f, rfl, by omega, fun L b => ?_⟩
    have hL := b.len
    walk_at "w"
    refine sc_inv (fun k acc => ∀ x, x ∈ acc ↔ Fm.hole x ∈ L.take k) (by rw [List.length_map]; omega) (fun x => by simp) ?_ fun acc hacc => ?_
    · rintro k x acc hx ha R1 R0 h1 h0
      rw [List.getElem?_map] at hx
      cases hk : L[k]? with
      | none => rw [hk] at hx; cases hx
      | some g =>
        rw [hk] at hx
        cases hx
        rw [take_snoc hk] at h1 h0
        have skip : (∀ x, Fm.hole x ≠ g) → R0 c0 := fun ne => h0 fun x => by
          rw [ha, List.mem_append, List.mem_singleton]
          exact ⟨.inl, fun z => z.elim id fun e => absurd e (ne x)⟩
        cases g with
        | hole y =>
          simp only [Fm.enc]; walk_at "f"
          refine h1 y fun x => ?_
          rw [List.mem_append, List.mem_append, ha, List.mem_singleton, List.mem_singleton]
          simp
        | brk o => cases o <;> (simp only [Fm.enc]; walk_at "f"; exact skip fun x e => by cases e)
        | _ => simp only [Fm.enc]; walk_at "f"; exact skip fun x e => by cases e
    · rw [List.length_map, List.take_length] at hacc
      rw [sortU_congr (m := f.holes) fun x => by rw [hacc, b.holesL]]
      exact q
def sp_Doc_ways (a : Ad) : SpD := fun ds c Q _ => ∃ f : Fm, ds = [docD a f] ∧ f.small ∧ Q (.int f.bo) c
theorem ok_Doc_ways : FnOk P w K mg base (L2.CX P w) 9 a.f_Doc_ways a.d_Doc_ways ["self"] (spOf K (sp_Doc_ways a)) := by
  refine okD T.F_Doc_ways sc_Doc_ways (fun ds c Q E h => ?_) (fun cdv A outer s H E G0 c0 ED good => ⟨_, _, (pds_one (pds_ret (pd_at (pd_callC good ((ok_form_ways T).mono (by omega)) (c_form_ways_1 T) (fun _ => .nil) (pda_cons (pd_fldI T.D_Doc.cl T.D_Doc.no (pd_v 0)) pda_nil)) pd_int))), ?_⟩)
  · obtain ⟨f, rfl, _⟩ := h; rfl
  · rintro ds Qd ⟨f, rfl, hp, q⟩
    simp only [docD]
    walk_at "w"
    refine ⟨f, rfl, hp, ?_⟩
    walk_at "w"
    exact q
def sp_Doc_flat_ways (a : Ad) : SpD := fun ds c Q _ => ∃ f : Fm, ds = [docD a f] ∧ f.small ∧ Q (.int f.fl) c
theorem ok_Doc_flat_ways : FnOk P w K mg base (L2.CX P w) 9 a.f_Doc_flat_ways a.d_Doc_flat_ways ["self"] (spOf K (sp_Doc_flat_ways a)) := by
  refine okD T.F_Doc_flat_ways sc_Doc_flat_ways (fun ds c Q E h => ?_) (fun cdv A outer s H E G0 c0 ED good => ⟨_, _, (pds_one (pds_ret (pd_at (pd_callC good ((ok_form_ways T).mono (by omega)) (c_form_ways_1 T) (fun _ => .nil) (pda_cons (pd_fldI T.D_Doc.cl T.D_Doc.no (pd_v 0)) pda_nil)) pd_int))), ?_⟩)
  · obtain ⟨f, rfl, _⟩ := h; rfl
  · rintro ds Qd ⟨f, rfl, hp, q⟩
    simp only [docD]
    walk_at "w"
    refine ⟨f, rfl, hp, ?_⟩
    walk_at "w"
    exact q
def sp_require_doc (a : Ad) : SpD := fun ds c Q _ => ∃ f : Fm, ds = [docD a f] ∧ Q .non c
theorem ok_require_doc : FnOk P w K mg base (L2.CX P w) 3 a.f_require_doc a.d_require_doc ["thing"] (spOf K (sp_require_doc a)) := by
  refine okD T.F_require_doc sc_require_doc (fun ds c Q E h => ?_) (fun cdv A outer s H E G0 c0 ED good => ⟨_, _, (pds_one (pds_if (pdt_not (pdt_val (pd_callB call_isO (br_isO (IC := IC0 a) (hI0 T)) T.z_isinstance bt_isinstance (pda_cons (pd_v 0) (pda_cons (pd_cls T.m_Doc) pda_nil))))) (pds_one (pds_raise1 good (by omega) T.x_NotADocument.o T.x_NotADocument.no T.x_NotADocument.iC T.x_NotADocument.tI (ok_init_NotADocument T) (b_init_NotADocument T) T.x_NotADocument.m (pda_cons (pd_v 0) pda_nil))) pss_nil')), ?_⟩)
  · obtain ⟨f, rfl, _⟩ := h; rfl
  · rintro ds Qd ⟨f, rfl, q⟩
    simp only [docD]
    walk_at "w"
    refine isO.ins IC0_Doc T.k_Doc_Doc ?_
    walk_at "w"
    exact q
def sp_Doc___add__ (a : Ad) : SpD := fun ds c Q _ => ∃ f g : Fm, ds = [docD a f, docD a g] ∧ Q (docD a (.join f g)) c
theorem ok_Doc___add__ : FnOk P w K mg base (L2.CX P w) 5 a.f_Doc___add__ a.d_Doc___add__ ["self", "other"] (spOf K (sp_Doc___add__ a)) := by
  refine okD T.F_Doc___add__ sc_Doc___add__ (fun ds c Q E h => ?_) (fun cdv A outer s H E G0 c0 ED good => ⟨_, _, (pds_cons (pds_expr (pd_callC good ((ok_require_doc T).mono (by omega)) (c_require_doc_1 T) (fun _ => .nil) (pda_cons (pd_v 1) pda_nil)))
      (pds_one (pds_ret (pd_make1 good (by omega) T.D_Doc (ok_init_Doc T) (b_init_Doc T) (pda_cons (pd_tup (pda_cons pd_str (pda_cons (pd_fldI T.D_Doc.cl T.D_Doc.no (pd_v 0)) (pda_cons (pd_fldI T.D_Doc.cl T.D_Doc.no (pd_v 1)) pda_nil)))) pda_nil))))), ?_⟩)
  · obtain ⟨f, g, rfl, _⟩ := h; rfl
  · rintro ds Qd ⟨f, g, rfl, q⟩
    simp only [docD]
    walk_at "w"
    refine ⟨g, rfl, ?_⟩
    walk_at "w"
    exact q
def sp_Doc___or__ (a : Ad) : SpD := fun ds c Q _ => ∃ f g : Fm, ds = [docD a f, docD a g] ∧ Q (docD a (.choice f g)) c
theorem ok_Doc___or__ : FnOk P w K mg base (L2.CX P w) 5 a.f_Doc___or__ a.d_Doc___or__ ["self", "other"] (spOf K (sp_Doc___or__ a)) := by
  refine okD T.F_Doc___or__ sc_Doc___or__ (fun ds c Q E h => ?_) (fun cdv A outer s H E G0 c0 ED good => ⟨_, _, (pds_cons (pds_expr (pd_callC good ((ok_require_doc T).mono (by omega)) (c_require_doc_1 T) (fun _ => .nil) (pda_cons (pd_v 1) pda_nil)))
      (pds_one (pds_ret (pd_make1 good (by omega) T.D_Doc (ok_init_Doc T) (b_init_Doc T) (pda_cons (pd_tup (pda_cons pd_str (pda_cons (pd_fldI T.D_Doc.cl T.D_Doc.no (pd_v 0)) (pda_cons (pd_fldI T.D_Doc.cl T.D_Doc.no (pd_v 1)) pda_nil)))) pda_nil))))), ?_⟩)
  · obtain ⟨f, g, rfl, _⟩ := h; rfl
  · rintro ds Qd ⟨f, g, rfl, q⟩
    simp only [docD]
    walk_at "w"
    refine ⟨g, rfl, ?_⟩
    walk_at "w"
    exact q
def sp_Doc___eq__ (a : Ad) : SpD := fun ds c Q _ => ∃ (f : Fm) (y : D), ds = [docD a f, y] ∧ f.ok ∧ f.small ∧ ((∃ g : Fm, y = docD a g ∧ g.ok ∧ g.small ∧ Q (.bl (eqD f.enc g.enc)) c) ∨ ((kind y).isSome = true ∧ Q (.bl false) c))
theorem ok_Doc___eq__ : FnOk P w K mg base (L2.CX P w) 1 a.f_Doc___eq__ a.d_Doc___eq__ ["self", "other"] (spOf K (sp_Doc___eq__ a)) := by
  refine okD T.F_Doc___eq__ sc_Doc___eq__ (fun ds c Q E h => ?_) (fun cdv A outer s H E G0 c0 ED good => ⟨_, _, (pds_one (pds_ret (pd_and (pd_callB call_isO (br_isO (IC := IC0 a) (hI0 T)) T.z_isinstance bt_isinstance (pda_cons (pd_v 1) (pda_cons (pd_cls T.m_Doc) pda_nil))) (pd_one (pd_cm (pdc_eqD good (pd_fldI T.D_Doc.cl T.D_Doc.no (pd_v 0)) (pd_fldI T.D_Doc.cl T.D_Doc.no (pd_v 1)))))))), ?_⟩)
  · obtain ⟨f, y, rfl, _⟩ := h; rfl
  · rintro ds Qd ⟨f, y, rfl, ok, hp, q⟩
    simp only [docD]
    walk_at "w"
    rcases q with ⟨g, rfl, okg, hg, q⟩ | ⟨hk, q⟩
    · simp only [docD]
      refine isO.ins IC0_Doc T.k_Doc_Doc ?_
      walk_at "w"
      exact ⟨hp.pl ok, hg.pl okg, q⟩
    · refine isO.kd T.kt_Doc hk ?_
      walk_at "w"
      exact q
def sp_Doc_nested (a : Ad) : SpD := fun ds c Q _ => ∃ (f : Fm) (i : Int), ds = [docD a f, .int i] ∧ 0 ≤ i ∧ i ≤ 40 ∧ Q (docD a (.nested i f)) c
theorem ok_Doc_nested : FnOk P w K mg base (L2.CX P w) 3 a.f_Doc_nested a.d_Doc_nested ["self", "steps"] (spOf K (sp_Doc_nested a)) := by
  refine okD T.F_Doc_nested sc_Doc_nested (fun ds c Q E h => ?_) (fun cdv A outer s H E G0 c0 ED good => ⟨_, _, (pds_cons (pds_if (pdt_not (pdt_val (pd_callC good ((ok_is_integer T).mono (by omega)) (c_is_integer_3 T) (fun _ => .nil) (pda_cons (pd_v 1) (pda_cons pd_int (pda_cons (pd_gint T.g_MOST_STEPS) pda_nil)))))) (pds_one (pds_raise1 good (by omega) T.x_InvalidSteps.o T.x_InvalidSteps.no T.x_InvalidSteps.iC T.x_InvalidSteps.tI (ok_init_InvalidSteps T) (b_init_InvalidSteps T) T.x_InvalidSteps.m (pda_cons (pd_v 1) pda_nil))) pss_nil')
      (pds_one (pds_ret (pd_make1 good (by omega) T.D_Doc (ok_init_Doc T) (b_init_Doc T) (pda_cons (pd_tup (pda_cons pd_str (pda_cons (pd_v 1) (pda_cons (pd_fldI T.D_Doc.cl T.D_Doc.no (pd_v 0)) pda_nil)))) pda_nil))))), ?_⟩)
  · obtain ⟨f, i, rfl, _⟩ := h; rfl
  · rintro ds Qd ⟨f, i, rfl, h1, h2, q⟩
    simp only [docD]
    walk_at "w"
    refine ⟨.int i, .int 0, .int 40, rfl, .inl rfl, rfl, rfl, ?_⟩
    rw [show isIntG (.int i) (.int 0) (.int 40) = true by simp [isIntG, loOk, hiOk, h1, h2]]
    walk_at "w"
    exact q
def sp_Doc_group (a : Ad) : SpD := fun ds c Q _ => ∃ f : Fm, ds = [docD a f] ∧ Q (docD a (.group f)) c
theorem ok_Doc_group : FnOk P w K mg base (L2.CX P w) 3 a.f_Doc_group a.d_Doc_group ["self"] (spOf K (sp_Doc_group a)) := by
  refine okD T.F_Doc_group sc_Doc_group (fun ds c Q E h => ?_) (fun cdv A outer s H E G0 c0 ED good => ⟨_, _, (pds_one (pds_ret (pd_make1 good (by omega) T.D_Doc (ok_init_Doc T) (b_init_Doc T) (pda_cons (pd_tup (pda_cons pd_str (pda_cons (pd_fldI T.D_Doc.cl T.D_Doc.no (pd_v 0)) pda_nil))) pda_nil)))), ?_⟩)
  · obtain ⟨f, rfl, _⟩ := h; rfl
  · rintro ds Qd ⟨f, rfl, q⟩
    simp only [docD]
    walk_at "w"
    exact q
def sp_Doc_flattened (a : Ad) : SpD := fun ds c Q _ => ∃ f : Fm, ds = [docD a f] ∧ Q (docD a (.flat f)) c
theorem ok_Doc_flattened : FnOk P w K mg base (L2.CX P w) 3 a.f_Doc_flattened a.d_Doc_flattened ["self"] (spOf K (sp_Doc_flattened a)) := by
  refine okD T.F_Doc_flattened sc_Doc_flattened (fun ds c Q E h => ?_) (fun cdv A outer s H E G0 c0 ED good => ⟨_, _, (pds_one (pds_ret (pd_make1 good (by omega) T.D_Doc (ok_init_Doc T) (b_init_Doc T) (pda_cons (pd_tup (pda_cons pd_str (pda_cons (pd_fldI T.D_Doc.cl T.D_Doc.no (pd_v 0)) pda_nil))) pda_nil)))), ?_⟩)
  · obtain ⟨f, rfl, _⟩ := h; rfl
  · rintro ds Qd ⟨f, rfl, q⟩
    simp only [docD]
    walk_at "w"
    exact q
def sp_text (a : Ad) : SpD := fun ds c Q _ => ∃ x, ds = [.str x] ∧ strS x ∧ Q (docD a (.text x)) c
theorem ok_text : FnOk P w K mg base (L2.CX P w) 3 a.f_text a.d_text ["string"] (spOf K (sp_text a)) := by
  refine okD T.F_text sc_text (fun ds c Q E h => ?_) (fun cdv A outer s H E G0 c0 ED good => ⟨_, _, (pds_cons (pds_if (pdt_not (pdt_val (pd_callC good ((ok_is_string T).mono (by omega)) (c_is_string_1 T) (fun _ => .nil) (pda_cons (pd_v 0) pda_nil)))) (pds_one (pds_raise1 good (by omega) T.x_InvalidText.o T.x_InvalidText.no T.x_InvalidText.iC T.x_InvalidText.tI (ok_init_InvalidText T) (b_init_InvalidText T) T.x_InvalidText.m (pda_cons (pd_v 0) pda_nil))) pss_nil')
      (pds_one (pds_ret (pd_make1 good (by omega) T.D_Doc (ok_init_Doc T) (b_init_Doc T) (pda_cons (pd_tup (pda_cons pd_str (pda_cons (pd_v 0) pda_nil))) pda_nil))))), ?_⟩)
  · obtain ⟨x, rfl, _⟩ := h; rfl
  · rintro ds Qd ⟨x, rfl, hx, q⟩
    walk_at "w"
    refine ⟨.str x, rfl, .inl rfl, fun y e => by cases e; exact Nat.le_trans hx.1 (by decide), ?_⟩
    rw [show isStr (.str x) = true from hx.2.1]
    walk_at "w"
    exact q
def brkD : Option Str → D
  | none => .non
  | some x => .str x
def sp_line (a : Ad) : SpD := fun ds c Q _ => ∃ o : Option Str, ds = [brkD o] ∧ (∀ x, o = some x → strS x) ∧ Q (docD a (.brk o)) c
theorem ok_line : FnOk P w K mg base (L2.CX P w) 3 a.f_line a.d_line ["flat"] (spOf K (sp_line a)) := by
  refine okD T.F_line sc_line (fun ds c Q E h => ?_) (fun cdv A outer s H E G0 c0 ED good => ⟨_, _, (pds_cons (pds_if (pdw_pt (pdw_and (pdt_cm (pdc_notN (pd_v 0))) (pdw_and1 (pdt_not (pdt_val (pd_callC good ((ok_is_string T).mono (by omega)) (c_is_string_1 T) (fun _ => .nil) (pda_cons (pd_v 0) pda_nil))))))) (pds_one (pds_raise1 good (by omega) T.x_InvalidText.o T.x_InvalidText.no T.x_InvalidText.iC T.x_InvalidText.tI (ok_init_InvalidText T) (b_init_InvalidText T) T.x_InvalidText.m (pda_cons (pd_v 0) pda_nil))) pss_nil')
      (pds_one (pds_ret (pd_make1 good (by omega) T.D_Doc (ok_init_Doc T) (b_init_Doc T) (pda_cons (pd_tup (pda_cons pd_str (pda_cons (pd_v 0) pda_nil))) pda_nil))))), ?_⟩)
  · obtain ⟨x, rfl, _⟩ := h; rfl
  · rintro ds Qd ⟨o, rfl, hx, q⟩
    cases o with
    | none => simp only [brkD]; walk_at "w"; exact q
    | some x =>
      simp only [brkD]; walk_at "w"
      have hx := hx x rfl
      refine ⟨.str x, rfl, .inl rfl, fun y e => by cases e; exact Nat.le_trans hx.1 (by decide), ?_⟩
      rw [show isStr (.str x) = true from hx.2.1]
      walk_at "w"
      exact q
def sp_hole (a : Ad) : SpD := fun ds c Q _ => ∃ x, ds = [.str x] ∧ strS x ∧ nameB x = true ∧ Q (docD a (.hole x)) c
theorem ok_hole : FnOk P w K mg base (L2.CX P w) 3 a.f_hole a.d_hole ["name"] (spOf K (sp_hole a)) := by
  refine okD T.F_hole sc_hole (fun ds c Q E h => ?_) (fun cdv A outer s H E G0 c0 ED good => ⟨_, _, (pds_cons (pds_if (pdt_not (pdt_val (pd_callC good ((ok_is_name T).mono (by omega)) (c_is_name_1 T) (fun _ => .nil) (pda_cons (pd_v 0) pda_nil)))) (pds_one (pds_raise1 good (by omega) T.x_InvalidName.o T.x_InvalidName.no T.x_InvalidName.iC T.x_InvalidName.tI (ok_init_InvalidName T) (b_init_InvalidName T) T.x_InvalidName.m (pda_cons (pd_v 0) pda_nil))) pss_nil')
      (pds_one (pds_ret (pd_make1 good (by omega) T.D_Doc (ok_init_Doc T) (b_init_Doc T) (pda_cons (pd_tup (pda_cons pd_str (pda_cons (pd_v 0) pda_nil))) pda_nil))))), ?_⟩)
  · obtain ⟨x, rfl, _⟩ := h; rfl
  · rintro ds Qd ⟨x, rfl, hx, hn, q⟩
    walk_at "w"
    refine ⟨x, rfl, hx.1, ?_⟩
    rw [hn]
    walk_at "w"
    exact q

def sp_filled (a : Ad) : SpD := fun ds c Q _ => ∃ (f : Fm) (ks : List Str) (gs : List Fm), ds = [docD a f, .dct (keysS ks) (gs.map (docD a))] ∧ ks.length = gs.length ∧ ks.Nodup ∧ ks.length < 64 ∧ f.dep ≤ 60 ∧ Q (docD a (f.fill ks (look ks gs))) c
theorem okB_filled : FnB P w K mg base 62 "filled" "filled" (defArgs s_filled) (defBody s_filled) (defScope s_filled) [] [] a.f_filled a.d_filled ["the_doc", "fillings", "forms", "name"] ["the_doc", "fillings"] (sp_filled a) := by
  refine ⟨T.F_filled, sc_filled, fun cdv A outer s H E G0 c0 ED good => ⟨_, _, (pds_cons (pds_expr (pd_callC good ((ok_require_doc T).mono (by omega)) (c_require_doc_1 T) (fun _ => .nil) (pda_cons (pd_v 0) pda_nil)))
      (pds_cons (pds_newD 2 sc_filled.nd)
      (pds_cons (pds_for PassesOwn.leaving good.calm (pdi_any (pd_callB (call_sortedD good.calm) br_sortD T.z_sorted bt_sorted (pda_cons (pd_v 1) pda_nil))) (pdg_name 3 sc_filled.nd)
      (pds_cons (pds_expr (pd_callC good ((ok_require_doc T).mono (by omega)) (c_require_doc_1 T) (fun _ => .nil) (pda_cons (pd_dget good (pd_v 1) (pd_v 3)) pda_nil)))
      (pds_one (pds_putD 2 good (pv 2) (pd_prop (good.mono (j := 2) (by omega)) T.D_Doc.cl T.P_Doc_form (ok_Doc_form T) (b_Doc_form T) (pd_dget good (pd_v 1) (pd_v 3))) (pd_v 3)))))
      (pds_freezeD 2 (pds_one (pds_ret (pd_make1 good (by omega) T.D_Doc (ok_init_Doc T) (b_init_Doc T) (pda_cons (pd_callC good ((ok_filled_form T 60).mono (by omega)) (c_filled_form_2 T) (fun _ => .nil) (pda_cons (pd_prop (good.mono (j := 2) (by omega)) T.D_Doc.cl T.P_Doc_form (ok_Doc_form T) (b_Doc_form T) (pd_v 0)) (pda_cons (pd_v 2) pda_nil))) pda_nil)))))))), ?_⟩⟩
  · rintro ds Qd ⟨f, ks, gs, rfl, hl, nd, h64, hd, q⟩
    simp only [docD]
    walk_at "w"
    refine ⟨f, rfl, ?_⟩
    walk_at "w"
    refine ⟨ks, rfl, h64, nd, ?_⟩
    rw [look_map (docD a) nd hl]
    have nds := nodup_sortU ks
    have lens := length_sortU ks
    refine for_det (fun k ρ => ∃ s3, ρ = [.fz (docD a f), .fz (.dct (keysS ks) (ks.map fun x => docD a (look ks gs x))), .od (keysS ((sortU ks).take k)) (((sortU ks).take k).map fun x => (look ks gs x).enc), s3]) ⟨_, rfl⟩ ?_ ?_
    · rintro k x ρ hx ⟨s3, rfl⟩
      rw [List.getElem?_map] at hx
      cases hk : (sortU ks)[k]? with
      | none => rw [hk] at hx; cases hx
      | some y =>
        rw [hk] at hx
        cases hx
        have my : y ∈ ks := mem_sortU.mp (List.mem_of_getElem? hk)
        have ey : dgetD (keysS ks) (ks.map fun x => docD a (look ks gs x)) (.inr y) = some (docD a (look ks gs y)) := by rw [dget_keys, if_pos (by simpa using my)]
        walk_at "w"
        refine atP.mk ey ?_
        refine ⟨_, rfl, ?_⟩
        walk_at "w"
        refine atP.mk ey ?_
        refine ⟨⟨_, _, rfl⟩, _, rfl, ?_⟩
        walk_at "w"
        have lk := (List.getElem?_eq_some_iff.mp hk).1
        have ny : y ∉ (sortU ks).take k := fun z => by
          have nd2 := nds
          rw [← List.take_append_drop k (sortU ks)] at nd2
          refine (List.nodup_append.mp nd2).2.2 y z y ?_ rfl
          rw [List.drop_eq_getElem_cons lk, (List.getElem?_eq_some_iff.mp hk).2]
          exact List.mem_cons_self
        obtain ⟨p1, p2⟩ := dput_keys (g := fun x => (look ks gs x).enc) ny
        refine ⟨by simp only [keysS, List.length_map, List.length_take]; omega, nodup_inr ((List.take_sublist _ _).nodup nds), ?_⟩
        rw [take_snoc hk, p1, p2]
        exact ⟨_, rfl⟩
    · rintro ρ ⟨s3, rfl⟩
      rw [List.length_map, List.take_length]
      simp only [docD]
      walk_at "w"
      refine ⟨f, rfl, ?_⟩
      walk_at "w"
      refine sp_filled_form_of hd ?_
      walk_at "w"
      rw [Fm.fill_congr (fun x => mem_sortU) (fun x _ => rfl)]
      exact q
def okS_filled_Title_ninesigns_x1_a_b := (okB_filled (P := P) (w := w) (base := base) T).star (bns_kw (ps := ["the_doc"]) (ks := ["Title", "ninesigns", "x1", "a_b"]) T.F_filled (by decide +kernel) (by decide) fun kV doc pm an cdv ct us ws h1 h2 => match us, ws, h1, h2 with | [_], [_, _, _, _], _, _ => (by kernel_rfl))
def okS_filled_alpha_beta_gamma := (okB_filled (P := P) (w := w) (base := base) T).star (bns_kw (ps := ["the_doc"]) (ks := ["alpha", "beta", "gamma"]) T.F_filled (by decide +kernel) (by decide) fun kV doc pm an cdv ct us ws h1 h2 => match us, ws, h1, h2 with | [_], [_, _, _], _, _ => (by kernel_rfl))
def okS_filled_alpha := (okB_filled (P := P) (w := w) (base := base) T).star (bns_kw (ps := ["the_doc"]) (ks := ["alpha"]) T.F_filled (by decide +kernel) (by decide) fun kV doc pm an cdv ct us ws h1 h2 => match us, ws, h1, h2 with | [_], [_], _, _ => (by kernel_rfl))
def okS_filled_beta_Alpha := (okB_filled (P := P) (w := w) (base := base) T).star (bns_kw (ps := ["the_doc"]) (ks := ["beta", "Alpha"]) T.F_filled (by decide +kernel) (by decide) fun kV doc pm an cdv ct us ws h1 h2 => match us, ws, h1, h2 with | [_], [_, _], _, _ => (by kernel_rfl))
def okS_filled_doc := (okB_filled (P := P) (w := w) (base := base) T).star (bns_kw (ps := ["the_doc"]) (ks := ["doc"]) T.F_filled (by decide +kernel) (by decide) fun kV doc pm an cdv ct us ws h1 h2 => match us, ws, h1, h2 with | [_], [_], _, _ => (by kernel_rfl))
def okS_filled_gamma_beta := (okB_filled (P := P) (w := w) (base := base) T).star (bns_kw (ps := ["the_doc"]) (ks := ["gamma", "beta"]) T.F_filled (by decide +kernel) (by decide) fun kV doc pm an cdv ct us ws h1 h2 => match us, ws, h1, h2 with | [_], [_, _], _, _ => (by kernel_rfl))
def okS_filled_the_doc_other_alpha := (okB_filled (P := P) (w := w) (base := base) T).star (bns_kwAll (ps := ["the_doc"]) (ks := ["other", "alpha"]) T.F_filled (by decide +kernel) (by decide) fun kV doc pm an cdv ct us ws h1 h2 => match us, ws, h1, h2 with | [_], [_, _], _, _ => (by kernel_rfl))
def okS_filled_x := (okB_filled (P := P) (w := w) (base := base) T).star (bns_kw (ps := ["the_doc"]) (ks := ["x"]) T.F_filled (by decide +kernel) (by decide) fun kV doc pm an cdv ct us ws h1 h2 => match us, ws, h1, h2 with | [_], [_], _, _ => (by kernel_rfl))
def okS_filled := (okB_filled (P := P) (w := w) (base := base) T).star (bns_kw (ps := ["the_doc"]) (ks := []) T.F_filled (by decide +kernel) (by decide) fun kV doc pm an cdv ct us ws h1 h2 => match us, ws, h1, h2 with | [_], [], _, _ => (by kernel_rfl))
def sp__law_at : SpD := fun ds c Q _ => ∃ (ns : List Int) (k : Nat), ds = [.scr ns, .int k] ∧ ∀ i, Q (.int i) c
theorem ok__law_at : FnOk P w K mg base (L2.CX P w) 1 a.f__law_at a.d__law_at ["_law_script", "_law_k"] (spOf K sp__law_at) := by
  refine okD T.F__law_at sc__law_at (fun ds c Q E h => ?_) (fun cdv A outer s H E G0 c0 ED good => ⟨_, _, (pds_cons (pds_if (pdt_cm (pdc_lt (pd_v 1) (pd_callB cr_len br_lenA T.z_len bt_len (pda_cons (pd_v 0) pda_nil)))) (pds_one (pds_ret (pd_at (pd_v 0) (pd_v 1)))) pss_nil')
      (pds_one (pds_ret pd_int))), ?_⟩)
  · obtain ⟨ns, k, rfl, _⟩ := h; rfl
  · rintro ds Qd ⟨ns, k, rfl, q⟩
    walk_at "w"
    refine Br.by (fun e => ?_) fun e => q 0
    simp only [decide_eq_true_eq] at e
    obtain ⟨v, hv, hm⟩ := atI_lt (xs := ns) (i := (k : Int)) (by omega) e
    exact ⟨v, hv, q v⟩
def sp__law_mixed : SpD := fun ds c Q _ => ∃ y z : Int, ds = [.int y, .int z] ∧ 0 ≤ y ∧ y < 2 ^ 31 ∧ 0 ≤ z ∧ z < 2 ^ 62 ∧ ∀ i, Q (.int i) c
theorem ok__law_mixed : FnOk P w K mg base (L2.CX P w) 1 a.f__law_mixed a.d__law_mixed ["_law_cell", "_law_k"] (spOf K sp__law_mixed) := by
  refine okD T.F__law_mixed sc__law_mixed (fun ds c Q E h => ?_) (fun cdv A outer s H E G0 c0 ED good => ⟨_, _, (pds_cons (pds_set 2 sc__law_mixed.nd (pd_mod (pd_callTy call_int1 br_intA T.z_int bt_int (pda_cons (pd_sum2 (pd_sum2 (pd_sum2 (pd_times (pd_v 0) pd_int) (pd_times (pd_times pd_int (pd_v 1)) (pd_v 1))) (pd_v 1)) pd_int) pda_nil)) pd_int))
      (pds_cons (pds_set 2 sc__law_mixed.nd (pd_mod (pd_callTy call_int1 br_intA T.z_int bt_int (pda_cons (pd_sum2 (pd_times (pd_v 2) (pd_v 2)) pd_int) pda_nil)) pd_int))
      (pds_one (pds_ret (pd_mod (pd_callTy call_int1 br_intA T.z_int bt_int (pda_cons (pd_times (pd_v 2) pd_int) pda_nil)) pd_int))))), ?_⟩)
  · obtain ⟨y, z, rfl, _⟩ := h; rfl
  · rintro ds Qd ⟨y, z, rfl, h1, h2, h3, h4, q⟩
    walk_at "w"
    have big : ∀ {m : Int} (x : Int), 0 < m → m < 2 ^ 64 → CMul (x % m) (x % m) := fun {m} x h0 h1 => .inl ⟨by have := Int.emod_nonneg x (Int.ne_of_gt h0); omega, by have := Int.emod_lt_of_pos x h0; omega⟩
    exact ⟨.inr (by decide), .inl (by decide), .inr ⟨by omega, by omega⟩, by decide, big _ (by decide) (by decide), by decide, .inr (by decide), by decide, q _⟩
def sp__law_purse : SpD := fun ds c Q _ => ∃ (ns : List Int) (k : Nat), ds = [.scr ns, .int k] ∧ k ≤ 1000 ∧ Q .opq c
theorem ok__law_purse : FnOk P w K mg base (L2.CX P w) 3 a.f__law_purse a.d__law_purse ["_law_script", "_law_at_here"] (spOf K sp__law_purse) := by
  refine okD T.F__law_purse sc__law_purse (fun ds c Q E h => ?_) (fun cdv A outer s H E G0 c0 ED good => ⟨_, _, (pds_cons (pds_set 2 sc__law_purse.nd (pd_callC good ((ok__law_at T).mono (by omega)) (c__law_at_2 T) (fun _ => .nil) (pda_cons (pd_v 0) (pda_cons (pd_v 1) pda_nil))))
      (pds_one (pds_ret (pd_purse (pda_cons (pd_mod (pd_callTy call_int1 br_intA T.z_int bt_int (pda_cons (pd_callB (call_max2 good.calm) br_max2 T.z_max bt_max (pda_cons (pd_sub (pd_v 2) (pd_pow pd_int pd_int)) (pda_cons pd_int pda_nil))) pda_nil)) (pd_pow (pd_pow pd_int pd_int) pd_int)) (pda_cons (pd_mod (pd_callTy call_int1 br_intA T.z_int bt_int (pda_cons (pd_v 2) pda_nil)) pd_int) (pda_cons (pd_times pd_int (pd_v 1)) pda_nil))))))), ?_⟩)
  · obtain ⟨ns, k, rfl, _⟩ := h; rfl
  · rintro ds Qd ⟨ns, k, rfl, hk, q⟩
    walk_at "w"
    refine ⟨ns, k, rfl, fun i => ?_⟩
    walk_at "w"
    refine ⟨⟨by decide, by decide +kernel⟩, ⟨by decide, by decide +kernel⟩, ⟨by decide, by decide +kernel⟩, by decide +kernel, by decide, .inl (by decide), _, _, _, rfl, Int.emod_nonneg _ (by decide), Int.lt_of_lt_of_le (Int.emod_lt_of_pos _ (by decide)) (by decide), by omega, by omega, q⟩

def sp__law_draw : SpD := fun ds c Q _ => ∃ n : Int, ds = [.opq, .int n] ∧ 0 < n ∧ n < 536870912 ∧ c + 1 ≤ LIM ∧ ∀ i c', 0 ≤ i → i < n → c ≤ c' → c' ≤ c + 1 → Q (.int i) c'
theorem ok__law_draw : FnOk P w K mg base (L2.CX P w) 3 a.f__law_draw a.d__law_draw ["_law_purse_here", "_law_out_of"] (spOf K sp__law_draw) := by
  refine okD T.F__law_draw sc__law_draw (fun ds c Q E h => ?_) (fun cdv A outer s H E G0 c0 ED good => ⟨_, _, (pds_cons (pds_if (pdt_cm (pdc_gt (pd_purseIx 0 0 rfl (by decide)) pd_int)) (pds_cons (pds_set 2 sc__law_draw.nd (pd_mod (pd_callTy call_int1 br_intA T.z_int bt_int (pda_cons (pd_purseIx 0 0 rfl (by decide)) pda_nil)) (pd_v 1)))
      (pds_cons (pds_purseSet 0 0 rfl (pd_fdiv (pd_purseIx 0 0 rfl (by decide)) (pd_v 1)))
      (pds_one (pds_ret (pd_v 2))))) pss_nil')
      (pds_cons (pds_purseSet 0 2 rfl (pd_sum2 (pd_purseIx 0 2 rfl (by decide)) pd_int))
      (pds_one (pds_ret (pd_mod (pd_callTy call_int1 br_intA T.z_int bt_int (pda_cons (pd_callC good ((ok__law_mixed T).mono (by omega)) (c__law_mixed_2 T) (fun _ => .nil) (pda_cons (pd_purseIx 0 1 rfl (by decide)) (pda_cons (pd_purseIx 0 2 rfl (by decide)) pda_nil))) pda_nil)) (pd_v 1)))))), ?_⟩)
  · obtain ⟨n, rfl, _⟩ := h; rfl
  · rintro ds Qd ⟨n, rfl, h1, h2, h3, q⟩
    walk_at "w"
    intro x _ _
    refine Br.by (fun _ => fun x _ _ => ⟨h1, fun y _ _ => ⟨⟨h1, by omega⟩, _, rfl, .inl (q _ _ (Int.emod_nonneg _ (Int.ne_of_gt h1)) (Int.emod_lt_of_pos _ h1) (Nat.le_refl _) (Nat.le_succ _))⟩⟩) fun _ => ?_
    intro z _ hz
    obtain ⟨z0, z1⟩ := hz trivial
    refine ⟨z + 1, rfl, .inr ⟨by omega, by omega, fun y hy _ => fun v _ hv => ?_⟩⟩
    obtain ⟨y0, y1⟩ := hy trivial
    obtain ⟨v0, v1⟩ := hv trivial
    have hc : c0 + 1 ≤ 2 ^ 60 := h3
    refine ⟨y, v, rfl, y0, y1, v0, by omega, fun i => ?_⟩
    walk_at "w"
    exact ⟨h1, q _ _ (Int.emod_nonneg _ (Int.ne_of_gt h1)) (Int.emod_lt_of_pos _ h1) (Nat.le_succ _) (Nat.le_refl _)⟩

def sp__law_inner : SpD := fun ds c Q _ => ∃ f : Fm, ds = [f.enc] ∧ Q (.lst (f.inner.map Fm.enc)) c
theorem ok__law_inner : FnOk P w K mg base (L2.CX P w) 1 a.f__law_inner a.d__law_inner ["_law_form_here"] (spOf K sp__law_inner) := by
  refine okD T.F__law_inner sc__law_inner (fun ds c Q E h => ?_) (fun cdv A outer s H E G0 c0 ED good => ⟨_, _, (pds_cons (pds_if (pdt_cm (pdc_in good (pd_at (pd_v 0) pd_int) (pd_tup (pda_cons pd_str (pda_cons pd_str pda_nil))))) (pds_one (pds_ret (pd_lst (pda_cons (pd_at (pd_v 0) pd_int) (pda_cons (pd_at (pd_v 0) pd_int) pda_nil))))) pss_nil')
      (pds_cons (pds_if (pdt_cm (pdc_eqD good (pd_at (pd_v 0) pd_int) pd_str)) (pds_one (pds_ret (pd_lst (pda_cons (pd_at (pd_v 0) pd_int) pda_nil)))) pss_nil')
      (pds_cons (pds_if (pdt_cm (pdc_in good (pd_at (pd_v 0) pd_int) (pd_tup (pda_cons pd_str (pda_cons pd_str pda_nil))))) (pds_one (pds_ret (pd_lst (pda_cons (pd_at (pd_v 0) pd_int) pda_nil)))) pss_nil')
      (pds_one (pds_ret (pd_lst pda_nil)))))), ?_⟩)
  · obtain ⟨f, rfl, _⟩ := h; rfl
  · rintro ds Qd ⟨f, rfl, q⟩
    cases f with
    | brk o => cases o <;> simp only [Fm.enc] <;> walk_at "f" <;> exact q
    | _ => simp only [Fm.enc] <;> walk_at "f" <;> exact q
def wD (f : Fm) : D := .tup [.int f.bo, .int f.fl]
omit T in
theorem pl_wD (f : Fm) : Pl 2 (wD f) := pl_cons pl_int (pl_cons pl_int pl_nil)
omit T in
theorem pl_wL {l : List Fm} : Pl 60 (.lst (l.map wD)) := pl_lst fun d hd => by
  obtain ⟨f, _, rfl⟩ := List.mem_map.mp hd
  exact (pl_wD f).mono (by decide)
def sp__law_ways : Nat → SpD
  | 0 => fun _ _ _ _ => False
  | n + 1 => fun ds c Q _ => ∃ f : Fm, ds = [f.enc] ∧ f.dep ≤ n + 1 ∧ f.small ∧ Q (wD f) c
omit T in
theorem no__law_ways (ds : List D) (c : Nat) (Q : QD) (E : EDt) : sp__law_ways 0 ds c Q E → False := id
omit T in
theorem sp__law_ways_of {n : Nat} {f : Fm} {c : Nat} {Q : QD} {E : EDt} (h : f.dep ≤ n) (hp : f.small) (q : Q (wD f) c) : sp__law_ways n [f.enc] c Q E := by
  cases n with
  | zero => have := f.dep_pos; omega
  | succ n => exact ⟨f, rfl, h, hp, q⟩
theorem ok__law_ways : ∀ n : Nat, FnOk P w K mg base (L2.CX P w) (3 + n) a.f__law_ways a.d__law_ways ["_law_form_here"] (spOf K (sp__law_ways n)) := by
  intro n
  induction n with
  | zero => exact FnOk.no T.F__law_ways sc__law_ways (spOf_no no__law_ways)
  | succ n ih =>
  refine okD (k := 3 + n) T.F__law_ways sc__law_ways (fun ds c Q E h => ?_) (fun cdv A outer s H E G0 c0 ED good => ⟨_, _, (pds_cons (pds_if (pdt_cm (pdc_eqD good (pd_at (pd_v 0) pd_int) pd_str)) (pds_one (pds_ret (pd_tup (pda_cons pd_int (pda_cons (pd_callTy call_int1 br_intA T.z_int bt_int (pda_cons (pd_cm (pdc_notN (pd_at (pd_v 0) pd_int))) pda_nil)) pda_nil))))) pss_nil')
      (pds_cons (pds_setLc (own := [("_law_part", 2)]) 1 good.calm sc__law_ways.nd (pdi_any (pd_callC good ((ok__law_inner T).mono (by omega)) (c__law_inner_1 T) (fun _ => .nil) (pda_cons (pd_v 0) pda_nil))) (blkOk_by (N := ["_law_form_here", "_law_inner_here", "_law_part"]) (sc := (defScope s__law_ways)) (by decide +kernel)) ⟨fun s1 H1 C1 cl1 fp1 => (pdg_cast (pdg_name 2 sc__law_ways.nd) (by first | rfl | (dsimp only [Ctx.blk, Cx.blk] <;> rfl)) (by first | rfl | (dsimp only [Ctx.blk, Cx.blk] <;> rfl))), fun s1 H1 C1 cl1 fp1 => (pdts_cast pdts_nil (by first | rfl | (dsimp only [Ctx.blk, Cx.blk] <;> rfl)) (by first | rfl | (dsimp only [Ctx.blk, Cx.blk] <;> rfl))), fun s1 H1 C1 cl1 fp1 => (pd_cast (pd_callC (good.blk s1 H1 _ _ fp1) ih (c__law_ways_1 T) (fun _ => .nil) (pda_cons (pd_v 2) pda_nil)) (by first | rfl | (dsimp only [Ctx.blk, Cx.blk] <;> rfl)) (by first | rfl | (dsimp only [Ctx.blk, Cx.blk] <;> rfl)))⟩ (sw_true rfl rfl rfl (by decide +kernel)))
      (pds_cons (pds_if (pdt_cm (pdc_eqD good (pd_v 1) (pd_lst pda_nil))) (pds_one (pds_ret (pd_tup (pda_cons pd_int (pda_cons pd_int pda_nil))))) pss_nil')
      (pds_cons (pds_if (pdt_cm (pdc_eqD good (pd_at (pd_v 0) pd_int) pd_str)) (pds_one (pds_ret (pd_tup (pda_cons (pd_times (pd_at (pd_at (pd_v 1) pd_int) pd_int) (pd_at (pd_at (pd_v 1) pd_int) pd_int)) (pda_cons (pd_times (pd_at (pd_at (pd_v 1) pd_int) pd_int) (pd_at (pd_at (pd_v 1) pd_int) pd_int)) pda_nil))))) pss_nil')
      (pds_cons (pds_if (pdt_cm (pdc_eqD good (pd_at (pd_v 0) pd_int) pd_str)) (pds_one (pds_ret (pd_tup (pda_cons (pd_sum2 (pd_at (pd_at (pd_v 1) pd_int) pd_int) (pd_at (pd_at (pd_v 1) pd_int) pd_int)) (pda_cons (pd_sum2 (pd_at (pd_at (pd_v 1) pd_int) pd_int) (pd_at (pd_at (pd_v 1) pd_int) pd_int)) pda_nil))))) pss_nil')
      (pds_cons (pds_if (pdt_cm (pdc_eqD good (pd_at (pd_v 0) pd_int) pd_str)) (pds_one (pds_ret (pd_tup (pda_cons (pd_sum2 (pd_at (pd_at (pd_v 1) pd_int) pd_int) (pd_at (pd_at (pd_v 1) pd_int) pd_int)) (pda_cons (pd_at (pd_at (pd_v 1) pd_int) pd_int) pda_nil))))) pss_nil')
      (pds_one (pds_ret (pd_at (pd_lst (pda_cons (pd_at (pd_v 1) pd_int) (pda_cons (pd_tup (pda_cons (pd_at (pd_at (pd_v 1) pd_int) pd_int) (pda_cons (pd_at (pd_at (pd_v 1) pd_int) pd_int) pda_nil))) pda_nil))) (pd_callTy call_int1 br_intA T.z_int bt_int (pda_cons (pd_cm (pdc_eqD good (pd_at (pd_v 0) pd_int) pd_str)) pda_nil))))))))))), ?_⟩)
  · obtain ⟨f, rfl, _⟩ := h; rfl
  · rintro ds Qd ⟨f, rfl, hn, hp, q⟩
    have low : ∀ g ∈ f.inner, g.dep ≤ n ∧ g.small := fun g hg => ⟨by have := Fm.dep_lt hg; omega, hp.in hg⟩
    have gath : ∀ (ρ : DEnv) (Q : QD), Q (.lst (f.inner.map wD)) c0 → LcB (kName 2) dtYes (dCall (fun _ _ _ _ _ => False) (sp__law_ways n) [] (dCons (dVar 2) dNil)) [2] ([.fz f.enc, .no, .no]) (f.inner.map Fm.enc) c0 Q := fun ρ Q hq => by
      refine lc_inv (fun k acc => acc = (f.inner.take k).map wD) (by rw [List.length_map]; have := f.inner_len; omega) rfl ?_ fun acc hacc => ?_
      · rintro k x acc hx rfl _ R hR
        rw [List.getElem?_map] at hx
        cases hk : f.inner[k]? with
        | none => rw [hk] at hx; cases hx
        | some g =>
          rw [hk] at hx
          cases hx
          walk_at "w"
          obtain ⟨h1, h2⟩ := low g (List.mem_of_getElem? hk)
          exact sp__law_ways_of h1 h2 (hR _ (by rw [take_snoc hk, List.map_append]; rfl))
      · rw [hacc, List.length_map, List.take_length]; exact hq
    cases f with
    | brk o => cases o <;> simp only [Fm.enc] <;> walk_at "f" <;> exact q
    | text x => simp only [Fm.enc]; walk_at "f"; refine ⟨.text x, rfl, ?_⟩; walk_at "f"; exact gath [] _ ⟨pl_wL, pl_lst pl_nil, by simp only [Fm.inner, List.map_nil, eqD, eqDs, ev_brT]; exact q⟩
    | hole x => simp only [Fm.enc]; walk_at "f"; refine ⟨.hole x, rfl, ?_⟩; walk_at "f"; exact gath [] _ ⟨pl_wL, pl_lst pl_nil, by simp only [Fm.inner, List.map_nil, eqD, eqDs, ev_brT]; exact q⟩
    | join g1 g2 =>
      simp only [Fm.enc]; walk_at "f"; refine ⟨.join g1 g2, rfl, ?_⟩; walk_at "f"
      refine gath [] _ ?_
      simp only [Fm.inner, List.map, wD]; walk_at "f"
      refine ⟨pl_wL (l := [g1, g2]), pl_lst pl_nil, ?_⟩
      exact ⟨hp.cmB, hp.cmF, q⟩
    | choice g1 g2 =>
      simp only [Fm.enc]; walk_at "f"; refine ⟨.choice g1 g2, rfl, ?_⟩; walk_at "f"
      refine gath [] _ ?_
      simp only [Fm.inner, List.map, wD]; walk_at "f"
      exact ⟨pl_wL (l := [g1, g2]), pl_lst pl_nil, q⟩
    | group g1 =>
      simp only [Fm.enc]; walk_at "f"; refine ⟨.group g1, rfl, ?_⟩; walk_at "f"
      refine gath [] _ ?_
      simp only [Fm.inner, List.map, wD]; walk_at "f"
      exact ⟨pl_wL (l := [g1]), pl_lst pl_nil, q⟩
    | nested i g1 =>
      simp only [Fm.enc]; walk_at "f"; refine ⟨.nested i g1, rfl, ?_⟩; walk_at "f"
      refine gath [] _ ?_
      simp only [Fm.inner, List.map, wD]; walk_at "f"
      refine ⟨pl_wL (l := [g1]), pl_lst pl_nil, ?_⟩
      exact atP.mk (d := wD g1) (atI_0 _ _) q
    | flat g1 =>
      simp only [Fm.enc]; walk_at "f"; refine ⟨.flat g1, rfl, ?_⟩; walk_at "f"
      refine gath [] _ ?_
      simp only [Fm.inner, List.map, wD]; walk_at "f"
      refine ⟨pl_wL (l := [g1]), pl_lst pl_nil, ?_⟩
      exact atP.mk (d := .tup [.int g1.fl, .int g1.fl]) (atI_1 _ _ _) q
def namesD (ns : List Str) : D := .lst (ns.map D.str)
def namesOk (ns : List Str) : Prop := ns.length ≤ 1000 ∧ ∀ x, x ∈ ns → strS x ∧ nameB x = true
def sp__law_leaf : SpD := fun ds c Q _ => ∃ ns : List Str, ds = [.opq, namesD ns] ∧ namesOk ns ∧ c + 3 ≤ LIM ∧ ∀ f : Fm, f.ok → f.parts = 1 → (∀ x, x ∈ f.holes → x ∈ ns) → ∀ c', c ≤ c' → c' ≤ c + 3 → Q f.enc c'
theorem ok__law_leaf : FnOk P w K mg base (L2.CX P w) 5 a.f__law_leaf a.d__law_leaf ["_law_purse_here", "_law_names"] (spOf K sp__law_leaf) := by
  refine okD T.F__law_leaf sc__law_leaf (fun ds c Q E h => ?_) (fun cdv A outer s H E G0 c0 ED good => ⟨_, _, (pds_cons (pds_set 2 sc__law_leaf.nd (pd_callC good ((ok__law_draw T).mono (by omega)) (c__law_draw_2 T) (fun _ => .nil) (pda_cons (pd_v 0) (pda_cons pd_int pda_nil))))
      (pds_cons (pds_if (pdt_cm (pdc_gt (pd_v 2) pd_int)) (pds_one (pds_ret (pd_tup (pda_cons pd_str (pda_cons (pd_at (pd_lst (pda_cons pd_str (pda_cons pd_str (pda_cons pd_str (pda_cons pd_str (pda_cons pd_str (pda_cons pd_str (pda_cons pd_str pda_nil)))))))) (pd_callC good ((ok__law_draw T).mono (by omega)) (c__law_draw_2 T) (fun _ => .nil) (pda_cons (pd_v 0) (pda_cons pd_int pda_nil)))) pda_nil))))) pss_nil')
      (pds_cons (pds_if (pdw_pt (pdw_and (pdt_cm (pdc_eqD good (pd_v 2) pd_int)) (pdw_and1 (pdt_cm (pdc_neD good (pd_v 1) (pd_lst pda_nil)))))) (pds_one (pds_ret (pd_tup (pda_cons pd_str (pda_cons (pd_at (pd_v 1) (pd_callC good ((ok__law_draw T).mono (by omega)) (c__law_draw_2 T) (fun _ => .nil) (pda_cons (pd_v 0) (pda_cons (pd_callB cr_len br_lenA T.z_len bt_len (pda_cons (pd_v 1) pda_nil)) pda_nil)))) pda_nil))))) pss_nil')
      (pds_one (pds_ret (pd_tup (pda_cons pd_str (pda_cons (pd_at (pd_lst (pda_cons pd_str (pda_cons pd_str (pda_cons pd_str (pda_cons pd_non (pda_cons pd_str pda_nil)))))) (pd_callC good ((ok__law_draw T).mono (by omega)) (c__law_draw_2 T) (fun _ => .nil) (pda_cons (pd_v 0) (pda_cons pd_int pda_nil)))) pda_nil)))))))), ?_⟩)
  · obtain ⟨ns, rfl, _⟩ := h; rfl
  · rintro ds Qd ⟨ns, rfl, hn, hc, q⟩
    walk_at "w"
    refine ⟨5, rfl, by decide, by decide, by omega, fun i c1 l1 l2 l3 l4 => ?_⟩
    walk_at "w"
    have bk : ∀ (j : Int) (c2 : Nat), 0 ≤ j → j < 5 → c0 ≤ c2 → c2 ≤ c0 + 3 → aItem (D.lst [D.str " ", D.str "", D.str ", ", D.non, D.str "a"]) (D.int j) c2 fun x c1 => Qd (D.tup [D.str "break", x]) c1 := fun j c2 j0 j1 k1 k2 => by
      walk_at "w"
      refine pick (P := fun x => ∃ o : Option Str, x = brkD o ∧ ∀ y, o = some y → strS y) _ (fun v hv => ?_) j0 j1 fun v hv => ?_
      · simp only [List.mem_cons, List.not_mem_nil, or_false] at hv
        rcases hv with rfl | rfl | rfl | rfl | rfl
        · exact ⟨some " ", rfl, fun y e => by cases e; exact strSB_ok (by decide +kernel)⟩
        · exact ⟨some "", rfl, fun y e => by cases e; exact strSB_ok (by decide +kernel)⟩
        · exact ⟨some ", ", rfl, fun y e => by cases e; exact strSB_ok (by decide +kernel)⟩
        · exact ⟨none, rfl, fun y e => by cases e⟩
        · exact ⟨some "a", rfl, fun y e => by cases e; exact strSB_ok (by decide +kernel)⟩
      · obtain ⟨o, rfl, ho⟩ := hv
        cases o with
        | none => exact q (.brk none) trivial rfl (fun x hx => nomatch hx) c2 k1 k2
        | some y => exact q (.brk (some y)) (ho y rfl) rfl (fun x hx => nomatch hx) c2 k1 k2
    refine Br.by (fun e1 => ?_) fun e1 => Br.by (fun e2 => ?_) fun e2 => ?_
    · refine ⟨7, rfl, by decide, by decide, by omega, fun j c2 j0 j1 k1 k2 => ?_⟩
      walk_at "w"
      refine pick (P := fun x => ∃ y : Str, x = .str y ∧ strS y) _ (fun v hv => ?_) j0 j1 fun v hv => ?_
      · simp only [List.mem_cons, List.not_mem_nil, or_false] at hv
        rcases hv with rfl | rfl | rfl | rfl | rfl | rfl | rfl <;> exact ⟨_, rfl, strSB_ok (by decide +kernel)⟩
      · obtain ⟨y, rfl, hy⟩ := hv
        exact q (.text y) hy rfl (fun x hx => nomatch hx) c2 (by omega) (by omega)
    · have pn : Pl 60 (namesD ns) := pl_lst fun d hd => by
        obtain ⟨x, hx, rfl⟩ := List.mem_map.mp hd
        have := (hn.2 x hx).1
        exact pl_str (by simp [this.1, this.2.2])
      refine ⟨pn, pl_lst pl_nil, Br.by (fun e3 => ?_) fun e3 => ?_⟩
      · have n1 : 1 ≤ ns.length := by
          cases ns with
          | nil => simp [namesD, eqD, eqDs] at e3
          | cons n0 ns => simp
        have nl := hn.1
        simp only [namesD]
        walk_at "w"
        rw [List.length_map]
        refine ⟨_, rfl, by omega, by omega, by omega, fun j c2 j0 j1 k1 k2 => ?_⟩
        walk_at "w"
        refine pick (P := fun x => ∃ y : Str, x = .str y ∧ strS y ∧ nameB y = true ∧ y ∈ ns) _ (fun v hv => ?_) j0 (by rw [List.length_map]; exact j1) fun v hv => ?_
        · obtain ⟨x, hx, rfl⟩ := List.mem_map.mp hv
          exact ⟨x, rfl, (hn.2 x hx).1, (hn.2 x hx).2, hx⟩
        · obtain ⟨y, rfl, hy, hy2, hy3⟩ := hv
          exact q (.hole y) ⟨hy, hy2⟩ rfl (fun x hx => by rw [List.mem_singleton.mp hx]; exact hy3) c2 (by omega) (by omega)
      · exact ⟨5, rfl, by decide, by decide, by omega, fun j c2 j0 j1 k1 k2 => bk j c2 j0 j1 (by omega) (by omega)⟩
    · exact ⟨5, rfl, by decide, by decide, by omega, fun j c2 j0 j1 k1 k2 => bk j c2 j0 j1 (by omega) (by omega)⟩
def sp__law_form : Nat → SpD
  | 0 => fun _ _ _ _ => False
  | n + 1 => fun ds c Q _ => ∃ (k : Nat) (ns : List Str), ds = [.opq, .int k, namesD ns] ∧ 1 ≤ k ∧ k ≤ n + 1 ∧ k ≤ 100 ∧ namesOk ns ∧ c + 5 * k ≤ LIM ∧ ∀ f : Fm, f.ok → f.parts + 1 ≤ 2 * k → f.nl + 1 ≤ k → (∀ x, x ∈ f.holes → x ∈ ns) → ∀ c', c ≤ c' → c' + 2 ≤ c + 5 * k → Q f.enc c'
omit T in
theorem no__law_form (ds : List D) (c : Nat) (Q : QD) (E : EDt) : sp__law_form 0 ds c Q E → False := id
omit T in
theorem sp__law_form_of {n k : Nat} {ns : List Str} {c : Nat} {Q : QD} {E : EDt} (h1 : 1 ≤ k) (h2 : k ≤ n) (h3 : k ≤ 100) (hn : namesOk ns) (hc : c + 5 * k ≤ LIM) (q : ∀ f : Fm, f.ok → f.parts + 1 ≤ 2 * k → f.nl + 1 ≤ k → (∀ x, x ∈ f.holes → x ∈ ns) → ∀ c', c ≤ c' → c' + 2 ≤ c + 5 * k → Q f.enc c') : sp__law_form n [.opq, .int k, namesD ns] c Q E := by
  cases n with
  | zero => omega
  | succ n => exact ⟨k, ns, rfl, h1, h2, h3, hn, hc, q⟩
theorem ok__law_form : ∀ n : Nat, FnOk P w K mg base (L2.CX P w) (7 + n) a.f__law_form a.d__law_form ["_law_purse_here", "_law_size", "_law_names"] (spOf K (sp__law_form n)) := by
  intro n
  induction n with
  | zero => exact FnOk.no T.F__law_form sc__law_form (spOf_no no__law_form)
  | succ n ih =>
  refine okD (k := 7 + n) T.F__law_form sc__law_form (fun ds c Q E h => ?_) (fun cdv A outer s H E G0 c0 ED good => ⟨_, _, (pds_cons (pds_if (pdt_cm (pdc_lt (pd_v 1) pd_int)) (pds_one (pds_ret (pd_callC good ((ok__law_leaf T).mono (by omega)) (c__law_leaf_2 T) (fun _ => .nil) (pda_cons (pd_v 0) (pda_cons (pd_v 2) pda_nil))))) pss_nil')
      (pds_cons (pds_set 3 sc__law_form.nd (pd_callC good ((ok__law_draw T).mono (by omega)) (c__law_draw_2 T) (fun _ => .nil) (pda_cons (pd_v 0) (pda_cons pd_int pda_nil))))
      (pds_cons (pds_if (pdt_cm (pdc_lt (pd_v 3) pd_int)) (pds_cons (pds_set 5 sc__law_form.nd (pd_sum2 pd_int (pd_callC good ((ok__law_draw T).mono (by omega)) (c__law_draw_2 T) (fun _ => .nil) (pda_cons (pd_v 0) (pda_cons (pd_sub (pd_v 1) pd_int) pda_nil)))))
      (pds_cons (pds_par 6 7 good sc__law_form.nd (pda_cons (pd_callC good ih (c__law_form_3 T) (fun _ => .nil) (pda_cons (pd_v 0) (pda_cons (pd_v 5) (pda_cons (pd_v 2) pda_nil)))) (pda_cons (pd_callC good ih (c__law_form_3 T) (fun _ => .nil) (pda_cons (pd_v 0) (pda_cons (pd_sub (pd_v 1) (pd_v 5)) (pda_cons (pd_v 2) pda_nil)))) pda_nil)))
      (pds_one (pds_ret (pd_tup (pda_cons (pd_at (pd_lst (pda_cons pd_str (pda_cons pd_str (pda_cons pd_str (pda_cons pd_str (pda_cons pd_str pda_nil)))))) (pd_v 3)) (pda_cons (pd_v 6) (pda_cons (pd_v 7) pda_nil)))))))) pss_nil')
      (pds_cons (pds_set 4 sc__law_form.nd (pd_callC good ih (c__law_form_3 T) (fun _ => .nil) (pda_cons (pd_v 0) (pda_cons (pd_sub (pd_v 1) pd_int) (pda_cons (pd_v 2) pda_nil)))))
      (pds_cons (pds_if (pdt_cm (pdc_eqD good (pd_v 3) pd_int)) (pds_one (pds_ret (pd_tup (pda_cons pd_str (pda_cons (pd_at (pd_lst (pda_cons pd_int (pda_cons pd_int (pda_cons pd_int (pda_cons pd_int (pda_cons pd_int pda_nil)))))) (pd_callC good ((ok__law_draw T).mono (by omega)) (c__law_draw_2 T) (fun _ => .nil) (pda_cons (pd_v 0) (pda_cons pd_int pda_nil)))) (pda_cons (pd_v 4) pda_nil)))))) pss_nil')
      (pds_one (pds_ret (pd_tup (pda_cons (pd_at (pd_lst (pda_cons pd_str (pda_cons pd_str pda_nil))) (pd_callTy call_int1 br_intA T.z_int bt_int (pda_cons (pd_and (pd_cm (pdc_eqD good (pd_v 3) pd_int)) (pd_one (pd_cm (pdc_eqD good (pd_callC good ((ok__law_draw T).mono (by omega)) (c__law_draw_2 T) (fun _ => .nil) (pda_cons (pd_v 0) (pda_cons pd_int pda_nil))) pd_int)))) pda_nil))) (pda_cons (pd_v 4) pda_nil)))))))))), ?_⟩)
  · obtain ⟨k, ns, rfl, _⟩ := h; rfl
  · rintro ds Qd ⟨k, ns, rfl, h1, h2, h3, hn, hc, q⟩
    walk_at "w"
    refine Br.by (fun e1 => ?_) fun e1 => ?_
    · simp only [decide_eq_true_eq] at e1
      exact ⟨ns, rfl, hn, by omega, fun f ok hp hh c' l1 l2 => q f ok (by omega) (by have := f.nl_leaf hp; omega) hh c' l1 (by omega)⟩
    · simp only [decide_eq_false_iff_not] at e1
      refine ⟨8, rfl, by decide, by decide, by omega, fun i c1 i0 i1 l1 l2 => ?_⟩
      walk_at "w"
      refine Br.by (fun e2 => ?_) fun e2 => ?_
      · simp only [decide_eq_true_eq] at e2
        refine ⟨(k : Int) - 1, rfl, by omega, by omega, by omega, fun j c2 j0 j1 l3 l4 => ?_⟩
        obtain ⟨m, rfl⟩ : ∃ m : Nat, j = (m : Int) := ⟨j.toNat, by omega⟩
        walk_at "w"
        rw [show (1 : Int) + (m : Int) = ((1 + m : Nat) : Int) by omega]
        refine sp__law_form_of (by omega) (by omega) (by omega) hn (by omega) fun f1 ok1 p1 n1 hh1 c3 l5 l6 => ?_
        walk_at "w"
        rw [show (k : Int) - (1 + (m : Int)) = ((k - (1 + m) : Nat) : Int) by omega]
        refine sp__law_form_of (by omega) (by omega) (by omega) hn (by omega) fun f2 ok2 p2 n2 hh2 c4 l7 l8 => ?_
        walk_at "w"
        refine pick (P := fun x => x = .str "join" ∨ x = .str "choice") _ (fun v hv => ?_) i0 e2 fun v hv => ?_
        · simp only [List.mem_cons, List.not_mem_nil, or_false] at hv
          rcases hv with rfl | rfl | rfl | rfl | rfl
          · exact .inl rfl
          · exact .inl rfl
          · exact .inl rfl
          · exact .inr rfl
          · exact .inr rfl
        · rcases hv with rfl | rfl
          · exact q (.join f1 f2) ⟨ok1, ok2⟩ (by simp only [Fm.parts]; omega) (by simp only [Fm.nl]; omega) (fun x hx => (List.mem_append.mp hx).elim (hh1 x) (hh2 x)) c4 (by omega) (by omega)
          · exact q (.choice f1 f2) ⟨ok1, ok2⟩ (by simp only [Fm.parts]; omega) (by simp only [Fm.nl]; omega) (fun x hx => (List.mem_append.mp hx).elim (hh1 x) (hh2 x)) c4 (by omega) (by omega)
      · simp only [decide_eq_false_iff_not] at e2
        rw [show (k : Int) - 1 = ((k - 1 : Nat) : Int) by omega]
        refine sp__law_form_of (by omega) (by omega) (by omega) hn (by omega) fun f1 ok1 p1 n1 hh1 c3 l5 l6 => ?_
        walk_at "w"
        have grp : ∀ c4, c3 ≤ c4 → c4 ≤ c3 + 1 → Qd (Fm.enc (.group f1)) c4 := fun c4 k1 k2 => q (.group f1) ok1 (by simp only [Fm.parts]; omega) (by simp only [Fm.nl]; omega) hh1 c4 (by omega) (by omega)
        have flt : ∀ c4, c3 ≤ c4 → c4 ≤ c3 + 1 → Qd (Fm.enc (.flat f1)) c4 := fun c4 k1 k2 => q (.flat f1) ok1 (by simp only [Fm.parts]; omega) (by simp only [Fm.nl]; omega) hh1 c4 (by omega) (by omega)
        refine Br.by (fun e3 => ?_) fun e3 => Br.by (fun e4 => ?_) fun e4 => ?_
        · refine ⟨5, rfl, by decide, by decide, by omega, fun j c4 j0 j1 k1 k2 => ?_⟩
          walk_at "w"
          refine pick (P := fun x => ∃ y : Int, x = .int y ∧ 0 ≤ y ∧ y ≤ 40) _ (fun v hv => ?_) j0 j1 fun v hv => ?_
          · simp only [List.mem_cons, List.not_mem_nil, or_false] at hv
            rcases hv with rfl | rfl | rfl | rfl | rfl <;> exact ⟨_, rfl, by decide, by decide⟩
          · obtain ⟨y, rfl, y0, y1⟩ := hv
            exact q (.nested y f1) ⟨⟨y0, y1⟩, ok1⟩ (by simp only [Fm.parts]; omega) (by simp only [Fm.nl]; omega) hh1 c4 (by omega) (by omega)
        · refine ⟨2, rfl, by decide, by decide, by omega, fun j c4 j0 j1 k1 k2 => ?_⟩
          walk_at "w"
          cases hj : (j == 0) with
          | true => exact atP.mk (atI_1 _ _ _) (flt c4 k1 k2)
          | false => exact atP.mk (atI_0 _ _) (grp c4 k1 k2)
        · exact atP.mk (atI_0 _ _) (grp c3 (by omega) (by omega))
def sp__law_doc (a : Ad) : Nat → SpD
  | 0 => fun _ _ _ _ => False
  | n + 1 => fun ds c Q _ => ∃ f : Fm, ds = [f.enc] ∧ f.ok ∧ f.dep ≤ n + 1 ∧ Q (docD a f) c
omit T in
theorem no__law_doc (ds : List D) (c : Nat) (Q : QD) (E : EDt) : sp__law_doc a 0 ds c Q E → False := id
omit T in
theorem sp__law_doc_of {n : Nat} {f : Fm} {c : Nat} {Q : QD} {E : EDt} (hk : f.ok) (h : f.dep ≤ n) (q : Q (docD a f) c) : sp__law_doc a n [f.enc] c Q E := by
  cases n with
  | zero => have := f.dep_pos; omega
  | succ n => exact ⟨f, rfl, hk, h, q⟩
theorem ok__law_doc : ∀ n : Nat, FnOk P w K mg base (L2.CX P w) (7 + n) a.f__law_doc a.d__law_doc ["_law_form_here"] (spOf K (sp__law_doc a n)) := by
  intro n
  induction n with
  | zero => exact FnOk.no T.F__law_doc sc__law_doc (spOf_no no__law_doc)
  | succ n ih =>
  refine okD (k := 7 + n) T.F__law_doc sc__law_doc (fun ds c Q E h => ?_) (fun cdv A outer s H E G0 c0 ED good => ⟨_, _, (pds_cons (pds_set 1 sc__law_doc.nd (pd_at (pd_v 0) pd_int))
      (pds_cons (pds_if (pdt_cm (pdc_eqO (good.mono (j := 2) (by omega)) T.D_Doc.ic T.M_Doc___eq__ (ok_Doc___eq__ T) (b_Doc___eq__ T) (pd_v 1) pd_str)) (pds_one (pds_ret (pd_callC good ((ok_text T).mono (by omega)) (c_text_1 T) (fun _ => .nil) (pda_cons (pd_at (pd_v 0) pd_int) pda_nil)))) pss_nil')
      (pds_cons (pds_if (pdt_cm (pdc_eqO (good.mono (j := 2) (by omega)) T.D_Doc.ic T.M_Doc___eq__ (ok_Doc___eq__ T) (b_Doc___eq__ T) (pd_v 1) pd_str)) (pds_one (pds_ret (pd_callC good ((ok_line T).mono (by omega)) (c_line_1 T) (fun _ => .nil) (pda_cons (pd_at (pd_v 0) pd_int) pda_nil)))) pss_nil')
      (pds_cons (pds_if (pdt_cm (pdc_eqO (good.mono (j := 2) (by omega)) T.D_Doc.ic T.M_Doc___eq__ (ok_Doc___eq__ T) (b_Doc___eq__ T) (pd_v 1) pd_str)) (pds_one (pds_ret (pd_callC good ((ok_hole T).mono (by omega)) (c_hole_1 T) (fun _ => .nil) (pda_cons (pd_at (pd_v 0) pd_int) pda_nil)))) pss_nil')
      (pds_cons (pds_if (pdt_cm (pdc_eqO (good.mono (j := 2) (by omega)) T.D_Doc.ic T.M_Doc___eq__ (ok_Doc___eq__ T) (b_Doc___eq__ T) (pd_v 1) pd_str)) (pds_one (pds_ret (pd_addO good T.O_Doc T.M_Doc___add__ ((ok_Doc___add__ T).mono (by omega)) (b_Doc___add__ T) (pd_callC good ih (c__law_doc_1 T) (fun _ => .nil) (pda_cons (pd_at (pd_v 0) pd_int) pda_nil)) (pd_callC good ih (c__law_doc_1 T) (fun _ => .nil) (pda_cons (pd_at (pd_v 0) pd_int) pda_nil))))) pss_nil')
      (pds_cons (pds_if (pdt_cm (pdc_eqO (good.mono (j := 2) (by omega)) T.D_Doc.ic T.M_Doc___eq__ (ok_Doc___eq__ T) (b_Doc___eq__ T) (pd_v 1) pd_str)) (pds_one (pds_ret (pd_orO good T.O_Doc T.M_Doc___or__ ((ok_Doc___or__ T).mono (by omega)) (b_Doc___or__ T) (pd_callC good ih (c__law_doc_1 T) (fun _ => .nil) (pda_cons (pd_at (pd_v 0) pd_int) pda_nil)) (pd_callC good ih (c__law_doc_1 T) (fun _ => .nil) (pda_cons (pd_at (pd_v 0) pd_int) pda_nil))))) pss_nil')
      (pds_cons (pds_if (pdt_cm (pdc_eqO (good.mono (j := 2) (by omega)) T.D_Doc.ic T.M_Doc___eq__ (ok_Doc___eq__ T) (b_Doc___eq__ T) (pd_v 1) pd_str)) (pds_one (pds_ret (pd_meth good ((ok_Doc_nested T).mono (by omega)) (cm_Doc_nested T) (fun _ => .nil) (pd_callC good ih (c__law_doc_1 T) (fun _ => .nil) (pda_cons (pd_at (pd_v 0) pd_int) pda_nil)) (pda_cons (pd_at (pd_v 0) pd_int) pda_nil)))) pss_nil')
      (pds_cons (pds_if (pdt_cm (pdc_eqO (good.mono (j := 2) (by omega)) T.D_Doc.ic T.M_Doc___eq__ (ok_Doc___eq__ T) (b_Doc___eq__ T) (pd_v 1) pd_str)) (pds_one (pds_ret (pd_meth0 good ((ok_Doc_group T).mono (by omega)) (cm_Doc_group T) (fun _ => .nil) (pd_callC good ih (c__law_doc_1 T) (fun _ => .nil) (pda_cons (pd_at (pd_v 0) pd_int) pda_nil))))) pss_nil')
      (pds_one (pds_ret (pd_meth0 good ((ok_Doc_flattened T).mono (by omega)) (cm_Doc_flattened T) (fun _ => .nil) (pd_callC good ih (c__law_doc_1 T) (fun _ => .nil) (pda_cons (pd_at (pd_v 0) pd_int) pda_nil))))))))))))), ?_⟩)
  · obtain ⟨f, rfl, _⟩ := h; rfl
  · rintro ds Qd ⟨f, rfl, ok, hp, q⟩
    have low : ∀ g ∈ f.inner, g.ok ∧ g.dep ≤ n := fun g hg => ⟨Fm.ok_inner ok hg, by have := Fm.dep_lt hg; omega⟩
    cases f with
    | text x => simp only [Fm.enc]; walk_at "f"; exact ⟨x, rfl, ok, q⟩
    | brk o => cases o with
      | none => simp only [Fm.enc]; walk_at "f"; exact ⟨none, rfl, fun y e => (by cases e), q⟩
      | some x => simp only [Fm.enc]; walk_at "f"; exact ⟨some x, rfl, fun y e => (by cases e; exact ok), q⟩
    | hole x => simp only [Fm.enc]; walk_at "f"; exact ⟨x, rfl, ok.1, ok.2, q⟩
    | join g1 g2 =>
      obtain ⟨o1, h1⟩ := low g1 (by simp [Fm.inner])
      obtain ⟨o2, h2⟩ := low g2 (by simp [Fm.inner])
      simp only [Fm.enc]; walk_at "f"
      refine sp__law_doc_of o1 h1 ?_
      walk_at "w"
      refine sp__law_doc_of o2 h2 ?_
      simp only [docD]
      walk_at "w"
      exact ⟨g1, g2, rfl, q⟩
    | choice g1 g2 =>
      obtain ⟨o1, h1⟩ := low g1 (by simp [Fm.inner])
      obtain ⟨o2, h2⟩ := low g2 (by simp [Fm.inner])
      simp only [Fm.enc]; walk_at "f"
      refine sp__law_doc_of o1 h1 ?_
      walk_at "w"
      refine sp__law_doc_of o2 h2 ?_
      simp only [docD]
      walk_at "w"
      exact ⟨g1, g2, rfl, q⟩
    | nested i g1 =>
      obtain ⟨o1, h1⟩ := low g1 (by simp [Fm.inner])
      simp only [Fm.enc]; walk_at "f"
      refine sp__law_doc_of o1 h1 ?_
      simp only [docD]
      walk_at "w"
      exact ⟨by decide +kernel, g1, i, rfl, ok.1.1, ok.1.2, q⟩
    | group g1 =>
      obtain ⟨o1, h1⟩ := low g1 (by simp [Fm.inner])
      simp only [Fm.enc]; walk_at "f"
      refine sp__law_doc_of o1 h1 ?_
      simp only [docD]
      walk_at "w"
      exact ⟨by decide +kernel, g1, rfl, q⟩
    | flat g1 =>
      obtain ⟨o1, h1⟩ := low g1 (by simp [Fm.inner])
      simp only [Fm.enc]; walk_at "f"
      refine sp__law_doc_of o1 h1 ?_
      simp only [docD]
      walk_at "w"
      exact ⟨by decide +kernel, g1, rfl, q⟩
def sp__law_parts : Nat → SpD
  | 0 => fun _ _ _ _ => False
  | n + 1 => fun ds c Q _ => ∃ f : Fm, ds = [f.enc] ∧ f.dep ≤ n + 1 ∧ Q (.int (f.parts : Nat)) c
omit T in
theorem no__law_parts (ds : List D) (c : Nat) (Q : QD) (E : EDt) : sp__law_parts 0 ds c Q E → False := id
omit T in
theorem sp__law_parts_of {n : Nat} {f : Fm} {c : Nat} {Q : QD} {E : EDt} (h : f.dep ≤ n) (q : Q (.int (f.parts : Nat)) c) : sp__law_parts n [f.enc] c Q E := by
  cases n with
  | zero => have := f.dep_pos; omega
  | succ n => exact ⟨f, rfl, h, q⟩
theorem ok__law_parts : ∀ n : Nat, FnOk P w K mg base (L2.CX P w) (3 + n) a.f__law_parts a.d__law_parts ["_law_form_here"] (spOf K (sp__law_parts n)) := by
  intro n
  induction n with
  | zero => exact FnOk.no T.F__law_parts sc__law_parts (spOf_no no__law_parts)
  | succ n ih =>
  refine okD (k := 3 + n) T.F__law_parts sc__law_parts (fun ds c Q E h => ?_) (fun cdv A outer s H E G0 c0 ED good => ⟨_, _, (pds_one (pds_ret (pd_sum2 pd_int (pd_callB (cr_sum good.calm) br_sumA T.z_sum bt_sum (pda_cons (pd_lc (own := [("_law_part", 1)]) good.calm sc__law_parts.nd (pdi_any (pd_callC good ((ok__law_inner T).mono (by omega)) (c__law_inner_1 T) (fun _ => .nil) (pda_cons (pd_v 0) pda_nil))) (blkOk_by (N := ["_law_form_here", "_law_part"]) (sc := (defScope s__law_parts)) (by decide +kernel)) ⟨fun s1 H1 C1 cl1 fp1 => (pdg_cast (pdg_name 1 sc__law_parts.nd) (by first | rfl | (dsimp only [Ctx.blk, Cx.blk] <;> rfl)) (by first | rfl | (dsimp only [Ctx.blk, Cx.blk] <;> rfl))), fun s1 H1 C1 cl1 fp1 => (pdts_cast pdts_nil (by first | rfl | (dsimp only [Ctx.blk, Cx.blk] <;> rfl)) (by first | rfl | (dsimp only [Ctx.blk, Cx.blk] <;> rfl))), fun s1 H1 C1 cl1 fp1 => (pd_cast (pd_callC (good.blk s1 H1 _ _ fp1) ih (c__law_parts_1 T) (fun _ => .nil) (pda_cons (pd_v 1) pda_nil)) (by first | rfl | (dsimp only [Ctx.blk, Cx.blk] <;> rfl)) (by first | rfl | (dsimp only [Ctx.blk, Cx.blk] <;> rfl)))⟩) pda_nil))))), ?_⟩)
  · obtain ⟨f, rfl, _⟩ := h; rfl
  · rintro ds Qd ⟨f, rfl, hn, q⟩
    walk_at "w"
    refine ⟨f, rfl, ?_⟩
    walk_at "w"
    refine lc_inv (fun k acc => acc = ((f.inner.take k).map Fm.parts).map fun n => D.int ((n : Nat) : Int)) (by rw [List.length_map]; have := f.inner_len; omega) rfl ?_ fun acc hacc => ?_
    · rintro k x acc hx rfl _ R hR
      rw [List.getElem?_map] at hx
      cases hk : f.inner[k]? with
      | none => rw [hk] at hx; cases hx
      | some g =>
        rw [hk] at hx
        cases hx
        walk_at "w"
        have := Fm.dep_lt (List.mem_of_getElem? hk)
        exact sp__law_parts_of (by omega) (hR _ (by rw [take_snoc hk, List.map_append, List.map_append]; rfl))
    · rw [List.length_map, List.take_length] at hacc
      subst hacc
      refine sumP.mk (intsD_nat _) ?_
      rw [sum_nat]
      walk_at "w"
      rw [show (1 : Int) + (((f.inner.map Fm.parts).sum : Nat) : Int) = (f.parts : Nat) by rw [f.parts_inner]; omega]
      exact q
def sp__law_holes : Nat → SpD
  | 0 => fun _ _ _ _ => False
  | n + 1 => fun ds c Q _ => ∃ f : Fm, ds = [f.enc] ∧ f.dep ≤ n + 1 ∧ f.parts ≤ 1000 ∧ Q (.lst ((sortU f.holes).map D.str)) c
omit T in
theorem no__law_holes (ds : List D) (c : Nat) (Q : QD) (E : EDt) : sp__law_holes 0 ds c Q E → False := id
omit T in
theorem sp__law_holes_of {n : Nat} {f : Fm} {c : Nat} {Q : QD} {E : EDt} (h : f.dep ≤ n) (h2 : f.parts ≤ 1000) (q : Q (.lst ((sortU f.holes).map D.str)) c) : sp__law_holes n [f.enc] c Q E := by
  cases n with
  | zero => have := f.dep_pos; omega
  | succ n => exact ⟨f, rfl, h, h2, q⟩
theorem ok__law_holes : ∀ n : Nat, FnOk P w K mg base (L2.CX P w) (3 + n) a.f__law_holes a.d__law_holes ["_law_form_here"] (spOf K (sp__law_holes n)) := by
  intro n
  induction n with
  | zero => exact FnOk.no T.F__law_holes sc__law_holes (spOf_no no__law_holes)
  | succ n ih =>
  refine okD (k := 3 + n) T.F__law_holes sc__law_holes (fun ds c Q E h => ?_) (fun cdv A outer s H E G0 c0 ED good => ⟨_, _, (pds_cons (pds_set 1 sc__law_holes.nd (pd_times (pd_lst (pda_cons (pd_at (pd_v 0) pd_int) pda_nil)) (pd_callTy call_int1 br_intA T.z_int bt_int (pda_cons (pd_cm (pdc_eqD good (pd_at (pd_v 0) pd_int) pd_str)) pda_nil))))
      (pds_cons (pds_for PassesOwn.leaving good.calm (pdi_any (pd_callC good ((ok__law_inner T).mono (by omega)) (c__law_inner_1 T) (fun _ => .nil) (pda_cons (pd_v 0) pda_nil))) (pdg_name 2 sc__law_holes.nd)
      (pds_one (pds_set 1 sc__law_holes.nd (pd_sum2 (pd_v 1) (pd_callC good ih (c__law_holes_1 T) (fun _ => .nil) (pda_cons (pd_v 2) pda_nil))))))
      (pds_one (pds_ret (pd_sortSet good.calm T.z_sorted T.z_set (pda_cons (pd_v 1) pda_nil)))))), ?_⟩)
  · obtain ⟨f, rfl, _⟩ := h; rfl
  · rintro ds Qd ⟨f, rfl, hn, hp, q⟩
    have low : ∀ g ∈ f.inner, g.dep ≤ n ∧ g.parts ≤ 1000 := fun g hg => by have := Fm.parts_lt hg; have := Fm.dep_lt hg; omega
    have loop : ∀ xs : List Str, xs.length ≤ 1 → (∀ x, x ∈ xs ↔ f = .hole x) → ForB (kName 2) (sSet 1 (dOp aSum2 (dVar 1) (dCall (fun _ => ED) (sp__law_holes n) [] (dCons (dVar 2) dNil)))) { nx := sRet (dSortSet (dCons (dVar 1) dNil)) { nx := fun _ c => Qd .non c, rt := Qd }, rt := Qd }
        [.fz f.enc, .fz (.lst (xs.map D.str)), .no] (f.inner.map Fm.enc) c0 := fun xs hl hm => by
      refine for_det (fun k ρ => ∃ (ys : List Str) (s2 : Sl), ρ = [.fz f.enc, .fz (.lst (ys.map D.str)), s2] ∧ ys.length ≤ 1 + ((f.inner.take k).map Fm.parts).sum ∧ ∀ x, x ∈ ys ↔ f = .hole x ∨ ∃ g ∈ f.inner.take k, x ∈ g.holes) ⟨xs, _, rfl, by simpa using hl, fun x => by rw [hm]; simp⟩ ?_ ?_
      · rintro k x ρ hx ⟨ys, s2, rfl, hy, hmy⟩
        rw [List.getElem?_map] at hx
        cases hk : f.inner[k]? with
        | none => rw [hk] at hx; cases hx
        | some g =>
          rw [hk] at hx
          cases hx
          obtain ⟨l1, l2⟩ := low g (List.mem_of_getElem? hk)
          have hh := Nat.le_trans (length_sortU g.holes) g.holes_len
          have hu := f.inner_len
          have tot : ((f.inner.take (k + 1)).map Fm.parts).sum = ((f.inner.take k).map Fm.parts).sum + g.parts := by rw [take_snoc hk]; simp
          have bnd : ((f.inner.take (k + 1)).map Fm.parts).sum ≤ (f.inner.map Fm.parts).sum := by
            have := congrArg (fun l => (l.map Fm.parts).sum) (List.take_append_drop (k + 1) f.inner)
            simp only [List.map_append, List.sum_append] at this
            omega
          have pin := f.parts_inner
          walk_at "w"
          refine sp__law_holes_of l1 l2 ?_
          walk_at "w"
          rw [List.length_map, List.length_map]
          refine ⟨by omega, ys ++ sortU g.holes, _, by rw [List.map_append], by rw [List.length_append]; omega, fun x => ?_⟩
          rw [List.mem_append, hmy, mem_sortU, take_snoc hk]
          simp [or_assoc]
      · rintro ρ ⟨ys, s2, rfl, hy, hmy⟩
        have pin := f.parts_inner
        rw [List.length_map, List.take_length] at hy
        rw [List.length_map, List.take_length] at hmy
        walk_at "w"
        refine strsP.mk ⟨by omega, ?_⟩
        rw [sortU_congr (m := f.holes) fun x => by rw [hmy, ← Fm.holes_inner]]
        exact q
    have non : (∀ x, f ≠ .hole x) → ∀ x, x ∈ ([] : List Str) ↔ f = .hole x := fun h x => ⟨fun z => (nomatch z), fun z => absurd z (h x)⟩
    cases f with
    | hole x => simp only [Fm.enc]; walk_at "f"; exact ⟨by decide, by decide, by decide, .hole x, rfl, _, rfl, loop [x] (Nat.le_refl _) fun y => by constructor <;> (intro e; simp at e ⊢; first | exact e.symm | exact e)⟩
    | text x => simp only [Fm.enc]; walk_at "f"; exact ⟨by decide, by decide, by decide, .text x, rfl, _, rfl, loop [] (by decide) (non fun y e => by cases e)⟩
    | brk o => cases o with
      | none => simp only [Fm.enc]; walk_at "f"; exact ⟨by decide, by decide, by decide, .brk none, rfl, _, rfl, loop [] (by decide) (non fun y e => by cases e)⟩
      | some x => simp only [Fm.enc]; walk_at "f"; exact ⟨by decide, by decide, by decide, .brk (some x), rfl, _, rfl, loop [] (by decide) (non fun y e => by cases e)⟩
    | join g1 g2 => simp only [Fm.enc]; walk_at "f"; exact ⟨by decide, by decide, by decide, .join g1 g2, rfl, _, rfl, loop [] (by decide) (non fun y e => by cases e)⟩
    | choice g1 g2 => simp only [Fm.enc]; walk_at "f"; exact ⟨by decide, by decide, by decide, .choice g1 g2, rfl, _, rfl, loop [] (by decide) (non fun y e => by cases e)⟩
    | nested i g1 => simp only [Fm.enc]; walk_at "f"; exact ⟨by decide, by decide, by decide, .nested i g1, rfl, _, rfl, loop [] (by decide) (non fun y e => by cases e)⟩
    | group g1 => simp only [Fm.enc]; walk_at "f"; exact ⟨by decide, by decide, by decide, .group g1, rfl, _, rfl, loop [] (by decide) (non fun y e => by cases e)⟩
    | flat g1 => simp only [Fm.enc]; walk_at "f"; exact ⟨by decide, by decide, by decide, .flat g1, rfl, _, rfl, loop [] (by decide) (non fun y e => by cases e)⟩

def sp__law_put : Nat → SpD
  | 0 => fun _ _ _ _ => False
  | n + 1 => fun ds c Q _ => ∃ (f : Fm) (ks : List Str) (φ : Str → Fm), ds = [f.enc, .dct (keysS ks) (ks.map fun x => (φ x).enc)] ∧ f.dep ≤ n + 1 ∧ Q (f.fill ks φ).enc c
omit T in
theorem no__law_put (ds : List D) (c : Nat) (Q : QD) (E : EDt) : sp__law_put 0 ds c Q E → False := id
omit T in
theorem sp__law_put_of {n : Nat} {f : Fm} {ks : List Str} {φ : Str → Fm} {c : Nat} {Q : QD} {E : EDt} (h : f.dep ≤ n) (q : Q (f.fill ks φ).enc c) : sp__law_put n [f.enc, .dct (keysS ks) (ks.map fun x => (φ x).enc)] c Q E := by
  cases n with
  | zero => have := f.dep_pos; omega
  | succ n => exact ⟨f, ks, φ, rfl, h, q⟩
theorem ok__law_put : ∀ n : Nat, FnOk P w K mg base (L2.CX P w) (1 + n) a.f__law_put a.d__law_put ["_law_form_here", "_law_rows"] (spOf K (sp__law_put n)) := by
  intro n
  induction n with
  | zero => exact FnOk.no T.F__law_put sc__law_put (spOf_no no__law_put)
  | succ n ih =>
  refine okD (k := 1 + n) T.F__law_put sc__law_put (fun ds c Q E h => ?_) (fun cdv A outer s H E G0 c0 ED good => ⟨_, _, (pds_cons (pds_if (pdt_cm (pdc_eqD good (pd_at (pd_v 0) pd_int) pd_str)) (pds_one (pds_ret (pd_dget2 good (pd_v 1) (pd_at (pd_v 0) pd_int) (pd_v 0)))) pss_nil')
      (pds_cons (pds_if (pdt_cm (pdc_in good (pd_at (pd_v 0) pd_int) (pd_tup (pda_cons pd_str (pda_cons pd_str pda_nil))))) (pds_one (pds_ret (pd_tup (pda_cons (pd_at (pd_v 0) pd_int) (pda_cons (pd_callC good ih (c__law_put_2 T) (fun _ => .nil) (pda_cons (pd_at (pd_v 0) pd_int) (pda_cons (pd_v 1) pda_nil))) (pda_cons (pd_callC good ih (c__law_put_2 T) (fun _ => .nil) (pda_cons (pd_at (pd_v 0) pd_int) (pda_cons (pd_v 1) pda_nil))) pda_nil)))))) pss_nil')
      (pds_cons (pds_if (pdt_cm (pdc_eqD good (pd_at (pd_v 0) pd_int) pd_str)) (pds_one (pds_ret (pd_tup (pda_cons pd_str (pda_cons (pd_at (pd_v 0) pd_int) (pda_cons (pd_callC good ih (c__law_put_2 T) (fun _ => .nil) (pda_cons (pd_at (pd_v 0) pd_int) (pda_cons (pd_v 1) pda_nil))) pda_nil)))))) pss_nil')
      (pds_cons (pds_if (pdt_cm (pdc_in good (pd_at (pd_v 0) pd_int) (pd_tup (pda_cons pd_str (pda_cons pd_str pda_nil))))) (pds_one (pds_ret (pd_tup (pda_cons (pd_at (pd_v 0) pd_int) (pda_cons (pd_callC good ih (c__law_put_2 T) (fun _ => .nil) (pda_cons (pd_at (pd_v 0) pd_int) (pda_cons (pd_v 1) pda_nil))) pda_nil))))) pss_nil')
      (pds_one (pds_ret (pd_v 0))))))), ?_⟩)
  · obtain ⟨f, ks, φ, rfl, _⟩ := h; rfl
  · rintro ds Qd ⟨f, ks, φ, rfl, hn, q⟩
    have low : ∀ g ∈ f.inner, g.dep ≤ n := fun g hg => by have := Fm.dep_lt hg; omega
    cases f with
    | brk o => cases o <;> (simp only [Fm.enc]; walk_at "f"; exact q)
    | text x => simp only [Fm.enc]; walk_at "f"; exact q
    | hole x =>
      simp only [Fm.enc]; walk_at "f"
      rw [dget_keys]
      simp only [Fm.fill] at q
      split at q
      · rename_i h; rw [if_pos h]; exact q
      · rename_i h; rw [if_neg h]; exact q
    | join g1 g2 =>
      simp only [Fm.enc]; walk_at "f"
      refine sp__law_put_of (low g1 (by simp [Fm.inner])) ?_
      walk_at "w"
      refine sp__law_put_of (low g2 (by simp [Fm.inner])) ?_
      walk_at "w"
      exact q
    | choice g1 g2 =>
      simp only [Fm.enc]; walk_at "f"
      refine sp__law_put_of (low g1 (by simp [Fm.inner])) ?_
      walk_at "w"
      refine sp__law_put_of (low g2 (by simp [Fm.inner])) ?_
      walk_at "w"
      exact q
    | nested i g1 =>
      simp only [Fm.enc]; walk_at "f"
      refine sp__law_put_of (low g1 (by simp [Fm.inner])) ?_
      walk_at "w"
      exact q
    | group g1 =>
      simp only [Fm.enc]; walk_at "f"
      refine sp__law_put_of (low g1 (by simp [Fm.inner])) ?_
      walk_at "w"
      exact q
    | flat g1 =>
      simp only [Fm.enc]; walk_at "f"
      refine sp__law_put_of (low g1 (by simp [Fm.inner])) ?_
      walk_at "w"
      exact q
omit T in
theorem sp__law_put_gs {n : Nat} {f : Fm} {ks : List Str} {gs : List Fm} {c : Nat} {Q : QD} {E : EDt} (h : f.dep ≤ n) (nd : ks.Nodup) (hl : ks.length = gs.length) (q : Q (f.fill ks (look ks gs)).enc c) : sp__law_put n [f.enc, .dct (keysS ks) (gs.map Fm.enc)] c Q E := by
  rw [look_map Fm.enc nd hl]
  exact sp__law_put_of h q
omit T in
theorem eqE {K : PySem.W.Frag} {C : Addr} {sp : SpD} {f : Fm} (ok : f.ok) (hp : f.small) {c : Nat} {Q : QD} (q : Q (.bl true) c) : aEqO K C false sp f.enc f.enc c Q := by
  have pf := hp.pl ok
  refine aEqO_enc pf pf ?_
  rw [eqD_refl pf]
  exact q
omit T in
theorem neE {K : PySem.W.Frag} {C : Addr} {sp : SpD} {f : Fm} (ok : f.ok) (hp : f.small) {c : Nat} {Q : QD} (q : Q (.bl false) c) : aEqO K C true sp f.enc f.enc c Q := by
  have pf := hp.pl ok
  refine aEqO_enc pf pf ?_
  rw [eqD_refl pf]
  exact q
def sp_law : SpD := fun ds c Q _ => ∃ ns : List Int, ds = [.scr ns] ∧ ns.length ≤ 63 ∧ c + 2000 ≤ LIM ∧ ∀ c', Q (.bl true) c'
theorem ok_law : FnOk P w K mg base (L2.CX P w) 69 a.f_law a.d_law ["_law_script"] (spOf K sp_law) := by
  refine okD T.F_law sc_law (fun ds c Q E h => ?_) (fun cdv A outer s H E G0 c0 ED good => ⟨_, _, (pds_cons (pds_for PassesOwn.leaving good.calm (pdi_range1 T.z_range (pda_cons (pd_addO good T.O_Doc T.M_Doc___add__ ((ok_Doc___add__ T).mono (by omega)) (b_Doc___add__ T) pd_int (pd_callB (call_min2 good.calm) br_min2 T.z_min bt_min (pda_cons pd_int (pda_cons (pd_callB cr_len br_lenA T.z_len bt_len (pda_cons (pd_v 0) pda_nil)) pda_nil)))) pda_nil)) (pdg_name 1 sc_law.nd)
      (pds_cons (pds_set 2 sc_law.nd (pd_callC good ((ok__law_purse T).mono (by omega)) (c__law_purse_2 T) (fun _ => .nil) (pda_cons (pd_v 0) (pda_cons (pd_v 1) pda_nil))))
      (pds_cons (pds_set 3 sc_law.nd (pd_callC good ((ok__law_form T 20).mono (by omega)) (c__law_form_3 T) (fun _ => .nil) (pda_cons (pd_v 2) (pda_cons (pd_addO good T.O_Doc T.M_Doc___add__ ((ok_Doc___add__ T).mono (by omega)) (b_Doc___add__ T) pd_int (pd_callC good ((ok__law_draw T).mono (by omega)) (c__law_draw_2 T) (fun _ => .nil) (pda_cons (pd_v 2) (pda_cons pd_int pda_nil)))) (pda_cons (pd_lst (pda_cons pd_str (pda_cons pd_str (pda_cons pd_str pda_nil)))) pda_nil)))))
      (pds_cons (pds_set 4 sc_law.nd (pd_callC good ((ok__law_doc T 60).mono (by omega)) (c__law_doc_1 T) (fun _ => .nil) (pda_cons (pd_v 3) pda_nil)))
      (pds_cons (pds_setLc (own := [("_law_turn", 13)]) 5 good.calm sc_law.nd (pdi_range1 T.z_range (pda_cons pd_int pda_nil)) (blkOk_by (N := ["_law_script", "_law_at_here", "_law_purse_here", "_law_form_here", "_law_kept", "_law_forms", "_law_told", "_law_rows", "_law_made", "_law_one", "_law_two", "_law_three", "_law_due", "_law_turn", "_law_part", "_law_row"]) (sc := (defScope s_law)) (by decide +kernel)) ⟨fun s4 H4 C4 cl4 fp4 => (pdg_cast (pdg_name 13 sc_law.nd) (by first | rfl | (dsimp only [Ctx.blk, Cx.blk] <;> rfl)) (by first | rfl | (dsimp only [Ctx.blk, Cx.blk] <;> rfl))), fun s4 H4 C4 cl4 fp4 => (pdts_cast pdts_nil (by first | rfl | (dsimp only [Ctx.blk, Cx.blk] <;> rfl)) (by first | rfl | (dsimp only [Ctx.blk, Cx.blk] <;> rfl))), fun s4 H4 C4 cl4 fp4 => (pd_cast (pd_callC (good.blk s4 H4 _ _ fp4) ((ok__law_form T 20).mono (by omega)) (c__law_form_3 T) (fun _ => .nil) (pda_cons (pd_v 2) (pda_cons (pd_addO (good.blk s4 H4 _ _ fp4) T.O_Doc T.M_Doc___add__ ((ok_Doc___add__ T).mono (by omega)) (b_Doc___add__ T) pd_int (pd_callC (good.blk s4 H4 _ _ fp4) ((ok__law_draw T).mono (by omega)) (c__law_draw_2 T) (fun _ => .nil) (pda_cons (pd_v 2) (pda_cons pd_int pda_nil)))) (pda_cons (pd_lst (pda_cons pd_str (pda_cons pd_str (pda_cons pd_str pda_nil)))) pda_nil)))) (by first | rfl | (dsimp only [Ctx.blk, Cx.blk] <;> rfl)) (by first | rfl | (dsimp only [Ctx.blk, Cx.blk] <;> rfl)))⟩ (sw_true rfl rfl rfl (by decide +kernel)))
      (pds_cons (pds_asg (pd_lc (own := [("_law_part", 14)]) good.calm sc_law.nd (pdi_any (pd_v 5)) (blkOk_by (N := ["_law_script", "_law_at_here", "_law_purse_here", "_law_form_here", "_law_kept", "_law_forms", "_law_told", "_law_rows", "_law_made", "_law_one", "_law_two", "_law_three", "_law_due", "_law_turn", "_law_part", "_law_row"]) (sc := (defScope s_law)) (by decide +kernel)) ⟨fun s3 H3 C3 cl3 fp3 => (pdg_cast (pdg_name 14 sc_law.nd) (by first | rfl | (dsimp only [Ctx.blk, Cx.blk] <;> rfl)) (by first | rfl | (dsimp only [Ctx.blk, Cx.blk] <;> rfl))), fun s3 H3 C3 cl3 fp3 => (pdts_cast pdts_nil (by first | rfl | (dsimp only [Ctx.blk, Cx.blk] <;> rfl)) (by first | rfl | (dsimp only [Ctx.blk, Cx.blk] <;> rfl))), fun s3 H3 C3 cl3 fp3 => (pd_cast (pd_callC (good.blk s3 H3 _ _ fp3) ((ok__law_doc T 60).mono (by omega)) (c__law_doc_1 T) (fun _ => .nil) (pda_cons (pd_v 14) pda_nil)) (by first | rfl | (dsimp only [Ctx.blk, Cx.blk] <;> rfl)) (by first | rfl | (dsimp only [Ctx.blk, Cx.blk] <;> rfl)))⟩) (pdg_seq (n := 3) good.calm (pdg_cons (pdg_name 9 sc_law.nd) (pdg_cons (pdg_name 10 sc_law.nd) (pdg_cons (pdg_name 11 sc_law.nd) pdg_nil)))))
      (pds_cons (pds_set 6 sc_law.nd (pd_lst (pda_cons (pd_sPos good ((okS_filled T).mono (by omega)) ⟨T.m_filled, T.F_filled.kp⟩ (pda_cons (pd_v 4) pda_nil)) (pda_cons (pd_sKw good ((okS_filled_alpha T).mono (by omega)) ⟨T.m_filled, T.F_filled.kp⟩ (pda_cons (pd_v 4) pda_nil) (pdk_cons (pd_v 9) pdk_nil)) (pda_cons (pd_sKw good ((okS_filled_gamma_beta T).mono (by omega)) ⟨T.m_filled, T.F_filled.kp⟩ (pda_cons (pd_v 4) pda_nil) (pdk_cons (pd_v 11) (pdk_cons (pd_v 10) pdk_nil))) pda_nil)))))
      (pds_cons (pds_set 6 sc_law.nd (pd_addO good T.O_Doc T.M_Doc___add__ ((ok_Doc___add__ T).mono (by omega)) (b_Doc___add__ T) (pd_v 6) (pd_lst (pda_cons (pd_sKw good ((okS_filled_alpha_beta_gamma T).mono (by omega)) ⟨T.m_filled, T.F_filled.kp⟩ (pda_cons (pd_v 4) pda_nil) (pdk_cons (pd_v 9) (pdk_cons (pd_v 10) (pdk_cons (pd_v 11) pdk_nil)))) (pda_cons (pd_sKw0 good ((okS_filled_the_doc_other_alpha T).mono (by omega)) ⟨T.m_filled, T.F_filled.kp⟩ (pdk_cons (pd_v 4) (pdk_cons (pd_v 9) (pdk_cons (pd_v 10) pdk_nil)))) pda_nil)))))
      (pds_cons (pds_set 7 sc_law.nd (pd_lst (pda_cons pd_dict0 (pda_cons (pd_disp (pdp_cons pd_str (pd_at (pd_v 5) pd_int) pdp_nil)) (pda_cons (pd_disp (pdp_cons pd_str (pd_at (pd_v 5) pd_int) (pdp_cons pd_str (pd_at (pd_v 5) pd_int) pdp_nil))) pda_nil)))))
      (pds_cons (pds_set 7 sc_law.nd (pd_addO good T.O_Doc T.M_Doc___add__ ((ok_Doc___add__ T).mono (by omega)) (b_Doc___add__ T) (pd_v 7) (pd_lst (pda_cons (pd_disp (pdp_cons pd_str (pd_at (pd_v 5) pd_int) (pdp_cons pd_str (pd_at (pd_v 5) pd_int) (pdp_cons pd_str (pd_at (pd_v 5) pd_int) pdp_nil)))) (pda_cons (pd_disp (pdp_cons pd_str (pd_at (pd_v 5) pd_int) pdp_nil)) pda_nil)))))
      (pds_cons (pds_if (pdt_cm (pdc_neO (good.mono (j := 2) (by omega)) T.D_Doc.ic T.O_Doc T.M_Doc___eq__ (ok_Doc___eq__ T) (b_Doc___eq__ T) (pd_lc (own := [("_law_made", 8)]) good.calm sc_law.nd (pdi_any (pd_v 6)) (blkOk_by (N := ["_law_script", "_law_at_here", "_law_purse_here", "_law_form_here", "_law_kept", "_law_forms", "_law_told", "_law_rows", "_law_made", "_law_one", "_law_two", "_law_three", "_law_due", "_law_turn", "_law_part", "_law_row"]) (sc := (defScope s_law)) (by decide +kernel)) ⟨fun s1 H1 C1 cl1 fp1 => (pdg_cast (pdg_name 8 sc_law.nd) (by first | rfl | (dsimp only [Ctx.blk, Cx.blk] <;> rfl)) (by first | rfl | (dsimp only [Ctx.blk, Cx.blk] <;> rfl))), fun s1 H1 C1 cl1 fp1 => (pdts_cast pdts_nil (by first | rfl | (dsimp only [Ctx.blk, Cx.blk] <;> rfl)) (by first | rfl | (dsimp only [Ctx.blk, Cx.blk] <;> rfl))), fun s1 H1 C1 cl1 fp1 => (pd_cast (pd_prop ((good.blk s1 H1 _ _ fp1).mono (j := 2) (by omega)) T.D_Doc.cl T.P_Doc_form (ok_Doc_form T) (b_Doc_form T) (pd_v 8)) (by first | rfl | (dsimp only [Ctx.blk, Cx.blk] <;> rfl)) (by first | rfl | (dsimp only [Ctx.blk, Cx.blk] <;> rfl)))⟩) (pd_lc (own := [("_law_row", 15)]) good.calm sc_law.nd (pdi_any (pd_v 7)) (blkOk_by (N := ["_law_script", "_law_at_here", "_law_purse_here", "_law_form_here", "_law_kept", "_law_forms", "_law_told", "_law_rows", "_law_made", "_law_one", "_law_two", "_law_three", "_law_due", "_law_turn", "_law_part", "_law_row"]) (sc := (defScope s_law)) (by decide +kernel)) ⟨fun s2 H2 C2 cl2 fp2 => (pdg_cast (pdg_name 15 sc_law.nd) (by first | rfl | (dsimp only [Ctx.blk, Cx.blk] <;> rfl)) (by first | rfl | (dsimp only [Ctx.blk, Cx.blk] <;> rfl))), fun s2 H2 C2 cl2 fp2 => (pdts_cast pdts_nil (by first | rfl | (dsimp only [Ctx.blk, Cx.blk] <;> rfl)) (by first | rfl | (dsimp only [Ctx.blk, Cx.blk] <;> rfl))), fun s2 H2 C2 cl2 fp2 => (pd_cast (pd_callC (good.blk s2 H2 _ _ fp2) ((ok__law_put T 60).mono (by omega)) (c__law_put_2 T) (fun _ => .nil) (pda_cons (pd_v 3) (pda_cons (pd_v 15) pda_nil))) (by first | rfl | (dsimp only [Ctx.blk, Cx.blk] <;> rfl)) (by first | rfl | (dsimp only [Ctx.blk, Cx.blk] <;> rfl)))⟩))) (pds_one (pds_ret pd_bl)) pss_nil')
      (pds_cons (pds_if (pdw_pt (pdw_or (pdt_cm (pdc_neO (good.mono (j := 2) (by omega)) T.D_Doc.ic T.O_Doc T.M_Doc___eq__ (ok_Doc___eq__ T) (b_Doc___eq__ T) (pd_prop (good.mono (j := 2) (by omega)) T.D_Doc.cl T.P_Doc_form (ok_Doc_form T) (b_Doc_form T) (pd_sKw good ((okS_filled_Title_ninesigns_x1_a_b T).mono (by omega)) ⟨T.m_filled, T.F_filled.kp⟩ (pda_cons (pd_v 4) pda_nil) (pdk_cons (pd_v 11) (pdk_cons (pd_v 10) (pdk_cons (pd_v 9) (pdk_cons (pd_v 9) pdk_nil)))))) (pd_v 3))) (pdw_or1 (pdt_cm (pdc_neO (good.mono (j := 2) (by omega)) T.D_Doc.ic T.O_Doc T.M_Doc___eq__ (ok_Doc___eq__ T) (b_Doc___eq__ T) (pd_prop (good.mono (j := 2) (by omega)) T.D_Doc.cl T.P_Doc_form (ok_Doc_form T) (b_Doc_form T) (pd_v 4)) (pd_v 3)))))) (pds_one (pds_ret pd_bl)) pss_nil')
      (pds_cons (pds_if (pdt_cm (pdc_neO (good.mono (j := 2) (by omega)) T.D_Doc.ic T.O_Doc T.M_Doc___eq__ (ok_Doc___eq__ T) (b_Doc___eq__ T) (pd_prop (good.mono (j := 2) (by omega)) T.D_Doc.cl T.P_Doc_form (ok_Doc_form T) (b_Doc_form T) (pd_sKw good ((okS_filled_beta_Alpha T).mono (by omega)) ⟨T.m_filled, T.F_filled.kp⟩ (pda_cons (pd_v 4) pda_nil) (pdk_cons (pd_v 10) (pdk_cons (pd_v 9) pdk_nil)))) (pd_callC good ((ok__law_put T 60).mono (by omega)) (c__law_put_2 T) (fun _ => .nil) (pda_cons (pd_v 3) (pda_cons (pd_disp (pdp_cons pd_str (pd_at (pd_v 5) pd_int) pdp_nil)) pda_nil))))) (pds_one (pds_ret pd_bl)) pss_nil')
      (pds_one (pds_for PassesOwn.leaving good.calm (pdi_any (pd_v 6)) (pdg_name 8 sc_law.nd)
      (pds_cons (pds_set 12 sc_law.nd (pd_tup (pda_cons (pd_callTy call_tuple_of br_tupleA T.z_tuple bt_tuple (pda_cons (pd_callC good ((ok__law_holes T 60).mono (by omega)) (c__law_holes_1 T) (fun _ => .nil) (pda_cons (pd_prop (good.mono (j := 2) (by omega)) T.D_Doc.cl T.P_Doc_form (ok_Doc_form T) (b_Doc_form T) (pd_v 8)) pda_nil)) pda_nil)) (pda_cons (pd_callC good ((ok__law_parts T 60).mono (by omega)) (c__law_parts_1 T) (fun _ => .nil) (pda_cons (pd_prop (good.mono (j := 2) (by omega)) T.D_Doc.cl T.P_Doc_form (ok_Doc_form T) (b_Doc_form T) (pd_v 8)) pda_nil)) (pda_cons (pd_callC good ((ok__law_ways T 60).mono (by omega)) (c__law_ways_1 T) (fun _ => .nil) (pda_cons (pd_prop (good.mono (j := 2) (by omega)) T.D_Doc.cl T.P_Doc_form (ok_Doc_form T) (b_Doc_form T) (pd_v 8)) pda_nil)) pda_nil)))))
      (pds_one (pds_if (pdt_cm (pdc_neO (good.mono (j := 2) (by omega)) T.D_Doc.ic T.O_Doc T.M_Doc___eq__ (ok_Doc___eq__ T) (b_Doc___eq__ T) (pd_tup (pda_cons (pd_prop (good.mono (j := 6) (by omega)) T.D_Doc.cl T.P_Doc_holes (ok_Doc_holes T) (b_Doc_holes T) (pd_v 8)) (pda_cons (pd_prop (good.mono (j := 6) (by omega)) T.D_Doc.cl T.P_Doc_parts (ok_Doc_parts T) (b_Doc_parts T) (pd_v 8)) (pda_cons (pd_tup (pda_cons (pd_prop (good.mono (j := 10) (by omega)) T.D_Doc.cl T.P_Doc_ways (ok_Doc_ways T) (b_Doc_ways T) (pd_v 8)) (pda_cons (pd_prop (good.mono (j := 10) (by omega)) T.D_Doc.cl T.P_Doc_flat_ways (ok_Doc_flat_ways T) (b_Doc_flat_ways T) (pd_v 8)) pda_nil))) pda_nil)))) (pd_v 12))) (pds_one (pds_ret pd_bl)) pss_nil'))))))))))))))))))
      (pds_cons (pds_if (pdt_cm (pdc_neO (good.mono (j := 2) (by omega)) T.D_Doc.ic T.O_Doc T.M_Doc___eq__ (ok_Doc___eq__ T) (b_Doc___eq__ T) (pd_prop (good.mono (j := 2) (by omega)) T.D_Doc.cl T.P_Doc_form (ok_Doc_form T) (b_Doc_form T) (pd_sKw good ((okS_filled_doc T).mono (by omega)) ⟨T.m_filled, T.F_filled.kp⟩ (pda_cons (pd_addO good T.O_Doc T.M_Doc___add__ ((ok_Doc___add__ T).mono (by omega)) (b_Doc___add__ T) (pd_callC good ((ok_hole T).mono (by omega)) (c_hole_1 T) (fun _ => .nil) (pda_cons pd_str pda_nil)) (pd_callC good ((ok_hole T).mono (by omega)) (c_hole_1 T) (fun _ => .nil) (pda_cons pd_str pda_nil))) pda_nil) (pdk_cons (pd_callC good ((ok_text T).mono (by omega)) (c_text_1 T) (fun _ => .nil) (pda_cons pd_str pda_nil)) pdk_nil))) (pd_tup (pda_cons pd_str (pda_cons (pd_tup (pda_cons pd_str (pda_cons pd_str pda_nil))) (pda_cons (pd_tup (pda_cons pd_str (pda_cons pd_str pda_nil))) pda_nil)))))) (pds_one (pds_ret pd_bl)) pss_nil')
      (pds_one (pds_ret (pd_cm (pdc_eqO (good.mono (j := 2) (by omega)) T.D_Doc.ic T.M_Doc___eq__ (ok_Doc___eq__ T) (b_Doc___eq__ T) (pd_prop (good.mono (j := 2) (by omega)) T.D_Doc.cl T.P_Doc_form (ok_Doc_form T) (b_Doc_form T) (pd_sKw good ((okS_filled_x T).mono (by omega)) ⟨T.m_filled, T.F_filled.kp⟩ (pda_cons (pd_callC good ((ok_hole T).mono (by omega)) (c_hole_1 T) (fun _ => .nil) (pda_cons pd_str pda_nil)) pda_nil) (pdk_cons (pd_callC good ((ok_hole T).mono (by omega)) (c_hole_1 T) (fun _ => .nil) (pda_cons pd_str pda_nil)) pdk_nil))) (pd_tup (pda_cons pd_str (pda_cons pd_str pda_nil))))))))), ?_⟩)
  · obtain ⟨d, rfl, _⟩ := h; rfl
  · rintro ds Qd ⟨ns, rfl, hn, hc, q⟩
    walk_at "w"
    have le5 : ∀ z : Int, (if z < 5 then z else 5) ≤ 5 := fun z => by split <;> omega
    have ge0 : ∀ z : Nat, 0 ≤ (if (z : Int) < 5 then (z : Int) else 5) := fun z => by split <;> omega
    have hlim : LIM = 2 ^ 60 := rfl
    refine ⟨by have := ge0 ns.length; omega, by have := le5 ns.length; omega, ?_⟩
    refine ⟨fun k ρ c => (∃ s1 s2 s3 s4 s5 s6 s7 s8 s9 s10 s11 s12 s13 s14 s15, ρ = [.fz (.scr ns), s1, s2, s3, s4, s5, s6, s7, s8, s9, s10, s11, s12, s13, s14, s15]) ∧ c0 ≤ c ∧ c ≤ c0 + 200 * k, ⟨⟨_, _, _, _, _, _, _, _, _, _, _, _, _, _, _, rfl⟩, by omega, by omega⟩, ?_, ?_⟩
    · rintro k y ρ c hy ⟨⟨s1, s2, s3, s4, s5, s6, s7, s8, s9, s10, s11, s12, s13, s14, s15, rfl⟩, b0, b1⟩
      obtain ⟨hk, rfl⟩ := upInts_get hy
      walk_at "w"
      have k5 := le5 ns.length
      refine ⟨ns, k, by rw [Int.zero_add], by omega, ?_⟩
      walk_at "w"
      refine ⟨12, rfl, by decide, by decide, by omega, fun j c2 j0 j1 l1 l2 => ?_⟩
      walk_at "w"
      obtain ⟨m, rfl⟩ : ∃ m : Nat, j = (m : Int) := ⟨j.toNat, by omega⟩
      rw [show (1 : Int) + (m : Int) = ((1 + m : Nat) : Int) by omega]
      refine sp__law_form_of (ns := ["alpha", "beta", "gamma"]) (by omega) (by omega) (by omega) ⟨by decide, fun x hx => ?_⟩ (by omega) fun f ok hp hnl hh c3 l3 l4 => ?_
      · simp only [List.mem_cons, List.not_mem_nil, or_false] at hx
        rcases hx with rfl | rfl | rfl <;> exact ⟨strSB_ok (by decide +kernel), by decide +kernel⟩
      walk_at "w"
      have nlf : f.nl ≤ 11 := by omega
      have dpf : f.dep ≤ 12 := by have := f.dep_nl; omega
      refine sp__law_doc_of ok (by omega) ?_
      walk_at "w"
      refine ⟨by decide, by decide, ?_⟩
      have e3 : (upInts 0 (Int.toNat 3)).length = 3 := rfl
      refine lc_draw (fun d => ∃ f : Fm, d = f.enc ∧ f.ok ∧ f.nl ≤ 3) 21 (by decide) (fun x hx c' h1 h2 R hR => ?_) fun l c1 hll hP h1 h2 => ?_
      · rw [e3] at h2
        walk_at "w"
        refine ⟨4, rfl, by decide, by decide, by omega, fun j c2 j0 j1 l1 l2 => ?_⟩
        walk_at "w"
        obtain ⟨m, rfl⟩ : ∃ m : Nat, j = (m : Int) := ⟨j.toNat, by omega⟩
        rw [show (1 : Int) + (m : Int) = ((1 + m : Nat) : Int) by omega]
        refine sp__law_form_of (ns := ["alpha", "beta", "x"]) (by omega) (by omega) (by omega) ⟨by decide, fun x hx => ?_⟩ (by omega) fun f ok hp hnl hh c3 l3 l4 => hR _ _ ⟨f, rfl, ok, by omega⟩ (by omega) (by omega)
        simp only [List.mem_cons, List.not_mem_nil, or_false] at hx
        rcases hx with rfl | rfl | rfl <;> exact ⟨strSB_ok (by decide +kernel), by decide +kernel⟩
      rw [e3] at hll h2
      obtain ⟨d1, d2, d3, rfl⟩ : ∃ x1 x2 x3, l = [x1, x2, x3] := by
        match l, hll with
        | [x1, x2, x3], _ => exact ⟨_, _, _, rfl⟩
      obtain ⟨f1, rfl, ok1, hp1⟩ := hP d1 (by simp)
      obtain ⟨f2, rfl, ok2, hp2⟩ := hP d2 (by simp)
      obtain ⟨f3, rfl, ok3, hp3⟩ := hP d3 (by simp)
      let F3 : List Fm := [f1, f2, f3]
      have hF : ∀ g ∈ F3, g.ok ∧ g.nl ≤ 3 := fun g hg => by
        simp only [F3, List.mem_cons, List.not_mem_nil, or_false] at hg
        rcases hg with rfl | rfl | rfl
        · exact ⟨ok1, hp1⟩
        · exact ⟨ok2, hp2⟩
        · exact ⟨ok3, hp3⟩
      walk_at "w"
      refine lc_inv (L := F3.map Fm.enc) (fun k acc => acc = (F3.take k).map (docD a)) (by simp [F3]) rfl ?_ fun acc hacc => ?_
      · rintro k x acc hx rfl _ R hR
        rw [List.getElem?_map] at hx
        cases hk : F3[k]? with
        | none => rw [hk] at hx; cases hx
        | some g =>
          rw [hk] at hx
          cases hx
          have hg := hF g (List.mem_of_getElem? hk)
          walk_at "w"
          exact sp__law_doc_of hg.1 (by have := g.dep_nl; omega) (hR _ (by rw [take_snoc hk, List.map_append]; rfl))
      rw [List.length_map, List.take_length] at hacc
      subst hacc
      simp only [F3, List.map_cons, List.map_nil, docD]
      walk_at "w"
      have off : ∀ (ks ls : List Str) (gs hs : List Fm), (∀ x : Str, x ∈ (["alpha", "beta", "gamma"] : List Str) → (x ∈ ks ↔ x ∈ ls) ∧ (x ∈ ks → look ks gs x = look ls hs x)) → f.fill ks (look ks gs) = f.fill ls (look ls hs) := fun ks ls gs hs h => Fm.fill_holes fun x hx => h x (hh x hx)
      have three : ∀ {p : Str → Prop}, p "alpha" → p "beta" → p "gamma" → ∀ x : Str, x ∈ (["alpha", "beta", "gamma"] : List Str) → p x := fun h1 h2 h3 x hx => by
        simp only [List.mem_cons, List.not_mem_nil, or_false] at hx
        rcases hx with rfl | rfl | rfl
        · exact h1
        · exact h2
        · exact h3
      refine ⟨f, [], [], rfl, rfl, List.nodup_nil, by decide, by omega, ?_⟩
      refine ⟨f, ["alpha"], [f1], rfl, rfl, by decide +kernel, by decide, by omega, ?_⟩
      refine ⟨f, ["gamma", "beta"], [f3, f2], rfl, rfl, by decide +kernel, by decide, by omega, ?_⟩
      refine ⟨f, ["alpha", "beta", "gamma"], [f1, f2, f3], rfl, rfl, by decide +kernel, by decide, by omega, ?_⟩
      refine ⟨f, ["other", "alpha"], [f1, f2], rfl, rfl, by decide +kernel, by decide, by omega, ?_⟩
      rw [off ["other", "alpha"] ["alpha"] [f1, f2] [f2] (three ⟨by decide +kernel, fun _ => by simp [look, (show ¬ ("other" : Str) = "alpha" by decide +kernel)]⟩ ⟨by decide +kernel, fun z => absurd z (by decide +kernel)⟩ ⟨by decide +kernel, fun z => absurd z (by decide +kernel)⟩)]
      refine ⟨[.inr "alpha"], rfl, nodup_inr (ks := ["alpha"]) (by decide +kernel), ?_⟩
      refine ⟨[.inr "gamma", .inr "beta"], rfl, nodup_inr (ks := ["gamma", "beta"]) (by decide +kernel), ?_⟩
      refine ⟨[.inr "alpha", .inr "beta", .inr "gamma"], rfl, nodup_inr (ks := ["alpha", "beta", "gamma"]) (by decide +kernel), ?_⟩
      refine ⟨[.inr "alpha"], rfl, nodup_inr (ks := ["alpha"]) (by decide +kernel), ?_⟩
      let R5 : List (List Str × List Fm) := [([], []), (["alpha"], [f1]), (["gamma", "beta"], [f3, f2]), (["alpha", "beta", "gamma"], [f1, f2, f3]), (["alpha"], [f2])]
      let mkF : List Str × List Fm → Fm := fun p => f.fill p.1 (look p.1 p.2)
      have hR5 : ∀ p ∈ R5, p.1.Nodup ∧ p.1.length = p.2.length ∧ ∀ g ∈ p.2, g.ok ∧ g.nl ≤ 3 := fun p hp => by
        simp only [R5, List.mem_cons, List.not_mem_nil, or_false] at hp
        have t1 := And.intro ok1 hp1; have t2 := And.intro ok2 hp2; have t3 := And.intro ok3 hp3
        rcases hp with rfl | rfl | rfl | rfl | rfl
        · exact ⟨List.nodup_nil, rfl, fun g hg => nomatch hg⟩
        · exact ⟨(by decide +kernel : (["alpha"] : List Str).Nodup), rfl, fun g hg => by rw [List.mem_singleton.mp hg]; exact t1⟩
        · exact ⟨(by decide +kernel : (["gamma", "beta"] : List Str).Nodup), rfl, fun g hg => by
            simp only [List.mem_cons, List.not_mem_nil, or_false] at hg
            rcases hg with rfl | rfl
            · exact t3
            · exact t2⟩
        · exact ⟨(by decide +kernel : (["alpha", "beta", "gamma"] : List Str).Nodup), rfl, hF⟩
        · exact ⟨(by decide +kernel : (["alpha"] : List Str).Nodup), rfl, fun g hg => by rw [List.mem_singleton.mp hg]; exact t2⟩
      have okF : ∀ (ks : List Str) (gs : List Fm), ks.length = gs.length → (∀ g ∈ gs, g.ok ∧ g.nl ≤ 3) → (f.fill ks (look ks gs)).ok ∧ (f.fill ks (look ks gs)).small := fun ks gs hl hg =>
        ⟨Fm.fill_ok (fun x hx => look_all hl (fun g h => (hg g h).1) hx) ok, Fm.fill_small (n := 3) (d := 11) (fun x hx => look_all (p := fun g => g.nl ≤ 3) hl (fun g h => (hg g h).2) hx) nlf (by decide) (by decide) (by decide)⟩
      have hM : ∀ p ∈ R5, (mkF p).ok ∧ (mkF p).small := fun p hp => okF _ _ (hR5 p hp).2.1 (hR5 p hp).2.2
      refine lc_inv (L := (R5.map mkF).map (docD a)) (fun k acc => acc = ((R5.map mkF).take k).map Fm.enc) (by simp [R5]) rfl ?_ fun acc hacc => ?_
      · rintro k x acc hx rfl _ R hR
        rw [List.getElem?_map] at hx
        cases hk : (R5.map mkF)[k]? with
        | none => rw [hk] at hx; cases hx
        | some g =>
          rw [hk] at hx
          cases hx
          simp only [docD]
          walk_at "w"
          exact ⟨g, rfl, hR _ (by rw [take_snoc hk, List.map_append]; rfl)⟩
      rw [List.length_map, List.take_length] at hacc
      subst hacc
      refine lc_inv (L := R5.map fun p => .dct (keysS p.1) (p.2.map Fm.enc)) (fun k acc => acc = ((R5.take k).map mkF).map Fm.enc) (by simp [R5]) rfl ?_ fun acc hacc => ?_
      · rintro k x acc hx rfl _ R hR
        rw [List.getElem?_map] at hx
        cases hk : R5[k]? with
        | none => rw [hk] at hx; cases hx
        | some p =>
          rw [hk] at hx
          cases hx
          obtain ⟨g1, g2, _⟩ := hR5 p (List.mem_of_getElem? hk)
          walk_at "w"
          exact sp__law_put_gs (by omega) g1 g2 (hR _ (by rw [take_snoc hk, List.map_append, List.map_append]; rfl))
      rw [List.length_map, List.take_length] at hacc
      subst hacc
      have plF : Pl 60 (.lst ((R5.map mkF).map Fm.enc)) := pl_lst fun d hd => by
        obtain ⟨g, hg, rfl⟩ := List.mem_map.mp hd
        obtain ⟨p, hp, rfl⟩ := List.mem_map.mp hg
        exact (hM p hp).2.pl9 (hM p hp).1
      refine aEqO_lst plF plF ?_
      walk_at "w"
      have eF : eqDs ((R5.map mkF).map Fm.enc) ((R5.map mkF).map Fm.enc) = true := by rw [← eqd_ll]; exact eqD_refl plF
      refine Br.f (by show (true != eqDs ((R5.map mkF).map Fm.enc) ((R5.map mkF).map Fm.enc)) = false; rw [eF]; rfl) ?_
      have smf : f.small := Fm.small_of (by omega)
      refine ⟨f, ["Title", "ninesigns", "x1", "a_b"], [f3, f2, f1, f1], rfl, rfl, by decide +kernel, by decide, by omega, ?_⟩
      have eT := (off ["Title", "ninesigns", "x1", "a_b"] [] [f3, f2, f1, f1] [] (three ⟨by decide +kernel, fun z => absurd z (by decide +kernel)⟩ ⟨by decide +kernel, fun z => absurd z (by decide +kernel)⟩ ⟨by decide +kernel, fun z => absurd z (by decide +kernel)⟩)).trans (Fm.fill_nil f)
      rw [eT]
      refine ⟨⟨_, _, rfl⟩, f, rfl, ?_⟩
      refine neE ok smf ?_
      walk_at "w"
      refine ⟨f, rfl, ?_⟩
      refine neE ok smf ?_
      walk_at "w"
      refine ⟨f, ["beta", "Alpha"], [f2, f1], rfl, rfl, by decide +kernel, by decide, by omega, ?_⟩
      rw [off ["beta", "Alpha"] ["beta"] [f2, f1] [f2] (three ⟨by decide +kernel, fun z => absurd z (by decide +kernel)⟩ ⟨by decide +kernel, fun _ => by simp [look]⟩ ⟨by decide +kernel, fun z => absurd z (by decide +kernel)⟩)]
      refine ⟨⟨_, _, rfl⟩, _, rfl, ?_⟩
      walk_at "w"
      refine ⟨[.inr "beta"], rfl, nodup_inr (ks := ["beta"]) (by decide +kernel), ?_⟩
      refine sp__law_put_gs (ks := ["beta"]) (gs := [f2]) (by omega) (by decide +kernel) rfl ?_
      obtain ⟨okb, smb⟩ := okF ["beta"] [f2] rfl (fun g hg => by rw [List.mem_singleton.mp hg]; exact ⟨ok2, hp2⟩)
      refine neE okb smb ?_
      walk_at "w"
      refine for_det (L := (R5.map mkF).map (docD a)) (fun kk ρ => ∃ s8 s12, ρ = [.fz (.scr ns), .fz (.int (0 + (k : Nat))), .fz .opq, .fz f.enc, .fz (docD a f), .fz (.lst [f1.enc, f2.enc, f3.enc]), .fz (.lst ((R5.map mkF).map (docD a))), .fz (.lst (R5.map fun p => .dct (keysS p.1) (p.2.map Fm.enc))), s8, .fz (docD a f1), .fz (docD a f2), .fz (docD a f3), s12, s13, s14, s15]) ⟨_, _, rfl⟩ ?_ ?_
      · rintro j x ρ hx ⟨s8, s12, rfl⟩
        rw [List.getElem?_map] at hx
        cases hj : (R5.map mkF)[j]? with
        | none => rw [hj] at hx; cases hx
        | some g =>
          rw [hj] at hx
          cases hx
          obtain ⟨okg, smg⟩ : g.ok ∧ g.small := by
            obtain ⟨p, hp, rfl⟩ := List.mem_map.mp (List.mem_of_getElem? hj)
            exact hM p hp
          have dg : g.dep ≤ 60 := Nat.le_trans smg.2.2 (by decide)
          have pg : g.parts ≤ 1000 := Nat.le_trans smg.1 (by decide)
          simp only [docD]
          walk_at "w"
          refine ⟨g, rfl, ?_⟩
          walk_at "w"
          refine sp__law_holes_of dg pg ?_
          walk_at "w"
          have hh := Nat.le_trans (length_sortU g.holes) g.holes_len
          refine ⟨g, rfl, ?_⟩
          walk_at "w"
          refine sp__law_parts_of dg ?_
          walk_at "w"
          refine ⟨g, rfl, ?_⟩
          walk_at "w"
          refine sp__law_ways_of dg smg ?_
          walk_at "w"
          refine ⟨g, rfl, smg, ?_⟩
          walk_at "w"
          refine ⟨g, rfl, smg, ?_⟩
          walk_at "w"
          refine ⟨g, rfl, smg, ?_⟩
          walk_at "w"
          refine ⟨g, rfl, smg, ?_⟩
          walk_at "w"
          have ph : ∀ n, Pl (n + 1) (.tup ((sortU g.holes).map D.str)) := fun n d hd => by
            obtain ⟨x, hx, rfl⟩ := List.mem_map.mp hd
            have := Fm.ok_holes okg (mem_sortU.mp hx)
            exact pl_str (by simp [this.1, this.2.2])
          have pw : ∀ n, Pl (n + 2) (wD g) := fun n => (pl_wD g).mono (by omega)
          refine ⟨pl_cons (ph 58) (pl_cons pl_int (pl_cons (pw 57) pl_nil)), pl_cons (ph 58) (pl_cons pl_int (pl_cons (pw 57) pl_nil)), ?_⟩
          rw [← eqd_tt, eqD_refl (ph 59), show eqD (.tup [.int g.bo, .int g.fl]) (wD g) = true from eqD_refl (pw 58)]
          exact Br.f rfl ⟨_, _, rfl⟩
      rintro ρ ⟨s8, s12, rfl⟩
      walk_at "w"
      exact ⟨⟨_, _, _, _, _, _, _, _, _, _, _, _, _, _, _, rfl⟩, by omega, by omega⟩
    · rintro ρ c ⟨⟨s1, s2, s3, s4, s5, s6, s7, s8, s9, s10, s11, s12, s13, s14, s15, rfl⟩, b0, b1⟩
      walk_at "w"
      have sD : strS "doc" := strSB_ok (by decide +kernel)
      have sX : strS "x" := strSB_ok (by decide +kernel)
      have sA : strS "a" := strSB_ok (by decide +kernel)
      refine ⟨"doc", rfl, sD, by decide +kernel, ?_⟩
      refine ⟨"x", rfl, sX, by decide +kernel, ?_⟩
      simp only [docD]
      walk_at "w"
      refine ⟨.hole "doc", .hole "x", rfl, ?_⟩
      refine ⟨"a", rfl, sA, ?_⟩
      refine ⟨.join (.hole "doc") (.hole "x"), ["doc"], [.text "a"], rfl, rfl, by decide +kernel, by decide, by decide, ?_⟩
      have e1 : (Fm.join (.hole "doc") (.hole "x")).fill ["doc"] (look ["doc"] [.text "a"]) = .join (.text "a") (.hole "x") := by
        simp [Fm.fill, look, (show ¬ ("doc" : Str) = "x" by decide +kernel)]
      rw [e1]
      refine ⟨⟨_, _, rfl⟩, .join (.text "a") (.hole "x"), rfl, ?_⟩
      refine neE (f := .join (.text "a") (.hole "x")) ⟨sA, sX, by decide +kernel⟩ (Fm.small_of (by decide)) ?_
      walk_at "w"
      refine ⟨"x", rfl, sX, by decide +kernel, ?_⟩
      refine ⟨"x", rfl, sX, by decide +kernel, ?_⟩
      refine ⟨.hole "x", ["x"], [.hole "x"], rfl, rfl, by decide +kernel, by decide, by decide, ?_⟩
      have e2 : (Fm.hole "x").fill ["x"] (look ["x"] [.hole "x"]) = .hole "x" := by simp [Fm.fill, look]
      rw [e2]
      refine ⟨⟨_, _, rfl⟩, .hole "x", rfl, ?_⟩
      exact eqE (f := .hole "x") ⟨sX, by decide +kernel⟩ (Fm.small_of (by decide)) (q _)
omit T in
theorem law_end (ns : List Int) (h : ns.length ≤ 63) : sp_law [.scr ns] 0 (fun d _ => d = .bl true) fun _ _ _ _ => False := ⟨ns, rfl, h, by decide, fun _ => rfl⟩
end
def dd_is_string : DefP := { ad := fun K => He.ga K "is_string", name := "is_string", qual := "is_string", params := defArgs s_is_string, body := defBody s_is_string, scope := defScope s_is_string, dfl := [], kwd := [] }
def dd_is_integer : DefP := { ad := fun K => He.ga K "is_integer", name := "is_integer", qual := "is_integer", params := defArgs s_is_integer, body := defBody s_is_integer, scope := defScope s_is_integer, dfl := [.non, .non], kwd := [] }
def dd_inner_forms : DefP := { ad := fun K => He.ga K "inner_forms", name := "inner_forms", qual := "inner_forms", params := defArgs s_inner_forms, body := defBody s_inner_forms, scope := defScope s_inner_forms, dfl := [], kwd := [] }
def dd_all_forms : DefP := { ad := fun K => He.ga K "all_forms", name := "all_forms", qual := "all_forms", params := defArgs s_all_forms, body := defBody s_all_forms, scope := defScope s_all_forms, dfl := [], kwd := [] }
def dd_own_ways : DefP := { ad := fun K => He.ga K "own_ways", name := "own_ways", qual := "own_ways", params := defArgs s_own_ways, body := defBody s_own_ways, scope := defScope s_own_ways, dfl := [], kwd := [] }
def dd_form_counts : DefP := { ad := fun K => He.ga K "form_counts", name := "form_counts", qual := "form_counts", params := defArgs s_form_counts, body := defBody s_form_counts, scope := defScope s_form_counts, dfl := [], kwd := [] }
def dd_form_ways : DefP := { ad := fun K => He.ga K "form_ways", name := "form_ways", qual := "form_ways", params := defArgs s_form_ways, body := defBody s_form_ways, scope := defScope s_form_ways, dfl := [], kwd := [] }
def dd_filled_form : DefP := { ad := fun K => He.ga K "filled_form", name := "filled_form", qual := "filled_form", params := defArgs s_filled_form, body := defBody s_filled_form, scope := defScope s_filled_form, dfl := [], kwd := [] }
def dd_is_name : DefP := { ad := fun K => He.ga K "is_name", name := "is_name", qual := "is_name", params := defArgs s_is_name, body := defBody s_is_name, scope := defScope s_is_name, dfl := [], kwd := [] }
def dd_Doc_form : DefP := { ad := fun K => pgA K "Doc" "form", name := "form", qual := "Doc.form", params := defArgs s_Doc_form, body := defBody s_Doc_form, scope := defScope s_Doc_form, dfl := [], kwd := [] }
def dd_Doc_parts : DefP := { ad := fun K => pgA K "Doc" "parts", name := "parts", qual := "Doc.parts", params := defArgs s_Doc_parts, body := defBody s_Doc_parts, scope := defScope s_Doc_parts, dfl := [], kwd := [] }
def dd_Doc_holes : DefP := { ad := fun K => pgA K "Doc" "holes", name := "holes", qual := "Doc.holes", params := defArgs s_Doc_holes, body := defBody s_Doc_holes, scope := defScope s_Doc_holes, dfl := [], kwd := [] }
def dd_Doc_ways : DefP := { ad := fun K => pgA K "Doc" "ways", name := "ways", qual := "Doc.ways", params := defArgs s_Doc_ways, body := defBody s_Doc_ways, scope := defScope s_Doc_ways, dfl := [], kwd := [] }
def dd_Doc_flat_ways : DefP := { ad := fun K => pgA K "Doc" "flat_ways", name := "flat_ways", qual := "Doc.flat_ways", params := defArgs s_Doc_flat_ways, body := defBody s_Doc_flat_ways, scope := defScope s_Doc_flat_ways, dfl := [], kwd := [] }
def dd_require_doc : DefP := { ad := fun K => He.ga K "require_doc", name := "require_doc", qual := "require_doc", params := defArgs s_require_doc, body := defBody s_require_doc, scope := defScope s_require_doc, dfl := [], kwd := [] }
def dd_Doc___add__ : DefP := { ad := fun K => He.ma K (He.ga K "Doc") "__add__", name := "__add__", qual := "Doc.__add__", params := defArgs s_Doc___add__, body := defBody s_Doc___add__, scope := defScope s_Doc___add__, dfl := [], kwd := [] }
def dd_Doc___or__ : DefP := { ad := fun K => He.ma K (He.ga K "Doc") "__or__", name := "__or__", qual := "Doc.__or__", params := defArgs s_Doc___or__, body := defBody s_Doc___or__, scope := defScope s_Doc___or__, dfl := [], kwd := [] }
def dd_Doc___eq__ : DefP := { ad := fun K => He.ma K (He.ga K "Doc") "__eq__", name := "__eq__", qual := "Doc.__eq__", params := defArgs s_Doc___eq__, body := defBody s_Doc___eq__, scope := defScope s_Doc___eq__, dfl := [], kwd := [] }
def dd_Doc_nested : DefP := { ad := fun K => He.ma K (He.ga K "Doc") "nested", name := "nested", qual := "Doc.nested", params := defArgs s_Doc_nested, body := defBody s_Doc_nested, scope := defScope s_Doc_nested, dfl := [], kwd := [] }
def dd_Doc_group : DefP := { ad := fun K => He.ma K (He.ga K "Doc") "group", name := "group", qual := "Doc.group", params := defArgs s_Doc_group, body := defBody s_Doc_group, scope := defScope s_Doc_group, dfl := [], kwd := [] }
def dd_Doc_flattened : DefP := { ad := fun K => He.ma K (He.ga K "Doc") "flattened", name := "flattened", qual := "Doc.flattened", params := defArgs s_Doc_flattened, body := defBody s_Doc_flattened, scope := defScope s_Doc_flattened, dfl := [], kwd := [] }
def dd_text : DefP := { ad := fun K => He.ga K "text", name := "text", qual := "text", params := defArgs s_text, body := defBody s_text, scope := defScope s_text, dfl := [.str ""], kwd := [] }
def dd_line : DefP := { ad := fun K => He.ga K "line", name := "line", qual := "line", params := defArgs s_line, body := defBody s_line, scope := defScope s_line, dfl := [.str " "], kwd := [] }
def dd_hole : DefP := { ad := fun K => He.ga K "hole", name := "hole", qual := "hole", params := defArgs s_hole, body := defBody s_hole, scope := defScope s_hole, dfl := [], kwd := [] }
def dd_filled : DefP := { ad := fun K => He.ga K "filled", name := "filled", qual := "filled", params := defArgs s_filled, body := defBody s_filled, scope := defScope s_filled, dfl := [], kwd := [] }
def dd__law_at : DefP := { ad := fun K => He.ga K "_law_at", name := "_law_at", qual := "_law_at", params := defArgs s__law_at, body := defBody s__law_at, scope := defScope s__law_at, dfl := [], kwd := [] }
def dd__law_mixed : DefP := { ad := fun K => He.ga K "_law_mixed", name := "_law_mixed", qual := "_law_mixed", params := defArgs s__law_mixed, body := defBody s__law_mixed, scope := defScope s__law_mixed, dfl := [], kwd := [] }
def dd__law_purse : DefP := { ad := fun K => He.ga K "_law_purse", name := "_law_purse", qual := "_law_purse", params := defArgs s__law_purse, body := defBody s__law_purse, scope := defScope s__law_purse, dfl := [], kwd := [] }
def dd__law_draw : DefP := { ad := fun K => He.ga K "_law_draw", name := "_law_draw", qual := "_law_draw", params := defArgs s__law_draw, body := defBody s__law_draw, scope := defScope s__law_draw, dfl := [], kwd := [] }
def dd__law_inner : DefP := { ad := fun K => He.ga K "_law_inner", name := "_law_inner", qual := "_law_inner", params := defArgs s__law_inner, body := defBody s__law_inner, scope := defScope s__law_inner, dfl := [], kwd := [] }
def dd__law_ways : DefP := { ad := fun K => He.ga K "_law_ways", name := "_law_ways", qual := "_law_ways", params := defArgs s__law_ways, body := defBody s__law_ways, scope := defScope s__law_ways, dfl := [], kwd := [] }
def dd__law_leaf : DefP := { ad := fun K => He.ga K "_law_leaf", name := "_law_leaf", qual := "_law_leaf", params := defArgs s__law_leaf, body := defBody s__law_leaf, scope := defScope s__law_leaf, dfl := [], kwd := [] }
def dd__law_form : DefP := { ad := fun K => He.ga K "_law_form", name := "_law_form", qual := "_law_form", params := defArgs s__law_form, body := defBody s__law_form, scope := defScope s__law_form, dfl := [], kwd := [] }
def dd__law_doc : DefP := { ad := fun K => He.ga K "_law_doc", name := "_law_doc", qual := "_law_doc", params := defArgs s__law_doc, body := defBody s__law_doc, scope := defScope s__law_doc, dfl := [], kwd := [] }
def dd__law_parts : DefP := { ad := fun K => He.ga K "_law_parts", name := "_law_parts", qual := "_law_parts", params := defArgs s__law_parts, body := defBody s__law_parts, scope := defScope s__law_parts, dfl := [], kwd := [] }
def dd__law_holes : DefP := { ad := fun K => He.ga K "_law_holes", name := "_law_holes", qual := "_law_holes", params := defArgs s__law_holes, body := defBody s__law_holes, scope := defScope s__law_holes, dfl := [], kwd := [] }
def dd__law_put : DefP := { ad := fun K => He.ga K "_law_put", name := "_law_put", qual := "_law_put", params := defArgs s__law_put, body := defBody s__law_put, scope := defScope s__law_put, dfl := [], kwd := [] }
def dd_law : DefP := { ad := fun K => He.ga K "law", name := "law", qual := "law", params := defArgs s_law, body := defBody s_law, scope := defScope s_law, dfl := [], kwd := [] }
def dd_init_Doc : DefP := { ad := fun K => He.ma K (He.ga K "Doc") "__init__", name := "__init__", qual := "Doc.__init__", params := defArgs si_Doc, body := defBody si_Doc, scope := defScope si_Doc, dfl := [], kwd := [] }
def dd_init_InvalidName : DefP := { ad := fun K => He.ma K (He.ga K "InvalidName") "__init__", name := "__init__", qual := "InvalidName.__init__", params := defArgs si_InvalidName, body := defBody si_InvalidName, scope := defScope si_InvalidName, dfl := [.non], kwd := [] }
def dd_init_InvalidSteps : DefP := { ad := fun K => He.ma K (He.ga K "InvalidSteps") "__init__", name := "__init__", qual := "InvalidSteps.__init__", params := defArgs si_InvalidSteps, body := defBody si_InvalidSteps, scope := defScope si_InvalidSteps, dfl := [.non], kwd := [] }
def dd_init_InvalidText : DefP := { ad := fun K => He.ma K (He.ga K "InvalidText") "__init__", name := "__init__", qual := "InvalidText.__init__", params := defArgs si_InvalidText, body := defBody si_InvalidText, scope := defScope si_InvalidText, dfl := [.non], kwd := [] }
def dd_init_NotADocument : DefP := { ad := fun K => He.ma K (He.ga K "NotADocument") "__init__", name := "__init__", qual := "NotADocument.__init__", params := defArgs si_NotADocument, body := defBody si_NotADocument, scope := defScope si_NotADocument, dfl := [.non], kwd := [] }
def fn : List DefP := [dd_is_string, dd_is_integer, dd_inner_forms, dd_all_forms, dd_own_ways, dd_form_counts, dd_form_ways, dd_filled_form, dd_is_name, dd_Doc_form, dd_Doc_parts, dd_Doc_holes, dd_Doc_ways, dd_Doc_flat_ways, dd_require_doc, dd_Doc___add__, dd_Doc___or__, dd_Doc___eq__, dd_Doc_nested, dd_Doc_group, dd_Doc_flattened, dd_text, dd_line, dd_hole, dd_filled, dd__law_at, dd__law_mixed, dd__law_purse, dd__law_draw, dd__law_inner, dd__law_ways, dd__law_leaf, dd__law_form, dd__law_doc, dd__law_parts, dd__law_holes, dd__law_put, dd_law, dd_init_Doc, dd_init_InvalidName, dd_init_InvalidSteps, dd_init_InvalidText, dd_init_NotADocument]
def exl : Looks' := [fun K => (He.Fa.glo "InvalidText").ok K,
  fun K => (He.Fa.glo "InvalidSteps").ok K,
  fun K => (He.Fa.glo "InvalidName").ok K,
  fun K => (He.Fa.glo "NotADocument").ok K,
  fun K => (He.Fa.glo "Doc").ok K,
  fun K => xclsB K "string" (He.ga K "InvalidText") (He.ma K (He.ga K "InvalidText") "__init__"),
  fun K => xclsB K "steps" (He.ga K "InvalidSteps") (He.ma K (He.ga K "InvalidSteps") "__init__"),
  fun K => xclsB K "name" (He.ga K "InvalidName") (He.ma K (He.ga K "InvalidName") "__init__"),
  fun K => xclsB K "thing" (He.ga K "NotADocument") (He.ma K (He.ga K "NotADocument") "__init__"),
  fun K => dclsB K "Doc" "shape",
  fun K => opsB K "Doc",
  fun K => nfB K "Doc",
  fun K => ktB K "Doc",
  fun K => kxB K "InvalidText" "Doc" false,
  fun K => kxB K "InvalidSteps" "Doc" false,
  fun K => kxB K "InvalidName" "Doc" false,
  fun K => kxB K "NotADocument" "Doc" false,
  fun K => kxB K "Doc" "Doc" true,
  fun K => (He.Fa.free "all").ok K,
  fun K => (He.Fa.free "bool").ok K,
  fun K => (He.Fa.free "int").ok K,
  fun K => (He.Fa.free "isinstance").ok K,
  fun K => (He.Fa.free "len").ok K,
  fun K => (He.Fa.free "list").ok K,
  fun K => (He.Fa.free "max").ok K,
  fun K => (He.Fa.free "min").ok K,
  fun K => (He.Fa.free "range").ok K,
  fun K => (He.Fa.free "set").ok K,
  fun K => (He.Fa.free "sorted").ok K,
  fun K => (He.Fa.free "str").ok K,
  fun K => (He.Fa.free "sum").ok K,
  fun K => (He.Fa.free "tuple").ok K,
  fun K => (He.Fa.str "LETTERS" "abcdefghijklmnopqrstuvwxyz").ok K,
  fun K => (He.Fa.int "MOST_LETTERS" 8).ok K,
  fun K => (He.Fa.int "MOST_STEPS" 40).ok K,
  fun K => (He.Fa.glo "is_string").ok K,
  fun K => (He.Fa.glo "is_integer").ok K,
  fun K => (He.Fa.glo "inner_forms").ok K,
  fun K => (He.Fa.glo "all_forms").ok K,
  fun K => (He.Fa.glo "own_ways").ok K,
  fun K => (He.Fa.glo "form_counts").ok K,
  fun K => (He.Fa.glo "form_ways").ok K,
  fun K => (He.Fa.glo "filled_form").ok K,
  fun K => (He.Fa.glo "is_name").ok K,
  fun K => propB K "Doc" "form",
  fun K => propB K "Doc" "parts",
  fun K => propB K "Doc" "holes",
  fun K => propB K "Doc" "ways",
  fun K => propB K "Doc" "flat_ways",
  fun K => (He.Fa.glo "require_doc").ok K,
  fun K => (He.Fa.meth "Doc" "__add__").ok K,
  fun K => (He.Fa.meth "Doc" "__or__").ok K,
  fun K => (He.Fa.meth "Doc" "__eq__").ok K,
  fun K => (He.Fa.meth "Doc" "nested").ok K,
  fun K => (He.Fa.meth "Doc" "group").ok K,
  fun K => (He.Fa.meth "Doc" "flattened").ok K,
  fun K => (He.Fa.glo "text").ok K,
  fun K => (He.Fa.glo "line").ok K,
  fun K => (He.Fa.glo "hole").ok K,
  fun K => (He.Fa.glo "filled").ok K,
  fun K => (He.Fa.glo "_law_at").ok K,
  fun K => (He.Fa.glo "_law_mixed").ok K,
  fun K => (He.Fa.glo "_law_purse").ok K,
  fun K => (He.Fa.glo "_law_draw").ok K,
  fun K => (He.Fa.glo "_law_inner").ok K,
  fun K => (He.Fa.glo "_law_ways").ok K,
  fun K => (He.Fa.glo "_law_leaf").ok K,
  fun K => (He.Fa.glo "_law_form").ok K,
  fun K => (He.Fa.glo "_law_doc").ok K,
  fun K => (He.Fa.glo "_law_parts").ok K,
  fun K => (He.Fa.glo "_law_holes").ok K,
  fun K => (He.Fa.glo "_law_put").ok K,
  fun K => (He.Fa.glo "law").ok K]
abbrev R : PySem.W.OpenRow := PySem.W.OpenLaw.row PySem.Challenge.rw_layoutsets_k04_holes_filled
abbrev hk : PySem.W.Hook := hookP 6 fn exl
def ob (s : PySem.W.SharedT) : AlP := obsPG 6 fn exl (HandSHeadRun.getT s)
theorem ob_eq (s : PySem.W.SharedT) : ob s = hk.obs s.abs := obsPG_eq (HandSHeadRun.getT_eq s)
def loose : List PySem.Str := (["LayoutError", "InvalidText", "InvalidSteps", "InvalidName", "NotADocument", "is_string", "is_integer", "is_name", "inner_forms", "all_forms", "own_ways", "form_counts", "form_ways", "filled_form", "Doc", "require_doc", "text", "line", "hole", "filled", "_law_at", "_law_mixed", "_law_purse", "_law_draw", "_law_inner"] : List PySem.Str) ++ (["_law_ways", "_law_leaf", "_law_form", "_law_small", "_law_doc", "_law_put", "_law_parts", "_law_holes", "LETTERS", "MOST_LETTERS", "MOST_STEPS"] : List PySem.Str)
theorem run (w : World) : HandSHeadRun.RunEq R (PySem.W.view R.prog [39]) hk ob 6000 loose w := by
  intro os
  kernel_rfl
theorem facts {P : Program} {w : World} {K : PySem.W.Frag} {h : Heap} {mg : Str → Option Value} {f : Addr} (X : K.In h) (G : h.Ns mainGlobals mg) (hfa : mg ("law" : Str) = some (.ref f)) (c : SaysP fn exl K) :
    ∃ fd : FuncData, (∀ (s : Shared) (v : Value), BindsTo s fd ⟨[v], []⟩ [("_law_script", v)]) ∧ ∀ base : Heap, K.In base → base.Ns mainGlobals mg → FnOk P w K mg base (L2.CX P w) 69 f fd ["_law_script"] (spOf K sp_law) := by
  obtain ⟨d0, F0⟩ := c.def_ 0 (d := dd_is_string) rfl
  obtain ⟨d1, F1⟩ := c.def_ 1 (d := dd_is_integer) rfl
  obtain ⟨d2, F2⟩ := c.def_ 2 (d := dd_inner_forms) rfl
  obtain ⟨d3, F3⟩ := c.def_ 3 (d := dd_all_forms) rfl
  obtain ⟨d4, F4⟩ := c.def_ 4 (d := dd_own_ways) rfl
  obtain ⟨d5, F5⟩ := c.def_ 5 (d := dd_form_counts) rfl
  obtain ⟨d6, F6⟩ := c.def_ 6 (d := dd_form_ways) rfl
  obtain ⟨d7, F7⟩ := c.def_ 7 (d := dd_filled_form) rfl
  obtain ⟨d8, F8⟩ := c.def_ 8 (d := dd_is_name) rfl
  obtain ⟨d9, F9⟩ := c.def_ 9 (d := dd_Doc_form) rfl
  obtain ⟨d10, F10⟩ := c.def_ 10 (d := dd_Doc_parts) rfl
  obtain ⟨d11, F11⟩ := c.def_ 11 (d := dd_Doc_holes) rfl
  obtain ⟨d12, F12⟩ := c.def_ 12 (d := dd_Doc_ways) rfl
  obtain ⟨d13, F13⟩ := c.def_ 13 (d := dd_Doc_flat_ways) rfl
  obtain ⟨d14, F14⟩ := c.def_ 14 (d := dd_require_doc) rfl
  obtain ⟨d15, F15⟩ := c.def_ 15 (d := dd_Doc___add__) rfl
  obtain ⟨d16, F16⟩ := c.def_ 16 (d := dd_Doc___or__) rfl
  obtain ⟨d17, F17⟩ := c.def_ 17 (d := dd_Doc___eq__) rfl
  obtain ⟨d18, F18⟩ := c.def_ 18 (d := dd_Doc_nested) rfl
  obtain ⟨d19, F19⟩ := c.def_ 19 (d := dd_Doc_group) rfl
  obtain ⟨d20, F20⟩ := c.def_ 20 (d := dd_Doc_flattened) rfl
  obtain ⟨d21, F21⟩ := c.def_ 21 (d := dd_text) rfl
  obtain ⟨d22, F22⟩ := c.def_ 22 (d := dd_line) rfl
  obtain ⟨d23, F23⟩ := c.def_ 23 (d := dd_hole) rfl
  obtain ⟨d24, F24⟩ := c.def_ 24 (d := dd_filled) rfl
  obtain ⟨d25, F25⟩ := c.def_ 25 (d := dd__law_at) rfl
  obtain ⟨d26, F26⟩ := c.def_ 26 (d := dd__law_mixed) rfl
  obtain ⟨d27, F27⟩ := c.def_ 27 (d := dd__law_purse) rfl
  obtain ⟨d28, F28⟩ := c.def_ 28 (d := dd__law_draw) rfl
  obtain ⟨d29, F29⟩ := c.def_ 29 (d := dd__law_inner) rfl
  obtain ⟨d30, F30⟩ := c.def_ 30 (d := dd__law_ways) rfl
  obtain ⟨d31, F31⟩ := c.def_ 31 (d := dd__law_leaf) rfl
  obtain ⟨d32, F32⟩ := c.def_ 32 (d := dd__law_form) rfl
  obtain ⟨d33, F33⟩ := c.def_ 33 (d := dd__law_doc) rfl
  obtain ⟨d34, F34⟩ := c.def_ 34 (d := dd__law_parts) rfl
  obtain ⟨d35, F35⟩ := c.def_ 35 (d := dd__law_holes) rfl
  obtain ⟨d36, F36⟩ := c.def_ 36 (d := dd__law_put) rfl
  obtain ⟨d37, F37⟩ := c.def_ 37 (d := dd_law) rfl
  obtain ⟨d38, F38⟩ := c.def_ 38 (d := dd_init_Doc) rfl
  obtain ⟨d39, F39⟩ := c.def_ 39 (d := dd_init_InvalidName) rfl
  obtain ⟨d40, F40⟩ := c.def_ 40 (d := dd_init_InvalidSteps) rfl
  obtain ⟨d41, F41⟩ := c.def_ 41 (d := dd_init_InvalidText) rfl
  obtain ⟨d42, F42⟩ := c.def_ 42 (d := dd_init_NotADocument) rfl
  have e := hfa.symm.trans (He.glo_ok X G (x := "law") (c.look 72 rfl))
  cases e
  have b := FunD.bindsA (ps := ["_law_script"]) F37 fun _ _ _ _ _ _ us hl => match us, hl with | [_], _ => rfl
  have T : Txt K mg ⟨He.ga K "InvalidText", He.ga K "InvalidSteps", He.ga K "InvalidName", He.ga K "NotADocument", He.ga K "Doc", He.ma K (He.ga K "InvalidText") "__init__", He.ma K (He.ga K "InvalidSteps") "__init__", He.ma K (He.ga K "InvalidName") "__init__", He.ma K (He.ga K "NotADocument") "__init__", He.ma K (He.ga K "Doc") "__init__", He.ga K "is_string", He.ga K "is_integer", He.ga K "inner_forms", He.ga K "all_forms", He.ga K "own_ways", He.ga K "form_counts", He.ga K "form_ways", He.ga K "filled_form", He.ga K "is_name", ppA K "Doc" "form", pgA K "Doc" "form", ppA K "Doc" "parts", pgA K "Doc" "parts", ppA K "Doc" "holes", pgA K "Doc" "holes", ppA K "Doc" "ways", pgA K "Doc" "ways", ppA K "Doc" "flat_ways", pgA K "Doc" "flat_ways", He.ga K "require_doc", He.ma K (He.ga K "Doc") "__add__", He.ma K (He.ga K "Doc") "__or__", He.ma K (He.ga K "Doc") "__eq__", He.ma K (He.ga K "Doc") "nested", He.ma K (He.ga K "Doc") "group", He.ma K (He.ga K "Doc") "flattened", He.ga K "text", He.ga K "line", He.ga K "hole", He.ga K "filled", He.ga K "_law_at", He.ga K "_law_mixed", He.ga K "_law_purse", He.ga K "_law_draw", He.ga K "_law_inner", He.ga K "_law_ways", He.ga K "_law_leaf", He.ga K "_law_form", He.ga K "_law_doc", He.ga K "_law_parts", He.ga K "_law_holes", He.ga K "_law_put", He.ga K "law", d0, d1, d2, d3, d4, d5, d6, d7, d8, d9, d10, d11, d12, d13, d14, d15, d16, d17, d18, d19, d20, d21, d22, d23, d24, d25, d26, d27, d28, d29, d30, d31, d32, d33, d34, d35, d36, d37, d38, d39, d40, d41, d42⟩ := ⟨He.glo_ok X G (c.look 0 rfl), He.glo_ok X G (c.look 1 rfl), He.glo_ok X G (c.look 2 rfl), He.glo_ok X G (c.look 3 rfl), He.glo_ok X G (c.look 4 rfl), xclsB_ok (He.glo_ok X G (c.look 0 rfl)) (c.look 5 rfl), xclsB_ok (He.glo_ok X G (c.look 1 rfl)) (c.look 6 rfl), xclsB_ok (He.glo_ok X G (c.look 2 rfl)) (c.look 7 rfl), xclsB_ok (He.glo_ok X G (c.look 3 rfl)) (c.look 8 rfl), dclsB_ok X G (c.look 9 rfl), opsB_ok (c.look 10 rfl), nfB_ok (c.look 11 rfl), ktB_ok (c.look 12 rfl), kxB_ok (c.look 13 rfl), kxB_ok (c.look 14 rfl), kxB_ok (c.look 15 rfl), kxB_ok (c.look 16 rfl), kxB_ok (c.look 17 rfl), He.free_ok X G (c.look 18 rfl), He.free_ok X G (c.look 19 rfl), He.free_ok X G (c.look 20 rfl), He.free_ok X G (c.look 21 rfl), He.free_ok X G (c.look 22 rfl), He.free_ok X G (c.look 23 rfl), He.free_ok X G (c.look 24 rfl), He.free_ok X G (c.look 25 rfl), He.free_ok X G (c.look 26 rfl), He.free_ok X G (c.look 27 rfl), He.free_ok X G (c.look 28 rfl), He.free_ok X G (c.look 29 rfl), He.free_ok X G (c.look 30 rfl), He.free_ok X G (c.look 31 rfl), He.str_ok X G (c.look 32 rfl), He.int_ok X G (c.look 33 rfl), He.int_ok X G (c.look 34 rfl), He.glo_ok X G (c.look 35 rfl), He.glo_ok X G (c.look 36 rfl), He.glo_ok X G (c.look 37 rfl), He.glo_ok X G (c.look 38 rfl), He.glo_ok X G (c.look 39 rfl), He.glo_ok X G (c.look 40 rfl), He.glo_ok X G (c.look 41 rfl), He.glo_ok X G (c.look 42 rfl), He.glo_ok X G (c.look 43 rfl), propB_ok (c.look 44 rfl), propB_ok (c.look 45 rfl), propB_ok (c.look 46 rfl), propB_ok (c.look 47 rfl), propB_ok (c.look 48 rfl), He.glo_ok X G (c.look 49 rfl), He.meth_ok (c.look 50 rfl), He.meth_ok (c.look 51 rfl), He.meth_ok (c.look 52 rfl), He.meth_ok (c.look 53 rfl), He.meth_ok (c.look 54 rfl), He.meth_ok (c.look 55 rfl), He.glo_ok X G (c.look 56 rfl), He.glo_ok X G (c.look 57 rfl), He.glo_ok X G (c.look 58 rfl), He.glo_ok X G (c.look 59 rfl), He.glo_ok X G (c.look 60 rfl), He.glo_ok X G (c.look 61 rfl), He.glo_ok X G (c.look 62 rfl), He.glo_ok X G (c.look 63 rfl), He.glo_ok X G (c.look 64 rfl), He.glo_ok X G (c.look 65 rfl), He.glo_ok X G (c.look 66 rfl), He.glo_ok X G (c.look 67 rfl), He.glo_ok X G (c.look 68 rfl), He.glo_ok X G (c.look 69 rfl), He.glo_ok X G (c.look 70 rfl), He.glo_ok X G (c.look 71 rfl), He.glo_ok X G (c.look 72 rfl), F0, F1, F2, F3, F4, F5, F6, F7, F8, F9, F10, F11, F12, F13, F14, F15, F16, F17, F18, F19, F20, F21, F22, F23, F24, F25, F26, F27, F28, F29, F30, F31, F32, F33, F34, F35, F36, F37, F38, F39, F40, F41, F42⟩
  exact ⟨d37, fun s v => b s [v] rfl, fun base _ _ => ok_law T⟩
end K04
open PySem PySem.W PySem.Calls PyProof.Rows
set_option maxRecDepth 100000 in
set_option maxHeartbeats 0 in
theorem PySem.Challenge.cw_layoutsets_k04_holes_filled_holds : PySem.Challenge.rw_layoutsets_k04_holes_filled.Holds := by
  w_on; o_law
  refine HandSHeadRun.head_any (r := OpenLaw.row PySem.Challenge.rw_layoutsets_k04_holes_filled) (q := view (OpenLaw.row PySem.Challenge.rw_layoutsets_k04_holes_filled).prog [39]) (H := K04.hk) (ob := K04.ob) (M := 6000) (loose := K04.loose) (d := HandSHeadRun.topDef (OpenLaw.row PySem.Challenge.rw_layoutsets_k04_holes_filled).prog 39) (kwd := []) K04.ob_eq
    (by kernel_rfl) (fun s => by kernel_rfl) K04.run (by kernel_rfl) (by kernel_rfl) (by kernel_rfl) (by rfl) (by first | assumption | decide +kernel) (by decide +kernel) ⟨rfl, rfl, rfl, rfl, rfl, by decide +kernel⟩ ?hw ?hc
  case hw => w_witness2
  case hc =>
    refine PL.walk_at_world (l := PySem.Challenge.rw_layoutsets_k04_holes_filled) (n := 63) (k := 69) (x := "_law_script") rfl (by decide) (by kernel_rfl) ⟨rfl, by decide, by decide⟩ ?F
    intro w mg fa h Y G hmg0
    obtain ⟨K, KX, c⟩ := Y
    have hmg : mg ("law" : PySem.Str) = some (.ref fa) := by
      have e : (HandSHeadRun.topDef (OpenLaw.row PySem.Challenge.rw_layoutsets_k04_holes_filled).prog 39).name = ("law" : PySem.Str) := by kernel_rfl
      rw [← e]
      exact hmg0
    obtain ⟨fd, hb, hF⟩ := K04.facts (P := (PySem.Challenge.rw_layoutsets_k04_holes_filled).prog) (w := w) KX G hmg c
    exact ⟨K, fd, K04.sp_law, KX, hb, K04.law_end, hF⟩


