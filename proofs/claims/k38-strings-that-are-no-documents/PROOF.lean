import PyProof.Rows.All
import Wide.All
import OpenK.AllK
import Wide.FinOn
import HandS.Base
import HandS.TupSets
import HandS.SetBool
import HandS.Call
import HandS.List
import HandS.Words
import HandS.Comp
import HandS.Iter
import HandS.Exc
import HandS.Defaults
import HandS.WordsExc
import HandS.IsInst
import HandS.ExcOwn
import HandS.TupAny
import HandS.Text
import HandS.Dict
import PyProof.Rows.RuleB_pow
import KE.GoesMore
import KE.GoesEnum
import HandS.Ends
import HandS.HeadEnd
import HandS.Head0
import HandS.Head1
import HandS.Head2
import HandS.HeadHook1
import HandS.HeadHook2
import HandS.ExcField
import HandS.ExcInit
import HandS.ExcIs
import HandS.WideBits
import HandS.TupMul
import HandS.Deep
import PyProof.StrBlock2
import PyProof.InstNe
import PyProof.Rows.PlainNe
import HandS.Property
import HandS.SlotsOwn
import HandS.MakeKw
import HandS.Style
import HandS.NoneIn
import HandS.Set
import HandS.Strs
import PyProof.Rows.SortShellAny
import HandS.SetFor
import PyProof.Rows.StrMeet
import HandS.Zip
import HandS.Conv
import HandS.HeadHook3
import HandS.Star
import KE.KParD
import PyProof.SeqInW
import PyProof.EqAt
import PyProof.EqKinds
import PyProof.DictKinds
import KE.LtSeq
import HandS.SortOrd
import KE.DataMinMax
import HandS.SortKw
import PyProof.WalksMore
import PyProof.WalkInts
import PyProof.Rows.RegReprOcc
import KE.KStar
import KE.KTab
import HandS.MakeKwOnly
import OpenK.KOps
import OpenK.KMeth
import HandS.OwnEq
import HandS.More
import KE.KEqDict
import HandS.ClsMeth
import PyProof.ExcBaseAll.ValueError
import HandS.GenCall
import HandS.GenList
import KE.KOpsOwn
import HandS.Flow
import PyProof.SeqI3
import HandS.SortInts
import HandS.DictComp
import HandS.Replace
import HandS.FStr
import PyProof.StrLawsReplace
import HandS.ExcValue
import HandS.ExcBuiltin
import PyProof.ExcAttrAll.ValueError
import KE.KExcIs
import PyProof.DictUpdate
import PyProof.ZipIter
import PyProof.ReprRoads
import PyProof.ReprLen
import PyProof.StrLawsRepr
import PyProof.FitsInt
import PySem.Challenge.RW_layoutsets_k38_strings_that_are_no_docum
set_option Elab.async false
set_option linter.all false
set_option maxRecDepth 100000
set_option checkBinderAnnotations false
namespace PLt
open PySem PySem.Spec PyProof.Rows L2
def MaskG (m : Nat) : Prop := ∃ k, 3 ≤ k ∧ m + 1 = 2 ^ k
structure TabG (t : SetTable) (vs : List Int) : Prop where
  up : Ris t.place.toList
  nod : t.dummies = #[]
  ln : t.place.size = vs.length
  mg : MaskG t.mask
  le : ∀ q ∈ t.place.toList, q ≤ t.mask
  met : ∀ (n : Nat) (v : Int) (q : Nat), vs[n]? = some v → t.place.toList[n]? = some q → ∃ k, way t.mask v k = q ∧ ∀ c, c < k → way t.mask v c ∈ t.place.toList
inductive KD where
  | i (n : Int) | s (x : Str) | t (l : List KD)
mutual
def dpt : KD → Nat
  | .i _ => 0
  | .s _ => 0
  | .t l => 1 + dpts l
def dpts : List KD → Nat
  | [] => 0
  | k :: l => max (dpt k) (dpts l)
end
mutual
def hashK (w : World) : KD → Int
  | .i n => hashInt n
  | .s x => hashStr w x
  | .t l => reduceHash (Builtin.Tuple.tupleHashOf (hashKs w l))
def hashKs (w : World) : List KD → List Int
  | [] => []
  | k :: l => hashK w k :: hashKs w l
end
def rowsW (w : World) (L : List (Addr × List KD)) : List (Int × Value) := L.map fun p => (hashK w (.t p.2), Value.ref p.1)
def SetW (w : World) (h : Heap) (a : Addr) (L : List (Addr × List KD)) : Prop := ∃ (es : Array (Int × Value)) (ep : Nat) (t : SetTable), (∃ o, h.get? a = some o ∧ o.ExactSet ∧ o.data = .set es ep t) ∧ es.toList = rowsW w L ∧
  TabG t (L.map fun p => hashK w (.t p.2)) ∧ (L.map (·.2)).Nodup ∧ (w.params.followText "set-order" = true ∨ t.led = true) ∧ L.length * 5 < t.mask * 3 ∧ L.length ≤ 9000
def SKW (w : World) (a : Addr) (L : List (Addr × List KD)) : HO := .ext fun h => SetW w h a L
mutual
inductive KH (K : W.Frag) (H : Hp) : KD → V → Prop
  | i (n : Int) : KH K H (.i n) (.int n)
  | s (x : Str) : KH K H (.s x) (.str x)
  | t {a : Addr} {xs : List V} {l : List KD} : SqT K H a xs → KHs K H l xs → KH K H (.t l) (.ref a)
inductive KHs (K : W.Frag) (H : Hp) : List KD → List V → Prop
  | nil : KHs K H [] []
  | cons {k : KD} {v : V} {l : List KD} {vs : List V} : KH K H k v → KHs K H l vs → KHs K H (k :: l) (v :: vs)
end
inductive NumV : V → Int → Prop
  | i (n : Int) : NumV (.int n) n
  | b (k : Bool) : NumV (.bl k) (if k then 1 else 0)
abbrev NumsV : List V → List Int → Prop := Paired NumV
def entryN (x : List Int × Addr × Value) : DictEntry := ⟨reduceHash (Builtin.Tuple.tupleHashOf (x.1.map hashInt)), .ref x.2.1, x.2.2⟩
def TabW (h : Heap) (a : Addr) (xs : List (List Int × Addr × Value)) : Prop := ∃ (o : Obj) (es : Array DictEntry) (ep : Nat), h.get? a = some o ∧ o.ExactDict ∧ o.data = .dict es ep ∧ es.toList = xs.map entryN ∧ (xs.map (·.1)).Nodup
abbrev TabR : List (List Int × Addr × V) → List (List Int × Addr × Value) → Prop := Paired fun p q => p.1 = q.1 ∧ p.2.1 = q.2.1 ∧ RelV p.2.2 q.2.2
def TabO (a : Addr) (L : List (List Int × Addr × V)) : HO := .ext fun h => L.length ≤ sizeLine ∧ (a == sysModules) = false ∧ ∃ xs, TabR L xs ∧ TabW h a xs
def KeyN (K : W.Frag) (H : Hp) (k : List Int) (b : Addr) : Prop := ∃ xs, SqT K H b xs ∧ NumsV xs k
end PLt
namespace PL
open PySem PySem.Spec PyProof.Rows L2
inductive D where
  | non | bl (b : Bool) | int (i : Int) | str (x : Str) | ty (n : String) | cls (C : Addr)
  | tup (l : List D) | lst (l : List D)
  | scr (ns : List Int)
  | dct (ks : List Key) (l : List D)
  | ins (C : Addr) (ns : List Str) (l : List D)
  | exc (C : Addr) (ns : List Str) (l : List D)
  | opq
  | set (w : World) (ks : List PLt.KD)
  | mo (a : Addr)
inductive MO where
  | ins (C : Addr) (ns : List Str) (l : List D)
  | lst (l : List D)
  | dct (ks : List Key) (l : List D)
  | tab (ks : List (List Int)) (l : List D)
structure CN where
  n : Nat
  m : Addr → Option MO
instance : OfNat CN 0 := ⟨⟨0, fun _ => none⟩⟩
def CN.at (c : CN) (n : Nat) : CN := { c with n := n }
def CN.put (c : CN) (a : Addr) (o : MO) : CN := { c with m := fun b => if b = a then some o else c.m b }
def exT (C a : Addr) (d : Option Addr) : HO := .ext fun h => ∃ (oe : Obj) (vs : Array Value), h.get? a = some oe ∧ oe.cls = .ref C ∧ oe.dict = d ∧ oe.data = .fields vs
structure GS (K : PySem.W.Frag) where
  f : Hp
  /-- addresses that change: purses and objects -/
  pu : Addr → Prop
  /-- purses -/
  pp : Addr → Prop
mutual
def kdD : PLt.KD → D
  | .i n => .int n
  | .s x => .str x
  | .t l => .tup (kdDs l)
def kdDs : List PLt.KD → List D
  | [] => []
  | k :: l => kdD k :: kdDs l
end
mutual
inductive Rp (K : PySem.W.Frag) (G : GS K) : V → D → Prop
  | non : Rp K G .non .non
  | bl (b : Bool) : Rp K G (.bl b) (.bl b)
  | int (i : Int) : Rp K G (.int i) (.int i)
  | str (x : Str) : Rp K G (.str x) (.str x)
  | ty (n : String) : Rp K G (.ty n) (.ty n)
  | cls (C : Addr) : Rp K G (.ref C) (.cls C)
  | tup {a : Addr} {xs : List V} {ds : List D} : SqT K G.f a xs → RpAll K G xs ds → Rp K G (.ref a) (.tup ds)
  | lst {a : Addr} {xs : List V} {ds : List D} : G.f a = some (.lst xs) → RpAll K G xs ds → Rp K G (.ref a) (.lst ds)
  | scr {a : Addr} {ns : List Int} : SqL K G.f a (ns.map V.int) → Rp K G (.ref a) (.scr ns)
  | dct {a : Addr} {kvs : List (Key × V)} {ks : List Key} {ds : List D} : (∃ o, G.f a = some (.frz o (.dK kvs))) → kvs.map (·.1) = ks → RpAll K G (kvs.map (·.2)) ds → Rp K G (.ref a) (.dct ks ds)
  | ins {a C dx : Addr} {fs : List (Str × V)} {ns : List Str} {ds : List D} : G.f a = some (.ins C dx fs) → fs.map (·.1) = ns → RpAll K G (fs.map (·.2)) ds → Rp K G (.ref a) (.ins C ns ds)
  | exc {a C : Addr} {dx : Option Addr} {fs : List (Str × V)} {ns : List Str} {ds : List D} : G.f a = some (exT C a dx) → ((dx = none ∧ fs = []) ∨ ∃ d, dx = some d ∧ G.f d = some (.xd fs)) → fs.map (·.1) = ns → RpAll K G (fs.map (·.2)) ds → Rp K G (.ref a) (.exc C ns ds)
  | opq {a : Addr} : G.pp a → Rp K G (.ref a) .opq
  | mo {a : Addr} : Rp K G (.ref a) (.mo a)
  | set {a : Addr} {w : World} {L : List (Addr × List PLt.KD)} {ks : List PLt.KD} : G.f a = some (PLt.SKW w a L) → (∀ q ∈ L, PLt.KH K G.f (.t q.2) (.ref q.1) ∧ PLt.dpts q.2 ≤ 3) → (∀ k, k ∈ L.map (fun q => PLt.KD.t q.2) ↔ k ∈ ks) → Rp K G (.ref a) (.set w ks)
inductive RpAll (K : PySem.W.Frag) (G : GS K) : List V → List D → Prop
  | nil : RpAll K G [] []
  | cons {v : V} {vs : List V} {d : D} {ds : List D} : Rp K G v d → RpAll K G vs ds → RpAll K G (v :: vs) (d :: ds)
end
section
variable {K : PySem.W.Frag} {G : GS K}
theorem RpAll.length : ∀ {vs : List V} {ds : List D}, RpAll K G vs ds → vs.length = ds.length
  | _, _, .nil => rfl
  | _, _, .cons _ h => congrArg (· + 1) h.length
theorem RpAll.get : ∀ {vs : List V} {ds : List D} {i : Nat} {d : D}, RpAll K G vs ds → ds[i]? = some d → ∃ v, vs[i]? = some v ∧ Rp K G v d
  | _, _, _, _, .nil, e => by simp at e
  | _, _, 0, _, .cons r _, e => by simp at e; subst e; exact ⟨_, rfl, r⟩
  | _, _, i + 1, _, .cons _ h, e => by
    obtain ⟨v, h1, h2⟩ := h.get (i := i) (by simpa using e)
    exact ⟨v, by simpa using h1, h2⟩
theorem RpAll.append : ∀ {vs us : List V} {ds es : List D}, RpAll K G vs ds → RpAll K G us es → RpAll K G (vs ++ us) (ds ++ es)
  | _, _, _, _, .nil, k => k
  | _, _, _, _, .cons r h, k => .cons r (h.append k)
theorem RpAll.take : ∀ {vs : List V} {ds : List D} (n : Nat), RpAll K G vs ds → RpAll K G (vs.take n) (ds.take n)
  | _, _, 0, _ => .nil
  | _, _, _ + 1, .nil => .nil
  | _, _, n + 1, .cons r h => .cons r (h.take n)
theorem RpAll.drop : ∀ {vs : List V} {ds : List D} (n : Nat), RpAll K G vs ds → RpAll K G (vs.drop n) (ds.drop n)
  | _, _, 0, r => r
  | _, _, _ + 1, .nil => .nil
  | _, _, n + 1, .cons _ h => h.drop n
theorem RpAll.snoc {vs : List V} {ds : List D} {v : V} {d : D} (h : RpAll K G vs ds) (r : Rp K G v d) : RpAll K G (vs ++ [v]) (ds ++ [d]) := h.append (.cons r .nil)
theorem RpAll.set {v : V} {d : D} (r : Rp K G v d) : ∀ {vs : List V} {ds : List D} (i : Nat), RpAll K G vs ds → RpAll K G (vs.set i v) (ds.set i d)
  | _, _, _, .nil => .nil
  | _, _, 0, .cons _ h => .cons r h
  | _, _, i + 1, .cons q h => .cons q (RpAll.set r i h)
theorem RpAll.ints : ∀ ns : List Int, RpAll K G (ns.map V.int) (ns.map D.int)
  | [] => .nil
  | n :: ns => .cons (.int n) (RpAll.ints ns)
end
theorem Rd.same {H H' : Hp} {a : Addr} {u : HO} (s : Same H H') (r : Rd H a u) : Rd H' a u := r.elim (fun h => .inl (s _ _ h)) fun ⟨o, h⟩ => .inr ⟨o, s _ _ h⟩
theorem SqT.same {K : PySem.W.Frag} {H H' : Hp} {a : Addr} {xs : List V} (s : Same H H') (r : SqT K H a xs) : SqT K H' a xs := r.elim (fun h => .inl (Rd.same s h)) .inr
theorem SqL.same {K : PySem.W.Frag} {H H' : Hp} {a : Addr} {xs : List V} (s : Same H H') (r : SqL K H a xs) : SqL K H' a xs := r.elim (fun h => .inl (Rd.same s h)) .inr
structure GS.Le {K : PySem.W.Frag} (G G' : GS K) : Prop where
  f : Same G.f G'.f
  pu : ∀ a, G.pu a → G'.pu a
  pp : ∀ a, G.pp a → G'.pp a
theorem GS.Le.refl {K : PySem.W.Frag} (G : GS K) : G.Le G := ⟨Same.refl _, fun _ h => h, fun _ h => h⟩
theorem GS.Le.trans {K : PySem.W.Frag} {G G1 G2 : GS K} (a : G.Le G1) (b : G1.Le G2) : G.Le G2 := ⟨a.f.trans b.f, fun _ h => b.pu _ (a.pu _ h), fun _ h => b.pp _ (a.pp _ h)⟩
mutual
theorem kh_same {K : PySem.W.Frag} {H H' : Hp} (s : Same H H') : ∀ {k : PLt.KD} {v : V}, PLt.KH K H k v → PLt.KH K H' k v
  | .i _, _, h => by cases h; exact .i _
  | .s _, _, h => by cases h; exact .s _
  | .t l, _, h => by cases h with | t h1 h2 => exact .t (SqT.same s h1) (khs_same s h2)
theorem khs_same {K : PySem.W.Frag} {H H' : Hp} (s : Same H H') : ∀ {l : List PLt.KD} {vs : List V}, PLt.KHs K H l vs → PLt.KHs K H' l vs
  | [], _, h => by cases h; exact .nil
  | k :: l, _, h => by cases h with | cons h1 h2 => exact .cons (kh_same s h1) (khs_same s h2)
end
mutual
theorem Rp.mono {K : PySem.W.Frag} {G G' : GS K} (s : G.Le G') : ∀ {d : D} {v : V}, Rp K G v d → Rp K G' v d
  | .non, _, h => by cases h; exact .non
  | .bl _, _, h => by cases h; exact .bl _
  | .int _, _, h => by cases h; exact .int _
  | .str _, _, h => by cases h; exact .str _
  | .ty _, _, h => by cases h; exact .ty _
  | .cls _, _, h => by cases h; exact .cls _
  | .tup ds, _, h => by cases h with | tup h1 h2 => exact .tup (SqT.same s.f h1) (RpAll.mono s h2)
  | .lst ds, _, h => by cases h with | lst h1 h2 => exact .lst (s.f _ _ h1) (RpAll.mono s h2)
  | .scr ns, _, h => by cases h with | scr h1 => exact .scr (SqL.same s.f h1)
  | .dct ks ds, _, h => by cases h with | dct h1 h2 h3 => exact .dct (let ⟨o, h1⟩ := h1; ⟨o, s.f _ _ h1⟩) h2 (RpAll.mono s h3)
  | .ins C ns ds, _, h => by cases h with | ins h1 h2 h3 => exact .ins (s.f _ _ h1) h2 (RpAll.mono s h3)
  | .exc C ns ds, _, h => by cases h with | exc h1 h2 h3 h4 => exact .exc (s.f _ _ h1) (h2.imp id fun ⟨d, e1, e2⟩ => ⟨d, e1, s.f _ _ e2⟩) h3 (RpAll.mono s h4)
  | .opq, _, h => by cases h with | opq h => exact .opq (s.pp _ h)
  | .mo a, _, h => by cases h; exact .mo
  | .set w ks, _, h => by cases h with | set h1 h2 h3 => exact .set (s.f _ _ h1) (fun q hq => ⟨kh_same s.f (h2 q hq).1, (h2 q hq).2⟩) h3
theorem RpAll.mono {K : PySem.W.Frag} {G G' : GS K} (s : G.Le G') : ∀ {ds : List D} {vs : List V}, RpAll K G vs ds → RpAll K G' vs ds
  | [], _, h => by cases h; exact .nil
  | d :: ds, _, h => by cases h with | cons h1 h2 => exact .cons (Rp.mono s h1) (RpAll.mono s h2)
end
def LIM : Nat := 2 ^ 60
def PurseV (c : CN) (o : Option HO) : Prop := ∃ x y z : Int, o = some (.lst [.int x, .int y, .int z]) ∧ 0 ≤ y ∧ y < 2 ^ 31 ∧ 0 ≤ z ∧ z ≤ 1000000 + (c.n : Int)
theorem PurseV.mono {c c' : CN} {o : Option HO} (h : PurseV c o) (l : c.n ≤ c'.n) : PurseV c' o := by
  obtain ⟨x, y, z, e, h1, h2, h3, h4⟩ := h
  exact ⟨x, y, z, e, h1, h2, h3, by omega⟩
theorem PurseV.some {c : CN} {o : Option HO} (h : PurseV c o) : ∃ u, o = Option.some u := by
  obtain ⟨x, y, z, e, _⟩ := h
  exact ⟨_, e⟩
def MoOk {K : PySem.W.Frag} (G : GS K) (a : Addr) (u : HO) : MO → Prop
  | .ins C ns ds => ∃ dx fs, u = .ins C dx fs ∧ fs.map (·.1) = ns ∧ RpAll K G (fs.map (·.2)) ds
  | .lst ds => ∃ xs, u = .lst xs ∧ RpAll K G xs ds
  | .dct ks ds => ∃ kvs, u = .dK kvs ∧ kvs.map (·.1) = ks ∧ RpAll K G (kvs.map (·.2)) ds
  | .tab ks ds => ∃ L, u = PLt.TabO a L ∧ L.map (·.1) = ks ∧ (∀ q ∈ L, PLt.KeyN K G.f q.1 q.2.1) ∧ RpAll K G (L.map (·.2.2)) ds
theorem MoOk.mono {K : PySem.W.Frag} {G G' : GS K} (s : G.Le G') {a : Addr} {u : HO} : ∀ {o : MO}, MoOk G a u o → MoOk G' a u o
  | .ins _ _ _, ⟨dx, fs, e1, e2, r⟩ => ⟨dx, fs, e1, e2, r.mono s⟩
  | .lst _, ⟨xs, e, r⟩ => ⟨xs, e, r.mono s⟩
  | .dct _ _, ⟨kvs, e1, e2, r⟩ => ⟨kvs, e1, e2, r.mono s⟩
  | .tab _ _, ⟨L, e1, e2, e3, r⟩ => ⟨L, e1, e2, fun q hq => let ⟨xs, h1, h2⟩ := e3 q hq; ⟨xs, SqT.same s.f h1, h2⟩, r.mono s⟩
structure GS.Ok {K : PySem.W.Frag} (G : GS K) (H : Hp) (c : CN) : Prop where
  same : Same G.f H
  npu : ∀ a, G.pu a → G.f a = none
  pus : ∀ a, G.pu a → ∃ o, H a = some o
  pu : ∀ a, G.pp a → PurseV c (H a)
  ppu : ∀ a, G.pp a → G.pu a
  ppm : ∀ a, G.pp a → c.m a = none
  mo : ∀ a o, c.m a = some o → G.pu a ∧ ∃ u, H a = some u ∧ MoOk G a u o
structure Evo {K : PySem.W.Frag} (G : GS K) (H : Hp) (c : CN) (G' : GS K) (H' : Hp) (c' : CN) : Prop where
  ok : G'.Ok H' c'
  le : G.Le G'
  keep : ∀ b o, H b = some o → ¬ G.pu b → H' b = some o
  pus : ∀ b, G.pu b → ∃ o, H' b = some o
  new : ∀ b o, H b = some o → G.f b = none → G'.f b = none
  npu : ∀ b o, H b = some o → G'.pu b → G.pu b
section
variable {K : PySem.W.Frag}
theorem Evo.refl {G : GS K} {H : Hp} {c : CN} (h : G.Ok H c) : Evo G H c G H c := ⟨h, GS.Le.refl _, fun _ _ e _ => e, fun b hb => h.pus b hb, fun _ _ _ e => e, fun _ _ _ e => e⟩
theorem Evo.trans {G G1 G2 : GS K} {H H1 H2 : Hp} {c c1 c2 : CN} (a : Evo G H c G1 H1 c1) (b : Evo G1 H1 c1 G2 H2 c2) : Evo G H c G2 H2 c2 where
  ok := b.ok
  le := a.le.trans b.le
  keep := fun x o e n => b.keep x o (a.keep x o e n) fun z => n (a.npu x o e z)
  pus := fun x h => b.pus x (a.le.pu x h)
  new := fun x o e n => by
    by_cases h : G.pu x
    · obtain ⟨o', e'⟩ := a.pus x h
      exact b.new x o' e' (a.new x o e n)
    · exact b.new x o (a.keep x o e h) (a.new x o e n)
  npu := fun x o e h => by
    by_cases q : G.pu x
    · exact q
    · exact a.npu x o e (b.npu x o (a.keep x o e q) h)
theorem Evo.same {G G' : GS K} {H H' : Hp} {c c' : CN} (e : Evo G H c G' H' c') : Same G.f H' := e.le.f.trans e.ok.same
theorem GS.Ok.sq {G : GS K} {H : Hp} {c : CN} {a : Addr} {xs : List V} (ok : G.Ok H c) (h : G.f a = some (.lst xs)) : SqL K H a xs := SqL.of (ok.same _ _ h)
theorem GS.Ok.fnone {G : GS K} {H : Hp} {c : CN} (ok : G.Ok H c) {p : Addr} (h : H p = none) : G.f p = none := ok.same.free h
theorem GS.Ok.punone {G : GS K} {H : Hp} {c : CN} (ok : G.Ok H c) {p : Addr} (h : H p = none) : ¬ G.pu p := fun z => by
  obtain ⟨o, e⟩ := ok.pus p z
  rw [h] at e; cases e
theorem GS.Ok.to {G G' : GS K} {H H' : Hp} {c : CN} (ok : G.Ok H c) (le : G.Le G') (hp : ∀ a, G'.pu a ↔ G.pu a) (hpp : ∀ a, G'.pp a ↔ G.pp a) (hs : Same G'.f H') (hn : ∀ a, G.pu a → G'.f a = none) (hH : ∀ a, G.pu a → H' a = H a) : G'.Ok H' c where
  same := hs
  npu := fun a h => hn a ((hp a).mp h)
  pus := fun a h => by rw [hH a ((hp a).mp h)]; exact ok.pus a ((hp a).mp h)
  pu := fun a h => by
    have h := (hpp a).mp h
    rw [hH a (ok.ppu a h)]; exact ok.pu a h
  ppu := fun a h => (hp a).mpr (ok.ppu a ((hpp a).mp h))
  ppm := fun a h => ok.ppm a ((hpp a).mp h)
  mo := fun a o e => by
    obtain ⟨h, u, hu, m⟩ := ok.mo a o e
    exact ⟨(hp a).mpr h, u, by rw [hH a h]; exact hu, m.mono le⟩
theorem Evo.laid {G : GS K} {H : Hp} {c : CN} (ok : G.Ok H c) {p : Addr} (o : HO) (h : H p = none) : Evo G H c { G with f := upd G.f p o } (upd H p o) c := by
  have ne : ∀ b, G.pu b → b ≠ p := fun b hb z => by subst z; exact ok.punone h hb
  have le : G.Le { G with f := upd G.f p o } := ⟨fun b u e => by
      have : b ≠ p := fun z => by subst z; rw [ok.fnone h] at e; cases e
      show upd G.f p o b = some u
      rw [upd_ne this]; exact e, fun _ z => z, fun _ z => z⟩
  exact {
    ok := ok.to le (fun _ => Iff.rfl) (fun _ => Iff.rfl) (fun b u e => by
      have e : upd G.f p o b = some u := e
      by_cases hb : b = p
      · subst hb; rw [upd_same] at e ⊢; exact e
      · rw [upd_ne hb] at e ⊢; exact ok.same b u e) (fun b hb => by
      show upd G.f p o b = none
      rw [upd_ne (ne b hb)]; exact ok.npu b hb) fun b hb => upd_ne (ne b hb)
    le := le
    keep := fun b u e _ => by rw [upd_ne (ne_of_none e h)]; exact e
    pus := fun b hb => by rw [upd_ne (ne b hb)]; exact ok.pus b hb
    new := fun b u e n => by
      show upd G.f p o b = none
      rw [upd_ne (ne_of_none e h)]; exact n
    npu := fun _ _ _ z => z }
theorem Evo.laidU {G : GS K} {H : Hp} {c : CN} (ok : G.Ok H c) {p : Addr} (o : HO) (h : H p = none) : Evo G H c G (upd H p o) c := by
  have ne : ∀ b, G.pu b → b ≠ p := fun b hb z => by subst z; exact ok.punone h hb
  exact {
    ok := ok.to (GS.Le.refl _) (fun _ => Iff.rfl) (fun _ => Iff.rfl) (fun b u e => by
      have : b ≠ p := fun z => by subst z; rw [ok.fnone h] at e; cases e
      rw [upd_ne this]; exact ok.same b u e) ok.npu fun b hb => upd_ne (ne b hb)
    le := GS.Le.refl _
    keep := fun b u e _ => by rw [upd_ne (ne_of_none e h)]; exact e
    pus := fun b hb => by rw [upd_ne (ne b hb)]; exact ok.pus b hb
    new := fun b u e n => n
    npu := fun _ _ _ z => z }
theorem Evo.putM {G : GS K} {H : Hp} {c : CN} (ok : G.Ok H c) {p : Addr} {o o' : MO} {u : HO} (h : c.m p = some o) (m : MoOk G p u o') : Evo G H c G (upd H p u) (c.put p o') := by
  obtain ⟨hp, u0, hu, _⟩ := ok.mo p o h
  have nf := ok.npu p hp
  have npp : ∀ a, G.pp a → a ≠ p := fun a ha z => by subst z; have := ok.ppm a ha; rw [h] at this; cases this
  exact {
    ok := { same := fun b v e => by
              have : b ≠ p := fun z => by subst z; rw [nf] at e; cases e
              rw [upd_ne this]; exact ok.same b v e
            npu := ok.npu
            pus := fun a ha => by
              by_cases e : a = p
              · subst e; exact ⟨u, upd_same⟩
              · rw [upd_ne e]; exact ok.pus a ha
            pu := fun a ha => by rw [upd_ne (npp a ha)]; exact ok.pu a ha
            ppu := ok.ppu
            ppm := fun a ha => by
              show (if a = p then some o' else c.m a) = none
              rw [if_neg (npp a ha)]; exact ok.ppm a ha
            mo := fun a q e => by
              have e : (if a = p then some o' else c.m a) = some q := e
              by_cases z : a = p
              · subst z; rw [if_pos rfl] at e; cases e; exact ⟨hp, u, upd_same, m⟩
              · rw [if_neg z] at e; rw [upd_ne z]; exact ok.mo a q e }
    le := GS.Le.refl _
    keep := fun b v e n => by
      have : b ≠ p := fun z => n (z ▸ hp)
      rw [upd_ne this]; exact e
    pus := fun a ha => by
      by_cases e : a = p
      · subst e; exact ⟨u, upd_same⟩
      · rw [upd_ne e]; exact ok.pus a ha
    new := fun _ _ _ n => n
    npu := fun _ _ _ z => z }
theorem Evo.newM {G : GS K} {H : Hp} {c : CN} (ok : G.Ok H c) {p : Addr} {o : MO} {u : HO} (h : H p = none) (m : MoOk G p u o) : Evo G H c { G with pu := fun b => b = p ∨ G.pu b } (upd H p u) (c.put p o) ∧ c.m p = none := by
  have nm : c.m p = none := by
    cases e : c.m p with
    | none => rfl
    | some q => obtain ⟨_, v, hv, _⟩ := ok.mo p q e; rw [h] at hv; cases hv
  have np : ¬ G.pu p := ok.punone h
  have nf := ok.fnone h
  have ne : ∀ b, G.pu b → b ≠ p := fun b hb z => by subst z; exact np hb
  have le : G.Le { G with pu := fun b => b = p ∨ G.pu b } := ⟨fun _ _ e => e, fun _ z => .inr z, fun _ z => z⟩
  refine ⟨{
    ok := { same := fun b v e => by
              have : b ≠ p := fun z => by subst z; rw [nf] at e; cases e
              rw [upd_ne this]; exact ok.same b v e
            npu := fun a ha => ha.elim (fun z => z ▸ nf) (ok.npu a)
            pus := fun a ha => by
              by_cases e : a = p
              · subst e; exact ⟨u, upd_same⟩
              · rw [upd_ne e]; exact ok.pus a (ha.resolve_left e)
            pu := fun a ha => by rw [upd_ne (ne a (ok.ppu a ha))]; exact ok.pu a ha
            ppu := fun a ha => .inr (ok.ppu a ha)
            ppm := fun a ha => by
              show (if a = p then some o else c.m a) = none
              rw [if_neg (ne a (ok.ppu a ha))]; exact ok.ppm a ha
            mo := fun a q e => by
              have e : (if a = p then some o else c.m a) = some q := e
              by_cases z : a = p
              · subst z; rw [if_pos rfl] at e; cases e; exact ⟨.inl rfl, u, upd_same, m.mono le⟩
              · rw [if_neg z] at e; rw [upd_ne z]
                obtain ⟨h1, v, h2, h3⟩ := ok.mo a q e
                exact ⟨.inr h1, v, h2, h3.mono le⟩ }
    le := le
    keep := fun b v e _ => by rw [upd_ne (ne_of_none e h)]; exact e
    pus := fun a ha => by rw [upd_ne (ne a ha)]; exact ok.pus a ha
    new := fun _ _ _ n => n
    npu := fun b v e z => z.elim (fun q => by rw [q, h] at e; cases e) id }, nm⟩
end
inductive Sl where
  | no | fz (d : D) | ol (l : List D) | od (ks : List Key) (l : List D)
abbrev DEnv := List Sl
def SlOk (K : PySem.W.Frag) (G : GS K) (H0 H : Hp) (s : Sl) (o : Option V) : Prop := match s with
  | .no => True
  | .fz d => ∃ v, o = some v ∧ Rp K G v d
  | .ol ds => ∃ a xs, o = some (.ref a) ∧ G.f a = none ∧ ¬ G.pu a ∧ H0 a = none ∧ H a = some (.lst xs) ∧ RpAll K G xs ds
  | .od ks ds => ∃ a kvs, o = some (.ref a) ∧ G.f a = none ∧ ¬ G.pu a ∧ H0 a = none ∧ H a = some (.dK kvs) ∧ kvs.map (·.1) = ks ∧ RpAll K G (kvs.map (·.2)) ds
def Sl.isOl : Sl → Bool
  | .ol _ => true
  | .od _ _ => true
  | _ => false
structure Ctx where
  X : Cx
  G0 : GS X.K
  H0 : Hp
  c0 : CN
  E : L2.St → XK
  ED : DEnv → Addr → List Str → List D → CN → Prop
  lo : GS X.K
structure Rel (Y : Ctx) (G : GS Y.X.K) (H : Hp) (c : CN) (ρ : DEnv) (σ : L2.St) : Prop where
  ok : G.Ok H c
  evo : Evo Y.G0 Y.H0 Y.c0 G H c
  len : ρ.length = σ.length
  sl : ∀ (i : Nat) (s : Sl), ρ[i]? = some s → ∃ o, σ[i]? = some o ∧ SlOk Y.X.K G Y.H0 H s o
  sep : ∀ (i j : Nat) (s t : Sl), i ≠ j → ρ[i]? = some s → ρ[j]? = some t → s.isOl = true → t.isOl = true → σ[i]? ≠ σ[j]?
  lo : Y.lo.Le G
theorem SlOk.evo {K : PySem.W.Frag} {G G' : GS K} {H0 H H' : Hp} {c c' : CN} {s : Sl} {o : Option V} (h : SlOk K G H0 H s o) (e : Evo G H c G' H' c') : SlOk K G' H0 H' s o := by
  cases s with
  | no => trivial
  | fz d => obtain ⟨v, e1, r⟩ := h; exact ⟨v, e1, r.mono e.le⟩
  | ol ds =>
    obtain ⟨a, xs, e1, h1, h2, h3, h4, h5⟩ := h
    exact ⟨a, xs, e1, e.new a _ h4 h1, fun z => h2 (e.npu a _ h4 z), h3, e.keep a _ h4 h2, h5.mono e.le⟩
  | od ks ds =>
    obtain ⟨a, xs, e1, h1, h2, h3, h4, h5, h6⟩ := h
    exact ⟨a, xs, e1, e.new a _ h4 h1, fun z => h2 (e.npu a _ h4 z), h3, e.keep a _ h4 h2, h5, h6.mono e.le⟩
theorem Rel.evo' {Y : Ctx} {G G' : GS Y.X.K} {H H' : Hp} {c c' : CN} {ρ : DEnv} {σ : L2.St} (R : Rel Y G H c ρ σ) (e : Evo G H c G' H' c') : Rel Y G' H' c' ρ σ :=
  ⟨e.ok, R.evo.trans e, R.len, fun i s h => let ⟨o, h1, h2⟩ := R.sl i s h; ⟨o, h1, h2.evo e⟩, R.sep, R.lo.trans e.le⟩
abbrev QD := D → CN → Prop
abbrev DE := DEnv → CN → QD → Prop
abbrev DT := DEnv → CN → (Bool → CN → Prop) → Prop
abbrev DA := DEnv → CN → (List D → CN → Prop) → Prop
structure DEnds where
  nx : DEnv → CN → Prop
  rt : QD
  bk : DEnv → CN → Prop := fun _ _ => False
  ct : DEnv → CN → Prop := fun _ _ => False
abbrev DS := DEnds → DEnv → CN → Prop
def SimE (Y : Ctx) (te : TE) (t : DE) : Prop := ∀ G H c ρ σ (Qd : QD) (Q : VK), Rel Y G H c ρ σ → t ρ c Qd →
  (∀ d v G' H' c', Evo G H c G' H' c' → Rp Y.X.K G' v d → Qd d c' → Q v H') → te σ H Q
def SimT (Y : Ctx) (te : TT) (t : DT) : Prop := ∀ G H c ρ σ (Qd : Bool → CN → Prop) (Q : Bool → Hp → Prop), Rel Y G H c ρ σ → t ρ c Qd →
  (∀ b G' H' c', Evo G H c G' H' c' → Qd b c' → Q b H') → te σ H Q
def SimA (Y : Ctx) (ta : TA) (t : DA) : Prop := ∀ G H c ρ σ (Qd : List D → CN → Prop) (Q : List V → Hp → Prop), Rel Y G H c ρ σ → t ρ c Qd →
  (∀ ds vs G' H' c', Evo G H c G' H' c' → RpAll Y.X.K G' vs ds → Qd ds c' → Q vs H') → ta σ H Q
structure PD (Y : Ctx) (e : Expr) (te : TE) (t : DE) : Prop where
  p : PE Y.X e te
  s : SimE Y te t
structure PDT (Y : Ctx) (e : Expr) (te : TT) (t : DT) : Prop where
  p : PT Y.X e te
  s : SimT Y te t
structure PDW (Y : Ctx) (e : Expr) (te : TT) (t : DT) : Prop where
  p : PW Y.X e te
  s : SimT Y te t
structure PDA (Y : Ctx) (es : List Expr) (ta : TA) (t : DA) : Prop where
  p : PA Y.X es ta
  s : SimA Y ta t
structure RelP (Y : Ctx) (P : GS Y.X.K) (G : GS Y.X.K) (H : Hp) (c : CN) (ρ : DEnv) (σ : L2.St) : Prop where
  r : Rel Y G H c ρ σ
  le : P.Le G
structure EndOk (Y : Ctx) (P : GS Y.X.K) (DD : DEnds) (EE : Ends) : Prop where
  nx : ∀ G H c ρ σ, RelP Y P G H c ρ σ → DD.nx ρ c → EE.nx σ H
  rt : ∀ G H c d v, Evo Y.G0 Y.H0 Y.c0 G H c → Rp Y.X.K G v d → DD.rt d c → EE.rt v H
  bk : ∀ G H c ρ σ, RelP Y P G H c ρ σ → DD.bk ρ c → EE.bk σ H
  ct : ∀ G H c ρ σ, RelP Y P G H c ρ σ → DD.ct ρ c → EE.ct σ H
def SimS (Y : Ctx) (ts : TS) (t : DS) : Prop := ∀ P G H c ρ σ DD EE, EndOk Y P DD EE → RelP Y P G H c ρ σ → t DD ρ c → ts EE σ H
structure PDS (Y : Ctx) (st : Stmt) (ts : TS) (t : DS) : Prop where
  p : PS Y.X st ts
  s : SimS Y ts t
structure PDSs (Y : Ctx) (st : List Stmt) (ts : TS) (t : DS) : Prop where
  p : PSs Y.X st ts
  s : SimS Y ts t
end PL
namespace PL
open PySem PySem.Spec PyProof.Rows L2
abbrev RD2 := D → D → CN → QD → Prop
abbrev RD1 := D → CN → QD → Prop
abbrev RDn := List D → CN → QD → Prop
def Br2 (K : PySem.W.Frag) (r : R2) (rd : RD2) : Prop := ∀ G H c x y d e (Qd : QD) (Q : VK), G.Ok H c → Rp K G x d → Rp K G y e → rd d e c Qd →
  (∀ d' v G' H' c', Evo G H c G' H' c' → Rp K G' v d' → Qd d' c' → Q v H') → r x y H Q
def BrN (K : PySem.W.Frag) (r : List V → Hp → VK → Prop) (rd : RDn) : Prop := ∀ G H c xs ds (Qd : QD) (Q : VK), G.Ok H c → RpAll K G xs ds → rd ds c Qd →
  (∀ d' v G' H' c', Evo G H c G' H' c' → Rp K G' v d' → Qd d' c' → Q v H') → r xs H Q
section
variable {Y : Ctx} {a b e : Expr} {es : List Expr} {pos : Pos} {ea eb ee : TE} {fa : TA} {ta tb te : DE} {t : DA}
def dVar (i : Nat) (ρ : DEnv) (c : CN) (Q : QD) : Prop := ∃ d, ρ[i]? = some (.fz d) ∧ Q d c
def dC (d : D) (_ : DEnv) (c : CN) (Q : QD) : Prop := Q d c
theorem pd_v (i : Nat) {x : Str} {pos : Pos} (hN : Y.X.N[i]? = some x := by rfl) (hv : Vis Y.X.env.scope x := by first | exact Or.inl rfl | exact Or.inr (Or.inl rfl) | exact Or.inr (Or.inr rfl)) (hd : (x == ("__debug__" : Str)) = false := by decide)
    (hcd : (x == ("__classdict__" : Str)) = false := by decide) : PD Y (.Name x pos) (tVar i) (dVar i) := by
  refine ⟨pe_var hN hv hd hcd, fun G H c ρ σ Qd Q R h k => ?_⟩
  obtain ⟨d, e, h⟩ := h
  obtain ⟨o, e1, v, rfl, r⟩ := R.sl i _ e
  exact ⟨v, e1, k d v G H c (Evo.refl R.ok) r h⟩
theorem pd_int {i j pos} : PD Y (.Constant (.int i) j pos) (tC (.int i)) (dC (.int i)) := ⟨pe_int, fun _ _ _ _ _ _ _ R h k => k _ _ _ _ _ (Evo.refl R.ok) (.int _) h⟩
theorem pd_bl {b j pos} : PD Y (.Constant (.bool b) j pos) (tC (.bl b)) (dC (.bl b)) := ⟨pe_bl, fun _ _ _ _ _ _ _ R h k => k _ _ _ _ _ (Evo.refl R.ok) (.bl _) h⟩
theorem pd_non {j pos} : PD Y (.Constant .none j pos) (tC .non) (dC .non) := ⟨pe_non, fun _ _ _ _ _ _ _ R h k => k _ _ _ _ _ (Evo.refl R.ok) .non h⟩
theorem pd_str {x j pos} : PD Y (.Constant (.str x) j pos) (tC (.str x)) (dC (.str x)) := ⟨pe_str, fun _ _ _ _ _ _ _ R h k => k _ _ _ _ _ (Evo.refl R.ok) (.str _) h⟩
theorem pd_glob {x : Str} {v : V} {d : D} {u : Value} {pos : Pos} (hm : Y.X.mg x = some u) (r : RelV v u) (rp : ∀ G, Rp Y.X.K G v d) (hg : Gl Y.X x := by rfl) (hd : (x == ("__debug__" : Str)) = false := by decide) : PD Y (.Name x pos) (tC v) (dC d) :=
  ⟨pe_glob hg hm r hd, fun _ _ _ _ _ _ _ R h k => k _ _ _ _ _ (Evo.refl R.ok) (rp _) h⟩
theorem pd_bty {x : Str} {n : String} {pos : Pos} (hm : Y.X.mg x = none) (hv : bootBuiltins x = some (.type n)) (hg : Gl Y.X x := by rfl) (hn : x ≠ "__name__" := by decide) (hd : (x == ("__debug__" : Str)) = false := by decide) : PD Y (.Name x pos) (tC (.ty n)) (dC (.ty n)) :=
  ⟨pe_bltn hg hm hv (v := .ty n) rfl hn hd, fun _ _ _ _ _ _ _ R h k => k _ _ _ _ _ (Evo.refl R.ok) (.ty _) h⟩
def dOp (rd : RD2) (ta tb : DE) (ρ : DEnv) (c : CN) (Q : QD) : Prop := ta ρ c fun x c1 => tb ρ c1 fun y c2 => rd x y c2 Q
def dUn (rd : RD1) (ta : DE) (ρ : DEnv) (c : CN) (Q : QD) : Prop := ta ρ c fun x c1 => rd x c1 Q
theorem two {G H c ρ σ} {tea teb : TE} {r : V → V → Hp → Prop} {rd : D → D → CN → Prop} (R : Rel Y G H c ρ σ)
    (ha : ∀ G H c ρ σ (Qd : QD) (Q : VK), Rel Y G H c ρ σ → ta ρ c Qd → (∀ d v G' H' c', Evo G H c G' H' c' → Rp Y.X.K G' v d → Qd d c' → Q v H') → tea σ H Q)
    (hb : ∀ G H c ρ σ (Qd : QD) (Q : VK), Rel Y G H c ρ σ → tb ρ c Qd → (∀ d v G' H' c', Evo G H c G' H' c' → Rp Y.X.K G' v d → Qd d c' → Q v H') → teb σ H Q)
    (h : ta ρ c fun x c1 => tb ρ c1 fun y c2 => rd x y c2)
    (k : ∀ d e x y G' H' c', Evo G H c G' H' c' → Rp Y.X.K G' x d → Rp Y.X.K G' y e → rd d e c' → r x y H') : tea σ H fun x H1 => teb σ H1 fun y H2 => r x y H2 := by
  refine ha G H c ρ σ _ _ R h fun d v G1 H1 c1 e1 r1 q1 => ?_
  refine hb G1 H1 c1 ρ σ _ _ (R.evo' e1) q1 fun d2 v2 G2 H2 c2 e2 r2 q2 => ?_
  exact k d d2 v v2 G2 H2 c2 (e1.trans e2) (r1.mono e2.le) r2 q2
theorem pd_op {op : Operator} {r : R2} {rd : RD2} (ho : OpR Y.X (binaryOp op) r) (br : Br2 Y.X.K r rd) (ha : PD Y a ea ta) (hb : PD Y b eb tb) : PD Y (.BinOp a op b pos) (tOp r ea eb) (dOp rd ta tb) := by
  obtain ⟨pa, ha⟩ := ha
  obtain ⟨pb, hb⟩ := hb
  refine ⟨pe_op ho pa pb, fun G H c ρ σ Qd Q R h k => ?_⟩
  exact two R ha hb h fun d e x y G' H' c' ev r1 r2 q => br G' H' c' x y d e Qd Q ev.ok r1 r2 q fun d' v G2 H2 c2 e2 r q => k d' v G2 H2 c2 (ev.trans e2) r q
theorem pd_ix {r : R2} {rd : RD2} (ho : IxR Y.X r) (br : Br2 Y.X.K r rd) (ha : PD Y a ea ta) (hb : PD Y b eb tb) (hs : PlainIx b := by exact fun _ _ => rfl) : PD Y (.Subscript a b pos) (tOp r ea eb) (dOp rd ta tb) := by
  obtain ⟨pa, ha⟩ := ha
  obtain ⟨pb, hb⟩ := hb
  refine ⟨pe_ix ho pa pb hs, fun G H c ρ σ Qd Q R h k => ?_⟩
  exact two R ha hb h fun d e x y G' H' c' ev r1 r2 q => br G' H' c' x y d e Qd Q ev.ok r1 r2 q fun d' v G2 H2 c2 e2 r q => k d' v G2 H2 c2 (ev.trans e2) r q
def dChain (rd rd' : RD2) (ta tb tc : DE) (ρ : DEnv) (c : CN) (Q : QD) : Prop := ta ρ c fun x c1 => tb ρ c1 fun y c2 => rd x y c2 fun z c3 => ∃ k, z = .bl k ∧ if k = true then tc ρ c3 fun w c4 => rd' y w c4 Q else Q (.bl false) c3
theorem pd_chain {f : Expr} {tf : DE} {ef : TE} {op op' : CmpOp} {r r' : R2} {rd rd' : RD2} (ho : OpR Y.X (compareOp op) r) (br : Br2 Y.X.K r rd) (ho' : OpR Y.X (compareOp op') r') (br' : Br2 Y.X.K r' rd') (ha : PD Y a ea ta) (hb : PD Y b eb tb) (hc : PD Y f ef tf) (hm : lastMarks [op, op'] [b, f] = false := by rfl) :
    PD Y (.Compare a [op, op'] [b, f] pos) (tChain r r' ea eb ef) (dChain rd rd' ta tb tf) := by
  obtain ⟨pa, ha⟩ := ha
  obtain ⟨pb, hb⟩ := hb
  obtain ⟨pc, hc⟩ := hc
  refine ⟨pe_chain ho ho' pa pb pc hm, fun G H c ρ σ Qd Q R h k => ?_⟩
  refine two R ha hb h fun d e x y G1 H1 c1 e1 r1 r2 q => br G1 H1 c1 x y d e _ _ e1.ok r1 r2 q fun d' v G2 H2 c2 e2 r3 q => ?_
  obtain ⟨b, rfl, q⟩ := q
  cases r3
  refine ⟨b, rfl, ?_⟩
  cases b with
  | false => rw [if_neg Bool.false_ne_true] at q ⊢; exact k _ _ G2 H2 c2 (e1.trans e2) (.bl _) q
  | true =>
    rw [if_pos rfl] at q ⊢
    refine hc G2 H2 c2 ρ σ _ _ (R.evo' (e1.trans e2)) q fun d4 v4 G4 H4 c4 e4 r4 q4 => ?_
    exact br' G4 H4 c4 y v4 e d4 Qd Q e4.ok (r2.mono (e2.le.trans e4.le)) r4 q4 fun d' v G5 H5 c5 e5 r q => k d' v G5 H5 c5 ((e1.trans e2).trans (e4.trans e5)) r q
def dNil (_ : DEnv) (c : CN) (Q : List D → CN → Prop) : Prop := Q [] c
def dCons (ta : DE) (tr : DA) (ρ : DEnv) (c : CN) (Q : List D → CN → Prop) : Prop := ta ρ c fun x c1 => tr ρ c1 fun xs c2 => Q (x :: xs) c2
theorem pda_nil : PDA Y [] tNil dNil := ⟨pa_nil, fun _ _ _ _ _ _ _ R h k => k _ _ _ _ _ (Evo.refl R.ok) .nil h⟩
theorem pda_cons (ha : PD Y e ee te) (hr : PDA Y es fa t) (hs : starEach (e :: es) Y.X.env = (false, eval e Y.X.env) :: starEach es Y.X.env := by rfl) : PDA Y (e :: es) (tCons ee fa) (dCons te t) := by
  obtain ⟨pa, ha⟩ := ha
  obtain ⟨ps, hr⟩ := hr
  refine ⟨pa_cons pa ps hs, fun G H c ρ σ Qd Q R h k => ?_⟩
  refine ha G H c ρ σ _ _ R h fun d v G1 H1 c1 e1 r1 q1 => ?_
  refine hr G1 H1 c1 ρ σ _ _ (R.evo' e1) q1 fun ds vs G2 H2 c2 e2 r2 q2 => ?_
  exact k _ _ G2 H2 c2 (e1.trans e2) (.cons (r1.mono e2.le) r2) q2
def dCB (rd : RDn) (t : DA) (ρ : DEnv) (c : CN) (Q : QD) : Prop := t ρ c fun ds c1 => rd ds c1 Q
theorem pd_callB {x : Str} {p : Pos} {id : String} {r : List V → Hp → VK → Prop} {rd : RDn} (hc : CallR Y.X (.builtin id) r) (br : BrN Y.X.K r rd) (hm : Y.X.mg x = none) (hv : bootBuiltins x = some (.builtin id)) (ha : PDA Y (e :: es) fa t) (hg : Gl Y.X x := by rfl) (hn : x ≠ "__name__" := by decide) (hdb : (x == ("__debug__" : Str)) = false := by decide)
    (he : starEach (e :: es) Y.X.env = (false, eval e Y.X.env) :: starEach es Y.X.env := by rfl) (hpl : (backTo pos (starEach es Y.X.env)).any (·.1) = false := by rfl) : PD Y (.Call (.Name x p) (e :: es) [] pos) (tCB r fa) (dCB rd t) := by
  obtain ⟨ps, ha⟩ := ha
  refine ⟨pe_callB hc hg hm hv ps hn hdb he hpl, fun G H c ρ σ Qd Q R h k => ?_⟩
  exact ha G H c ρ σ _ _ R h fun ds vs G1 H1 c1 e1 r1 q1 => br G1 H1 c1 vs ds Qd Q e1.ok r1 q1 fun d' v G2 H2 c2 e2 r q => k d' v G2 H2 c2 (e1.trans e2) r q
theorem pd_callTy {x : Str} {p : Pos} {T : String} {r : List V → Hp → VK → Prop} {rd : RDn} (hc : CallR Y.X (.type T) r) (br : BrN Y.X.K r rd) (hm : Y.X.mg x = none) (hv : bootBuiltins x = some (.type T)) (ha : PDA Y (e :: es) fa t) (hg : Gl Y.X x := by rfl) (hn : x ≠ "__name__" := by decide) (hdb : (x == ("__debug__" : Str)) = false := by decide)
    (he : starEach (e :: es) Y.X.env = (false, eval e Y.X.env) :: starEach es Y.X.env := by rfl) (hpl : (backTo pos (starEach es Y.X.env)).any (·.1) = false := by rfl) : PD Y (.Call (.Name x p) (e :: es) [] pos) (tCB r fa) (dCB rd t) := by
  obtain ⟨ps, ha⟩ := ha
  refine ⟨pe_callTy hc hg hm hv ps hn hdb he hpl, fun G H c ρ σ Qd Q R h k => ?_⟩
  exact ha G H c ρ σ _ _ R h fun ds vs G1 H1 c1 e1 r1 q1 => br G1 H1 c1 vs ds Qd Q e1.ok r1 q1 fun d' v G2 H2 c2 e2 r q => k d' v G2 H2 c2 (e1.trans e2) r q
theorem Rp.newTup {K : PySem.W.Frag} {G : GS K} {H : Hp} {c : CN} {p : Addr} {vs : List V} {ds : List D} (ok : G.Ok H c) (h : H p = none) (r : RpAll K G vs ds) : Rp K { G with f := upd G.f p (.tup vs) } (.ref p) (.tup ds) :=
  .tup (SqT.of upd_same) (r.mono (Evo.laid ok (.tup vs) h).le)
theorem Rp.newLst {K : PySem.W.Frag} {G : GS K} {H : Hp} {c : CN} {p : Addr} {vs : List V} {ds : List D} (ok : G.Ok H c) (h : H p = none) (r : RpAll K G vs ds) : Rp K { G with f := upd G.f p (.lst vs) } (.ref p) (.lst ds) :=
  .lst upd_same (r.mono (Evo.laid ok (.lst vs) h).le)
def dTup (t : DA) (ρ : DEnv) (c : CN) (Q : QD) : Prop := t ρ c fun ds c1 => ds.length ≤ sizeLine ∧ Q (.tup ds) c1
def dLst (t : DA) (ρ : DEnv) (c : CN) (Q : QD) : Prop := t ρ c fun ds c1 => ds.length ≤ sizeLine ∧ Q (.lst ds) c1
theorem pd_tup {x1} (ha : PDA Y es fa t) : PD Y (.Tuple es x1 pos) (tTup fa) (dTup t) := by
  obtain ⟨ps, ha⟩ := ha
  refine ⟨pe_tup ps, fun G H c ρ σ Qd Q R h k => ?_⟩
  refine ha G H c ρ σ _ _ R h fun ds vs G1 H1 c1 e1 r1 q1 => ⟨by rw [r1.length]; exact q1.1, fun p np => ?_⟩
  exact k _ _ _ _ c1 (e1.trans (Evo.laid e1.ok _ np)) (Rp.newTup e1.ok np r1) q1.2
theorem pd_lst (ha : PDA Y es fa t) : PD Y (.List es pos) (tLst fa) (dLst t) := by
  obtain ⟨ps, ha⟩ := ha
  refine ⟨pe_lst ps, fun G H c ρ σ Qd Q R h k => ?_⟩
  refine ha G H c ρ σ _ _ R h fun ds vs G1 H1 c1 e1 r1 q1 => ⟨by rw [r1.length]; exact q1.1, fun p np => ?_⟩
  exact k _ _ _ _ c1 (e1.trans (Evo.laid e1.ok _ np)) (Rp.newLst e1.ok np r1) q1.2
def dB (t : DE) (ρ : DEnv) (c : CN) (Q : Bool → CN → Prop) : Prop := t ρ c fun x c1 => ∃ b, x = .bl b ∧ Q b c1
theorem pdt_val (ha : PD Y e ee te) (he : ∀ whole, isTrue e Y.X.env whole = (do let v ← whole; standAt e.pos; holding [v] (truthy v)) := by intro _; rfl) : PDT Y e (tB ee) (dB te) := by
  obtain ⟨pa, ha⟩ := ha
  refine ⟨pt_val pa he, fun G H c ρ σ Qd Q R h k => ?_⟩
  refine ha G H c ρ σ _ _ R h fun d v G1 H1 c1 e1 r1 q1 => ?_
  obtain ⟨b, rfl, q1⟩ := q1
  cases r1
  exact ⟨b, rfl, k b G1 H1 c1 e1 q1⟩
def dtAnd (t u : DT) (ρ : DEnv) (c : CN) (Q : Bool → CN → Prop) : Prop := t ρ c fun b c1 => if b = true then u ρ c1 Q else Q false c1
def dtOr (t u : DT) (ρ : DEnv) (c : CN) (Q : Bool → CN → Prop) : Prop := t ρ c fun b c1 => if b = true then Q true c1 else u ρ c1 Q
def dtNot (t : DT) (ρ : DEnv) (c : CN) (Q : Bool → CN → Prop) : Prop := t ρ c fun b c1 => Q (!b) c1
variable {tA tB : DT} {eA eB : TT} {rest : List Expr}
theorem pdw_and1 (ha : PDT Y a eA tA) : PDW Y (.BoolOp .And [a] pos) eA tA := by
  obtain ⟨pa, ha⟩ := ha
  exact ⟨pw_and1 pa, ha⟩
theorem pdw_or1 (ha : PDT Y a eA tA) : PDW Y (.BoolOp .Or [a] pos) eA tA := by
  obtain ⟨pa, ha⟩ := ha
  exact ⟨pw_or1 pa, ha⟩
theorem pdw_and (ha : PDT Y a eA tA) (hb : PDW Y (.BoolOp .And (b :: rest) pos) eB tB) : PDW Y (.BoolOp .And (a :: b :: rest) pos) (tAnd eA eB) (dtAnd tA tB) := by
  obtain ⟨pa, ha⟩ := ha
  obtain ⟨pb, hb⟩ := hb
  refine ⟨pw_and pa pb, fun G H c ρ σ Qd Q R h k => ?_⟩
  refine ha G H c ρ σ _ _ R h fun b G1 H1 c1 e1 q1 => ?_
  cases b with
  | true => rw [if_pos rfl] at q1 ⊢; exact hb G1 H1 c1 ρ σ _ _ (R.evo' e1) q1 fun b G2 H2 c2 e2 q2 => k b G2 H2 c2 (e1.trans e2) q2
  | false => rw [if_neg Bool.false_ne_true] at q1 ⊢; exact k _ G1 H1 c1 e1 q1
theorem pdw_or (ha : PDT Y a eA tA) (hb : PDW Y (.BoolOp .Or (b :: rest) pos) eB tB) : PDW Y (.BoolOp .Or (a :: b :: rest) pos) (tOr eA eB) (dtOr tA tB) := by
  obtain ⟨pa, ha⟩ := ha
  obtain ⟨pb, hb⟩ := hb
  refine ⟨pw_or pa pb, fun G H c ρ σ Qd Q R h k => ?_⟩
  refine ha G H c ρ σ _ _ R h fun b G1 H1 c1 e1 q1 => ?_
  cases b with
  | true => rw [if_pos rfl] at q1 ⊢; exact k _ G1 H1 c1 e1 q1
  | false => rw [if_neg Bool.false_ne_true] at q1 ⊢; exact hb G1 H1 c1 ρ σ _ _ (R.evo' e1) q1 fun b G2 H2 c2 e2 q2 => k b G2 H2 c2 (e1.trans e2) q2
theorem pdw_pt (h : PDW Y e eA tA) : PDT Y e eA tA := by
  obtain ⟨p, h⟩ := h
  exact ⟨p.pt, h⟩
theorem pdt_not (ha : PDT Y a eA tA) : PDT Y (.UnaryOp .Not a pos) (tNot eA) (dtNot tA) := by
  obtain ⟨pa, ha⟩ := ha
  exact ⟨pt_not pa, fun G H c ρ σ Qd Q R h k => ha G H c ρ σ _ _ R h fun b G1 H1 c1 e1 q1 => k _ G1 H1 c1 e1 q1⟩
def dAndV (ta tb : DE) (ρ : DEnv) (c : CN) (Q : QD) : Prop := ta ρ c fun x c1 => ∃ b, x = .bl b ∧ if b = true then tb ρ c1 Q else Q (.bl false) c1
def dOrV (ta tb : DE) (ρ : DEnv) (c : CN) (Q : QD) : Prop := ta ρ c fun x c1 => ∃ b, x = .bl b ∧ if b = true then Q (.bl true) c1 else tb ρ c1 Q
def dNotV (ta : DE) (ρ : DEnv) (c : CN) (Q : QD) : Prop := ta ρ c fun x c1 => ∃ b, x = .bl b ∧ Q (.bl (!b)) c1
theorem pd_one {op} (h : PD Y a ea ta) : PD Y (.BoolOp op [a] pos) ea ta := by
  obtain ⟨p, h⟩ := h
  exact ⟨pe_one p, h⟩
theorem pd_and (ha : PD Y a ea ta) (hb : PD Y (.BoolOp .And (b :: rest) pos) eb tb) : PD Y (.BoolOp .And (a :: b :: rest) pos) (tAndV ea eb) (dAndV ta tb) := by
  obtain ⟨pa, ha⟩ := ha
  obtain ⟨pb, hb⟩ := hb
  refine ⟨pe_and pa pb, fun G H c ρ σ Qd Q R h k => ?_⟩
  refine ha G H c ρ σ _ _ R h fun d v G1 H1 c1 e1 r1 q1 => ?_
  obtain ⟨b, rfl, q1⟩ := q1
  cases r1
  refine ⟨b, rfl, ?_⟩
  cases b with
  | true => rw [if_pos rfl] at q1 ⊢; exact hb G1 H1 c1 ρ σ _ _ (R.evo' e1) q1 fun d v G2 H2 c2 e2 r2 q2 => k d v G2 H2 c2 (e1.trans e2) r2 q2
  | false => rw [if_neg Bool.false_ne_true] at q1 ⊢; exact k _ _ G1 H1 c1 e1 (.bl _) q1
theorem pd_or (ha : PD Y a ea ta) (hb : PD Y (.BoolOp .Or (b :: rest) pos) eb tb) : PD Y (.BoolOp .Or (a :: b :: rest) pos) (tOrV ea eb) (dOrV ta tb) := by
  obtain ⟨pa, ha⟩ := ha
  obtain ⟨pb, hb⟩ := hb
  refine ⟨pe_or pa pb, fun G H c ρ σ Qd Q R h k => ?_⟩
  refine ha G H c ρ σ _ _ R h fun d v G1 H1 c1 e1 r1 q1 => ?_
  obtain ⟨b, rfl, q1⟩ := q1
  cases r1
  refine ⟨b, rfl, ?_⟩
  cases b with
  | false => rw [if_neg Bool.false_ne_true] at q1 ⊢; exact hb G1 H1 c1 ρ σ _ _ (R.evo' e1) q1 fun d v G2 H2 c2 e2 r2 q2 => k d v G2 H2 c2 (e1.trans e2) r2 q2
  | true => rw [if_pos rfl] at q1 ⊢; exact k _ _ G1 H1 c1 e1 (.bl _) q1
def dIf (t : DT) (ta tb : DE) (ρ : DEnv) (c : CN) (Q : QD) : Prop := t ρ c fun b c1 => if b = true then ta ρ c1 Q else tb ρ c1 Q
theorem pd_ifExp {f : Expr} (hc : PDT Y f eA tA) (ha : PD Y a ea ta) (hb : PD Y b eb tb) : PD Y (.IfExp f a b pos) (tIf eA ea eb) (dIf tA ta tb) := by
  obtain ⟨pc, hc⟩ := hc
  obtain ⟨pa, ha⟩ := ha
  obtain ⟨pb, hb⟩ := hb
  refine ⟨pe_ifExp pc pa pb, fun G H c ρ σ Qd Q R h k => ?_⟩
  refine hc G H c ρ σ _ _ R h fun b G1 H1 c1 e1 q1 => ?_
  cases b with
  | true => rw [if_pos rfl] at q1 ⊢; exact ha G1 H1 c1 ρ σ _ _ (R.evo' e1) q1 fun d v G2 H2 c2 e2 r2 q2 => k d v G2 H2 c2 (e1.trans e2) r2 q2
  | false => rw [if_neg Bool.false_ne_true] at q1 ⊢; exact hb G1 H1 c1 ρ σ _ _ (R.evo' e1) q1 fun d v G2 H2 c2 e2 r2 q2 => k d v G2 H2 c2 (e1.trans e2) r2 q2
end
end PL
namespace PL
open PySem PySem.Spec PyProof.Rows L2
theorem getElem?_set_cases {α : Type} {l : List α} {i j : Nat} {a x : α} (h : (l.set i a)[j]? = some x) : (j = i ∧ x = a ∧ i < l.length) ∨ (j ≠ i ∧ l[j]? = some x) := by
  by_cases e : i = j
  · subst e
    by_cases q : i < l.length
    · rw [List.getElem?_set_self q] at h
      exact .inl ⟨rfl, (Option.some.inj h).symm, q⟩
    · rw [List.getElem?_eq_none (by simpa using q)] at h; cases h
  · rw [List.getElem?_set_ne e] at h
    exact .inr ⟨fun z => e z.symm, h⟩
section
variable {Y : Ctx} {P G : GS Y.X.K} {H : Hp} {c : CN} {ρ : DEnv} {σ : L2.St}
theorem Rel.set_sl {s : Sl} {o : Option V} {i : Nat} (R : Rel Y G H c ρ σ) (r : SlOk Y.X.K G Y.H0 H s o) (hs : s.isOl = true → ∀ j, j ≠ i → (∃ t, ρ[j]? = some t ∧ t.isOl = true) → σ[j]? ≠ some o) : Rel Y G H c (ρ.set i s) (σ.set i o) := by
  refine ⟨R.ok, R.evo, by simp [R.len], fun j t e => ?_, fun j k t u ne e1 e2 h1 h2 => ?_, R.lo⟩
  · rcases getElem?_set_cases e with ⟨rfl, rfl, hl⟩ | ⟨ne, e⟩
    · exact ⟨o, List.getElem?_set_self (by rw [← R.len]; exact hl), r⟩
    · obtain ⟨o', e1, r1⟩ := R.sl j t e
      exact ⟨o', by rw [List.getElem?_set_ne (Ne.symm ne)]; exact e1, r1⟩
  · rcases getElem?_set_cases e1 with ⟨rfl, rfl, hl⟩ | ⟨ne1, f1⟩
    · rcases getElem?_set_cases e2 with ⟨rfl, _, _⟩ | ⟨ne2, f2⟩
      · exact absurd rfl ne
      · rw [List.getElem?_set_self (by rw [← R.len]; exact hl), List.getElem?_set_ne (Ne.symm ne2)]
        exact fun z => hs h1 k ne2 ⟨u, f2, h2⟩ z.symm
    · rcases getElem?_set_cases e2 with ⟨rfl, rfl, hl⟩ | ⟨ne2, f2⟩
      · rw [List.getElem?_set_self (by rw [← R.len]; exact hl), List.getElem?_set_ne (Ne.symm ne1)]
        exact hs h2 j ne1 ⟨t, f1, h1⟩
      · rw [List.getElem?_set_ne (Ne.symm ne1), List.getElem?_set_ne (Ne.symm ne2)]
        exact R.sep j k t u ne f1 f2 h1 h2
theorem Rel.set_fz {d : D} {v : V} (R : Rel Y G H c ρ σ) (r : Rp Y.X.K G v d) (i : Nat) : Rel Y G H c (ρ.set i (.fz d)) (σ.set i (some v)) :=
  R.set_sl ⟨v, rfl, r⟩ fun z => nomatch z
theorem Rel.set_no (R : Rel Y G H c ρ σ) (i : Nat) (o : Option V) : Rel Y G H c (ρ.set i .no) (σ.set i o) :=
  R.set_sl trivial fun z => nomatch z
theorem RelP.evo {G' : GS Y.X.K} {H' : Hp} {c' : CN} (R : RelP Y P G H c ρ σ) (e : Evo G H c G' H' c') : RelP Y P G' H' c' ρ σ := ⟨R.r.evo' e, R.le.trans e.le⟩
theorem GS.Le.more {K : PySem.W.Frag} {G : GS K} {a : Addr} {o : HO} (hf : G.f a = none) : G.Le { G with f := upd G.f a o } := ⟨fun b u q => by
    have : b ≠ a := fun z => by subst z; rw [hf] at q; cases q
    show upd G.f a o b = some u
    rw [upd_ne this]; exact q, fun _ z => z, fun _ z => z⟩
theorem GS.Ok.mut {K : PySem.W.Frag} {G : GS K} {H : Hp} {c : CN} {a : Addr} {o : HO} (ok : G.Ok H c) (hf : G.f a = none) (hp : ¬ G.pu a) : G.Ok (upd H a o) c :=
  ok.to (GS.Le.refl _) (fun _ => Iff.rfl) (fun _ => Iff.rfl) (fun b u e => by
    have : b ≠ a := fun z => by subst z; rw [hf] at e; cases e
    rw [upd_ne this]; exact ok.same b u e) ok.npu fun b hb => upd_ne fun z => hp (z ▸ hb)
theorem Evo.freeze {K : PySem.W.Frag} {G G' : GS K} {H H' : Hp} {c c' : CN} {a : Addr} {o : HO} (e : Evo G H c G' H' c') (h0 : H a = none) (hf : G'.f a = none) (hp : ¬ G'.pu a) (h : H' a = some o) : Evo G H c { G' with f := upd G'.f a o } H' c' where
  ok := e.ok.to (.more hf) (fun _ => Iff.rfl) (fun _ => Iff.rfl) (fun b u q => by
      have q : upd G'.f a o b = some u := q
      by_cases hb : b = a
      · subst hb; rw [upd_same] at q; cases q; exact h
      · rw [upd_ne hb] at q; exact e.ok.same b u q) (fun b hb => by
      have : b ≠ a := fun z => hp (z ▸ hb)
      show upd G'.f a o b = none
      rw [upd_ne this]; exact e.ok.npu b hb) fun _ _ => rfl
  le := e.le.trans (.more hf)
  keep := e.keep
  pus := e.pus
  new := fun b u q n => by
    show upd G'.f a o b = none
    rw [upd_ne (ne_of_none q h0)]; exact e.new b u q n
  npu := e.npu
theorem RelP.freeze {ds : List D} {i : Nat} (R : RelP Y P G H c ρ σ) (hi : ρ[i]? = some (.ol ds)) : ∃ G', RelP Y P G' H c (ρ.set i (.fz (.lst ds))) σ := by
  obtain ⟨o, e1, a, xs, rfl, h1, h2, h3, h4, h5⟩ := R.r.sl i _ hi
  have le : G.Le { G with f := upd G.f a (.lst xs) } := .more h1
  refine ⟨{ G with f := upd G.f a (.lst xs) }, ⟨?_, R.r.evo.freeze h3 h1 h2 h4, by simp [R.r.len], fun j s e => ?_, fun j k s t ne e2 e3 q1 q2 => ?_, R.r.lo.trans le⟩, R.le.trans le⟩
  · exact (R.r.evo.freeze h3 h1 h2 h4).ok
  · rcases getElem?_set_cases e with ⟨rfl, rfl, _⟩ | ⟨ne, e⟩
    · exact ⟨_, e1, .ref a, rfl, .lst upd_same (h5.mono le)⟩
    · obtain ⟨o', e2, r⟩ := R.r.sl j s e
      refine ⟨o', e2, ?_⟩
      cases s with
      | no => trivial
      | fz d => obtain ⟨v, q, r⟩ := r; exact ⟨v, q, r.mono le⟩
      | ol es =>
        obtain ⟨b, ys, rfl, g1, g2, g3, g4, g5⟩ := r
        have nab : b ≠ a := fun z => by
          subst z
          exact R.r.sep i j _ _ (Ne.symm ne) hi e rfl rfl (e1.trans e2.symm)
        exact ⟨b, ys, rfl, by show upd G.f a _ b = none; rw [upd_ne nab]; exact g1, g2, g3, g4, g5.mono le⟩
      | od ks es =>
        obtain ⟨b, ys, rfl, g1, g2, g3, g4, g5, g6⟩ := r
        have nab : b ≠ a := fun z => by
          subst z
          exact R.r.sep i j _ _ (Ne.symm ne) hi e rfl rfl (e1.trans e2.symm)
        exact ⟨b, ys, rfl, by show upd G.f a _ b = none; rw [upd_ne nab]; exact g1, g2, g3, g4, g5, g6.mono le⟩
  · rcases getElem?_set_cases e2 with ⟨rfl, rfl, _⟩ | ⟨ne2, e2⟩
    · cases q1
    · rcases getElem?_set_cases e3 with ⟨rfl, rfl, _⟩ | ⟨ne3, e3⟩
      · cases q2
      · exact R.r.sep j k s t ne e2 e3 q1 q2
end
section
variable {Y : Ctx} {a b e f : Expr} {st : Stmt} {rest body orelse : List Stmt} {pos : Pos} {ea eb ee : TE} {ta tb te : DE} {tA : DT} {eA : TT} {s1 s2 : TS} {t u : DS}
def sNext (DD : DEnds) (ρ : DEnv) (c : CN) : Prop := DD.nx ρ c
def sSeq (t u : DS) (DD : DEnds) (ρ : DEnv) (c : CN) : Prop := t { DD with nx := u DD } ρ c
theorem pss_nil' : PDSs Y [] tNext sNext := ⟨pss_nil, fun _ _ _ _ _ _ _ _ K R h => K.nx _ _ _ _ _ R h⟩
theorem pds_cons (h1 : PDS Y st s1 t) (h2 : PDSs Y rest s2 u) : PDSs Y (st :: rest) (tSeq s1 s2) (sSeq t u) :=
  ⟨pss_cons h1.p h2.p, fun P G H c ρ σ DD EE K R h => h1.s P G H c ρ σ { DD with nx := u DD } { EE with nx := s2 EE } ⟨fun G H c ρ σ R h => h2.s P G H c ρ σ DD EE K R h, K.rt, K.bk, K.ct⟩ R h⟩
theorem pds_one (h1 : PDS Y st s1 t) : PDSs Y [st] s1 t := ⟨pss_one h1.p, h1.s⟩
def sRet (te : DE) (DD : DEnds) (ρ : DEnv) (c : CN) : Prop := te ρ c DD.rt
theorem pds_ret (h : PD Y e ee te) : PDS Y (.Return (some e) pos) (tRet ee) (sRet te) :=
  ⟨ps_ret h.p, fun P G H c ρ σ DD EE K R q => h.s G H c ρ σ _ _ R.r q fun d v G' H' c' ev r q => K.rt G' H' c' d v (R.r.evo.trans ev) r q⟩
def sRetN (DD : DEnds) (_ : DEnv) (c : CN) : Prop := DD.rt .non c
def sBreak (DD : DEnds) (ρ : DEnv) (c : CN) : Prop := DD.bk ρ c
def sCont (DD : DEnds) (ρ : DEnv) (c : CN) : Prop := DD.ct ρ c
def sIf (tc : DT) (t u : DS) (DD : DEnds) (ρ : DEnv) (c : CN) : Prop := tc ρ c fun b c1 => if b = true then t DD ρ c1 else u DD ρ c1
theorem pds_if (hc : PDT Y f eA tA) (ha : PDSs Y body s1 t) (hb : PDSs Y orelse s2 u) : PDS Y (.If f body orelse pos) (tIfS eA s1 s2) (sIf tA t u) :=
  ⟨ps_if hc.p ha.p hb.p, fun P G H c ρ σ DD EE K R q => hc.s G H c ρ σ _ _ R.r q fun b G1 H1 c1 ev q => by
    cases b with
    | true => rw [if_pos rfl] at q ⊢; exact ha.s P G1 H1 c1 ρ σ DD EE K (R.evo ev) q
    | false => rw [if_neg Bool.false_ne_true] at q ⊢; exact hb.s P G1 H1 c1 ρ σ DD EE K (R.evo ev) q⟩
def sDrop (te : DE) (DD : DEnds) (ρ : DEnv) (c : CN) : Prop := te ρ c fun _ c1 => DD.nx ρ c1
theorem pds_expr (h : PD Y e ee te) (hs : swapsWith e none pos.line Y.X.env = pure false := by rfl) : PDS Y (.Expr e pos) (tDrop ee) (sDrop te) :=
  ⟨ps_expr h.p hs, fun P G H c ρ σ DD EE K R q => h.s G H c ρ σ _ _ R.r q fun d v G' H' c' ev r q => K.nx G' H' c' ρ σ (R.evo ev) q⟩
def sSet (i : Nat) (te : DE) (DD : DEnds) (ρ : DEnv) (c : CN) : Prop := te ρ c fun d c1 => DD.nx (ρ.set i (.fz d)) c1
theorem pds_set (i : Nat) {x : Str} {pos' : Pos} (hN : Y.X.N.Nodup) (h : PD Y e ee te) (hi : Y.X.N[i]? = some x := by rfl) (hx : Loc Y.X.env.scope x := by first | exact Or.inl rfl | exact Or.inr rfl) (hs : swapsWith e (some (.Name x pos')) pos.line Y.X.env = pure false := by rfl)
    (hf : Y.X.fn x = true ∨ Y.X.env.scope.names.lookup x = some .local := by first | exact .inl rfl | exact .inr rfl) : PDS Y (.Assign [.Name x pos'] e pos) (tAsg ee (gName i)) (sSet i te) :=
  ⟨ps_set hN hi hx h.p hs hf, fun P G H c ρ σ DD EE K R q => h.s G H c ρ σ _ _ R.r q fun d v G' H' c' ev r q => K.nx G' H' c' _ _ ⟨(R.r.evo' ev).set_fz r i, R.le.trans ev.le⟩ q⟩
def sAug (i : Nat) (te : DE) (rd : RD2) (DD : DEnds) (ρ : DEnv) (c : CN) : Prop := ∃ x, ρ[i]? = some (.fz x) ∧ te ρ c fun y c1 => rd x y c1 fun z c2 => DD.nx (ρ.set i (.fz z)) c2
theorem pds_aug (i : Nat) {x : Str} {op : Operator} {r : R2} {rd : RD2} {pos' : Pos} (hN : Y.X.N.Nodup) (ho : OpR Y.X (inplaceOp op) r) (br : Br2 Y.X.K r rd) (h : PD Y e ee te) (hi : Y.X.N[i]? = some x := by rfl) (hx : Loc Y.X.env.scope x := by first | exact Or.inl rfl | exact Or.inr rfl)
    (hf : Y.X.fn x = true ∨ Y.X.env.scope.names.lookup x = some .local := by first | exact .inl rfl | exact .inr rfl) : PDS Y (.AugAssign (.Name x pos') op e pos) (tAug i ee r) (sAug i te rd) :=
  ⟨ps_aug hN hi hx h.p ho hf, fun P G H c ρ σ DD EE K R q => by
    obtain ⟨x, e1, q⟩ := q
    obtain ⟨o, e2, v, rfl, rv⟩ := R.r.sl i _ e1
    refine ⟨v, e2, h.s G H c ρ σ _ _ R.r q fun d y G1 H1 c1 ev r1 q1 => ?_⟩
    refine br G1 H1 c1 v y x d _ _ ev.ok (rv.mono ev.le) r1 q1 fun z w G2 H2 c2 ev2 r2 q2 => ?_
    exact K.nx G2 H2 c2 _ _ ⟨(R.r.evo' (ev.trans ev2)).set_fz r2 i, R.le.trans (ev.trans ev2).le⟩ q2⟩
def sFreeze (i : Nat) (t : DS) (DD : DEnds) (ρ : DEnv) (c : CN) : Prop := ∃ ds, ρ[i]? = some (.ol ds) ∧ t DD (ρ.set i (.fz (.lst ds))) c
def sNever (_ : DEnds) (_ : DEnv) (_ : CN) : Prop := False
def sWhile (tc : DT) (tb : DS) (DD : DEnds) (ρ : DEnv) (c : CN) : Prop := ∃ I : Nat → DEnv → CN → Prop, (∃ m, I m ρ c) ∧ ∀ m ρ c, I m ρ c →
  tc ρ c fun b c1 => if b = true then tb { DD with nx := fun ρ' c' => ∃ m', m' < m ∧ I m' ρ' c', ct := fun ρ' c' => ∃ m', m' < m ∧ I m' ρ' c', bk := DD.nx } ρ c1 else DD.nx ρ c1
theorem pds_while (hp : PassesOwn (model Y.X.prog Y.X.w) Y.X.A Y.X.env Y.X.xe) (hc : PDT Y f eA tA) (hb : PDSs Y body s1 t) : PDS Y (.While f body [] pos) (tWhile eA s1) (sWhile tA t) :=
  ⟨ps_while hp hc.p hb.p, fun P G H c ρ σ DD EE K R q => by
    obtain ⟨I, ⟨m0, i0⟩, step⟩ := q
    refine ⟨fun m σ H => ∃ G c ρ, RelP Y P G H c ρ σ ∧ I m ρ c, ⟨m0, G, c, ρ, R, i0⟩, ?_⟩
    rintro m σ H ⟨G, c, ρ, R, im⟩
    refine hc.s G H c ρ σ _ _ R.r (step m ρ c im) fun b G1 H1 c1 ev q => ?_
    cases b with
    | false => rw [if_neg Bool.false_ne_true] at q ⊢; exact K.nx G1 H1 c1 ρ σ (R.evo ev) q
    | true =>
      rw [if_pos rfl] at q ⊢
      refine ⟨fun σ' H' => ∃ m', m' < m ∧ ∃ G c ρ, RelP Y P G H' c ρ σ' ∧ I m' ρ c, fun σ' H' ⟨m', l, z⟩ => ⟨m', l, z⟩, ?_⟩
      refine hb.s P G1 H1 c1 ρ σ _ _ ?_ (R.evo ev) q
      exact ⟨fun G H c ρ σ R ⟨m', l, z⟩ => ⟨m', l, G, c, ρ, R, z⟩, K.rt, K.nx, fun G H c ρ σ R ⟨m', l, z⟩ => ⟨m', l, G, c, ρ, R, z⟩⟩⟩
end
abbrev DG := D → DEnv → CN → (DEnv → CN → Prop) → Prop
abbrev DGs := List D → DEnv → CN → (DEnv → CN → Prop) → Prop
def Off (vs : List Nat) (σ σ' : L2.St) : Prop := ∀ ws : List Nat, (∀ i, i ∈ vs → i ∈ ws) → wipe σ' ws = wipe σ ws
theorem wipe_set {σ : L2.St} {i : Nat} {o : Option V} : ∀ {ws : List Nat}, i ∈ ws → wipe (σ.set i o) ws = wipe σ ws
  | [], h => by cases h
  | w :: ws, h => by
    have key : ∀ ws : List Nat, i ∈ ws ∨ wipe (σ.set i o) ws = (wipe σ ws).set i o := by
      intro ws
      induction ws with
      | nil => exact .inr rfl
      | cons w ws ih =>
        by_cases e : i = w
        · exact .inl (e ▸ List.mem_cons_self)
        · rcases ih with h | h
          · exact .inl (List.mem_cons_of_mem _ h)
          · refine .inr ?_
            show (wipe (σ.set i o) ws).set w none = ((wipe σ ws).set w none).set i o
            rw [h, List.set_comm _ _ e]
    show (wipe (σ.set i o) ws).set w none = (wipe σ ws).set w none
    by_cases hm : i ∈ ws
    · rw [wipe_set hm]
    · have e : i = w := by
        rcases List.mem_cons.mp h with e | e
        · exact e
        · exact absurd e hm
      rcases key ws with h | h
      · exact absurd h hm
      · rw [h, e, List.set_set]
def SimG (Y : Ctx) (gg : TG) (g : DG) (vs : List Nat) : Prop := ∀ G H c ρ σ d v (Qd : DEnv → CN → Prop) (Q : L2.St → Hp → Prop), Rel Y G H c ρ σ → Rp Y.X.K G v d → g d ρ c Qd →
  (∀ ρ' σ', Rel Y G H c ρ' σ' → Off vs σ σ' → Qd ρ' c → Q σ' H) → gg v σ H Q
structure PDG (Y : Ctx) (tg : Expr) (gg : TG) (g : DG) (vs : List Nat) : Prop where
  p : PG Y.X tg gg
  s : SimG Y gg g vs
def SimGs (Y : Ctx) (gg : TGs) (g : DGs) (vs : List Nat) : Prop := ∀ G H c ρ σ ds xs (Qd : DEnv → CN → Prop) (Q : L2.St → Hp → Prop), Rel Y G H c ρ σ → RpAll Y.X.K G xs ds → g ds ρ c Qd →
  (∀ ρ' σ', Rel Y G H c ρ' σ' → Off vs σ σ' → Qd ρ' c → Q σ' H) → gg xs σ H Q
structure PDGs (Y : Ctx) (tgs : List Expr) (gg : TGs) (g : DGs) (vs : List Nat) : Prop where
  p : PGs Y.X tgs gg
  s : SimGs Y gg g vs
def kName (i : Nat) (d : D) (ρ : DEnv) (c : CN) (Q : DEnv → CN → Prop) : Prop := Q (ρ.set i (.fz d)) c
def kNil (ds : List D) (ρ : DEnv) (c : CN) (Q : DEnv → CN → Prop) : Prop := ds = [] ∧ Q ρ c
def kCons (g : DG) (r : DGs) (ds : List D) (ρ : DEnv) (c : CN) (Q : DEnv → CN → Prop) : Prop := ∃ d es, ds = d :: es ∧ g d ρ c fun ρ' c' => r es ρ' c' Q
def kTup (n : Nat) (g : DGs) (d : D) (ρ : DEnv) (c : CN) (Q : DEnv → CN → Prop) : Prop := ∃ ds, d = .tup ds ∧ ds.length = n ∧ g ds ρ c Q
section
variable {Y : Ctx} {pos : Pos} {e : Expr} {es : List Expr} {gg : TG} {g : DG} {ggs : TGs} {gs : DGs} {vs ws : List Nat} {ee : TE} {te : DE}
theorem pdg_name (i : Nat) {x : Str} (hN : Y.X.N.Nodup) (hi : Y.X.N[i]? = some x := by rfl) (hx : Loc Y.X.env.scope x := by first | exact Or.inl rfl | exact Or.inr rfl) (hf : Y.X.fn x = true ∨ Y.X.env.scope.names.lookup x = some .local := by first | exact .inl rfl | exact .inr rfl) : PDG Y (.Name x pos) (gName i) (kName i) [i] :=
  ⟨pg_name hN hi hx hf, fun G H c ρ σ d v Qd Q R r h k => k _ _ (R.set_fz r i) (fun ws hw => wipe_set (hw i List.mem_cons_self)) h⟩
theorem pdg_nil : PDGs Y [] gNil kNil [] := ⟨pgs_nil, fun G H c ρ σ ds xs Qd Q R r h k => by
  obtain ⟨rfl, h⟩ := h
  cases r
  exact ⟨rfl, k _ _ R (fun _ _ => rfl) h⟩⟩
theorem pdg_cons (h1 : PDG Y e gg g vs) (h2 : PDGs Y es ggs gs ws) (hs : (assignEach (e :: es) Y.X.env).map (·.2) = assign e Y.X.env :: (assignEach es Y.X.env).map (·.2) := by rfl) : PDGs Y (e :: es) (gCons gg ggs) (kCons g gs) (vs ++ ws) :=
  ⟨pgs_cons h1.p h2.p hs, fun G H c ρ σ ds xs Qd Q R r h k => by
    obtain ⟨d, es, rfl, h⟩ := h
    cases r with
    | cons r1 r2 =>
      refine ⟨_, _, rfl, h1.s G H c ρ σ d _ _ _ R r1 h fun ρ1 σ1 R1 o1 q1 => h2.s G H c ρ1 σ1 es _ _ _ R1 r2 q1 fun ρ2 σ2 R2 o2 q2 => k ρ2 σ2 R2 (fun l hl => ?_) q2⟩
      rw [o2 l fun i hi => hl i (List.mem_append_right _ hi), o1 l fun i hi => hl i (List.mem_append_left _ hi)]⟩
def sAsg (te : DE) (g : DG) (DD : DEnds) (ρ : DEnv) (c : CN) : Prop := te ρ c fun d c1 => g d ρ c1 DD.nx
theorem pds_asg {tg : Expr} (h : PD Y e ee te) (hg : PDG Y tg gg g vs) (hs : swapsWithSole [tg] e pos.line Y.X.env = pure false := by rfl) (hw : swappedStores [tg] e Y.X.env = pure none := by rfl)
    (h1 : (assignEach [tg] Y.X.env).map (·.2) = [assign tg Y.X.env] := by rfl) : PDS Y (.Assign [tg] e pos) (tAsg ee gg) (sAsg te g) :=
  ⟨ps_asg h.p hg.p hs hw h1, fun P G H c ρ σ DD EE K R q => h.s G H c ρ σ _ _ R.r q fun d v G' H' c' ev r q =>
    hg.s G' H' c' ρ σ d v _ _ (R.r.evo' ev) r q fun ρ' σ' R' _ q' => K.nx G' H' c' ρ' σ' ⟨R', R.le.trans ev.le⟩ q'⟩
end
def WalkD (K : PySem.W.Frag) (J : It) (L : List D) (G0 : GS K) : Prop := ∀ G H c, G0.Le G → G.Ok H c →
  (∀ i d, L[i]? = some d → J.go i H ∧ ∀ x H', J.yld i H x H' → ∃ G', Evo G H c G' H' c ∧ Rp K G' x d) ∧ J.stop L.length H
abbrev DI := DEnv → CN → (List D → CN → Prop) → Prop
def SimI (Y : Ctx) (wi : TI) (ti : DI) : Prop := ∀ G H c ρ σ (Qd : List D → CN → Prop) (R : It → Hp → Prop), Rel Y G H c ρ σ → ti ρ c Qd →
  (∀ L J G1 H1 c1, Evo G H c G1 H1 c1 → WalkD Y.X.K J L G1 → Qd L c1 → R J H1) → wi σ H R
structure PDI (Y : Ctx) (tg iter : Expr) (wi : TI) (ti : DI) : Prop where
  p : PI Y.X tg iter wi
  s : SimI Y wi ti
section
variable {Y : Ctx} {pos : Pos} {e tg : Expr} {ee : TE} {te : DE}
theorem walkD_list {K : PySem.W.Frag} {a : Addr} {xs : List V} {ds : List D} {G0 : GS K} (h : SqL K G0.f a xs) (r : RpAll K G0 xs ds) : WalkD K (Itl K a) ds G0 := by
  intro G H c le ok
  have hq : SqL K H a xs := SqL.same (le.f.trans ok.same) h
  refine ⟨fun i d hd => ?_, ⟨xs, hq, by rw [r.length]; exact Nat.le_refl _⟩⟩
  obtain ⟨v, hv, rv⟩ := r.get hd
  refine ⟨⟨xs, v, hq, hv⟩, fun x H' y => ?_⟩
  obtain ⟨rfl, y⟩ := y
  have e := y xs hq
  rw [hv] at e
  cases e
  exact ⟨G, Evo.refl ok, rv.mono le⟩
end
end PL
namespace PL
open PySem PySem.Spec PyProof.Rows L2
theorem walkD_tup {K : PySem.W.Frag} {a : Addr} {xs : List V} {ds : List D} {G0 : GS K} (h : SqT K G0.f a xs) (r : RpAll K G0 xs ds) : WalkD K (Itt K a) ds G0 := by
  intro G H c le ok
  have hq : SqT K H a xs := SqT.same (le.f.trans ok.same) h
  refine ⟨fun i d hd => ?_, ⟨xs, hq, by rw [r.length]; exact Nat.le_refl _⟩⟩
  obtain ⟨v, hv, rv⟩ := r.get hd
  refine ⟨⟨xs, v, hq, hv⟩, fun x H' y => ?_⟩
  obtain ⟨rfl, y⟩ := y
  have e := y xs hq
  rw [hv] at e
  cases e
  exact ⟨G, Evo.refl ok, rv.mono le⟩
def signs (x : Str) : List D := x.cps.toList.map fun c => D.str ⟨#[c]⟩
theorem signs_get {x : Str} {i : Nat} {d : D} (h : (signs x)[i]? = some d) : ∃ c, x.cps[i]? = some c ∧ d = .str ⟨#[c]⟩ := by
  unfold signs at h
  rw [List.getElem?_map] at h
  cases e : x.cps.toList[i]? with
  | none => rw [e] at h; cases h
  | some c => rw [e] at h; cases h; exact ⟨c, by simpa using e, rfl⟩
theorem walkD_str {K : PySem.W.Frag} (x : Str) (G0 : GS K) : WalkD K (Its x) (signs x) G0 := by
  intro G H c le ok
  have hl : (signs x).length = x.cps.size := by simp [signs]
  refine ⟨fun i d hd => ?_, by show x.cps.size ≤ _; omega⟩
  obtain ⟨k, hk, rfl⟩ := signs_get hd
  have hi : i < x.cps.size := (Array.getElem?_eq_some_iff.mp hk).1
  refine ⟨hi, fun v H' y => ?_⟩
  obtain ⟨rfl, k', hk', rfl⟩ := y
  rw [hk] at hk'
  cases hk'
  exact ⟨G, Evo.refl ok, .str _⟩
def upInts (lo : Int) (n : Nat) : List D := (List.range n).map fun i => D.int (lo + (i : Nat))
theorem upInts_get {lo : Int} {n i : Nat} {d : D} (h : (upInts lo n)[i]? = some d) : i < n ∧ d = .int (lo + (i : Nat)) := by
  unfold upInts at h
  rw [List.getElem?_map] at h
  by_cases e : i < n
  · rw [List.getElem?_range e] at h
    cases h
    exact ⟨e, rfl⟩
  · rw [List.getElem?_eq_none (by simpa using e)] at h; cases h
theorem upInts_length (lo : Int) (n : Nat) : (upInts lo n).length = n := by simp [upInts]
theorem walkD_range {K : PySem.W.Frag} (lo : Int) (n : Nat) (G0 : GS K) : WalkD K (Itr lo n) (upInts lo n) G0 := by
  intro G H c le ok
  refine ⟨fun i d hd => ?_, by show n ≤ _; rw [upInts_length]; exact Nat.le_refl _⟩
  obtain ⟨hi, rfl⟩ := upInts_get hd
  refine ⟨hi, fun v H' y => ?_⟩
  obtain ⟨rfl, rfl⟩ := y
  exact ⟨G, Evo.refl ok, .int _⟩
def numbered (k : Nat) : List D → List D
  | [] => []
  | d :: ds => .tup [.int (k : Nat), d] :: numbered (k + 1) ds
section
variable {Y : Ctx} {pos : Pos} {e tg : Expr} {es : List Expr} {ee : TE} {te : DE} {fa : TA} {t : DA} {wi : TI} {ti : DI}
def iAny (K : PySem.W.Frag) (tl : TE) : TI := fun σ H R => tl σ H fun x H1 =>
  (∃ a, x = .ref a ∧ (∃ xs, SqL K H1 a xs) ∧ R (Itl K a) H1) ∨ (∃ a, x = .ref a ∧ (∃ xs, SqT K H1 a xs) ∧ R (Itt K a) H1) ∨ ∃ z, x = .str z ∧ R (Its z) H1
theorem pi_any {X : Cx} {l : Expr} {tl : TE} (hl : PE X l tl) : PI X tg l (iAny X.K tl) := by
  refine ⟨fun pins s σ H R I h => thn (hl.run pins s σ H _ I h) fun v s1 ⟨x, H1, I1, r1, q1⟩ => ?_⟩
  have one : ∀ {b : Addr} {it : Addr}, b ∈ [it] → b = it := fun h => by simpa using h
  rcases q1 with ⟨a, rfl, ⟨xs, hq⟩, q⟩ | ⟨a, rfl, ⟨xs, hq⟩, q⟩ | ⟨z, rfl, q⟩
  · cases r1
    obtain ⟨its, rv, p, hz⟩ := I1.list hq
    exact wpAny_pyIter_list p.isList ⟨s1.heap.objs.size, _, _, _, H1, rfl, I1.kept (t' := s1.toks) fun b o e => Heap.get?_push_of_some _ e, turn_list a _, ⟨_, Heap.get?_push_size _ rfl, rfl, rfl⟩, fun b hb => by
      rw [one hb]; exact I1.fpOk (Nat.le_refl _) (I1.hok.fresh (Nat.le_refl _)), q⟩
  · cases r1
    obtain ⟨its, rv, p, hz⟩ := I1.tuple hq
    exact wpAny_pyIter_tuple (show s1.heap.IsTuple a its.toArray from p) ⟨s1.heap.objs.size, _, _, _, H1, rfl, I1.kept (t' := s1.toks) fun b o e => Heap.get?_push_of_some _ e, turn_tuple a _, ⟨_, Heap.get?_push_size _ rfl, rfl, rfl⟩, fun b hb => by
      rw [one hb]; exact I1.fpOk (Nat.le_refl _) (I1.hok.fresh (Nat.le_refl _)), q⟩
  · obtain ⟨tk, rfl⟩ := r1
    refine wpAny_pyIter_strU ⟨s1.heap.objs.size, _, _, _, H1, rfl, I1.kept (t' := s1.toks) fun b o e => Heap.get?_push_of_some _ e, turn_str (s1.heap.objs.size) z tk (strIterType z) ?_, ⟨_, Heap.get?_push_size _ rfl, rfl, rfl⟩, fun b hb => by
      rw [one hb]; exact I1.fpOk (Nat.le_refl _) (I1.hok.fresh (Nat.le_refl _)), q⟩
    unfold strIterType
    split
    · exact .inl rfl
    · exact .inr rfl
def items : D → Option (List D)
  | .lst l => some l
  | .tup l => some l
  | .str x => some (signs x)
  | _ => none
def diAny (te : DE) (ρ : DEnv) (c : CN) (Q : List D → CN → Prop) : Prop := te ρ c fun d c1 => ∃ L, items d = some L ∧ Q L c1
theorem pdi_any (h : PD Y e ee te) : PDI Y tg e (iAny Y.X.K ee) (diAny te) := by
  refine ⟨pi_any h.p, fun G H c ρ σ Qd R Rl q k => ?_⟩
  refine h.s G H c ρ σ _ _ Rl q fun d v G1 H1 c1 ev r q => ?_
  obtain ⟨L, e, q⟩ := q
  cases r with
  | lst h1 h2 => cases e; exact .inl ⟨_, rfl, ⟨_, ev.ok.sq h1⟩, k _ _ G1 H1 c1 ev (walkD_list (SqL.of h1) h2) q⟩
  | tup h1 h2 => cases e; exact .inr (.inl ⟨_, rfl, ⟨_, SqT.same ev.ok.same h1⟩, k _ _ G1 H1 c1 ev (walkD_tup h1 h2) q⟩)
  | str x => cases e; exact .inr (.inr ⟨_, rfl, k _ _ G1 H1 c1 ev (walkD_str x G1) q⟩)
  | _ => cases e
def diRng1 (t : DA) (ρ : DEnv) (c : CN) (Q : List D → CN → Prop) : Prop := t ρ c fun ds c1 => ∃ j : Int, ds = [.int j] ∧ -(2 ^ 62) ≤ j ∧ j < 2 ^ 62 ∧ Q (upInts 0 j.toNat) c1
theorem pdi_range1 {a : Expr} {p : Pos} (hm : Y.X.mg "range" = none) (ha : PDA Y [a] fa t) (hg : Gl Y.X "range" := by rfl) (hs : starEach [a] Y.X.env = [(false, eval a Y.X.env)] := by rfl) :
    PDI Y tg (.Call (.Name "range" p) [a] [] pos) (iRng1 fa) (diRng1 t) := by
  refine ⟨pi_range1 hg hm ha.p hs, fun G H c ρ σ Qd R Rl q k => ?_⟩
  refine ha.s G H c ρ σ _ _ Rl q fun ds vs G1 H1 c1 ev r q => ?_
  obtain ⟨j, rfl, h1, h2, q⟩ := q
  cases r with
  | cons r rr => cases rr; cases r; exact ⟨j, rfl, h1, h2, k _ _ G1 H1 c1 ev (walkD_range 0 _ G1) q⟩
def diRng2 (t : DA) (ρ : DEnv) (c : CN) (Q : List D → CN → Prop) : Prop := t ρ c fun ds c1 => ∃ i j : Int, ds = [.int i, .int j] ∧ (-(2 ^ 62) ≤ i ∧ i < 2 ^ 62 ∧ -(2 ^ 62) ≤ j ∧ j < 2 ^ 62) ∧ Q (upInts i (j - i).toNat) c1
def ForB (g : DG) (tb : DS) (DD : DEnds) (ρ : DEnv) (L : List D) (c1 : CN) : Prop := ∃ I : Nat → DEnv → CN → Prop, I 0 ρ c1 ∧
  (∀ k x ρ c, L[k]? = some x → I k ρ c → g x ρ c fun ρ' c' => tb { DD with nx := I (k + 1), ct := I (k + 1), bk := DD.nx } ρ' c') ∧ ∀ ρ c, I L.length ρ c → DD.nx ρ c
def sFor (ti : DI) (g : DG) (tb : DS) (DD : DEnds) (ρ : DEnv) (c : CN) : Prop := ti ρ c fun L c1 => ForB g tb DD ρ L c1
theorem pds_for {body : List Stmt} {gg : TG} {g : DG} {vs : List Nat} {ts : TS} {tb : DS} (hp : PassesOwn (model Y.X.prog Y.X.w) Y.X.A Y.X.env Y.X.xe) (hc : Y.X.calm = true) (hi : PDI Y tg e wi ti) (hg : PDG Y tg gg g vs) (hb : PDSs Y body ts tb)
    (hs : ∀ x, foldedSetIterable e Y.X.env x = pure x := by intro _; rfl) : PDS Y (.For tg e body [] pos) (tFor wi gg ts) (sFor ti g tb) := by
  refine ⟨ps_for hp hc hi.p hg.p hb.p hs, fun P G H c ρ σ DD EE K R q => ?_⟩
  refine hi.s G H c ρ σ _ _ R.r q fun L J G1 H1 c1 ev wk q => ?_
  obtain ⟨I, i0, step, fin⟩ := q
  refine ⟨fun i m σ H => m = L.length - i ∧ i ≤ L.length ∧ ∃ G c ρ, RelP Y G1 G H c ρ σ ∧ I i ρ c, ⟨_, rfl, Nat.zero_le _, G1, c1, ρ, ⟨R.r.evo' ev, GS.Le.refl _⟩, i0⟩, ?_⟩
  rintro i m σ H ⟨rfl, hi, G, c, ρ, R1, ii⟩
  obtain ⟨wgo, wst⟩ := wk G H c R1.le R1.r.ok
  by_cases hlt : i < L.length
  · refine .inr ⟨(wgo i L[i] (by simp [hlt])).1, fun σ' H' => ∃ G c ρ, RelP Y G1 G H' c ρ σ' ∧ I (i + 1) ρ c, fun σ' H' z => ⟨L.length - (i + 1), by omega, rfl, hlt, z⟩, fun x H' y => ?_⟩
    obtain ⟨G', e', r'⟩ := (wgo i L[i] (by simp [hlt])).2 x H' y
    have R2 := R1.evo e'
    refine hg.s G' H' c ρ σ L[i] x _ _ R2.r r' (step i _ ρ c (by simp [hlt]) ii) fun ρ2 σ2 R3 _ q2 => ?_
    refine hb.s G1 G' H' c ρ2 σ2 _ _ ?_ ⟨R3, R2.le⟩ q2
    exact ⟨fun G H c ρ σ R z => ⟨G, c, ρ, R, z⟩, K.rt, fun G H c ρ σ R' z => K.nx G H c ρ σ ⟨R'.r, (GS.Le.trans R.le ev.le).trans R'.le⟩ z, fun G H c ρ σ R z => ⟨G, c, ρ, R, z⟩⟩
  · have e : i = L.length := by omega
    subst e
    exact .inl ⟨wst, K.nx G H c ρ σ ⟨R1.r, GS.Le.trans (GS.Le.trans R.le ev.le) R1.le⟩ (fin ρ c ii)⟩
end
end PL
namespace PL
open PySem PySem.Spec PyProof.Rows L2
section
variable {Y : Ctx} {P G G1 : GS Y.X.K} {H H1 : Hp} {c c1 : CN} {ρ : DEnv} {σ : L2.St}
theorem Rel.dropLast {s : Sl} {o : Option V} (R : Rel Y G H c (ρ ++ [s]) (σ ++ [o])) : Rel Y G H c ρ σ := by
  have hl : ρ.length = σ.length := by have := R.len; simpa using this
  have up : ∀ {i : Nat} {t : Sl}, ρ[i]? = some t → (ρ ++ [s])[i]? = some t ∧ (σ ++ [o])[i]? = σ[i]? := fun {i t} e => by
    have hi : i < ρ.length := (List.getElem?_eq_some_iff.mp e).1
    exact ⟨by rw [List.getElem?_append_left hi]; exact e, by rw [List.getElem?_append_left (by omega)]⟩
  refine ⟨R.ok, R.evo, hl, fun i t e => ?_, fun i j t u ne e1 e2 h1 h2 => ?_, R.lo⟩
  · obtain ⟨a, b⟩ := up e
    rw [← b]
    exact R.sl i t a
  · obtain ⟨a1, b1⟩ := up e1
    obtain ⟨a2, b2⟩ := up e2
    rw [← b1, ← b2]
    exact R.sep i j t u ne a1 a2 h1 h2
theorem Rel.put {i : Nat} {a : Addr} {xs : List V} {ds es : List D} (R : Rel Y G H c ρ σ) (hi : ρ[i]? = some (.ol ds)) (hs : σ[i]? = some (some (.ref a))) (r : RpAll Y.X.K G xs es) :
    Rel Y G (upd H a (.lst xs)) c (ρ.set i (.ol es)) σ := by
  obtain ⟨o, e1, b, ys, rfl, h1, h2, h3, h4, h5⟩ := R.sl i _ hi
  rw [hs] at e1
  cases e1
  have nf : ∀ b u, G.f b = some u → b ≠ a := fun b u e z => by subst z; rw [h1] at e; cases e
  have np : ∀ b, G.pu b → b ≠ a := fun b e z => h2 (z ▸ e)
  have n0 : ∀ b u, Y.H0 b = some u → b ≠ a := fun b u e z => by subst z; rw [h3] at e; cases e
  have ok : G.Ok (upd H a (.lst xs)) c := R.ok.mut h1 h2
  refine ⟨ok, ⟨ok, R.evo.le, fun b u e n => by rw [upd_ne (n0 b u e)]; exact R.evo.keep b u e n, fun b hb => by rw [upd_ne (np b (R.evo.le.pu b hb))]; exact R.evo.pus b hb, R.evo.new, R.evo.npu⟩, by simp [R.len], fun j s e => ?_, fun j k s t ne e1 e2 q1 q2 => ?_, R.lo⟩
  · rcases getElem?_set_cases e with ⟨rfl, rfl, _⟩ | ⟨ne, e⟩
    · exact ⟨_, hs, a, xs, rfl, h1, h2, h3, upd_same, r⟩
    · obtain ⟨o', e2, q⟩ := R.sl j s e
      refine ⟨o', e2, ?_⟩
      cases s with
      | no => trivial
      | fz d => exact q
      | ol fs =>
        obtain ⟨b, zs, rfl, g1, g2, g3, g4, g5⟩ := q
        have nb : b ≠ a := fun z => by
          subst z
          exact R.sep i j _ _ (Ne.symm ne) hi e rfl rfl (hs.trans e2.symm)
        exact ⟨b, zs, rfl, g1, g2, g3, by rw [upd_ne nb]; exact g4, g5⟩
      | od ks fs =>
        obtain ⟨b, zs, rfl, g1, g2, g3, g4, g5⟩ := q
        have nb : b ≠ a := fun z => by
          subst z
          exact R.sep i j _ _ (Ne.symm ne) hi e rfl rfl (hs.trans e2.symm)
        exact ⟨b, zs, rfl, g1, g2, g3, by rw [upd_ne nb]; exact g4, g5⟩
  · have back : ∀ {j : Nat} {s : Sl}, (ρ.set i (.ol es))[j]? = some s → s.isOl = true → ∃ s', ρ[j]? = some s' ∧ s'.isOl = true := fun {j s} e q => by
      rcases getElem?_set_cases e with ⟨rfl, rfl, _⟩ | ⟨_, e⟩
      · exact ⟨_, hi, rfl⟩
      · exact ⟨_, e, q⟩
    obtain ⟨s', f1, w1⟩ := back e1 q1
    obtain ⟨t', f2, w2⟩ := back e2 q2
    exact R.sep j k s' t' ne f1 f2 w1 w2
theorem Rel.snoc_ol {a : Addr} (R : Rel Y G H c ρ σ) (h : H a = none) : Rel Y G (upd H a (.lst [])) c (ρ ++ [.ol []]) (σ ++ [some (.ref a)]) := by
  have ev : Evo G H c G (upd H a (.lst [])) c := Evo.laidU R.ok _ h
  have R1 := R.evo' ev
  have h0 : Y.H0 a = none := by
    cases q : Y.H0 a with
    | none => rfl
    | some u =>
      by_cases hp : Y.G0.pu a
      · obtain ⟨o, e⟩ := R.evo.pus a hp
        rw [h] at e; cases e
      · have e := R.evo.keep a u q hp
        rw [h] at e; cases e
  have key : ∀ {j : Nat} {s : Sl}, (ρ ++ [Sl.ol []])[j]? = some s → (ρ[j]? = some s ∧ (σ ++ [some (.ref a)])[j]? = σ[j]?) ∨ (s = .ol [] ∧ j = ρ.length ∧ (σ ++ [some (V.ref a)])[j]? = some (some (.ref a))) := fun {j s} e => by
    by_cases hj : j < ρ.length
    · rw [List.getElem?_append_left hj] at e
      exact .inl ⟨e, List.getElem?_append_left (by rw [← R.len]; exact hj)⟩
    · have hl : j < (ρ ++ [Sl.ol []]).length := (List.getElem?_eq_some_iff.mp e).1
      have ej : j = ρ.length := by simp at hl; omega
      subst ej
      rw [List.getElem?_append_right (Nat.le_refl _)] at e
      simp at e
      refine .inr ⟨e.symm, rfl, ?_⟩
      rw [List.getElem?_append_right (by rw [R.len]; exact Nat.le_refl _), R.len]
      simp
  have noa : ∀ (j : Nat) (s : Sl), ρ[j]? = some s → s.isOl = true → σ[j]? ≠ some (some (V.ref a)) := fun j s e q z => by
    obtain ⟨o, e1, r⟩ := R.sl j s e
    rw [z] at e1
    cases e1
    cases s with
    | no => cases q
    | fz d => cases q
    | ol ds =>
      obtain ⟨b, ys, eb, g1, g2, g3, g4, g5⟩ := r
      cases eb
      rw [h] at g4; cases g4
    | od ks ds =>
      obtain ⟨b, ys, eb, g1, g2, g3, g4, g5⟩ := r
      cases eb
      rw [h] at g4; cases g4
  refine ⟨R1.ok, R1.evo, by simp [R.len], fun j s e => ?_, fun j k s t ne e1 e2 q1 q2 => ?_, R1.lo⟩
  · rcases key e with ⟨e, q⟩ | ⟨rfl, _, q⟩
    · obtain ⟨o, e1, r⟩ := R1.sl j s e
      exact ⟨o, by rw [q]; exact e1, r⟩
    · exact ⟨_, q, a, [], rfl, R.ok.fnone h, R.ok.punone h, h0, upd_same, .nil⟩
  · rcases key e1 with ⟨f1, w1⟩ | ⟨rfl, j1, w1⟩
    · rcases key e2 with ⟨f2, w2⟩ | ⟨rfl, j2, w2⟩
      · rw [w1, w2]; exact R.sep j k s t ne f1 f2 q1 q2
      · rw [w1, w2]; exact noa j s f1 q1
    · rcases key e2 with ⟨f2, w2⟩ | ⟨rfl, j2, w2⟩
      · rw [w1, w2]; exact fun z => noa k t f2 q2 z.symm
      · exact absurd (j1.trans j2.symm) ne
theorem Evo.mut {K : PySem.W.Frag} {G G1 : GS K} {H H1 : Hp} {c c1 : CN} {a : Addr} {o : HO} (e : Evo G1 H1 c1 G H c) (h0 : H1 a = none) (hf : G.f a = none) (hp : ¬ G.pu a) : Evo G1 H1 c1 G (upd H a o) c where
  ok := e.ok.mut hf hp
  le := e.le
  keep := fun b u q n => by rw [upd_ne (ne_of_none q h0)]; exact e.keep b u q n
  pus := fun b hb => by
    have : b ≠ a := fun z => hp (z ▸ e.le.pu b hb)
    rw [upd_ne this]; exact e.pus b hb
  new := e.new
  npu := e.npu
def wipeD (ρ : DEnv) : List Nat → DEnv
  | [] => ρ
  | v :: vs => (wipeD ρ vs).set v .no
theorem Rel.wipe (R : Rel Y G H c ρ σ) : ∀ vs : List Nat, Rel Y G H c (wipeD ρ vs) (L2.wipe σ vs)
  | [] => R
  | v :: vs => (R.wipe vs).set_no v none
theorem wipe_wipe (σ : L2.St) : ∀ (vs ws : List Nat), (∀ i, i ∈ vs → i ∈ ws) → L2.wipe (L2.wipe σ vs) ws = L2.wipe σ ws
  | [], _, _ => rfl
  | v :: vs, ws, h => by
    show L2.wipe ((L2.wipe σ vs).set v none) ws = _
    rw [wipe_set (h v List.mem_cons_self)]
    exact wipe_wipe σ vs ws fun i hi => h i (List.mem_cons_of_mem _ hi)
end
def Ctx.blk (Y : Ctx) (s : Shared) (H : Hp) (scope : Scope) (cenv : Env) (fp : List Addr) : Ctx := { Y with X := Y.X.blk s H scope cenv fp, E := fun _ => E0, ED := fun _ _ _ _ _ => False }
theorem Rel.toBlk {Y : Ctx} {G : GS Y.X.K} {H : Hp} {c : CN} {ρ : DEnv} {σ : L2.St} {s : Shared} {H' : Hp} {scope : Scope} {cenv : Env} {fp : List Addr} (R : Rel Y G H c ρ σ) : Rel (Y.blk s H' scope cenv fp) G H c ρ σ := ⟨R.ok, R.evo, R.len, R.sl, R.sep, R.lo⟩
structure PDTs (Y : Ctx) (ifs : List Expr) (te : TT) (t : DT) : Prop where
  p : PTs Y.X ifs te
  s : SimT Y te t
def dtYes (_ : DEnv) (c : CN) (Q : Bool → CN → Prop) : Prop := Q true c
theorem pdts_nil {Y : Ctx} : PDTs Y [] tYes dtYes := ⟨pts_nil, fun G H c ρ σ Qd Q R h k => k true G H c (Evo.refl R.ok) h⟩
def LcB (g : DG) (tt : DT) (te : DE) (vs : List Nat) (ρ : DEnv) (L : List D) (c1 : CN) (Q : QD) : Prop := ∃ I : Nat → List D → CN → Prop, I 0 [] c1 ∧
  (∀ k x acc c, L[k]? = some x → I k acc c → g x (wipeD ρ vs) c fun ρ2 c2 => tt ρ2 c2 fun b c3 => if b = true then te ρ2 c3 fun y c4 => acc.length < sizeLine ∧ I (k + 1) (acc ++ [y]) c4 else I (k + 1) acc c3) ∧ ∀ acc c, I L.length acc c → Q (.lst acc) c
def dLc (ti : DI) (g : DG) (tt : DT) (te : DE) (vs : List Nat) (ρ : DEnv) (c : CN) (Q : QD) : Prop := ti ρ c fun L c1 => LcB g tt te vs ρ L c1 Q
section
variable {Y : Ctx} {iter tg elt : Expr} {ifs : List Expr} {wi : TI} {ti : DI} {gg : TG} {g : DG} {vs : List Nat} {eA : TT} {tA : DT} {ee : TE} {te : DE} {scope : Scope} {own : List (Str × Nat)} {pos spos : Pos}
structure Blk (Y : Ctx) (tg elt : Expr) (ifs : List Expr) (scope : Scope) (gg : TG) (g : DG) (eA : TT) (tA : DT) (ee : TE) (te : DE) (vs : List Nat) : Prop where
  g : ∀ (s : Shared) (H : Hp) (C : Addr) (cl : List (Str × Addr)) (fp : List Addr), PDG (Y.blk s H scope (compEnvC scope cl C Y.X.env) fp) tg gg g vs
  t : ∀ (s : Shared) (H : Hp) (C : Addr) (cl : List (Str × Addr)) (fp : List Addr), PDTs (Y.blk s H scope (compEnvC scope cl C Y.X.env) fp) ifs eA tA
  e : ∀ (s : Shared) (H : Hp) (C : Addr) (cl : List (Str × Addr)) (fp : List Addr), PD (Y.blk s H scope (compEnvC scope cl C Y.X.env) fp) elt ee te
theorem lc_sim (hi : SimI Y wi ti) (b : Blk Y tg elt ifs scope gg g eA tA ee te (own.map (·.2))) : SimE Y (tLc wi gg eA ee (own.map (·.2))) (dLc ti g tA te (own.map (·.2))) := by
  intro G H c ρ σ Qd Q R q k
  have sg := (b.g Y.X.s_0 Y.X.H_0 0 [] []).s
  have st := (b.t Y.X.s_0 Y.X.H_0 0 [] []).s
  have se := (b.e Y.X.s_0 Y.X.H_0 0 [] []).s
  generalize own.map (·.2) = vs at *
  refine hi G H c ρ σ _ _ R q fun L J G1 H1 c1 ev wk q a ha => ?_
  obtain ⟨I, i0, step, fin⟩ := q
  have R1 := ((R.evo' ev).wipe vs).snoc_ol ha
  refine ⟨fun i m H => m = L.length - i ∧ i ≤ L.length ∧ ∃ G c acc, Rel Y G H c (wipeD ρ vs ++ [.ol acc]) (L2.wipe σ vs ++ [some (.ref a)]) ∧ Evo G1 H1 c1 G H c ∧ I i acc c,
    ⟨_, rfl, Nat.zero_le _, G1, c1, [], R1, Evo.laidU ev.ok _ ha, i0⟩, ?_⟩
  rintro i m H ⟨rfl, hil, G, c, acc, R2, e2, ii⟩
  obtain ⟨wgo, wst⟩ := wk G H c e2.le e2.ok
  have at_ : ∀ {ds : List D} {G H c}, Rel Y G H c (wipeD ρ vs ++ [.ol ds]) (L2.wipe σ vs ++ [some (.ref a)]) → G.f a = none ∧ ¬ G.pu a ∧ ∃ xs, H a = some (.lst xs) ∧ RpAll Y.X.K G xs ds := fun {ds G H c} R => by
    have hl : (wipeD ρ vs).length = (L2.wipe σ vs).length := by have := R.len; simpa using this
    obtain ⟨o, e1, b, ys, rfl, h1, h2, h3, h4, h5⟩ := R.sl (wipeD ρ vs).length (.ol ds) (by simp)
    have : (L2.wipe σ vs ++ [some (V.ref a)])[(wipeD ρ vs).length]? = some (some (.ref a)) := by rw [hl]; simp
    rw [this] at e1
    cases e1
    exact ⟨h1, h2, ys, h4, h5⟩
  by_cases hlt : i < L.length
  · have hx : L[i]? = some L[i] := by simp [hlt]
    refine .inr ⟨(wgo i L[i] hx).1, fun H' => ∃ G c acc, Rel Y G H' c (wipeD ρ vs ++ [.ol acc]) (L2.wipe σ vs ++ [some (.ref a)]) ∧ Evo G1 H1 c1 G H' c ∧ I (i + 1) acc c, fun H' z => ⟨L.length - (i + 1), by omega, rfl, hlt, z⟩, fun x H' y => ?_⟩
    obtain ⟨G', e', r'⟩ := (wgo i L[i] hx).2 x H' y
    have R3 := R2.evo' e'
    refine sg G' H' c _ _ L[i] x _ _ R3.dropLast.toBlk r' (step i _ acc c hx ii) fun ρ2 σ2 R4 off q2 => ⟨?_, ?_⟩
    · rw [off vs fun _ h => h, wipe_wipe σ vs vs fun _ h => h]
    · refine st G' H' c ρ2 σ2 _ _ R4 q2 fun bb G5 H5 c5 e5 q5 => ?_
      have R5 := R3.evo' e5
      cases bb with
      | false =>
        rw [if_neg Bool.false_ne_true] at q5 ⊢
        exact ⟨G5, c5, acc, R5, (e2.trans e').trans e5, q5⟩
      | true =>
        rw [if_pos rfl] at q5 ⊢
        refine se G5 H5 c5 ρ2 σ2 _ _ (R4.evo' e5) q5 fun d v G6 H6 c6 e6 r6 q6 => ?_
        have R6 := R5.evo' e6
        obtain ⟨hf, hp, xs, hx, rx⟩ := at_ R6
        obtain ⟨hlen, q6⟩ := q6
        refine ⟨xs, hx, by rw [rx.length]; exact hlen, G6, c6, acc ++ [d], ?_, (((e2.trans e').trans e5).trans e6).mut ha hf hp, q6⟩
        have R7 := R6.put (ds := acc) (i := (wipeD ρ vs).length) (a := a) (by simp) (by
          have hl : (wipeD ρ vs).length = (L2.wipe σ vs).length := by have := R6.len; simpa using this
          rw [hl]; simp) (rx.snoc r6)
        have e7 : (wipeD ρ vs ++ [Sl.ol acc]).set (wipeD ρ vs).length (.ol (acc ++ [d])) = wipeD ρ vs ++ [.ol (acc ++ [d])] := by
          rw [List.set_append_right _ _ (Nat.le_refl _)]; simp
        rw [e7] at R7
        exact R7
  · have e : i = L.length := by omega
    subst e
    obtain ⟨hf, hp, xs, hx, rx⟩ := at_ R2
    refine .inl ⟨wst, ?_⟩
    have e3 := e2.freeze ha hf hp hx
    have le : G.Le { G with f := upd G.f a (.lst xs) } := .more hf
    exact k (.lst acc) (.ref a) _ _ c (ev.trans e3) (.lst upd_same (rx.mono le)) (fin acc c ii)
theorem pd_lc (hc : Y.X.calm = true) (hN : Y.X.N.Nodup) (hi : PDI Y tg iter wi ti) (ok : BlkOk Y.X.N Y.X.env.scope scope own) (b : Blk Y tg elt ifs scope gg g eA tA ee te (own.map (·.2)))
    (hs : ∀ x, foldedSetIterable iter Y.X.env x = pure x := by intro _; rfl) : PD Y (.ListComp elt [⟨tg, iter, ifs, 0⟩] scope pos) (tLc wi gg eA ee (own.map (·.2))) (dLc ti g tA te (own.map (·.2))) :=
  ⟨pe_lc hc hN hi.p ok (fun s H C cl fp => (b.g s H C cl fp).p) (fun s H C cl fp => (b.t s H C cl fp).p) (fun s H C cl fp => (b.e s H C cl fp).p) hs, lc_sim hi.s b⟩
end
end PL
namespace PL
open PySem PySem.Spec PyProof.Rows L2
abbrev EDt := Addr → List Str → List D → CN → Prop
abbrev SpD := List D → CN → QD → EDt → Prop
def RpE (K : PySem.W.Frag) (G : GS K) (dx : Option Addr) (ns : List Str) (ds : List D) : Prop :=
  (ns = [] ∧ ds = [] ∧ dx = none) ∨ ∃ d fs, dx = some d ∧ G.f d = some (.xd fs) ∧ fs.map (·.1) = ns ∧ RpAll K G (fs.map (·.2)) ds
def spOf (K : PySem.W.Frag) (sp : SpD) : Sp := fun vs H Q E => ∃ G c ds Qd ED, G.Ok H c ∧ RpAll K G vs ds ∧ sp ds c Qd ED ∧
  (∀ d v G' H' c', Evo G H c G' H' c' → Rp K G' v d → Qd d c' → Q v H') ∧
  ∀ C ns es dx G' H' c', Evo G H c G' H' c' → RpE K G' dx ns es → ED C ns es c' → E (.ref C) dx H'
structure Ctx.Good (Y : Ctx) (k : Nat) : Prop where
  tk : Takes Y.X fun cls d σ H => Y.E σ cls d H
  err : ∀ ρ σ G H c, Rel Y G H c ρ σ → ∀ C ns es dx G' H' c', Evo G H c G' H' c' → RpE Y.X.K G' dx ns es → Y.ED ρ C ns es c' → Y.E σ (.ref C) dx H'
  room : Room k Y.X.A
  calm : Y.X.calm = true
theorem Ctx.Good.pass {Y : Ctx} {k : Nat} (g : Y.Good k) (σ : L2.St) : PassesAt (L2.CX Y.X.prog Y.X.w) Y.X σ (Y.E σ) := passAt g.tk σ
theorem Ctx.Good.blk {Y : Ctx} {k : Nat} (g : Y.Good k) (s : Shared) (H : Hp) (scope : Scope) (cenv : Env) (fp : List Addr) : (Y.blk s H scope cenv fp).Good k :=
  ⟨fun _ _ ⟨_, _, _, _, _, _, _, _, _, _, _, _, _, _, _, _, z⟩ => z.elim, fun _ _ _ _ _ _ _ _ _ _ _ _ _ _ _ z => z.elim, g.room, g.calm⟩
theorem Ctx.Good.mono {Y : Ctx} {j k : Nat} (g : Y.Good k) (h : j ≤ k) : Y.Good j := ⟨g.tk, g.err, g.room.mono h, g.calm⟩
def startD (N : List Str) (ds : List D) : DEnv := ds.map .fz ++ List.replicate (N.length - ds.length) .no
theorem rel_start {Y : Ctx} {N : List Str} {vs : List V} {ds : List D} (ok : Y.G0.Ok Y.H0 Y.c0) (r : RpAll Y.X.K Y.G0 vs ds) (lo : Y.lo.Le Y.G0) : Rel Y Y.G0 Y.H0 Y.c0 (startD N ds) (L2.start N vs) := by
  have hl := r.length
  have key : ∀ {i : Nat} {s : Sl}, (startD N ds)[i]? = some s → s = .no ∨ ∃ d, s = .fz d ∧ ds[i]? = some d := fun {i s} e => by
    unfold startD at e
    by_cases hi : i < ds.length
    · rw [List.getElem?_append_left (by simpa using hi), List.getElem?_map] at e
      obtain ⟨d, hd⟩ : ∃ d, ds[i]? = some d := ⟨ds[i], by simp [hi]⟩
      rw [hd] at e
      exact .inr ⟨d, (Option.some.inj e).symm, hd⟩
    · rw [List.getElem?_append_right (by simpa using hi), List.getElem?_replicate] at e
      split at e
      · exact .inl (Option.some.inj e).symm
      · cases e
  have len : (startD N ds).length = (L2.start N vs).length := by simp [startD, L2.start, hl]
  refine ⟨ok, Evo.refl ok, len, fun i s e => ?_, fun i j s t ne e1 e2 h1 h2 => ?_, lo⟩
  · have hi : i < (L2.start N vs).length := by rw [← len]; exact (List.getElem?_eq_some_iff.mp e).1
    rcases key e with rfl | ⟨d, rfl, hd⟩
    · exact ⟨_, List.getElem?_eq_getElem hi, trivial⟩
    · obtain ⟨v, hv, rv⟩ := r.get hd
      refine ⟨some v, ?_, v, rfl, rv⟩
      have : i < vs.length := (List.getElem?_eq_some_iff.mp hv).1
      unfold L2.start
      rw [List.getElem?_append_left (by simpa using this), List.getElem?_map, hv]
      rfl
  · rcases key e1 with rfl | ⟨d, rfl, _⟩
    · cases h1
    · cases h1
section
variable {P : Program} {w : World} {K : PySem.W.Frag} {mg : Str → Option Value} {base : Heap} {x qual : Str} {params : Arguments} {body : List Stmt} {scope : Scope} {dvs : List V} {kws : List (Str × V)} {f : Addr} {fd : FuncData}
theorem okD {N ps : List Str} {k : Nat} {sp : SpD} (F : FunD K x qual params body scope dvs kws f fd) (S : FnScope N ps scope) (len : ∀ ds c Q E, sp ds c Q E → ds.length = ps.length)
    (hbody : ∀ (cdv : Value) (A : Around) (outer : List Env) (s : Shared) (H : Hp) (E : XK) (G0 : GS K) (c0 : CN) (ED : EDt), Ctx.Good ⟨cxOf (L2.CX P w) P w K mg base N qual scope f cdv A outer s H E, G0, H, c0, fun _ => E, fun _ => ED, G0⟩ k →
      ∃ ts t, PDSs ⟨cxOf (L2.CX P w) P w K mg base N qual scope f cdv A outer s H E, G0, H, c0, fun _ => E, fun _ => ED, G0⟩ body ts t ∧ ∀ ds Qd, sp ds c0 Qd ED → t { nx := fun _ c => Qd .non c, rt := Qd } (startD N ds) c0) :
    FnOk P w K mg base (L2.CX P w) (k + 1) f fd ps (spOf K sp) := by
  refine F.ok S (fun vs H Q E h => ?_) fun cdv A outer s H vs Q E hr h => ?_
  · obtain ⟨G, c, ds, Qd, ED, _, r, h, _⟩ := h
    rw [r.length]; exact len _ _ _ _ h
  · obtain ⟨G, c, ds, Qd, ED, ok, r, h, hQ, hE⟩ := h
    obtain ⟨ts, t, hb, ht⟩ := hbody cdv A outer s H E G c ED ⟨takes_of rfl rfl rfl rfl, fun ρ σ G1 H1 c1 R C ns es dx G' H' c' ev r q => hE C ns es dx G' H' c' (R.evo.trans ev) r q, hr, rfl⟩
    refine ⟨ts, hb.p, hb.s G G H c (startD N ds) _ { nx := fun _ c => Qd .non c, rt := Qd } _ ?_ ⟨rel_start (Y := ⟨cxOf (L2.CX P w) P w K mg base N qual scope f cdv A outer s H E, G, H, c, fun _ => E, fun _ => ED, G⟩) ok r (GS.Le.refl _), GS.Le.refl _⟩ (ht ds Qd h)⟩
    exact ⟨fun G' H' c' ρ σ R q => hQ _ _ G' H' c' R.r.evo .non q, fun G' H' c' d v e r q => hQ d v G' H' c' e r q, fun _ _ _ _ _ _ z => z.elim, fun _ _ _ _ _ _ z => z.elim⟩
end
theorem spOf.imp {K : PySem.W.Frag} {sp sp' : SpD} (h : ∀ ds c Q E, sp' ds c Q E → sp ds c Q E) : ∀ vs H Q E, spOf K sp' vs H Q E → spOf K sp vs H Q E :=
  fun _ _ _ _ ⟨G, c, ds, Qd, ED, ok, r, q, a, b⟩ => ⟨G, c, ds, Qd, ED, ok, r, h _ _ _ _ q, a, b⟩
section
variable {X : Cx} {CX : CXT} {k : Nat} {f : Addr} {fd : FuncData} {ps : List Str} {sp : Sp} {dvs : List V} {ds : List Value} {E : L2.St → XK} {x : Str} {p pos : Pos} {e : Expr} {es : List Expr} {t tk : TA} {n : Nat} {ks : List Str} {kws : List Keyword} {g : List Value → List Value → List Value} {gV : List V → List V → List V}
theorem back_at {pins : List (Addr × Obj)} {σ : L2.St} {H : Hp} {s : Shared} {Q : VK} {args : Args} {us : List Value} {vs : List V} (F : FnOk X.prog X.w X.K X.mg X.base CX k f fd ps sp) (hr : Room k X.A) (hx : PassesAt CX X σ (E σ)) (I : L2.Inv X pins σ H s)
    (hb : BindsTo s fd args (ps.zip us)) (r : Vals vs us) (h : sp vs H Q (E σ)) : codeAny (model X.prog X.w) X.A (.call (.ref f) args) (fun r s' => match r with | .error e => X.xe e s' | .ok (.ret u) => EP X pins σ Q u s' | .ok _ => False) s := by
  refine codeAny_mono (F.run X.A X.stack s H args us vs Q (E σ) hr I.env0 hb r h) fun rr s' hq => ?_
  cases rr with
  | error e => exact hx pins H s e s' I hq
  | ok fl =>
    cases fl with
    | ret u => exact I.after hq
    | next => exact False.elim hq
    | brk => exact False.elim hq
    | cont => exact False.elim hq
def tCallE (sp : Sp) (dvs : List V) (E : L2.St → XK) (t : TA) : TE := fun σ H Q => t σ H fun vs H1 => sp (vs ++ dvs) H1 Q (E σ)
theorem at_pos {pins : List (Addr × Obj)} {σ : L2.St} {H : Hp} {s : Shared} {Q : VK} {us : List Value} {vs : List V} (F : FnOk X.prog X.w X.K X.mg X.base CX k f fd ps sp) (hr : Room k X.A) (hb : Binds X.K fd ps ds) (hd : Vals dvs ds) (hx : PassesAt CX X σ (E σ))
    (I : L2.Inv X pins σ H s) (r : Vals vs us) (h : sp (vs ++ dvs) H Q (E σ)) : wpAny (model X.prog X.w) X.A (call (.ref f) us) (EP X pins σ Q) X.xe s := by
  have r2 : Vals (vs ++ dvs) (us ++ ds) := r.append hd
  have hl : (us ++ ds).length = ps.length := r2.length.symm.trans (F.len _ _ _ _ h)
  refine wpAny_call (codeAny_mono (back_at F hr hx I (hb s us I.kIn hl) r2 h) fun rr s' hq => ?_)
  cases rr with
  | error e => exact hq
  | ok fl => cases fl <;> exact hq
variable (F : FnOk X.prog X.w X.K X.mg X.base CX k f fd ps sp) (hr : Room k X.A) (hg : Gl X x) (hm : X.mg x = some (.ref f)) (hk : PySem.W.keepIn X.K (.ref f) = true) (hx : ∀ σ, PassesAt CX X σ (E σ)) (hdb : (x == ("__debug__" : Str)) = false)
include F hr hg hm hk hx hdb
theorem pe_callE (hb : Binds X.K fd ps ds) (hd : Vals dvs ds) (ha : PA X (e :: es) t) (he : starEach (e :: es) X.env = (false, eval e X.env) :: starEach es X.env) (hpl : (backTo pos (starEach es X.env)).any (·.1) = false) : PE X (.Call (.Name x p) (e :: es) [] pos) (tCallE sp dvs E t) :=
  ⟨fun pins s σ H Q I h => wpAny_Call_Name_kw (ld_glob I hg hm (PySem.W.callWith_K (h₀ := X.base) I.ok.mod.kin hk (thn (ha.run pos pins s σ H _ I h) fun us s1 ⟨vs, H1, I1, r, q⟩ => ⟨I1.kIn, at_pos F hr hb hd (hx σ) I1 r q⟩) he hpl) hdb)⟩
end
section
variable {Y : Ctx} {k : Nat} {f : Addr} {fd : FuncData} {ps : List Str} {sp : SpD} {dvs : List V} {dds : List D} {ds : List Value} {x : Str} {p pos : Pos} {e : Expr} {es : List Expr} {fa : TA} {t : DA}
def dCall (ED : DEnv → EDt) (sp : SpD) (dds : List D) (t : DA) (ρ : DEnv) (c : CN) (Q : QD) : Prop := t ρ c fun ds c1 => sp (ds ++ dds) c1 Q (ED ρ)
theorem call_sim (g : Y.Good k) (hd : ∀ G, RpAll Y.X.K G dvs dds) (ha : SimA Y fa t) : SimE Y (tCallE (spOf Y.X.K sp) dvs Y.E fa) (dCall Y.ED sp dds t) := fun G H c ρ σ Qd Q R q kk =>
  ha G H c ρ σ _ _ R q fun ds vs G1 H1 c1 ev r q => ⟨G1, c1, ds ++ dds, Qd, Y.ED ρ, ev.ok, r.append (hd _), q, fun d v G' H' c' e' r' q' => kk d v G' H' c' (ev.trans e') r' q',
    fun C ns es dx G' H' c' e' r' q' => g.err ρ σ G H c R C ns es dx G' H' c' (ev.trans e') r' q'⟩
theorem pd_call (g : Y.Good k) (F : FnOk Y.X.prog Y.X.w Y.X.K Y.X.mg Y.X.base (L2.CX Y.X.prog Y.X.w) k f fd ps (spOf Y.X.K sp)) (hm : Y.X.mg x = some (.ref f)) (hk : PySem.W.keepIn Y.X.K (.ref f) = true) (hb : Binds Y.X.K fd ps ds) (hd : Vals dvs ds) (hdd : ∀ G, RpAll Y.X.K G dvs dds)
    (ha : PDA Y (e :: es) fa t) (hg : Gl Y.X x := by rfl) (hdb : (x == ("__debug__" : Str)) = false := by decide) (he : starEach (e :: es) Y.X.env = (false, eval e Y.X.env) :: starEach es Y.X.env := by rfl) (hpl : (backTo pos (starEach es Y.X.env)).any (·.1) = false := by rfl) :
    PD Y (.Call (.Name x p) (e :: es) [] pos) (tCallE (spOf Y.X.K sp) dvs Y.E fa) (dCall Y.ED sp dds t) :=
  ⟨pe_callE F g.room hg hm hk g.pass hdb hb hd ha.p he hpl, call_sim g hdd ha.s⟩
end
end PL
namespace PL
open PySem PySem.Spec PyProof.Rows L2
def rdI (C : Int → Int → Prop) (g : Int → Int → D) (x : D) (y : D) (c : CN) (Q : QD) : Prop := ∃ i j, x = .int i ∧ y = .int j ∧ C i j ∧ Q (g i j) c
def rdI0 (g : Int → Int → D) (x : D) (y : D) (c : CN) (Q : QD) : Prop := ∃ i j, x = .int i ∧ y = .int j ∧ Q (g i j) c
section
variable {K : PySem.W.Frag}
theorem br_I {C : Int → Int → Prop} {g : Int → Int → V} {gd : Int → Int → D} (h : ∀ G i j, Rp K G (g i j) (gd i j)) : Br2 K (rI C g) (rdI C gd) := fun G H c x y d e Qd Q ok rx ry q k => by
  obtain ⟨i, j, rfl, rfl, hc, q⟩ := q
  cases rx; cases ry
  exact ⟨i, j, rfl, rfl, hc, k _ _ G H c (Evo.refl ok) (h G i j) q⟩
theorem br_I0 {g : Int → Int → V} {gd : Int → Int → D} (h : ∀ G i j, Rp K G (g i j) (gd i j)) : Br2 K (rI0 g) (rdI0 gd) := fun G H c x y d e Qd Q ok rx ry q k => by
  obtain ⟨i, j, rfl, rfl, q⟩ := q
  cases rx; cases ry
  exact ⟨i, j, rfl, rfl, k _ _ G H c (Evo.refl ok) (h G i j) q⟩
end
abbrev aAdd : RD2 := rdI0 fun i j => .int (i + j)
abbrev aSub : RD2 := rdI0 fun i j => .int (i - j)
abbrev aDiv : RD2 := rdI CDiv fun i j => .int (i / j)
abbrev aMod : RD2 := rdI (fun _ j => 0 < j) fun i j => .int (i % j)
def CPowB (i j : Int) : Prop := 0 ≤ j ∧ (Builtin.Int.intBits i : Int) * j ≤ 2 ^ 27
abbrev aPow : RD2 := rdI CPowB fun i j => .int (i ^ j.toNat)
abbrev aLt : RD2 := rdI0 fun i j => .bl (decide (i < j))
abbrev aGt : RD2 := rdI0 fun i j => .bl (decide (j < i))
abbrev aGe : RD2 := rdI0 fun i j => .bl (decide (j ≤ i))
theorem op_powB {X : Cx} : OpR X (binaryOp .Pow) (rI CPowB fun i j => .int (i ^ j.toNat)) := opI fun _ _ _ _ _ _ _ hc q => pow_int hc.1 hc.2 q
section
variable {Y : Ctx} {a b : Expr} {ea eb : TE} {ta tb : DE} {pos : Pos}
theorem pd_sub (ha : PD Y a ea ta) (hb : PD Y b eb tb) : PD Y (.BinOp a .Sub b pos) (tOp (rI0 fun i j => .int (i - j)) ea eb) (dOp aSub ta tb) := pd_op op_sub (br_I0 fun _ _ _ => .int _) ha hb
theorem pd_fdiv (ha : PD Y a ea ta) (hb : PD Y b eb tb) : PD Y (.BinOp a .FloorDiv b pos) (tOp (rI CDiv fun i j => .int (i / j)) ea eb) (dOp aDiv ta tb) := pd_op op_fdiv (br_I fun _ _ _ => .int _) ha hb
theorem pd_mod (ha : PD Y a ea ta) (hb : PD Y b eb tb) : PD Y (.BinOp a .Mod b pos) (tOp (rI (fun _ j => 0 < j) fun i j => .int (i % j)) ea eb) (dOp aMod ta tb) := pd_op op_mod (br_I fun _ _ _ => .int _) ha hb
theorem pd_pow (ha : PD Y a ea ta) (hb : PD Y b eb tb) : PD Y (.BinOp a .Pow b pos) (tOp (rI CPowB fun i j => .int (i ^ j.toNat)) ea eb) (dOp aPow ta tb) := pd_op op_powB (br_I fun _ _ _ => .int _) ha hb
end
def aIsN (x : D) (y : D) (c : CN) (Q : QD) : Prop := y = .non ∧ Q (.bl (match x with | .non => true | _ => false)) c
def aNotN (x : D) (y : D) (c : CN) (Q : QD) : Prop := y = .non ∧ Q (.bl (match x with | .non => false | _ => true)) c
section
variable {Y : Ctx} {a b : Expr} {ea eb : TE} {ta tb : DE} {pos : Pos}
theorem br_isN {K : PySem.W.Frag} : Br2 K (fun x y H Q => y = .non ∧ Q (.bl (decide (x = .non))) H) aIsN := fun G H c x y d e Qd Q ok rx ry q k => by
  obtain ⟨rfl, q⟩ := q
  cases ry
  refine ⟨rfl, k _ _ G H c (Evo.refl ok) ?_ q⟩
  cases rx <;> exact .bl _
theorem br_notN {K : PySem.W.Frag} : Br2 K (fun x y H Q => y = .non ∧ Q (.bl (!decide (x = .non))) H) aNotN := fun G H c x y d e Qd Q ok rx ry q k => by
  obtain ⟨rfl, q⟩ := q
  cases ry
  refine ⟨rfl, k _ _ G H c (Evo.refl ok) ?_ q⟩
  cases rx <;> exact .bl _
end
def aLeS (x : D) (y : D) (c : CN) (Q : QD) : Prop := ∃ i j : Str, x = .str i ∧ y = .str j ∧ Q (.bl (!decide (j.cps.toList < i.cps.toList))) c
def aIx (x : D) (y : D) (c : CN) (Q : QD) : Prop := ∃ i, y = .int i ∧
  ((∃ l d, x = .lst l ∧ atI l i = some d ∧ Q d c) ∨ (∃ l d, x = .tup l ∧ atI l i = some d ∧ Q d c) ∨ (∃ z k, x = .str z ∧ z.length ≤ sizeLine ∧ atI z.cps.toList i = some k ∧ Q (.str ⟨#[k]⟩) c) ∨ ∃ ns j, x = .scr ns ∧ atI ns i = some j ∧ Q (.int j) c)
section
variable {K : PySem.W.Frag}
theorem RpAll.atI {G : GS K} {xs : List V} {ds : List D} {i : Int} {d : D} (r : RpAll K G xs ds) (h : L2.atI ds i = some d) : ∃ v, L2.atI xs i = some v ∧ Rp K G v d := by
  unfold L2.atI at h ⊢
  rw [r.length]
  cases e : ixN ds.length i with
  | none => rw [e] at h; cases h
  | some j =>
    rw [e] at h
    obtain ⟨v, h1, h2⟩ := r.get (i := j) h
    exact ⟨v, h1, h2⟩
theorem atI_map {α β : Type} {f : α → β} {l : List α} {i : Int} {x : α} (h : L2.atI l i = some x) : L2.atI (l.map f) i = some (f x) := by
  unfold L2.atI at h ⊢
  rw [List.length_map]
  cases e : ixN l.length i with
  | none => rw [e] at h; cases h
  | some j =>
    rw [e] at h
    show (l.map f)[j]? = some (f x)
    rw [List.getElem?_map, show l[j]? = some x from h]
    rfl
theorem br_ix : Br2 K (rIx K) aIx := fun G H c x y d e Qd Q ok rx ry q k => by
  obtain ⟨i, rfl, q⟩ := q
  cases ry
  rcases q with ⟨l, d', rfl, h, q⟩ | ⟨l, d', rfl, h, q⟩ | ⟨z, m, rfl, hz, h, q⟩ | ⟨ns, j, rfl, h, q⟩
  · cases rx with
    | lst h1 h2 =>
      obtain ⟨v, hv, rv⟩ := h2.atI h
      exact .inl ⟨_, _, i, v, rfl, rfl, ok.sq h1, hv, k _ _ G H c (Evo.refl ok) rv q⟩
  · cases rx with
    | tup h1 h2 =>
      obtain ⟨v, hv, rv⟩ := h2.atI h
      exact .inr (.inl ⟨_, _, i, v, rfl, rfl, SqT.same ok.same h1, hv, k _ _ G H c (Evo.refl ok) rv q⟩)
  · cases rx
    exact .inr (.inr ⟨z, i, m, rfl, rfl, hz, h, k _ _ G H c (Evo.refl ok) (.str _) q⟩)
  · cases rx with
    | scr h1 => exact .inl ⟨_, _, i, .int j, rfl, rfl, SqL.same ok.same h1, atI_map h, k _ _ G H c (Evo.refl ok) (.int _) q⟩
theorem br_leS : Br2 K (fun x y H Q => ∃ i j, x = .str i ∧ y = .str j ∧ Q (.bl (!decide (j.cps.toList < i.cps.toList))) H) aLeS := fun G H c x y d e Qd Q ok rx ry q k => by
  obtain ⟨i, j, rfl, rfl, q⟩ := q
  cases rx; cases ry
  exact ⟨i, j, rfl, rfl, k _ _ G H c (Evo.refl ok) (.bl _) q⟩
end
section
variable {Y : Ctx} {a b : Expr} {ea eb : TE} {ta tb : DE} {pos : Pos}
end
def aCat (x : D) (y : D) (c : CN) (Q : QD) : Prop := ∃ l m, x = .tup l ∧ y = .tup m ∧ l.length + m.length ≤ sizeLine ∧ Q (.tup (l ++ m)) c
theorem br_cat {K : PySem.W.Frag} : Br2 K (rCatA K) aCat := fun G H c x y d e Qd Q ok rx ry q k => by
  obtain ⟨l, m, rfl, rfl, hz, q⟩ := q
  cases rx with
  | @tup a xs _ h1 h2 =>
    cases ry with
    | @tup b ys _ g1 g2 =>
      refine ⟨a, b, xs, ys, rfl, rfl, SqT.same ok.same h1, SqT.same ok.same g1, by rw [h2.length, g2.length]; exact hz, fun e => ?_, fun _ e => ?_, fun _ _ p np => ?_⟩
      · subst e; cases h2
        exact k _ _ G H c (Evo.refl ok) (.tup g1 g2) q
      · subst e; cases g2
        exact k _ _ G H c (Evo.refl ok) (.tup h1 (by rw [List.append_nil]; exact h2)) q
      · exact k _ _ _ _ c (Evo.laid ok _ np) (Rp.newTup ok np (h2.append g2)) q
def cut {α : Type} (xs : List α) (lo hi : Option Int) : List α := (xs.drop (HT.sIx xs.length 0 lo)).take (HT.sIx xs.length xs.length hi - HT.sIx xs.length 0 lo)
abbrev DO := DEnv → CN → (Option Int → CN → Prop) → Prop
structure PDO (Y : Ctx) (e : Option Expr) (te : TO) (t : DO) : Prop where
  p : PO Y.X e te
  s : ∀ G H c ρ σ (Qd : Option Int → CN → Prop) (Q : Option Int → Hp → Prop), Rel Y G H c ρ σ → t ρ c Qd → (∀ o G' H' c', Evo G H c G' H' c' → Qd o c' → Q o H') → te σ H Q
def dNoPart (_ : DEnv) (c : CN) (Q : Option Int → CN → Prop) : Prop := Q none c
def dPart (t : DE) (ρ : DEnv) (c : CN) (Q : Option Int → CN → Prop) : Prop := t ρ c fun d c1 => ∃ i, d = .int i ∧ Q (some i) c1
section
variable {Y : Ctx} {e : Expr} {lo hi : Option Expr} {ee : TE} {te : DE} {el eh : TO} {tl th : DO} {pos p2 : Pos}
theorem pdo_none : PDO Y none tNoPart dNoPart := ⟨po_none, fun G H c ρ σ Qd Q R q k => k _ G H c (Evo.refl R.ok) q⟩
theorem pdo_some (h : PD Y e ee te) : PDO Y (some e) (tPart ee) (dPart te) := ⟨po_some h.p, fun G H c ρ σ Qd Q R q k => h.s G H c ρ σ _ _ R q fun d v G1 H1 c1 ev r q => by
  obtain ⟨i, rfl, q⟩ := q
  cases r
  exact ⟨i, rfl, k _ G1 H1 c1 ev q⟩⟩
abbrev RDs := D → Option Int → Option Int → CN → QD → Prop
def dSl (rd : RDs) (te : DE) (tl th : DO) (ρ : DEnv) (c : CN) (Q : QD) : Prop := te ρ c fun x c1 => tl ρ c1 fun l c2 => th ρ c2 fun u c3 => rd x l u c3 Q
def BrS (K : PySem.W.Frag) (r : V → Option Int → Option Int → Hp → VK → Prop) (rd : RDs) : Prop := ∀ G H c x d l u (Qd : QD) (Q : VK), G.Ok H c → Rp K G x d → rd d l u c Qd →
  (∀ d' v G' H' c', Evo G H c G' H' c' → Rp K G' v d' → Qd d' c' → Q v H') → r x l u H Q
theorem pd_slice {r : V → Option Int → Option Int → Hp → VK → Prop} {rd : RDs} (hr : SlR Y.X r) (br : BrS Y.X.K r rd) (he : PD Y e ee te) (hl : PDO Y lo el tl) (hu : PDO Y hi eh th) : PD Y (.Subscript e (.Slice lo hi none p2) pos) (tSl r ee el eh) (dSl rd te tl th) :=
  ⟨pe_slice hr he.p hl.p hu.p, fun G H c ρ σ Qd Q R q k => he.s G H c ρ σ _ _ R q fun d v G1 H1 c1 e1 r1 q1 => hl.s G1 H1 c1 ρ σ _ _ (R.evo' e1) q1 fun l G2 H2 c2 e2 q2 =>
    hu.s G2 H2 c2 ρ σ _ _ (R.evo' (e1.trans e2)) q2 fun u G3 H3 c3 e3 q3 => br G3 H3 c3 v d l u Qd Q e3.ok (r1.mono (e2.le.trans e3.le)) q3 fun d' v' G4 H4 c4 e4 r4 q4 => k d' v' G4 H4 c4 ((e1.trans e2).trans (e3.trans e4)) r4 q4⟩
end
def aCut (x : D) (lo : Option Int) (hi : Option Int) (c : CN) (Q : QD) : Prop := (∃ l, x = .tup l ∧ Q (.tup (cut l lo hi)) c) ∨ ∃ l, x = .lst l ∧ Q (.lst (cut l lo hi)) c
def rCut (K : PySem.W.Frag) : V → Option Int → Option Int → Hp → VK → Prop := fun x lo hi H Q => rSlA K x lo hi H Q ∨ rSlL K x lo hi H Q
theorem sl_cut {X : Cx} : SlR X (rCut X.K) := sl_tupA.or sl_list
theorem br_cut {K : PySem.W.Frag} : BrS K (rCut K) aCut := fun G H c x d lo hi Qd Q ok rx q k => by
  rcases q with ⟨l, rfl, q⟩ | ⟨l, rfl, q⟩
  · cases rx with
    | @tup a xs _ h1 h2 =>
      refine .inl ⟨a, xs, rfl, SqT.same ok.same h1, fun e => ?_, fun _ p np => ?_⟩
      · have e2 : cut l lo hi = l := by
          unfold cut
          rw [h2.length] at e
          rw [e.1, e.2, List.drop_zero, Nat.sub_zero, List.take_length]
        exact k _ _ G H c (Evo.refl ok) (by rw [e2]; exact .tup h1 h2) q
      · have r : RpAll K G (cutV xs lo hi) (cut l lo hi) := by
          unfold cutV cut
          rw [h2.length]
          exact (h2.drop _).take _
        exact k _ _ _ _ c (Evo.laid ok _ np) (Rp.newTup ok np r) q
  · cases rx with
    | @lst a xs _ h1 h2 =>
      refine .inr ⟨a, xs, rfl, ok.sq h1, fun p np => ?_⟩
      have r : RpAll K G (cutV xs lo hi) (cut l lo hi) := by
        unfold cutV cut
        rw [h2.length]
        exact (h2.drop _).take _
      exact k _ _ _ _ c (Evo.laid ok _ np) (Rp.newLst ok np r) q
def bLen (ds : List D) (c : CN) (Q : QD) : Prop := ∃ d, ds = [d] ∧ ((∃ l, (d = .lst l ∨ d = .tup l) ∧ Q (.int l.length) c) ∨ (∃ z : Str, d = .str z ∧ z.length ≤ sizeLine ∧ Q (.int z.length) c) ∨ ∃ ns, d = .scr ns ∧ Q (.int ns.length) c)
def rLen (K : PySem.W.Frag) : List V → Hp → VK → Prop := fun xs H Q => (∃ p ys, xs = [.ref p] ∧ (SqL K H p ys ∨ SqT K H p ys) ∧ Q (.int ys.length) H) ∨ ∃ z, xs = [.str z] ∧ z.length ≤ sizeLine ∧ Q (.int z.length) H
theorem cr_len {X : Cx} : CallR X (.builtin "len") (rLen X.K) := call_len_seq.or call_len_str
theorem br_len {K : PySem.W.Frag} : BrN K (rLen K) bLen := fun G H c xs ds Qd Q ok r q k => by
  obtain ⟨d, rfl, q⟩ := q
  cases r with
  | cons r rr =>
    cases rr
    rcases q with ⟨l, rfl | rfl, q⟩ | ⟨z, rfl, hz, q⟩ | ⟨ns, rfl, q⟩
    · cases r with
      | @lst a xs _ h1 h2 => exact .inl ⟨a, xs, rfl, .inl (ok.sq h1), k _ _ G H c (Evo.refl ok) (.int _) (by rw [h2.length]; exact q)⟩
    · cases r with
      | @tup a xs _ h1 h2 => exact .inl ⟨a, xs, rfl, .inr (SqT.same ok.same h1), k _ _ G H c (Evo.refl ok) (.int _) (by rw [h2.length]; exact q)⟩
    · cases r
      exact .inr ⟨z, rfl, hz, k _ _ G H c (Evo.refl ok) (.int _) q⟩
    · cases r with
      | @scr a _ h1 => exact .inl ⟨a, _, rfl, .inl (SqL.same ok.same h1), k _ _ G H c (Evo.refl ok) (.int _) (by rw [List.length_map]; exact q)⟩
def b2n : Bool → Int
  | true => 1
  | false => 0
def bInt (ds : List D) (c : CN) (Q : QD) : Prop := (∃ i, ds = [.int i] ∧ Q (.int i) c) ∨ ∃ b, ds = [.bl b] ∧ Q (.int (b2n b)) c
theorem br_int {K : PySem.W.Frag} : BrN K (fun xs H Q => (∃ i, xs = [.int i] ∧ Q (.int i) H) ∨ ∃ k, xs = [.bl k] ∧ Q (.int (if k then 1 else 0)) H) bInt := fun G H c xs ds Qd Q ok r q k => by
  rcases q with ⟨i, rfl, q⟩ | ⟨b, rfl, q⟩
  · cases r with
    | cons r rr => cases rr; cases r; exact .inl ⟨i, rfl, k _ _ G H c (Evo.refl ok) (.int _) q⟩
  · cases r with
    | cons r rr =>
      cases rr; cases r
      refine .inr ⟨b, rfl, k _ _ G H c (Evo.refl ok) ?_ q⟩
      cases b <;> exact .int _
def b2I (f : Int → Int → Int) (ds : List D) (c : CN) (Q : QD) : Prop := ∃ i j, ds = [.int i, .int j] ∧ Q (.int (f i j)) c
theorem br_2I {K : PySem.W.Frag} {f : Int → Int → Int} : BrN K (fun xs H Q => ∃ i j, xs = [.int i, .int j] ∧ Q (.int (f i j)) H) (b2I f) := fun G H c xs ds Qd Q ok r q k => by
  obtain ⟨i, j, rfl, q⟩ := q
  cases r with
  | cons r rr =>
    cases rr with
    | cons r' rr => cases rr; cases r; cases r'; exact ⟨i, j, rfl, k _ _ G H c (Evo.refl ok) (.int _) q⟩
def bools : List D → Option (List Bool)
  | [] => some []
  | .bl b :: l => (bools l).map (b :: ·)
  | _ => none
theorem bools_rp {K : PySem.W.Frag} {G : GS K} : ∀ {ds : List D} {bs : List Bool} {xs : List V}, bools ds = some bs → RpAll K G xs ds → xs = bs.map V.bl
  | [], bs, xs, e, r => by cases e; cases r; rfl
  | d :: ds, bs, xs, e, r => by
    cases r with
    | cons r rr =>
      cases d with
      | bl b =>
        cases e2 : bools ds with
        | none => simp [bools, e2] at e
        | some cs =>
          simp [bools, e2] at e
          subst e
          cases r
          rw [bools_rp e2 rr]
          rfl
      | _ => cases e
def bAll (ds : List D) (c : CN) (Q : QD) : Prop := ∃ l bs, ds = [.lst l] ∧ bools l = some bs ∧ Q (.bl (bs.all id)) c
def bAny (ds : List D) (c : CN) (Q : QD) : Prop := ∃ l bs, ds = [.lst l] ∧ bools l = some bs ∧ Q (.bl (bs.any id)) c
theorem br_all {K : PySem.W.Frag} : BrN K (rAll K) bAll := fun G H c xs ds Qd Q ok r q k => by
  obtain ⟨l, bs, rfl, e, q⟩ := q
  cases r with
  | cons r rr =>
    cases rr
    cases r with
    | @lst a ys _ h1 h2 =>
      have := bools_rp e h2
      subst this
      exact ⟨a, bs, rfl, ok.sq h1, k _ _ G H c (Evo.refl ok) (.bl _) q⟩
end PL
namespace PL
open PySem PySem.Spec PyProof.Rows L2
def basics : List String := ["int", "str", "bool", "tuple", "list", "dict"]
structure ICls (K : PySem.W.Frag) (C : Addr) : Prop where
  cl : Cls K C
  ha : PySem.W.findIn K (.ref C) "__class__" = some (some (.builtin "object.__class__"))
  hn : PySem.W.specialIn K (.builtin "object.__class__") "__get__" = some (some (.builtin "getset_descriptor.__get__"))
  ht : PySem.W.takesIn K (.builtin "object.__class__") = some true
  hm : PySem.W.mroIn K C (.type "object") = some true
  no : ∀ T ∈ basics, PySem.W.kitOne K (.ref C) (.type T) = some false
def kind : D → Option String
  | .non => some "NoneType"
  | .bl _ => some "bool"
  | .int _ => some "int"
  | .str _ => some "str"
  | .tup _ => some "tuple"
  | .lst _ => some "list"
  | .dct _ _ => some "dict"
  | _ => none
def isaB (T : String) : D → Bool
  | .bl _ => T == "bool" || T == "int"
  | .int _ => T == "int"
  | .str _ => T == "str"
  | .tup _ => T == "tuple"
  | .lst _ => T == "list"
  | .dct _ _ => T == "dict"
  | _ => false
theorem kind_isa {T : String} (hT : T ∈ basics) : ∀ {d : D} {k : String}, kind d = some k → kitB k T = some (isaB T d) := by
  have h : ∀ k ∈ ["NoneType", "bool", "int", "str", "tuple", "list", "dict"], ∀ T ∈ basics, kitB k T = some (if k == "bool" then (T == "bool" || T == "int") else k == T) := by decide +kernel
  have key : ∀ a b : String, (a == b) = (b == a) := fun a b => by
    by_cases e : a = b
    · subst e; rfl
    · rw [beq_eq_false_iff_ne.mpr e, beq_eq_false_iff_ne.mpr (Ne.symm e)]
  intro d k e
  cases d with
  | non => cases e; rw [h _ (by simp) T hT]; show some ("NoneType" == T) = some false; rcases List.mem_cons.mp hT with rfl | hT; rfl; rcases List.mem_cons.mp hT with rfl | hT; rfl; rcases List.mem_cons.mp hT with rfl | hT; rfl; rcases List.mem_cons.mp hT with rfl | hT; rfl; rcases List.mem_cons.mp hT with rfl | hT; rfl; rcases List.mem_cons.mp hT with rfl | hT; rfl; cases hT
  | bl b => cases e; rw [h _ (by simp) T hT]; rfl
  | int i => cases e; rw [h _ (by simp) T hT]; show some ("int" == T) = some (T == "int"); rw [key]
  | str i => cases e; rw [h _ (by simp) T hT]; show some ("str" == T) = some (T == "str"); rw [key]
  | tup i => cases e; rw [h _ (by simp) T hT]; show some ("tuple" == T) = some (T == "tuple"); rw [key]
  | lst i => cases e; rw [h _ (by simp) T hT]; show some ("list" == T) = some (T == "list"); rw [key]
  | dct i j => cases e; rw [h _ (by simp) T hT]; show some ("dict" == T) = some (T == "dict"); rw [key]
  | _ => cases e
section
variable {K : PySem.W.Frag} {G : GS K} {H : Hp} {c : CN}
theorem tyX_of (ok : G.Ok H c) {x : V} {d : D} {k : String} (r : Rp K G x d) (e : kind d = some k) : TyX K H x (.type k) := by
  cases r with
  | non => cases e; exact .base .non
  | bl b => cases e; exact .base (.bl b)
  | int b => cases e; exact .base (.int b)
  | str b => cases e; exact .base (.str b)
  | tup h1 h2 =>
    cases e
    rcases h1 with (h | ⟨o, h⟩) | ⟨o, its, n, hk, hc, _⟩
    · exact .base (.tup (ok.same _ _ h))
    · exact .fTuple (ok.same _ _ h)
    · exact .kTuple hk hc
  | lst h1 h2 =>
    cases e
    exact .base (.lst (ok.same _ _ h1))
  | dct h1 h2 h3 =>
    cases e
    obtain ⟨o, h⟩ := h1
    exact .fDict (ok.same _ _ h)
  | _ => cases e
end
def bIsa (IC : Addr → Prop) (ds : List D) (c : CN) (Q : QD) : Prop := ∃ x T, ds = [x, .ty T] ∧ T ∈ basics ∧ ((∃ k, kind x = some k) ∨ ∃ C ns es, x = .ins C ns es ∧ IC C) ∧ Q (.bl (isaB T x)) c
theorem br_isa {K : PySem.W.Frag} {IC : Addr → Prop} (hI : ∀ C, IC C → ICls K C) : BrN K (rIsi K) (bIsa IC) := fun G H c xs ds Qd Q ok r q k => by
  obtain ⟨x, T, rfl, hT, hx, q⟩ := q
  cases r with
  | cons r rr =>
    cases rr with
    | cons r' rr =>
      cases rr
      cases r'
      rcases hx with ⟨m, e⟩ | ⟨C, ns, es, rfl, hC⟩
      · exact ⟨_, _, _, .type T, isaB T x, rfl, .ty T, tyX_of ok r e, kit_ty (kind_isa hT e), k _ _ G H c (Evo.refl ok) (.bl _) q⟩
      · have I := hI C hC
        cases r with
        | ins h1 h2 h3 => exact ⟨_, _, _, .type T, false, rfl, .ty T, .base (.ins (ok.same _ _ h1) I.cl I.ha I.hn I.ht I.hm), I.no T hT, k _ _ G H c (Evo.refl ok) (.bl _) q⟩
mutual
def toP : D → Option PyData
  | .non => some .none
  | .bl b => some (.bool b)
  | .int i => some (.int i)
  | .str x => some (.str x)
  | .tup l => (toPs l).map .tuple
  | .lst l => (toPs l).map .list
  | _ => none
def toPs : List D → Option (List PyData)
  | [] => some []
  | d :: l => (toP d).bind fun p => (toPs l).map (p :: ·)
end
mutual
theorem dp_of {K : PySem.W.Frag} {G : GS K} {H : Hp} (s : Same G.f H) : ∀ {d : D} {p : PyData} {x : V}, toP d = some p → Rp K G x d → Dp K H x p
  | .non, p, x, e, r => by unfold toP at e; cases e; cases r; exact .non
  | .bl b, p, x, e, r => by unfold toP at e; cases e; cases r; exact .bl b
  | .int i, p, x, e, r => by unfold toP at e; cases e; cases r; exact .int i
  | .str i, p, x, e, r => by unfold toP at e; cases e; cases r; exact .str i
  | .tup l, p, x, e, r => by
    unfold toP at e
    cases e2 : toPs l with
    | none => rw [e2] at e; cases e
    | some ps =>
      rw [e2] at e
      cases e
      cases r with
      | tup h1 h2 => exact .tup (SqT.same s h1) (dps_of s e2 h2)
  | .lst l, p, x, e, r => by
    unfold toP at e
    cases e2 : toPs l with
    | none => rw [e2] at e; cases e
    | some ps =>
      rw [e2] at e
      cases e
      cases r with
      | lst h1 h2 => exact .lst (SqL.of (s _ _ h1)) (dps_of s e2 h2)
  | .ty _, _, _, e, _ => by unfold toP at e; cases e
  | .cls _, _, _, e, _ => by unfold toP at e; cases e
  | .dct _ _, _, _, e, _ => by unfold toP at e; cases e
  | .ins _ _ _, _, _, e, _ => by unfold toP at e; cases e
  | .exc _ _ _, _, _, e, _ => by unfold toP at e; cases e
  | .opq, _, _, e, _ => by unfold toP at e; cases e
  | .mo _, _, _, e, _ => by unfold toP at e; cases e
  | .set _ _, _, _, e, _ => by unfold toP at e; cases e
  | .scr _, _, _, e, _ => by unfold toP at e; cases e
theorem dps_of {K : PySem.W.Frag} {G : GS K} {H : Hp} (s : Same G.f H) : ∀ {l : List D} {ps : List PyData} {xs : List V}, toPs l = some ps → RpAll K G xs l → DpAll K H xs ps
  | [], ps, xs, e, r => by unfold toPs at e; cases e; cases r; exact .nil
  | d :: l, ps, xs, e, r => by
    unfold toPs at e
    cases e1 : toP d with
    | none => rw [e1] at e; cases e
    | some p =>
      rw [e1] at e
      cases e2 : toPs l with
      | none => rw [e2] at e; cases e
      | some qs =>
        rw [e2] at e
        cases e
        cases r with
        | cons r1 r2 => exact .cons (dp_of s e1 r1) (dps_of s e2 r2)
end
def plainP (d : D) (p : PyData) : Prop := toP d = some p ∧ SeqAt.shaped p = true
def aEq (x : D) (y : D) (c : CN) (Q : QD) : Prop := ∃ p q, plainP x p ∧ plainP y q ∧ Q (.bl (PyData.eqv p q)) c
def aNe (x : D) (y : D) (c : CN) (Q : QD) : Prop := ∃ p q, plainP x p ∧ plainP y q ∧ Q (.bl (!PyData.eqv p q)) c
theorem br_eq {K : PySem.W.Frag} : Br2 K (rEqD K) aEq := fun G H c x y d e Qd Q ok rx ry q k => by
  obtain ⟨p, p2, ⟨h1, s1⟩, ⟨h2, s2⟩, q⟩ := q
  exact ⟨p, p2, dp_of ok.same h1 rx, dp_of ok.same h2 ry, s1, s2, k _ _ G H c (Evo.refl ok) (.bl _) q⟩
theorem br_ne {K : PySem.W.Frag} : Br2 K (rNeD K) aNe := fun G H c x y d e Qd Q ok rx ry q k => by
  obtain ⟨p, p2, ⟨h1, s1⟩, ⟨h2, s2⟩, q⟩ := q
  exact ⟨p, p2, dp_of ok.same h1 rx, dp_of ok.same h2 ry, s1, s2, k _ _ G H c (Evo.refl ok) (.bl _) q⟩
section
variable {Y : Ctx} {a b : Expr} {ea eb : TE} {ta tb : DE} {pos : Pos} {k : Nat}
end
def dPurse (t : DA) (ρ : DEnv) (c : CN) (Q : QD) : Prop := t ρ c fun ds c1 => ∃ x y z : Int, ds = [.int x, .int y, .int z] ∧ 0 ≤ y ∧ y < 2 ^ 31 ∧ 0 ≤ z ∧ z ≤ 1000000 ∧ Q .opq c1
section
variable {Y : Ctx} {es : List Expr} {e : Expr} {fa : TA} {t : DA} {pos p1 p2 p3 : Pos} {ee : TE} {te : DE}
theorem rp3 {K : PySem.W.Frag} {G : GS K} {vs : List V} {x y z : Int} (r : RpAll K G vs [.int x, .int y, .int z]) : vs = [.int x, .int y, .int z] := by
  cases r with
  | cons r1 r =>
    cases r with
    | cons r2 r =>
      cases r with
      | cons r3 r => cases r; cases r1; cases r2; cases r3; rfl
theorem pd_purse (ha : PDA Y es fa t) : PD Y (.List es pos) (tLst fa) (dPurse t) := by
  refine ⟨pe_lst ha.p, fun G H c ρ σ Qd Q R h k => ?_⟩
  refine ha.s G H c ρ σ _ _ R h fun ds vs G1 H1 c1 e1 r1 q1 => ?_
  obtain ⟨x, y, z, rfl, h1, h2, h3, h4, q⟩ := q1
  have e := rp3 r1
  subst e
  refine ⟨by show 3 ≤ sizeLine; decide, fun p np => ?_⟩
  have nf : G1.f p = none := e1.ok.fnone np
  have nm : c1.m p = none := by
    cases e : c1.m p with
    | none => rfl
    | some q => obtain ⟨_, v, hv, _⟩ := e1.ok.mo p q e; rw [np] at hv; cases hv
  have le : G1.Le { G1 with pu := fun b => G1.pu b ∨ b = p, pp := fun b => G1.pp b ∨ b = p } := ⟨Same.refl _, fun _ h => .inl h, fun _ h => .inl h⟩
  have ev : Evo G1 H1 c1 { G1 with pu := fun b => G1.pu b ∨ b = p, pp := fun b => G1.pp b ∨ b = p } (upd H1 p (.lst [.int x, .int y, .int z])) c1 := by
    have ev := Evo.laidU e1.ok (.lst [.int x, .int y, .int z]) np
    refine ⟨⟨ev.ok.same, fun b hb => ?_, fun b hb => ?_, fun b hb => ?_, fun b hb => hb.imp (e1.ok.ppu b) id, fun b hb => ?_, fun a o e => ?_⟩, le, ev.keep, ev.pus, ev.new, fun b o e hb => ?_⟩
    · rcases hb with hb | rfl
      · exact e1.ok.npu b hb
      · exact nf
    · rcases hb with hb | rfl
      · exact ev.ok.pus b hb
      · exact ⟨_, upd_same⟩
    · rcases hb with hb | rfl
      · exact ev.ok.pu b hb
      · rw [upd_same]; exact ⟨x, y, z, rfl, h1, h2, h3, by omega⟩
    · rcases hb with hb | rfl
      · exact e1.ok.ppm b hb
      · exact nm
    · obtain ⟨z1, z2, z3, z4⟩ := ev.ok.mo a o e
      exact ⟨.inl z1, z2, z3, z4.mono le⟩
    · rcases hb with hb | rfl
      · exact hb
      · rw [np] at e; cases e
  exact k .opq _ _ _ c1 (e1.trans ev) (.opq (.inr rfl)) q
def dPIx (i : Nat) (n : Nat) (ρ : DEnv) (c : CN) (Q : QD) : Prop := ρ[i]? = some (.fz .opq) ∧ ∀ x : Int, (n = 1 → 0 ≤ x ∧ x < 2 ^ 31) → (n = 2 → 0 ≤ x ∧ x ≤ 1000000 + (c.n : Int)) → Q (.int x) c
theorem pd_purseIx (i n : Nat) {x : Str} {j : Nat} {nn : Int} (hn : nn = (n : Int)) (hn3 : n < 3) (hN : Y.X.N[i]? = some x := by rfl) (hv : Vis Y.X.env.scope x := by first | exact Or.inl rfl | exact Or.inr (Or.inl rfl) | exact Or.inr (Or.inr rfl)) (hd : (x == ("__debug__" : Str)) = false := by decide)
    (hcd : (x == ("__classdict__" : Str)) = false := by decide) : PD Y (.Subscript (.Name x p1) (.Constant (.int nn) j p2) pos) (tOp (rIx Y.X.K) (tVar i) (tC (.int nn))) (dPIx i n) := by
  refine ⟨pe_ix ix_seq (pe_var hN hv hd hcd) pe_int (fun _ _ => rfl), fun G H c ρ σ Qd Q R h k => ?_⟩
  obtain ⟨e, h⟩ := h
  obtain ⟨o, e1, v, rfl, r⟩ := R.sl i _ e
  subst hn
  cases r with
  | @opq a hp =>
    obtain ⟨x, y, z, e2, h1, h2, h3, h4⟩ := R.ok.pu a hp
    refine ⟨_, e1, .inl ⟨a, _, (n : Int), ([.int x, .int y, .int z] : List V)[n]'(by simpa using hn3), rfl, rfl, SqL.of e2, ?_, ?_⟩⟩
    · exact atI_nat (by simp)
    · match n, hn3 with
      | 0, _ => exact k _ _ G H c (Evo.refl R.ok) (.int _) (h x (fun z => nomatch z) fun z => nomatch z)
      | 1, _ => exact k _ _ G H c (Evo.refl R.ok) (.int _) (h y (fun _ => ⟨h1, h2⟩) fun z => nomatch z)
      | 2, _ => exact k _ _ G H c (Evo.refl R.ok) (.int _) (h z (fun z => nomatch z) fun _ => ⟨h3, h4⟩)
def sPSet (i : Nat) (n : Nat) (te : DE) (DD : DEnds) (ρ : DEnv) (c : CN) : Prop := te ρ c fun d c1 => ρ[i]? = some (.fz .opq) ∧ ∃ x : Int, d = .int x ∧ ((n = 0 ∧ DD.nx ρ c1) ∨ (n = 2 ∧ 0 ≤ x ∧ x ≤ 1000000 + ((c1.n + 1 : Nat) : Int) ∧ DD.nx ρ (c1.at (c1.n + 1))))
theorem evo_purse {K : PySem.W.Frag} {G : GS K} {H : Hp} {c : CN} {n : Nat} (ok : G.Ok H c) {a : Addr} (hp : G.pp a) (hc : c.n ≤ n) {u : HO} (hu : PurseV (c.at n) (some u)) : Evo G H c G (upd H a u) (c.at n) where
  ok := ⟨fun b o e => by
      have : b ≠ a := fun z => by subst z; rw [ok.npu b (ok.ppu b hp)] at e; cases e
      rw [upd_ne this]; exact ok.same b o e, ok.npu, fun b hb => by
      by_cases e : b = a
      · subst e; exact ⟨u, upd_same⟩
      · rw [upd_ne e]; exact ok.pus b hb, fun b hb => by
      by_cases e : b = a
      · subst e; rw [upd_same]; exact hu
      · rw [upd_ne e]; exact (ok.pu b hb).mono hc, ok.ppu, ok.ppm, fun b o e => by
      have : b ≠ a := fun z => by subst z; have := ok.ppm b hp; rw [show (c.at n).m b = c.m b from rfl, this] at e; cases e
      rw [upd_ne this]; exact ok.mo b o e⟩
  le := GS.Le.refl _
  keep := fun b o e n => by
    have : b ≠ a := fun z => n (z ▸ ok.ppu a hp)
    rw [upd_ne this]; exact e
  pus := fun b hb => by
    by_cases e : b = a
    · subst e; exact ⟨u, upd_same⟩
    · rw [upd_ne e]; exact ok.pus b hb
  new := fun _ _ _ n => n
  npu := fun _ _ _ h => h
theorem pds_purseSet (i n : Nat) {x : Str} {j : Nat} {nn : Int} (hn : nn = (n : Int)) (he : PD Y e ee te) (hN : Y.X.N[i]? = some x := by rfl) (hv : Vis Y.X.env.scope x := by first | exact Or.inl rfl | exact Or.inr (Or.inl rfl) | exact Or.inr (Or.inr rfl)) (hd : (x == ("__debug__" : Str)) = false := by decide)
    (hcd : (x == ("__classdict__" : Str)) = false := by decide) (hs : swapsWithSole [.Subscript (.Name x p1) (.Constant (.int nn) j p2) p3] e pos.line Y.X.env = pure false := by rfl) (hw : swappedStores [.Subscript (.Name x p1) (.Constant (.int nn) j p2) p3] e Y.X.env = pure none := by rfl)
    (h1 : (assignEach [.Subscript (.Name x p1) (.Constant (.int nn) j p2) p3] Y.X.env).map (·.2) = [assign (.Subscript (.Name x p1) (.Constant (.int nn) j p2) p3) Y.X.env] := by rfl) :
    PDS Y (.Assign [.Subscript (.Name x p1) (.Constant (.int nn) j p2) p3] e pos) (tAsg ee (gSub (tVar i) (tC (.int nn)) rSetL)) (sPSet i n te) := by
  refine ⟨ps_asg he.p (pg_sub (pe_var hN hv hd hcd) pe_int set_list) hs hw h1, fun P G H c ρ σ DD EE K R q => ?_⟩
  refine he.s G H c ρ σ _ _ R.r q fun d v G1 H1 c1 ev r q => ?_
  obtain ⟨e, m, rfl, q⟩ := q
  have R1 := R.evo ev
  obtain ⟨o, e1, u, rfl, ru⟩ := R1.r.sl i _ e
  cases r
  cases ru with
  | @opq a hp =>
    obtain ⟨x, y, z, e2, g1, g2, g3, g4⟩ := R1.r.ok.pu a hp
    subst hn
    refine ⟨_, e1, a, _, (n : Int), n, rfl, rfl, e2, ?_, ?_⟩
    · have hn3 : n < 3 := by rcases q with ⟨rfl, _⟩ | ⟨rfl, _⟩ <;> decide
      show ixN 3 (n : Int) = some n
      match n, hn3 with
      | 0, _ => rfl
      | 1, _ => rfl
      | 2, _ => rfl
    · rcases q with ⟨rfl, q5⟩ | ⟨rfl, b1, b2, q5⟩
      · exact K.nx _ _ _ _ _ (R1.evo (evo_purse (n := c1.n) R1.r.ok hp (Nat.le_refl _) (u := .lst [.int m, .int y, .int z]) ⟨m, y, z, rfl, g1, g2, g3, g4⟩)) q5
      · exact K.nx _ _ _ _ _ (R1.evo (evo_purse R1.r.ok hp (Nat.le_succ _) (u := .lst [.int x, .int y, .int m]) ⟨x, y, m, rfl, g1, g2, b1, b2⟩)) q5
end
end PL
namespace PL
open PySem PySem.Spec PyProof.Rows L2
def scopeB (N P : List Str) (sc : Scope) : Bool :=
  (match sc.kind with | .function => true | _ => false) && !sc.isCoroutine && !sc.isGenerator && decide N.Nodup && decide (N.take P.length = P) &&
    P.all (fun x => match sc.names.lookup x with | some .local => true | some .cell => true | _ => false) && sc.names.all fun y => match y.2 with | .free => false | _ => true
theorem scope_of {N P : List Str} {sc : Scope} (h : scopeB N P sc = true) : FnScope N P sc := by
  simp only [scopeB, Bool.and_eq_true, decide_eq_true_eq, List.all_eq_true, Bool.not_eq_true'] at h
  obtain ⟨⟨⟨⟨⟨⟨h1, h2⟩, h3⟩, h4⟩, h5⟩, h6⟩, h7⟩ := h
  refine ⟨?_, h2, h3, h4, h5, fun x hx => ?_, fun y hy e => ?_⟩
  · split at h1
    · assumption
    · cases h1
  · have q := h6 x hx
    split at q
    · exact .inl (by assumption)
    · exact .inr (by assumption)
    · cases q
  · have q := h7 y hy
    rw [e] at q
    cases q
structure Df (K : PySem.W.Frag) (mg : Str → Option Value) (x : Str) (st : Stmt) (dvs : List V) (kws : List (Str × V)) (f : Addr) (fd : FuncData) : Prop where
  F : FunD K x x (defArgs st) (defBody st) (defScope st) dvs kws f fd
  m : mg x = some (.ref f)
structure Cal (K : PySem.W.Frag) (mg : Str → Option Value) (x : Str) (f : Addr) (fd : FuncData) (ps : List Str) (dvs : List V) : Prop where
  m : mg x = some (.ref f)
  k : PySem.W.keepIn K (.ref f) = true
  b : ∃ ds, Vals dvs ds ∧ Binds K fd ps ds
section
variable {K : PySem.W.Frag} {mg : Str → Option Value} {x : Str} {st : Stmt} {dvs : List V} {kws : List (Str × V)} {f : Addr} {fd : FuncData} {ps : List Str}
theorem Df.cal0 (D : Df K mg x st [] kws f fd) (h : ∀ (kV doc pm : Value) (an : Option Addr) (cdv ct : Value) (us : List Value), us.length = ps.length → bindArgs (PySem.W.fnOf x x (defArgs st) (defBody st) (defScope st) .none kV doc pm an cdv ct) ⟨us, []⟩ = pure (ps.zip us)) : Cal K mg x f fd ps [] :=
  ⟨D.m, D.F.kp, [], .nil, D.F.bindsN h⟩
theorem Df.cal1 (D : Df K mg x st dvs kws f fd) (n j : Nat) (hd : dvs ≠ []) (hn : n + (dvs.length - j) = ps.length)
    (h : ∀ (T : Addr) (kV doc pm : Value) (an : Option Addr) (cdv ct : Value) (us its : List Value), us.length = n → its.length = dvs.length →
      ∃ k, bindArgs (PySem.W.fnOf x x (defArgs st) (defBody st) (defScope st) (.ref T) kV doc pm an cdv ct) ⟨us, []⟩ = seqItems? (.ref T) >>= k ∧ k (some its.toArray) = pure (ps.zip (us ++ its.drop j))) : Cal K mg x f fd ps (dvs.drop j) :=
  ⟨D.m, D.F.kp, D.F.binds1 n j hd hn h⟩
end
section
variable {Y : Ctx} {k : Nat} {f : Addr} {fd : FuncData} {ps : List Str} {sp : SpD} {dvs : List V} {dds : List D} {x : Str} {p pos : Pos} {e : Expr} {es : List Expr} {fa : TA} {t : DA}
theorem pd_callC (g : Y.Good k) (F : FnOk Y.X.prog Y.X.w Y.X.K Y.X.mg Y.X.base (L2.CX Y.X.prog Y.X.w) k f fd ps (spOf Y.X.K sp)) (C : Cal Y.X.K Y.X.mg x f fd ps dvs) (hdd : ∀ G, RpAll Y.X.K G dvs dds)
    (ha : PDA Y (e :: es) fa t) (hg : Gl Y.X x := by rfl) (hdb : (x == ("__debug__" : Str)) = false := by decide) (he : starEach (e :: es) Y.X.env = (false, eval e Y.X.env) :: starEach es Y.X.env := by rfl) (hpl : (backTo pos (starEach es Y.X.env)).any (·.1) = false := by rfl) :
    PD Y (.Call (.Name x p) (e :: es) [] pos) (tCallE (spOf Y.X.K sp) dvs Y.E fa) (dCall Y.ED sp dds t) := by
  obtain ⟨ds, hd, hb⟩ := C.b
  exact pd_call g F C.m C.k hb hd hdd ha hg hdb he hpl
structure PDK (Y : Ctx) (kws : List Keyword) (ta : TA) (t : DA) : Prop where
  p : PK Y.X kws ta
  s : SimA Y ta t
structure CalK (K : PySem.W.Frag) (mg : Str → Option Value) (x : Str) (f : Addr) (fd : FuncData) (ps : List Str) (n : Nat) (ks : List Str) (gV : List V → List V → List V) (gD : List D → List D → List D) : Prop where
  m : mg x = some (.ref f)
  k : PySem.W.keepIn K (.ref f) = true
  b : ∃ g, KBn K fd ps n ks g gV
  r : ∀ G vs ds zs es, RpAll K G vs ds → RpAll K G zs es → RpAll K G (gV vs zs) (gD ds es)
def dCallK (ED : DEnv → EDt) (n m : Nat) (sp : SpD) (gD : List D → List D → List D) (t tk : DA) (ρ : DEnv) (c : CN) (Q : QD) : Prop := t ρ c fun ds c1 => tk ρ c1 fun es c2 => ds.length = n ∧ es.length = m ∧ sp (gD ds es) c2 Q (ED ρ)
variable {n : Nat} {ks : List Str} {gV : List V → List V → List V} {gD : List D → List D → List D} {kws : List Keyword} {fk : TA} {tk : DA}
end
end PL
namespace PL
open PySem PySem.Spec PyProof.Rows L2
theorem Br2.or {K : PySem.W.Frag} {r r' : R2} {rd rd' : RD2} (h : Br2 K r rd) (h' : Br2 K r' rd') : Br2 K (fun x y H Q => r x y H Q ∨ r' x y H Q) (fun x y c Q => rd x y c Q ∨ rd' x y c Q) := fun G H c x y d e Qd Q ok rx ry q k =>
  q.elim (fun q => .inl (h G H c x y d e Qd Q ok rx ry q k)) fun q => .inr (h' G H c x y d e Qd Q ok rx ry q k)
theorem Br2.imp {K : PySem.W.Frag} {r : R2} {rd rd' : RD2} (h : Br2 K r rd) (i : ∀ x y c Q, rd' x y c Q → rd x y c Q) : Br2 K r rd' := fun G H c x y d e Qd Q ok rx ry q k => h G H c x y d e Qd Q ok rx ry (i _ _ _ _ q) k
def aAddS (x : D) (y : D) (c : CN) (Q : QD) : Prop := ∃ i j : Str, x = .str i ∧ y = .str j ∧ i.length + j.length ≤ sizeLine ∧ Q (.str (i ++ j)) c
theorem br_addS {K : PySem.W.Frag} : Br2 K (fun x y H Q => ∃ i j, x = .str i ∧ y = .str j ∧ i.length + j.length ≤ sizeLine ∧ Q (.str (i ++ j)) H) aAddS := fun G H c x y d e Qd Q ok rx ry q k => by
  obtain ⟨i, j, rfl, rfl, hz, q⟩ := q
  cases rx; cases ry
  exact ⟨i, j, rfl, rfl, hz, k _ _ G H c (Evo.refl ok) (.str _) q⟩
def rPlus (K : PySem.W.Frag) : R2 := fun x y H Q => rI0 (fun i j => V.int (i + j)) x y H Q ∨ (∃ i j, x = .str i ∧ y = .str j ∧ i.length + j.length ≤ sizeLine ∧ Q (.str (i ++ j)) H) ∨ rCatA K x y H Q
def aPlus (x : D) (y : D) (c : CN) (Q : QD) : Prop := match x, y with
  | .int i, .int j => Q (.int (i + j)) c
  | .str i, .str j => i.length + j.length ≤ sizeLine ∧ Q (.str (i ++ j)) c
  | .tup l, .tup m => l.length + m.length ≤ sizeLine ∧ Q (.tup (l ++ m)) c
  | _, _ => False
theorem op_plus {X : Cx} : OpR X (binaryOp .Add) (rPlus X.K) := op_add.or (op_add_str.or op_catA)
theorem br_plus {K : PySem.W.Frag} : Br2 K (rPlus K) aPlus := ((br_I0 fun _ _ _ => .int _).or (br_addS.or br_cat)).imp fun x y c Q q => by
  unfold aPlus at q
  split at q
  · exact .inl ⟨_, _, rfl, rfl, q⟩
  · exact .inr (.inl ⟨_, _, rfl, rfl, q⟩)
  · exact .inr (.inr ⟨_, _, rfl, rfl, q⟩)
  · exact q.elim
def rLeP : R2 := fun x y H Q => rI0 (fun i j => V.bl (decide (i ≤ j))) x y H Q ∨ ∃ i j, x = .str i ∧ y = .str j ∧ Q (.bl (!decide (j.cps.toList < i.cps.toList))) H
def aLeP (x : D) (y : D) (c : CN) (Q : QD) : Prop := match x, y with
  | .int i, .int j => Q (.bl (decide (i ≤ j))) c
  | .str i, .str j => Q (.bl (!decide (j.cps.toList < i.cps.toList))) c
  | _, _ => False
theorem op_leP {X : Cx} : OpR X (compareOp .LtE) rLeP := op_le.or op_le_str
theorem br_leP {K : PySem.W.Frag} : Br2 K rLeP aLeP := ((br_I0 fun _ _ _ => .bl _).or br_leS).imp fun x y c Q q => by
  unfold aLeP at q
  split at q
  · exact .inl ⟨_, _, rfl, rfl, q⟩
  · exact .inr ⟨_, _, rfl, rfl, q⟩
  · exact q.elim
def aItem (x : D) (y : D) (c : CN) (Q : QD) : Prop := match x, y with
  | .lst l, .int i => ∃ d, atI l i = some d ∧ Q d c
  | .tup l, .int i => ∃ d, atI l i = some d ∧ Q d c
  | .str z, .int i => z.length ≤ sizeLine ∧ ∃ k, atI z.cps.toList i = some k ∧ Q (.str ⟨#[k]⟩) c
  | .scr ns, .int i => ∃ j, atI ns i = some j ∧ Q (.int j) c
  | _, _ => False
theorem br_item {K : PySem.W.Frag} : Br2 K (rIx K) aItem := br_ix.imp fun x y c Q q => by
  unfold aItem at q
  split at q
  · obtain ⟨d, h, q⟩ := q; exact ⟨_, rfl, .inl ⟨_, d, rfl, h, q⟩⟩
  · obtain ⟨d, h, q⟩ := q; exact ⟨_, rfl, .inr (.inl ⟨_, d, rfl, h, q⟩)⟩
  · obtain ⟨hz, d, h, q⟩ := q; exact ⟨_, rfl, .inr (.inr (.inl ⟨_, d, rfl, hz, h, q⟩))⟩
  · obtain ⟨j, h, q⟩ := q; exact ⟨_, rfl, .inr (.inr (.inr ⟨_, j, rfl, h, q⟩))⟩
  · exact q.elim
def aSlice (x : D) (lo : Option Int) (hi : Option Int) (c : CN) (Q : QD) : Prop := match x with
  | .tup l => Q (.tup (cut l lo hi)) c
  | .lst l => Q (.lst (cut l lo hi)) c
  | _ => False
theorem br_slice {K : PySem.W.Frag} : BrS K (rCut K) aSlice := fun G H c x d lo hi Qd Q ok rx q k => br_cut G H c x d lo hi Qd Q ok rx (by
  unfold aSlice at q
  split at q
  · exact .inl ⟨_, rfl, q⟩
  · exact .inr ⟨_, rfl, q⟩
  · exact q.elim) k
def aLen (ds : List D) (c : CN) (Q : QD) : Prop := match ds with
  | [.lst l] => Q (.int l.length) c
  | [.tup l] => Q (.int l.length) c
  | [.str z] => z.length ≤ sizeLine ∧ Q (.int z.length) c
  | [.scr ns] => Q (.int ns.length) c
  | _ => False
theorem BrN.imp {K : PySem.W.Frag} {r : List V → Hp → VK → Prop} {rd rd' : RDn} (h : BrN K r rd) (i : ∀ ds c Q, rd' ds c Q → rd ds c Q) : BrN K r rd' := fun G H c xs ds Qd Q ok rx q k => h G H c xs ds Qd Q ok rx (i _ _ _ q) k
theorem br_lenA {K : PySem.W.Frag} : BrN K (rLen K) aLen := br_len.imp fun ds c Q q => by
  unfold aLen at q
  split at q
  · exact ⟨_, rfl, .inl ⟨_, .inl rfl, q⟩⟩
  · exact ⟨_, rfl, .inl ⟨_, .inr rfl, q⟩⟩
  · exact ⟨_, rfl, .inr (.inl ⟨_, rfl, q⟩)⟩
  · exact ⟨_, rfl, .inr (.inr ⟨_, rfl, q⟩)⟩
  · exact q.elim
def aInt (ds : List D) (c : CN) (Q : QD) : Prop := match ds with
  | [.int i] => Q (.int i) c
  | [.bl b] => Q (.int (b2n b)) c
  | _ => False
theorem br_intA {K : PySem.W.Frag} : BrN K (fun xs H Q => (∃ i, xs = [.int i] ∧ Q (.int i) H) ∨ ∃ k, xs = [.bl k] ∧ Q (.int (if k then 1 else 0)) H) aInt := br_int.imp fun ds c Q q => by
  unfold aInt at q
  split at q
  · exact .inl ⟨_, rfl, q⟩
  · exact .inr ⟨_, rfl, q⟩
  · exact q.elim
def isIns : D → Option Addr
  | .ins C _ _ => some C
  | _ => none
def aIsa (IC : Addr → Prop) (ds : List D) (c : CN) (Q : QD) : Prop := match ds with
  | [x, .ty T] => T ∈ basics ∧ ((kind x).isSome = true ∨ ∃ C, isIns x = some C ∧ IC C) ∧ Q (.bl (isaB T x)) c
  | _ => False
theorem br_isaA {K : PySem.W.Frag} {IC : Addr → Prop} (hI : ∀ C, IC C → ICls K C) : BrN K (rIsi K) (aIsa IC) := (br_isa hI).imp fun ds c Q q => by
  unfold aIsa at q
  split at q
  · obtain ⟨h1, h2, q⟩ := q
    refine ⟨_, _, rfl, h1, ?_, q⟩
    rcases h2 with h | ⟨C, h, i⟩
    · exact .inl (Option.isSome_iff_exists.mp h)
    · rename_i x T
      cases x with
      | ins C' ns es => cases h; exact .inr ⟨_, _, _, rfl, i⟩
      | _ => cases h
  · exact q.elim
def aListA (ds : List D) (c : CN) (Q : QD) : Prop := match ds with
  | [.lst l] => Q (.lst l) c
  | [.tup l] => Q (.lst l) c
  | _ => False
def aTupleA (ds : List D) (c : CN) (Q : QD) : Prop := match ds with
  | [.lst l] => Q (.tup l) c
  | [.tup l] => Q (.tup l) c
  | _ => False
def aMax2 (ds : List D) (c : CN) (Q : QD) : Prop := match ds with
  | [.int i, .int j] => Q (.int (if j > i then j else i)) c
  | _ => False
theorem br_max2 {K : PySem.W.Frag} : BrN K (fun xs H Q => ∃ i j, xs = [.int i, .int j] ∧ Q (.int (if j > i then j else i)) H) aMax2 := (br_2I (f := fun i j => if j > i then j else i)).imp fun ds c Q q => by
  unfold aMax2 at q
  split at q
  · exact ⟨_, _, rfl, q⟩
  · exact q.elim
def aMin2 (ds : List D) (c : CN) (Q : QD) : Prop := match ds with
  | [.int i, .int j] => Q (.int (if j < i then j else i)) c
  | _ => False
theorem br_min2 {K : PySem.W.Frag} : BrN K (fun xs H Q => ∃ i j, xs = [.int i, .int j] ∧ Q (.int (if j < i then j else i)) H) aMin2 := (br_2I (f := fun i j => if j < i then j else i)).imp fun ds c Q q => by
  unfold aMin2 at q
  split at q
  · exact ⟨_, _, rfl, q⟩
  · exact q.elim
structure PDC (Y : Ctx) (op : CmpOp) (a b : Expr) (ee : TE) (te : DE) : Prop where
  p : PC Y.X op a b ee
  s : SimE Y ee te
section
variable {Y : Ctx} {a b f : Expr} {ea eb ef ee : TE} {ta tb tf te : DE} {pos p2 : Pos} {lo hi : Option Expr} {el eh : TO} {tl th : DO} {op : CmpOp} {k : Nat}
theorem pdc_op {r : R2} {rd : RD2} (ho : OpR Y.X (compareOp op) r) (br : Br2 Y.X.K r rd) (ha : PD Y a ea ta) (hb : PD Y b eb tb) : PDC Y op a b (tOp r ea eb) (dOp rd ta tb) :=
  ⟨⟨fun pins s σ H Q I h => bin ha.p hb.p I h fun v u s2 x y H2 I2 r1 r2 q => ho pins s2 σ H2 x y v u Q I2 r1 r2 q⟩,
   fun G H c ρ σ Qd Q R h k => two R ha.s hb.s h fun d e x y G' H' c' ev r1 r2 q => br G' H' c' x y d e Qd Q ev.ok r1 r2 q fun d' v G2 H2 c2 e2 r q => k d' v G2 H2 c2 (ev.trans e2) r q⟩
theorem pd_cm (h : PDC Y op a b ee te) (h1 : behindInMarks op b = false := by first | exact nobehind _ (by decide) (by decide) | rfl) : PD Y (.Compare a [op] [b] pos) ee te := ⟨pe_cmp h.p h1, h.s⟩
theorem pdt_cm (h : PDC Y op a b ee te) (h1 : behindInMarks op b = false := by first | exact nobehind _ (by decide) (by decide) | rfl) : PDT Y (.Compare a [op] [b] pos) (L2.tB ee) (dB te) :=
  ⟨pt_cmp h.p h1, fun G H c ρ σ Qd Q R h2 k => h.s G H c ρ σ _ _ R h2 fun d v G1 H1 c1 e1 r1 q1 => by
    obtain ⟨b, rfl, q1⟩ := q1
    cases r1
    exact ⟨b, rfl, k b G1 H1 c1 e1 q1⟩⟩
theorem pdc_leP (ha : PD Y a ea ta) (hb : PD Y b eb tb) : PDC Y .LtE a b (tOp rLeP ea eb) (dOp aLeP ta tb) := pdc_op op_leP br_leP ha hb
theorem pdc_lt (ha : PD Y a ea ta) (hb : PD Y b eb tb) : PDC Y .Lt a b (tOp (rI0 fun i j => .bl (decide (i < j))) ea eb) (dOp aLt ta tb) := pdc_op op_lt (br_I0 fun _ _ _ => .bl _) ha hb
theorem pdc_gt (ha : PD Y a ea ta) (hb : PD Y b eb tb) : PDC Y .Gt a b (tOp (rI0 fun i j => .bl (decide (j < i))) ea eb) (dOp aGt ta tb) := pdc_op op_gt (br_I0 fun _ _ _ => .bl _) ha hb
theorem pdc_ge (ha : PD Y a ea ta) (hb : PD Y b eb tb) : PDC Y .GtE a b (tOp (rI0 fun i j => .bl (decide (j ≤ i))) ea eb) (dOp aGe ta tb) := pdc_op op_ge (br_I0 fun _ _ _ => .bl _) ha hb
theorem pdc_isN {j pos'} (ha : PD Y a ea ta) : PDC Y .Is a (.Constant .none j pos') (tOp (fun x y H Q => y = .non ∧ Q (.bl (decide (x = .non))) H) ea (tC .non)) (dOp aIsN ta (dC .non)) := pdc_op op_isN br_isN ha pd_non
theorem pdc_notN {j pos'} (ha : PD Y a ea ta) : PDC Y .IsNot a (.Constant .none j pos') (tOp (fun x y H Q => y = .non ∧ Q (.bl (!decide (x = .non))) H) ea (tC .non)) (dOp aNotN ta (dC .non)) := pdc_op op_notN br_notN ha pd_non
theorem pd_leP2 (ha : PD Y a ea ta) (hb : PD Y b eb tb) (hf : PD Y f ef tf) (hm : lastMarks [.LtE, .LtE] [b, f] = false := by with_unfolding_all rfl) : PD Y (.Compare a [.LtE, .LtE] [b, f] pos) (tChain rLeP rLeP ea eb ef) (dChain aLeP aLeP ta tb tf) := pd_chain op_leP br_leP op_leP br_leP ha hb hf hm
def dtChain (rd rd' : RD2) (ta tb tc : DE) (ρ : DEnv) (c : CN) (Q : Bool → CN → Prop) : Prop := ta ρ c fun x c1 => tb ρ c1 fun y c2 => rd x y c2 fun z c3 => ∃ k, z = .bl k ∧ if k = true then tc ρ c3 fun w c4 => rd' y w c4 fun u c5 => ∃ m, u = .bl m ∧ Q m c5 else Q false c3
theorem pdt_leP2 (ha : PD Y a ea ta) (hb : PD Y b eb tb) (hc : PD Y f ef tf) (hm : lastMarks [.LtE, .LtE] [b, f] = false := by with_unfolding_all rfl) : PDT Y (.Compare a [.LtE, .LtE] [b, f] pos) (tTest (tChain rLeP rLeP ea eb ef)) (dtChain aLeP aLeP ta tb tf) := by
  refine ⟨pt_chain op_leP op_leP ha.p hb.p hc.p hm, fun G H c ρ σ Qd Q R h k => ?_⟩
  refine two R ha.s hb.s h fun d e x y G1 H1 c1 e1 r1 r2 q => br_leP G1 H1 c1 x y d e _ _ e1.ok r1 r2 q fun d' v G2 H2 c2 e2 r3 q => ?_
  obtain ⟨b, rfl, q⟩ := q
  cases r3
  refine ⟨b, rfl, ?_⟩
  cases b with
  | false => rw [if_neg Bool.false_ne_true] at q ⊢; exact ⟨false, rfl, k _ G2 H2 c2 (e1.trans e2) q⟩
  | true =>
    rw [if_pos rfl] at q ⊢
    refine hc.s G2 H2 c2 ρ σ _ _ (R.evo' (e1.trans e2)) q fun d4 v4 G4 H4 c4 e4 r4 q4 => ?_
    refine br_leP G4 H4 c4 y v4 e d4 _ _ e4.ok (r2.mono (e2.le.trans e4.le)) r4 q4 fun d' v G5 H5 c5 e5 r q => ?_
    obtain ⟨m, rfl, q⟩ := q
    cases r
    exact ⟨m, rfl, k m G5 H5 c5 ((e1.trans e2).trans (e4.trans e5)) q⟩
theorem pd_at (ha : PD Y a ea ta) (hb : PD Y b eb tb) (hs : PlainIx b := by exact fun _ _ => rfl) : PD Y (.Subscript a b pos) (tOp (rIx Y.X.K) ea eb) (dOp aItem ta tb) := pd_ix ix_seq br_item ha hb hs
end
theorem bt_len : bootBuiltins "len" = some (.builtin "len") := by decide +kernel
theorem bt_isinstance : bootBuiltins "isinstance" = some (.builtin "isinstance") := by decide +kernel
theorem bt_all : bootBuiltins "all" = some (.builtin "all") := by decide +kernel
theorem bt_max : bootBuiltins "max" = some (.builtin "max") := by decide +kernel
theorem bt_min : bootBuiltins "min" = some (.builtin "min") := by decide +kernel
theorem bt_int : bootBuiltins "int" = some (.type "int") := by decide +kernel
theorem bt_str : bootBuiltins "str" = some (.type "str") := by decide +kernel
theorem bt_bool : bootBuiltins "bool" = some (.type "bool") := by decide +kernel
end PL
namespace PL
open PySem PySem.Spec PyProof.Rows L2
def diEnum (t : DA) (ρ : DEnv) (c : CN) (Q : List D → CN → Prop) : Prop := t ρ c fun ds c1 => match ds with
  | [.lst l] => Q (numbered 0 l) c1
  | [.tup l] => Q (numbered 0 l) c1
  | _ => False
end PL
namespace PL
open PySem PySem.Spec PyProof.Rows L2
theorem lc_by {L : List D} {c : CN} {g : DG} {tt : DT} {te : DE} {vs : List Nat} {ρ : DEnv} {Q : QD} (f : D → Option D) (hL : L.length ≤ sizeLine)
    (step : ∀ x, x ∈ L → ∀ (R : QD) (R0 : CN → Prop), (∀ y, f x = some y → R y c) → (f x = none → R0 c) → g x (wipeD ρ vs) c fun ρ2 c2 => tt ρ2 c2 fun b c3 => if b = true then te ρ2 c3 R else R0 c3) (hq : Q (.lst (L.filterMap f)) c) : LcB g tt te vs ρ L c Q := by
  refine ⟨fun k acc c' => c' = c ∧ acc = (L.take k).filterMap f, ⟨rfl, by simp⟩, ?_, ?_⟩
  · rintro k x acc c' hk ⟨rfl, rfl⟩
    have hlt : k < L.length := (List.getElem?_eq_some_iff.mp hk).1
    have tk : L.take (k + 1) = L.take k ++ [x] := by rw [List.take_succ, hk]; rfl
    refine step x (List.mem_of_getElem? hk) _ _ (fun y hy => ⟨?_, rfl, ?_⟩) fun hn => ⟨rfl, ?_⟩
    · have h1 : ((L.take k).filterMap f).length ≤ (L.take k).length := List.length_filterMap_le _ _
      have h2 : (L.take k).length ≤ k := List.length_take_le _ _
      omega
    · rw [tk, List.filterMap_append]
      simp [hy]
    · rw [tk, List.filterMap_append]
      simp [hn]
  · rintro acc c' ⟨rfl, rfl⟩
    rw [List.take_length]
    exact hq
theorem mb_int : ("int" ∈ basics) = True := eq_true (by decide +kernel)
theorem mb_str : ("str" ∈ basics) = True := eq_true (by decide +kernel)
theorem mb_bool : ("bool" ∈ basics) = True := eq_true (by decide +kernel)
theorem mb_tuple : ("tuple" ∈ basics) = True := eq_true (by decide +kernel)
theorem mb_list : ("list" ∈ basics) = True := eq_true (by decide +kernel)
theorem mb_dict : ("dict" ∈ basics) = True := eq_true (by decide +kernel)
theorem atI_lt {α : Type} {xs : List α} {i : Int} (h0 : 0 ≤ i) (h : i < xs.length) : ∃ v, atI xs i = some v ∧ v ∈ xs := by
  obtain ⟨j, rfl⟩ : ∃ j : Nat, i = (j : Int) := ⟨i.toNat, by omega⟩
  have hj : j < xs.length := by omega
  exact ⟨xs[j], atI_nat (by simp [hj]), List.getElem_mem hj⟩
theorem bools_map {α : Type} (p : α → Bool) : ∀ l : List α, bools (l.map fun x => .bl (p x)) = some (l.map p)
  | [] => rfl
  | x :: l => by simp [bools, bools_map p l]
theorem filterMap_some {α β : Type} (f : α → β) (l : List α) : l.filterMap (fun x => some (f x)) = l.map f := by
  induction l with
  | nil => rfl
  | cons x l ih => simp [ih]
def signOk : D → Bool
  | .str z => !decide (z.cps.toList < (" " : Str).cps.toList) && !decide (("~" : Str).cps.toList < z.cps.toList)
  | _ => false
def okStr (x : Str) : Bool := (signs x).all signOk
def isStr : D → Bool
  | .str x => okStr x
  | _ => false
theorem signs_length (x : Str) : (signs x).length = x.length := by simp [signs, Str.length]
theorem signs_str {x : Str} {d : D} (h : d ∈ signs x) : ∃ z, d = .str z := by
  unfold signs at h
  obtain ⟨c, _, rfl⟩ := List.mem_map.mp h
  exact ⟨_, rfl⟩
end PL
namespace PL
open PySem PySem.Spec PyProof.Rows L2
mutual
def eqD : D → D → Bool
  | .non, .non => true
  | .bl a, .bl b => a == b
  | .bl a, .int j => b2n a == j
  | .int i, .bl b => i == b2n b
  | .int i, .int j => i == j
  | .str x, .str y => x == y
  | .tup l, .tup m => eqDs l m
  | .lst l, .lst m => eqDs l m
  | _, _ => false
def eqDs : List D → List D → Bool
  | [], [] => true
  | x :: l, y :: m => eqD x y && eqDs l m
  | _, _ => false
end
def Pl : Nat → D → Prop
  | _, .non => True
  | _, .bl _ => True
  | _, .int _ => True
  | _, .str x => x.length ≤ 1000 ∧ PyData.strOk x = true
  | n + 1, .tup l => ∀ d, d ∈ l → Pl n d
  | n + 1, .lst l => ∀ d, d ∈ l → Pl n d
  | _, _ => False
theorem toPs_pl {n : Nat} (ih : ∀ d, Pl n d → ∃ p, toP d = some p ∧ p.canLay0 = true ∧ p.depth ≤ n) : ∀ {l : List D}, (∀ d, d ∈ l → Pl n d) → ∃ ps, toPs l = some ps ∧ PyData.canLayAll0 ps = true ∧ PyData.depthAll ps ≤ n
  | [], _ => ⟨[], by unfold toPs; rfl, rfl, by simp [PyData.depthAll]⟩
  | d :: l, h => by
    obtain ⟨p, h1, h2, h3⟩ := ih d (h d List.mem_cons_self)
    obtain ⟨ps, g1, g2, g3⟩ := toPs_pl ih (l := l) fun d hd => h d (List.mem_cons_of_mem _ hd)
    refine ⟨p :: ps, by unfold toPs; rw [h1, g1]; rfl, by simp [PyData.canLayAll0, h2, g2], by simp [PyData.depthAll]; omega⟩
theorem Pl.toP : ∀ {n : Nat} {d : D}, Pl n d → ∃ p, PL.toP d = some p ∧ p.canLay0 = true ∧ p.depth ≤ n
  | n, .non, _ => ⟨.none, by unfold PL.toP; rfl, rfl, by simp [PyData.depth]⟩
  | n, .bl b, _ => ⟨.bool b, by unfold PL.toP; rfl, rfl, by simp [PyData.depth]⟩
  | n, .int b, _ => ⟨.int b, by unfold PL.toP; rfl, rfl, by simp [PyData.depth]⟩
  | n, .str b, h => ⟨.str b, by unfold PL.toP; rfl, by
      have h : b.length ≤ 1000 ∧ PyData.strOk b = true := by cases n <;> exact h
      exact h.2, by simp [PyData.depth]⟩
  | n + 1, .tup l, h => by
    obtain ⟨ps, g1, g2, g3⟩ := toPs_pl (n := n) (fun d hd => Pl.toP hd) h
    exact ⟨.tuple ps, by unfold PL.toP; rw [g1]; rfl, g2, by simp [PyData.depth]; omega⟩
  | n + 1, .lst l, h => by
    obtain ⟨ps, g1, g2, g3⟩ := toPs_pl (n := n) (fun d hd => Pl.toP hd) h
    exact ⟨.list ps, by unfold PL.toP; rw [g1]; rfl, g2, by simp [PyData.depth]; omega⟩
  | 0, .tup l, h => h.elim
  | 0, .lst l, h => h.elim
  | n, .ty _, h => by cases n <;> exact h.elim
  | n, .cls _, h => by cases n <;> exact h.elim
  | n, .dct _ _, h => by cases n <;> exact h.elim
  | n, .ins _ _ _, h => by cases n <;> exact h.elim
  | n, .exc _ _ _, h => by cases n <;> exact h.elim
  | n, .opq, h => by cases n <;> exact h.elim
  | n, .mo _, h => by cases n <;> exact h.elim
  | n, .set _ _, h => by cases n <;> exact h.elim
  | n, .scr _, h => by cases n <;> exact h.elim
mutual
theorem eqv_eqD : ∀ (x y : D) {p q : PyData}, toP x = some p → toP y = some q → PyData.eqv p q = eqD x y
  | .tup l, y, p, q, h1, h2 => by
    unfold toP at h1
    obtain ⟨ps, e, rfl⟩ := Option.map_eq_some_iff.mp h1
    cases y <;> unfold toP at h2 <;> first
      | (cases h2; done)
      | (cases h2; simp [PyData.eqv, eqD]; done)
      | (obtain ⟨qs, e2, rfl⟩ := Option.map_eq_some_iff.mp h2; first | (simp [PyData.eqv, eqD]; done) | (simp only [PyData.eqv, eqD]; exact eqvAll_eqDs l _ e e2))
  | .lst l, y, p, q, h1, h2 => by
    unfold toP at h1
    obtain ⟨ps, e, rfl⟩ := Option.map_eq_some_iff.mp h1
    cases y <;> unfold toP at h2 <;> first
      | (cases h2; done)
      | (cases h2; simp [PyData.eqv, eqD]; done)
      | (obtain ⟨qs, e2, rfl⟩ := Option.map_eq_some_iff.mp h2; first | (simp [PyData.eqv, eqD]; done) | (simp only [PyData.eqv, eqD]; exact eqvAll_eqDs l _ e e2))
  | .non, y, p, q, h1, h2 => by
    unfold toP at h1; cases h1
    cases y <;> unfold toP at h2 <;> first | (cases h2; done) | (cases h2; simp [PyData.eqv, eqD]; done) | (obtain ⟨qs, e2, rfl⟩ := Option.map_eq_some_iff.mp h2; simp [PyData.eqv, eqD])
  | .bl b, y, p, q, h1, h2 => by
    unfold toP at h1; cases h1
    cases y <;> unfold toP at h2 <;> first | (cases h2; done) | (cases h2; cases b <;> simp [PyData.eqv, eqD, b2n]; done) | (obtain ⟨qs, e2, rfl⟩ := Option.map_eq_some_iff.mp h2; simp [PyData.eqv, eqD])
  | .int b, y, p, q, h1, h2 => by
    unfold toP at h1; cases h1
    cases y <;> unfold toP at h2 <;> first | (cases h2; done) | (cases h2; simp [PyData.eqv, eqD, b2n]; done) | (cases h2; rename_i k; cases k <;> simp [PyData.eqv, eqD, b2n]; done) | (obtain ⟨qs, e2, rfl⟩ := Option.map_eq_some_iff.mp h2; simp [PyData.eqv, eqD])
  | .str b, y, p, q, h1, h2 => by
    unfold toP at h1; cases h1
    cases y <;> unfold toP at h2 <;> first | (cases h2; done) | (cases h2; simp [PyData.eqv, eqD]; done) | (obtain ⟨qs, e2, rfl⟩ := Option.map_eq_some_iff.mp h2; simp [PyData.eqv, eqD])
  | .ty _, _, _, _, h1, _ => by unfold toP at h1; cases h1
  | .cls _, _, _, _, h1, _ => by unfold toP at h1; cases h1
  | .dct _ _, _, _, _, h1, _ => by unfold toP at h1; cases h1
  | .ins _ _ _, _, _, _, h1, _ => by unfold toP at h1; cases h1
  | .exc _ _ _, _, _, _, h1, _ => by unfold toP at h1; cases h1
  | .opq, _, _, _, h1, _ => by unfold toP at h1; cases h1
  | .mo _, _, _, _, h1, _ => by unfold toP at h1; cases h1
  | .set _ _, _, _, _, h1, _ => by unfold toP at h1; cases h1
  | .scr _, _, _, _, h1, _ => by unfold toP at h1; cases h1
theorem eqvAll_eqDs : ∀ (l m : List D) {ps qs : List PyData}, toPs l = some ps → toPs m = some qs → PyData.eqvAll ps qs = eqDs l m
  | [], [], ps, qs, h1, h2 => by unfold toPs at h1 h2; cases h1; cases h2; simp [PyData.eqvAll, eqDs]
  | [], y :: m, ps, qs, h1, h2 => by
    unfold toPs at h1 h2
    cases h1
    obtain ⟨p, e1, e2⟩ := Option.bind_eq_some_iff.mp h2
    obtain ⟨r, e3, rfl⟩ := Option.map_eq_some_iff.mp e2
    simp [PyData.eqvAll, eqDs]
  | x :: l, [], ps, qs, h1, h2 => by
    unfold toPs at h1 h2
    cases h2
    obtain ⟨p, e1, e2⟩ := Option.bind_eq_some_iff.mp h1
    obtain ⟨r, e3, rfl⟩ := Option.map_eq_some_iff.mp e2
    simp [PyData.eqvAll, eqDs]
  | x :: l, y :: m, ps, qs, h1, h2 => by
    unfold toPs at h1 h2
    obtain ⟨p, e1, e2⟩ := Option.bind_eq_some_iff.mp h1
    obtain ⟨r, e3, rfl⟩ := Option.map_eq_some_iff.mp e2
    obtain ⟨p', f1, f2⟩ := Option.bind_eq_some_iff.mp h2
    obtain ⟨r', f3, rfl⟩ := Option.map_eq_some_iff.mp f2
    simp only [PyData.eqvAll, eqDs]
    rw [eqv_eqD x y e1 f1, eqvAll_eqDs l m e3 f3]
end
theorem Pl.succ : ∀ {n : Nat} {d : D}, Pl n d → Pl (n + 1) d
  | n, .non, _ => trivial
  | n, .bl b, _ => trivial
  | n, .int b, _ => trivial
  | n, .str b, h => by cases n <;> exact h
  | n + 1, .tup l, h => fun d hd => Pl.succ (h d hd)
  | n + 1, .lst l, h => fun d hd => Pl.succ (h d hd)
  | 0, .tup l, h => h.elim
  | 0, .lst l, h => h.elim
  | n, .ty _, h => by cases n <;> exact h.elim
  | n, .cls _, h => by cases n <;> exact h.elim
  | n, .dct _ _, h => by cases n <;> exact h.elim
  | n, .ins _ _ _, h => by cases n <;> exact h.elim
  | n, .exc _ _ _, h => by cases n <;> exact h.elim
  | n, .opq, h => by cases n <;> exact h.elim
  | n, .mo _, h => by cases n <;> exact h.elim
  | n, .set _ _, h => by cases n <;> exact h.elim
  | n, .scr _, h => by cases n <;> exact h.elim
theorem Pl.mono {n m : Nat} {d : D} (h : Pl n d) (le : n ≤ m) : Pl m d := by
  obtain ⟨k, rfl⟩ : ∃ k, m = n + k := ⟨m - n, by omega⟩
  clear le
  induction k with
  | zero => exact h
  | succ k ih => exact ih.succ
theorem Pl_int (n : Nat) (i : Int) : Pl n (.int i) = True := eq_true (by cases n <;> trivial)
theorem Pl_bl (n : Nat) (i : Bool) : Pl n (.bl i) = True := eq_true (by cases n <;> trivial)
theorem Pl_non (n : Nat) : Pl n .non = True := eq_true (by cases n <;> trivial)
theorem atI_0 {α : Type} (x : α) (l : List α) : atI (x :: l) 0 = some x := atI_nat (j := 0) rfl
theorem atI_1 {α : Type} (x y : α) (l : List α) : atI (x :: y :: l) 1 = some y := atI_nat (j := 1) rfl
theorem atI_2 {α : Type} (x y z : α) (l : List α) : atI (x :: y :: z :: l) 2 = some z := atI_nat (j := 2) rfl
def aEqD (x y : D) (c : CN) (Q : QD) : Prop := Pl 60 x ∧ Pl 60 y ∧ Q (.bl (eqD x y)) c
def aNeD (x y : D) (c : CN) (Q : QD) : Prop := Pl 60 x ∧ Pl 60 y ∧ Q (.bl (!eqD x y)) c
theorem Pl.plain {d : D} (h : Pl 60 d) : ∃ p, plainP d p := by
  obtain ⟨p, h1, h2, h3⟩ := h.toP
  exact ⟨p, h1, by simp only [SeqAt.shaped, h2, Bool.true_and, decide_eq_true_eq]; omega⟩
theorem br_eqD {K : PySem.W.Frag} : Br2 K (rEqD K) aEqD := br_eq.imp fun x y c Q ⟨h1, h2, q⟩ => by
  obtain ⟨p, hp⟩ := h1.plain
  obtain ⟨r, hr⟩ := h2.plain
  exact ⟨p, r, hp, hr, by rw [eqv_eqD x y hp.1 hr.1]; exact q⟩
theorem br_neD {K : PySem.W.Frag} : Br2 K (rNeD K) aNeD := br_ne.imp fun x y c Q ⟨h1, h2, q⟩ => by
  obtain ⟨p, hp⟩ := h1.plain
  obtain ⟨r, hr⟩ := h2.plain
  exact ⟨p, r, hp, hr, by rw [eqv_eqD x y hp.1 hr.1]; exact q⟩
section
variable {Y : Ctx} {a b : Expr} {ea eb : TE} {ta tb : DE} {pos : Pos} {k : Nat}
theorem pdc_eqD (g : Y.Good k) (ha : PD Y a ea ta) (hb : PD Y b eb tb) : PDC Y .Eq a b (tOp (rEqD Y.X.K) ea eb) (dOp aEqD ta tb) := pdc_op (op_eqD g.room.units) br_eqD ha hb
theorem pdc_neD (g : Y.Good k) (ha : PD Y a ea ta) (hb : PD Y b eb tb) : PDC Y .NotEq a b (tOp (rNeD Y.X.K) ea eb) (dOp aNeD ta tb) := pdc_op (op_neD g.room.units) br_neD ha hb
end
end PL
namespace PL
open PySem PySem.Spec PyProof.Rows L2
def Nx [u : DEnv → CN → Prop] (ρ : DEnv) (c : CN) : Prop := u ρ c
theorem ev_nx {u : DEnv → CN → Prop} {ρ : DEnv} {c : CN} : @Nx u ρ c = u ρ c := propext Iff.rfl
def Br (b : Bool) [A : Prop] [B : Prop] : Prop := if b = true then A else B
theorem ev_brT {A B : Prop} : @Br true A B = A := by simp [Br]
theorem ev_brF {A B : Prop} : @Br false A B = B := by simp [Br]
theorem Br.by {b : Bool} {A B : Prop} (h1 : b = true → A) (h2 : b = false → B) : @Br b A B := by
  cases b with
  | true => rw [ev_brT]; exact h1 rfl
  | false => rw [ev_brF]; exact h2 rfl
theorem Br.t {b : Bool} {A B : Prop} (h : b = true) (k : A) : @Br b A B := by rw [h, ev_brT]; exact k
theorem Br.f {b : Bool} {A B : Prop} (h : b = false) (k : B) : @Br b A B := by rw [h, ev_brF]; exact k
def asB (x : D) [P : Bool → Prop] : Prop := ∃ b, x = .bl b ∧ P b
theorem ev_asB {b : Bool} {P : Bool → Prop} : @asB (.bl b) P = P b := by simp [asB]
def atP (o : Option D) [P : D → Prop] : Prop := ∃ d, o = some d ∧ P d
theorem ev_atP {d : D} {P : D → Prop} : @atP (some d) P = P d := by simp [atP]
theorem atP.mk {o : Option D} {P : D → Prop} {d : D} (h : o = some d) (k : P d) : @atP o P := ⟨d, h, k⟩
def itP (d : D) (P : List D → Prop) : Prop := ∃ L, items d = some L ∧ P L
def Run [sp : SpD] (ds : List D) [c : CN] [Q : QD] [E : EDt] : Prop := sp ds c Q E
def isNon : D → Bool
  | .non => true
  | _ => false
section
variable {i n k : Nat} {ρ : DEnv} {c : CN} {Q : QD} {QL : List D → CN → Prop} {QB : Bool → CN → Prop} {QE : DEnv → CN → Prop} {QO : Option Int → CN → Prop} {d e : D} {s : Sl} {ta tb tc te : DE} {t tr tk : DA} {rd rd' : RD2} {rd1 : RD1} {rn : RDn} {rs : RDs} {tA tB : DT} {a b : Int} {x y : Str} {l m : List D} {p q : Bool}
  {st su : DS} {DD : DEnds} {g : DG} {gs : DGs} {ti : DI} {vs : List Nat} {tl th : DO} {lo hi : Option Int} {sp : SpD} {ED : DEnv → EDt} {IC : Addr → Prop} {T : String} {gD : List D → List D → List D}
theorem ev_var0 : dVar 0 (.fz d :: ρ) c Q = Q d c := by simp [dVar]
theorem ev_varS : dVar (i + 1) (s :: ρ) c Q = dVar i ρ c Q := by simp [dVar]
theorem ev_c : dC d ρ c Q = Q d c := propext Iff.rfl
theorem ev_op : dOp rd ta tb ρ c Q = ta ρ c fun x c1 => tb ρ c1 fun y c2 => rd x y c2 Q := propext Iff.rfl
theorem ev_chain : dChain rd rd' ta tb tc ρ c Q = ta ρ c fun x c1 => tb ρ c1 fun y c2 => rd x y c2 fun z c3 => @asB z fun k => @Br k (tc ρ c3 fun w c4 => rd' y w c4 Q) (Q (.bl false) c3) := propext Iff.rfl
theorem ev_tchain : dtChain rd rd' ta tb tc ρ c QB = ta ρ c fun x c1 => tb ρ c1 fun y c2 => rd x y c2 fun z c3 => @asB z fun k => @Br k (tc ρ c3 fun w c4 => rd' y w c4 fun u c5 => @asB u fun m => QB m c5) (QB false c3) := propext Iff.rfl
theorem ev_nil : dNil ρ c QL = QL [] c := propext Iff.rfl
theorem ev_cons : dCons ta t ρ c QL = ta ρ c fun x c1 => t ρ c1 fun xs c2 => QL (x :: xs) c2 := propext Iff.rfl
theorem ev_cb : dCB rn t ρ c Q = t ρ c fun ds c1 => rn ds c1 Q := propext Iff.rfl
theorem ev_tup : dTup t ρ c Q = t ρ c fun ds c1 => ds.length ≤ 16777216 ∧ Q (.tup ds) c1 := by rw [← sizeLine_eq]; rfl
theorem ev_lst : dLst t ρ c Q = t ρ c fun ds c1 => ds.length ≤ 16777216 ∧ Q (.lst ds) c1 := by rw [← sizeLine_eq]; rfl
theorem ev_b : dB ta ρ c QB = ta ρ c fun x c1 => @asB x fun b => QB b c1 := propext Iff.rfl
theorem ev_andV : dAndV ta tb ρ c Q = ta ρ c fun x c1 => @asB x fun b => @Br b (tb ρ c1 Q) (Q (.bl false) c1) := propext Iff.rfl
theorem ev_orV : dOrV ta tb ρ c Q = ta ρ c fun x c1 => @asB x fun b => @Br b (Q (.bl true) c1) (tb ρ c1 Q) := propext Iff.rfl
theorem ev_notV : dNotV ta ρ c Q = ta ρ c fun x c1 => @asB x fun b => Q (.bl (!b)) c1 := propext Iff.rfl
theorem ev_if : dIf tA ta tb ρ c Q = tA ρ c fun b c1 => @Br b (ta ρ c1 Q) (tb ρ c1 Q) := propext Iff.rfl
theorem ev_tand : dtAnd tA tB ρ c QB = tA ρ c fun b c1 => @Br b (tB ρ c1 QB) (QB false c1) := propext Iff.rfl
theorem ev_tor : dtOr tA tB ρ c QB = tA ρ c fun b c1 => @Br b (QB true c1) (tB ρ c1 QB) := propext Iff.rfl
theorem ev_tnot : dtNot tA ρ c QB = tA ρ c fun b c1 => QB (!b) c1 := propext Iff.rfl
theorem ev_yes : dtYes ρ c QB = QB true c := propext Iff.rfl
theorem ev_next : sNext DD ρ c = DD.nx ρ c := propext Iff.rfl
theorem ev_seq : sSeq st su DD ρ c = st { DD with nx := su DD } ρ c := propext Iff.rfl
theorem ev_ret : sRet te DD ρ c = te ρ c DD.rt := propext Iff.rfl
theorem ev_retN : sRetN DD ρ c = DD.rt .non c := propext Iff.rfl
theorem ev_brk : sBreak DD ρ c = DD.bk ρ c := propext Iff.rfl
theorem ev_cnt : sCont DD ρ c = DD.ct ρ c := propext Iff.rfl
theorem ev_sif : sIf tA st su DD ρ c = tA ρ c fun b c1 => @Br b (st DD ρ c1) (su DD ρ c1) := propext Iff.rfl
theorem ev_drop : sDrop te DD ρ c = te ρ c fun _ c1 => DD.nx ρ c1 := propext Iff.rfl
theorem ev_set : sSet i te DD ρ c = te ρ c fun d c1 => @Nx DD.nx (ρ.set i (.fz d)) c1 := propext Iff.rfl
theorem ev_asg : sAsg te g DD ρ c = te ρ c fun d c1 => g d ρ c1 DD.nx := propext Iff.rfl
theorem ev_kname : kName i d ρ c QE = @Nx QE (ρ.set i (.fz d)) c := propext Iff.rfl
theorem ev_knil : kNil [] ρ c QE = QE ρ c := by simp [kNil]
theorem ev_kcons : kCons g gs (d :: l) ρ c QE = g d ρ c fun ρ' c' => gs l ρ' c' QE := by
  apply propext; constructor
  · rintro ⟨_, _, e, q⟩; cases e; exact q
  · intro q; exact ⟨_, _, rfl, q⟩
theorem ev_ktup : kTup n gs (.tup l) ρ c QE = (l.length = n ∧ gs l ρ c QE) := by simp [kTup]
theorem ev_for : sFor ti g st DD ρ c = ti ρ c fun L c1 => ForB g st DD ρ L c1 := propext Iff.rfl
theorem ev_lc : dLc ti g tA te vs ρ c Q = ti ρ c fun L c1 => LcB g tA te vs ρ L c1 Q := propext Iff.rfl
theorem ev_any : diAny te ρ c QL = te ρ c fun d c1 => itP d fun L => QL L c1 := propext Iff.rfl
theorem ev_anyL {P : List D → Prop} : itP (.lst l) P = P l := by simp [itP, items]
theorem ev_anyT {P : List D → Prop} : itP (.tup l) P = P l := by simp [itP, items]
theorem ev_anyS {P : List D → Prop} : itP (.str x) P = P (signs x) := by simp [itP, items]
def rg1 (ds : List D) (P : Int → Prop) : Prop := ∃ j : Int, ds = [.int j] ∧ -(2 ^ 62) ≤ j ∧ j < 2 ^ 62 ∧ P j
theorem ev_rng1 : diRng1 t ρ c QL = t ρ c fun ds c1 => rg1 ds fun j => QL (upInts 0 j.toNat) c1 := propext Iff.rfl
theorem ev_rng1i {P : Int → Prop} : rg1 [D.int a] P = (-(2 ^ 62) ≤ a ∧ a < 2 ^ 62 ∧ P a) := by simp [rg1]
theorem ev_rng2 : diRng2 t ρ c QL = t ρ c fun ds c1 => ∃ i j : Int, ds = [.int i, .int j] ∧ (-(2 ^ 62) ≤ i ∧ i < 2 ^ 62 ∧ -(2 ^ 62) ≤ j ∧ j < 2 ^ 62) ∧ QL (upInts i (j - i).toNat) c1 := propext Iff.rfl
theorem ev_rng2i : (∃ i j : Int, [D.int a, D.int b] = [.int i, .int j] ∧ (-(2 ^ 62) ≤ i ∧ i < 2 ^ 62 ∧ -(2 ^ 62) ≤ j ∧ j < 2 ^ 62) ∧ QL (upInts i (j - i).toNat) c) = ((-(2 ^ 62) ≤ a ∧ a < 2 ^ 62 ∧ -(2 ^ 62) ≤ b ∧ b < 2 ^ 62) ∧ QL (upInts a (b - a).toNat) c) := by
  apply propext
  constructor
  · rintro ⟨i, j, h, q⟩
    cases h
    exact q
  · intro q
    exact ⟨a, b, rfl, q⟩
theorem ev_enum : diEnum t ρ c QL = t ρ c fun ds c1 => match ds with | [.lst l] => QL (numbered 0 l) c1 | [.tup l] => QL (numbered 0 l) c1 | _ => False := propext Iff.rfl
theorem ev_sl : dSl rs te tl th ρ c Q = te ρ c fun x c1 => tl ρ c1 fun l c2 => th ρ c2 fun u c3 => rs x l u c3 Q := propext Iff.rfl
theorem ev_nop : dNoPart ρ c QO = QO none c := propext Iff.rfl
def asI (d : D) (P : Int → Prop) : Prop := ∃ i, d = .int i ∧ P i
theorem ev_part : dPart te ρ c QO = te ρ c fun d c1 => asI d fun i => QO (some i) c1 := propext Iff.rfl
theorem ev_asI {P : Int → Prop} : asI (.int a) P = P a := by simp [asI]
theorem ev_call {dds : List D} : dCall ED sp dds t ρ c Q = t ρ c fun ds c1 => @Run sp (ds ++ dds) c1 Q (ED ρ) := propext Iff.rfl
theorem ev_callK : dCallK ED n k sp gD t tk ρ c Q = t ρ c fun ds c1 => tk ρ c1 fun es c2 => ds.length = n ∧ es.length = k ∧ @Run sp (gD ds es) c2 Q (ED ρ) := propext Iff.rfl
theorem ev_plusI : aPlus (.int a) (.int b) c Q = Q (.int (a + b)) c := propext Iff.rfl
theorem ev_plusS : aPlus (.str x) (.str y) c Q = (x.length + y.length ≤ 16777216 ∧ Q (.str (x ++ y)) c) := by rw [← sizeLine_eq]; rfl
theorem ev_plusT : aPlus (.tup l) (.tup m) c Q = (l.length + m.length ≤ 16777216 ∧ Q (.tup (l ++ m)) c) := by rw [← sizeLine_eq]; rfl
theorem ev_i0 {f : Int → Int → D} : rdI0 f (.int a) (.int b) c Q = Q (f a b) c := by
  apply propext; constructor
  · rintro ⟨i, j, e1, e2, q⟩; cases e1; cases e2; exact q
  · intro q; exact ⟨a, b, rfl, rfl, q⟩
theorem ev_iC {C : Int → Int → Prop} {f : Int → Int → D} : rdI C f (.int a) (.int b) c Q = (C a b ∧ Q (f a b) c) := by
  apply propext; constructor
  · rintro ⟨i, j, e1, e2, q⟩; cases e1; cases e2; exact q
  · intro q; exact ⟨a, b, rfl, rfl, q⟩
theorem ev_leI : aLeP (.int a) (.int b) c Q = Q (.bl (decide (a ≤ b))) c := propext Iff.rfl
theorem ev_leS : aLeP (.str x) (.str y) c Q = Q (.bl (!decide (y.cps.toList < x.cps.toList))) c := propext Iff.rfl
theorem ev_isN : aIsN d .non c Q = Q (.bl (isNon d)) c := by cases d <;> simp [aIsN, isNon]
theorem ev_notN : aNotN d .non c Q = Q (.bl (!isNon d)) c := by cases d <;> simp [aNotN, isNon]
theorem ev_itL : aItem (.lst l) (.int a) c Q = @atP (atI l a) fun d => Q d c := propext Iff.rfl
theorem ev_itT : aItem (.tup l) (.int a) c Q = @atP (atI l a) fun d => Q d c := propext Iff.rfl
theorem ev_itScr {ns : List Int} : aItem (.scr ns) (.int a) c Q = ∃ j, atI ns a = some j ∧ Q (.int j) c := propext Iff.rfl
theorem ev_lenScr {ns : List Int} : aLen [.scr ns] c Q = Q (.int ns.length) c := propext Iff.rfl
theorem ev_slT : aSlice (.tup l) lo hi c Q = Q (.tup (cut l lo hi)) c := propext Iff.rfl
theorem ev_slL : aSlice (.lst l) lo hi c Q = Q (.lst (cut l lo hi)) c := propext Iff.rfl
theorem ev_lenL : aLen [.lst l] c Q = Q (.int l.length) c := propext Iff.rfl
theorem ev_lenT : aLen [.tup l] c Q = Q (.int l.length) c := propext Iff.rfl
theorem ev_lenS : aLen [.str x] c Q = (x.length ≤ 16777216 ∧ Q (.int x.length) c) := by rw [← sizeLine_eq]; rfl
theorem ev_intI : aInt [.int a] c Q = Q (.int a) c := propext Iff.rfl
theorem ev_intB : aInt [.bl p] c Q = Q (.int (b2n p)) c := propext Iff.rfl
theorem ev_isa : aIsa IC [d, .ty T] c Q = (T ∈ basics ∧ ((kind d).isSome = true ∨ ∃ C, isIns d = some C ∧ IC C) ∧ Q (.bl (isaB T d)) c) := propext Iff.rfl
theorem ev_listL : aListA [.lst l] c Q = Q (.lst l) c := propext Iff.rfl
theorem ev_listT : aListA [.tup l] c Q = Q (.lst l) c := propext Iff.rfl
theorem ev_tupL : aTupleA [.lst l] c Q = Q (.tup l) c := propext Iff.rfl
theorem ev_tupT : aTupleA [.tup l] c Q = Q (.tup l) c := propext Iff.rfl
theorem ev_max : aMax2 [.int a, .int b] c Q = Q (.int (if b > a then b else a)) c := propext Iff.rfl
theorem ev_min : aMin2 [.int a, .int b] c Q = Q (.int (if b < a then b else a)) c := propext Iff.rfl
theorem ev_eq : aEqD d e c Q = (Pl 60 d ∧ Pl 60 e ∧ Q (.bl (eqD d e)) c) := propext Iff.rfl
theorem ev_ne : aNeD d e c Q = (Pl 60 d ∧ Pl 60 e ∧ Q (.bl (!eqD d e)) c) := propext Iff.rfl
theorem ev_neg : dUn (fun x c Q => ∃ i, x = .int i ∧ Q (.int (-i)) c) ta ρ c Q = ta ρ c fun x c1 => asI x fun i => Q (.int (-i)) c1 := propext Iff.rfl
def allP (ds : List D) (P : Bool → Prop) : Prop := ∃ l bs, ds = [.lst l] ∧ bools l = some bs ∧ P (bs.all id)
theorem ev_all : bAll l c Q = allP l fun b => Q (.bl b) c := propext Iff.rfl
theorem allP.mk {P : Bool → Prop} {l : List D} {bs : List Bool} (h : bools l = some bs) (k : P (bs.all id)) : allP [.lst l] P := ⟨l, bs, rfl, h, k⟩
theorem ev_purse : dPurse t ρ c Q = t ρ c fun ds c1 => ∃ x y z : Int, ds = [.int x, .int y, .int z] ∧ 0 ≤ y ∧ y < 2 ^ 31 ∧ 0 ≤ z ∧ z ≤ 1000000 ∧ Q .opq c1 := propext Iff.rfl
theorem ev_pix : dPIx i n ρ c Q = (ρ[i]? = some (.fz .opq) ∧ ∀ x : Int, (n = 1 → 0 ≤ x ∧ x < 2 ^ 31) → (n = 2 → 0 ≤ x ∧ x ≤ 1000000 + (c.n : Int)) → Q (.int x) c) := propext Iff.rfl
theorem ev_pset : sPSet i n te DD ρ c = te ρ c fun d c1 => ρ[i]? = some (.fz .opq) ∧ ∃ x : Int, d = .int x ∧ ((n = 0 ∧ DD.nx ρ c1) ∨ (n = 2 ∧ 0 ≤ x ∧ x ≤ 1000000 + ((c1.n + 1 : Nat) : Int) ∧ DD.nx ρ (c1.at (c1.n + 1)))) := propext Iff.rfl
theorem n_non : isNon .non = true := rfl
theorem n_bl : isNon (.bl p) = false := rfl
theorem n_int : isNon (.int a) = false := rfl
theorem n_str : isNon (.str x) = false := rfl
theorem n_tup : isNon (.tup l) = false := rfl
theorem n_lst : isNon (.lst l) = false := rfl
theorem k_non : kind .non = some "NoneType" := rfl
theorem k_bl : kind (.bl p) = some "bool" := rfl
theorem k_int : kind (.int a) = some "int" := rfl
theorem k_str : kind (.str x) = some "str" := rfl
theorem k_tup : kind (.tup l) = some "tuple" := rfl
theorem k_lst : kind (.lst l) = some "list" := rfl
theorem i_non : isaB T .non = false := rfl
theorem i_bl : isaB T (.bl p) = (T == "bool" || T == "int") := rfl
theorem i_int : isaB T (.int a) = (T == "int") := rfl
theorem i_str : isaB T (.str x) = (T == "str") := rfl
theorem i_tup : isaB T (.tup l) = (T == "tuple") := rfl
theorem i_lst : isaB T (.lst l) = (T == "list") := rfl
end
theorem startD_eq {N : List Str} {ds : List D} : startD N ds = ds.map .fz ++ List.replicate (N.length - ds.length) .no := rfl
theorem cut_from {α : Type} (l : List α) {i : Int} (h0 : 0 ≤ i) : cut l (some i) none = l.drop i.toNat := by
  obtain ⟨k, rfl⟩ : ∃ k : Nat, i = (k : Int) := ⟨i.toNat, by omega⟩
  unfold cut
  rw [HT.sIx_none, HT.sIx_nat, Int.toNat_natCast]
  by_cases h : k ≤ l.length
  · rw [Nat.min_eq_left h, List.take_of_length_le (by simp)]
  · rw [Nat.min_eq_right (by omega), List.drop_of_length_le (Nat.le_refl _), List.drop_of_length_le (by omega)]
    simp
end PL
namespace PL
open PySem PySem.Spec PyProof.Rows L2
theorem law_start {K : PySem.W.Frag} {sp : SpD} {H : Hp} {a : Addr} {ns : List Int} (hS : SqL K H a (ns.map V.int)) (h : sp [.scr ns] 0 (fun d _ => d = .bl true) fun _ _ _ _ => False) :
    spOf K sp [.ref a] H (fun v _ => v = .bl true) fun _ _ _ => False := by
  refine ⟨⟨H, fun _ => False, fun _ => False⟩, 0, [.scr ns], _, _, ⟨fun _ _ h => h, fun _ h => h.elim, fun _ h => h.elim, fun _ h => h.elim, fun _ h => h.elim, fun _ h => h.elim, fun _ _ e => nomatch e⟩, .cons (.scr hS) .nil, h, fun d v G' H' c' _ r e => ?_, fun _ _ _ _ _ _ _ _ _ z => z⟩
  have e' : d = .bl true := e
  subst e'
  cases r
  rfl
theorem walk_at_world {l : PySem.W.OpenLaw} {n k : Nat} {q : Program} {loose : List Str} {XP : (Str → Option Value) → Heap → Prop} {YP : World → Heap → Prop} {d : DefRec} {x : Str}
    (hn : l.most = some n) (hn2 : n ≤ sizeLine) (hdf : d.params.defaults = []) (hr : Room k callerA)
    (F : ∀ (w : World) (mg : Str → Option Value) (fa : Addr) (h : Heap), YP w h → h.Ns mainGlobals mg → mg d.name = some (.ref fa) →
      ∃ (K : PySem.W.Frag) (fd : FuncData) (sp : SpD), K.In h ∧ (∀ (s : Shared) (u : Value), BindsTo s fd ⟨[u], []⟩ [(x, u)]) ∧
        (∀ ns : List Int, ns.length ≤ n → sp [.scr ns] 0 (fun d _ => d = .bl true) fun _ _ _ _ => False) ∧
        ∀ base : Heap, K.In base → base.Ns mainGlobals mg → FnOk l.prog w K mg base (L2.CX l.prog w) k fa fd [x] (spOf K sp)) :
    PySem.W.WalkO q loose XP YP l.row.toRowW d [] (fun f vs => PySem.call f vs) := by
  refine Att.attach_call hn hdf fun w s₀ s₁ mg mb fa o pm cd doc a vs ns G Y ho hd hcd hmg hobj hints hlen hg => ?_
  obtain ⟨K, fd, sp, KX, hb, hsp, hF⟩ := F w mg fa _ Y G.T.g hmg
  exact law_call KX G.T.g G.T.b G.T.builtins G.T.nolimit hg hobj hints (Nat.le_trans hlen hn2) hr hF hb (fun H _ hS => law_start hS (hsp ns hlen)) fun H e s' h => by
    obtain ⟨_, _, _, _, _, _, _, _, _, _, _, _, z⟩ := h
    exact z
end PL
namespace PL
open PySem PySem.Spec PyProof.Rows L2
section
variable {X : Cx} {pins : List (Addr × Obj)} {σ : L2.St} {H : Hp} {s sI : Shared} {a : Addr} {φ : Heap → Prop}
theorem track (J : L2.Inv X pins σ H sI) (I : L2.Inv X pins σ H s) (hx : X.ex = []) (na : sI.heap.get? a = none) (ha : H a = none) (new : φ s.heap) (obj : ∃ o, s.heap.get? a = some o) (st : ∀ h1 h2 : Heap, φ h1 → (∀ o, h1.get? a = some o → h2.get? a = some o) → φ h2) : L2.Inv X pins σ (upd H a (.ext φ)) s := by
  have n0 : ∀ b o, X.s_0.heap.get? b = some o → b ≠ a := fun b o e z => by
    obtain ⟨o', q⟩ := J.base.there b o e (by rw [hx]; exact fun z => nomatch z)
    rw [z, na] at q
    cases q
  have keepU : ∀ {b : Addr} {u : HO}, H b = some u → upd H a (.ext φ) b = some u := fun {b u} e => by rw [upd_ne (ne_of_none e ha)]; exact e
  have freeU : ∀ {b : Addr}, b ≠ a → H b = none → upd H a (.ext φ) b = none := fun {b} n e => by rw [upd_ne n]; exact e
  refine ⟨I.ok, I.os, I.bare, ⟨I.base.keep, I.base.slot, fun b o e n hq => freeU (n0 b o e) (I.base.free b o e n hq), I.base.there, fun b xs e => keepU (I.base.tups b xs e), fun b o u e => keepU (I.base.frzs b o u e), fun b ps e => ?_⟩, I.loc, I.cell, ?_, fun x c e => ?_, fun p hp => ?_, fun b u e => ?_, I.len⟩
  · obtain ⟨m, q⟩ := I.base.tbls b ps e
    exact ⟨m, keepU q⟩
  · refine freeU (fun z => ?_) I.free
    obtain ⟨m, ⟨o, es, ep, ho, _⟩, _⟩ := J.loc
    rw [z, na] at ho
    cases ho
  · refine freeU (fun z => ?_) (I.freeC x c e)
    obtain ⟨v, o, ho, _⟩ := J.cell x c e
    rw [z, na] at ho
    cases ho
  · obtain ⟨e, n, ne, nf, d⟩ := I.pin p hp
    refine ⟨e, freeU (fun z => ?_) n, ne, nf, d⟩
    have q := (J.pin p hp).1
    rw [z, na] at q
    cases q
  · by_cases hb : b = a
    · rw [hb, upd_same] at e
      cases e
      rw [hb]
      exact ⟨new, obj, st⟩
    · rw [upd_ne hb] at e
      exact (I.hok b u e).stay (fun c v _ q => q) (fun c q => keepU q) fun c xs q => keepU q
theorem exT_new {h : Heap} {C a : Addr} {d : Option Addr} {oe : Obj} {vs : Array Value} (e : h.get? a = some oe) (z : Zc (.ref C) d oe) (hd : oe.data = .fields vs) :
    (fun h : Heap => ∃ (oe : Obj) (vs : Array Value), h.get? a = some oe ∧ oe.cls = .ref C ∧ oe.dict = d ∧ oe.data = .fields vs) h := ⟨oe, vs, e, z.1, z.2, hd⟩
theorem exT_st {C a : Addr} {d : Option Addr} (h1 h2 : Heap) (e : (fun h : Heap => ∃ (oe : Obj) (vs : Array Value), h.get? a = some oe ∧ oe.cls = .ref C ∧ oe.dict = d ∧ oe.data = .fields vs) h1) (k : ∀ o, h1.get? a = some o → h2.get? a = some o) :
    (fun h : Heap => ∃ (oe : Obj) (vs : Array Value), h.get? a = some oe ∧ oe.cls = .ref C ∧ oe.dict = d ∧ oe.data = .fields vs) h2 := by
  obtain ⟨oe, vs, e1, e2⟩ := e
  exact ⟨oe, vs, k oe e1, e2⟩
end
def wKeep (K : PySem.W.Frag) (c : Value) (i : Nat) (ts : TS) (Wout : WX) (D : Ends) : WX := fun cls d σ H =>
  ∃ b C, cls = .ref C ∧ PySem.W.exmOne K cls c = some b ∧ (b = true → ∀ a, H a = none → ts { nx := fun σ' H' => D.nx (σ'.set i none) H', rt := D.rt, bk := fun σ' H' => D.bk (σ'.set i none) H', ct := fun σ' H' => D.ct (σ'.set i none) H' } (σ.set i (some (.ref a))) (upd H a (exT C a d))) ∧
    (b = false → Wout cls d σ H)
section
variable {X : Cx} {x n : Str} {c : Value} {i : Nat} {body suite : List Stmt} {b₀ : Stmt} {np pos pos' : Pos} {tb : WX → TS} {ts : TS} {Wout : WX}
theorem ps_try_keep (hs : X.stack = X.env :: X.outer) (hf : X.env.frame = some X.env.locals) (hex : X.ex = []) (hN : X.N.Nodup) (hi : X.N[i]? = some n) (hln : X.env.kindOf n = some .local) (hc : Names X x c) (tk : Takes X Wout)
    (hb : ∀ (W : WX) (pn : List (Addr × Obj)) (xe : Value → Shared → Prop), Takes (X.tr pn xe) W → PSs (X.tr pn xe) body (tb W))
    (hsu : ∀ (a : Addr) (pn : List (Addr × Obj)), PSs (X.suite a pn) (b₀ :: suite) ts) :
    PS X (.Try body [.ExceptHandler (some (.Name x np)) (some n) (b₀ :: suite) pos'] [] [] pos) (fun D σ H => tb (wKeep X.K c i ts Wout D) D σ H) := by
  refine ⟨fun pins s σ H D I h => ?_⟩
  have ok := I.ok
  have hfr : X.A.frames = some (X.env :: X.outer) := by rw [ok.frames, hs]
  have hloc : Loc X.env.scope n := .inl hln
  refine wpAny_Try_except ?_
  refine wpAny_mono ((hb (wKeep X.K c i ts Wout D) (X.pn ++ pins) (fun e s₁ => wpAny (model X.prog X.w) X.A (noteFrame e X.env) (fun _ s₂ => wpAny (model X.prog X.w) X.A (setFlight e none) (fun _ s₃ =>
    wpAny (model X.prog X.w) X.A (handleBy e X.env [.ExceptHandler (some (.Name x np)) (some n) (b₀ :: suite) pos']) (SP X pins D) X.xe s₃) X.xe s₂) X.xe s₁) (fun u s' xx => ?_)).run [] s σ H D (I.toTry _) h) (fun f s1 hsp => ?_) (fun e s1 he => he)
  · -- the catch
    obtain ⟨a, B, sI, pins', σ', H', cls, d, rfl, J', nb, up, sky, na, os, ag, b, C, rfl, hb1, hyes, hno⟩ := xx
    have J : L2.Inv X pins σ' H' sI := J'.ofTry ok
    have sky' : Sky B (X.env :: X.outer) a (Zc (.ref C) d) X.env.locals s'.heap := by rw [← hs]; exact sky
    show wpAny (model X.prog X.w) X.A (noteFrame (.ref a) X.env) _ _ _
    refine Sky.land Zc.steady hfr hf sky' fun h3 fl3 up3 => ?_
    have J3 : L2.Inv X pins σ' H' { s' with heap := h3 } := J.landed nb fl3.1 (up.trans up3) os ag
    obtain ⟨oe3, vs3, he3, hz3, hd3⟩ := fl3.there
    have notFr : ∀ {h : Heap} {o : Obj} {vs : Array Value}, h.FunFrames B (X.env :: X.outer) → h.get? a = some o → o.data = .fields vs → a ∉ frs (X.env :: X.outer) := fun {h o vs} ff e dd hm => by
      obtain ⟨_, o', e', hnf⟩ := ff.mem hm
      rw [e] at e'; cases e'
      exact hnf _ dd
    have nfr := notFr fl3.2.2.1 he3 hd3
    have nL : a ≠ X.env.locals := fun z => nfr (List.mem_filterMap.mpr ⟨X.env, List.mem_cons_self, by rw [hf, z]⟩)
    have nF : a ∉ X.fs := fun hm => by
      obtain ⟨e, he, q⟩ := List.mem_filterMap.mp hm
      exact nfr (List.mem_filterMap.mpr ⟨e, List.mem_cons_of_mem _ he, q⟩)
    have nI : sI.heap.get? a = none := by
      cases e : sI.heap.get? a with
      | none => rfl
      | some o =>
        have q := nb a o e (by rw [hs]; exact nfr)
        rw [fl3.2.1] at q
        cases q
    have S3 := J3.suite he3 hd3 na nL nF
    refine wpAny_handleBy_cons (codeAny_handlers_test ?_) (by intro q; cases q)
    have LT : PySem.W.Looks (model X.prog X.w) h3 (typeOf (.ref a)) (.ref C) := fun A Q E s k q => wpAny_typeOf_ref (k _ _ he3) (by rw [hz3.1]; exact q)
    have LM := PySem.W.exm_one (M := model X.prog X.w) (J3.kIn) LT hb1
    have test : ∀ {Q : Value → Shared → Prop} {E : Value → Shared → Prop}, Q c { s' with heap := h3 } → wpAny (model X.prog X.w) (X.A.mark (some (.ref a))) (eval (.Name x np) X.env) Q E { s' with heap := h3 } := fun {Q E} q => by
      obtain ⟨hg, hdbg, hm | ⟨hm, hv, hnn⟩⟩ := hc
      · exact ld_glob (X := X.suite a ((a, oe3) :: (X.pn ++ pins))) S3 hg hm q hdbg
      · exact ld_blt (X := X.suite a ((a, oe3) :: (X.pn ++ pins))) S3 hg hm hv q hnn hdbg
    refine test (LM.here ?_)
    cases b with
    | true =>
      refine codeAny_handlers_suite_as ?_
      refine HandSPX.lands_againZ fl3 fun h4 fl4 up4 => ?_
      have J4 : L2.Inv X pins σ' H' { s' with heap := h4 } := J.landed nb fl4.1 ((up.trans up3).trans up4) os ag
      obtain ⟨oe4, vs4, he4, hz4, hd4⟩ := fl4.there
      have T4 : L2.Inv X pins σ' (upd H' a (exT C a d)) { s' with heap := h4 } := track J J4 hex nI na (exT_new he4 hz4 hd4) ⟨_, he4⟩ exT_st
      have S4 : L2.Inv (X.suite a (X.pn ++ pins)) [] σ' (upd H' a (exT C a d)) { s' with heap := h4 } :=
        ⟨ok.suite _ _, T4.os, T4.bare, T4.base, T4.loc, T4.cell, T4.free, T4.freeC, fun p hp => T4.pin p (by rw [List.append_nil] at hp; exact hp), T4.hok, T4.len⟩
      refine store_ok (X := X.suite a (X.pn ++ pins)) (v := .ref a) S4 hN hi hloc rfl (fun s5 S5 => ?_) (.inr hln)
      refine wpAny_mono ((hsu a (X.pn ++ pins)).run [] s5 _ _ _ S5 (hyes rfl a na)) (fun f s6 hsp => ?_) (fun _ _ z => False.elim z)
      have end_ : ∀ {σ6 : L2.St} {H6 : Hp} {Q : Shared → Prop}, L2.Inv (X.suite a (X.pn ++ pins)) [] σ6 H6 s6 → (∀ s7, L2.Inv X pins (σ6.set i none) H6 s7 → Q s7) →
          wpAny (model X.prog X.w) X.A (do bindName X.env n .none; unbindBehindTheSuite X.env n pos') (fun _ s7 => Q s7) X.xe s6 := fun {σ6 H6 Q} S6 hq =>
        gone_ok (X := X) (pins := pins) ⟨ok, S6.os, S6.bare, S6.base, S6.loc, S6.cell, S6.free, S6.freeC, fun p hp => S6.pin p (List.mem_append_left _ hp), S6.hok, S6.len⟩ hN hi hln hq
      cases f with
      | next =>
        obtain ⟨σ6, H6, S6, q6⟩ := hsp
        exact end_ S6 fun s7 J7 => ⟨_, _, J7, q6⟩
      | brk =>
        obtain ⟨σ6, H6, S6, q6⟩ := hsp
        exact end_ S6 fun s7 J7 => ⟨_, _, J7, q6⟩
      | cont =>
        obtain ⟨σ6, H6, S6, q6⟩ := hsp
        exact end_ S6 fun s7 J7 => ⟨_, _, J7, q6⟩
      | ret u =>
        obtain ⟨v6, σ6, H6, S6, r6, q6⟩ := hsp
        exact end_ S6 fun s7 J7 => ⟨_, _, _, J7, r6, q6⟩
    | false =>
      show wpAny _ X.A (handleBy (.ref a) X.env []) _ _ _
      refine wpAny_handleBy_nil ?_
      obtain ⟨k1, k2, k3, oe, vs, T, oT, ts', he, hz, hd, h1, hr⟩ := id fl3
      unfold PySem.passOn
      refine wpAny_bind (wpAny_field he hd h1 ?_)
      rw [if_neg (show ¬ ((Value.ref T == Value.none) = true) from by simp)]
      have fin : wpAny (model X.prog X.w) X.A (setFlight (.ref a) X.env.frame) (fun _ s4 => wpAny (model X.prog X.w) X.A (throw (.ref a) : Sem Flow) (SP X pins D) X.xe s4) X.xe { s' with heap := h3 } := by
        rw [hf]
        refine HandSPX.setFlight_upZ fl3 fun h4 hh4 up4 => wpAny_throw (tk _ _ ?_)
        exact ⟨a, B, sI, pins, σ', H', .ref C, d, rfl, J, nb, (up.trans up3).trans up4, .inr (.inr (by rw [hs]; exact hh4)), na, os, ag, hno rfl⟩
      first
        | exact wpAny_bind (wpAny_pure (wpAny_bind fin))
        | exact wpAny_bind fin
  · cases f with
    | next =>
      obtain ⟨σ', H', J', q⟩ := hsp
      exact wpAny_execs_nil ⟨σ', H', J'.ofTry ok, q⟩
    | brk =>
      obtain ⟨σ', H', J', q⟩ := hsp
      exact ⟨σ', H', J'.ofTry ok, q⟩
    | cont =>
      obtain ⟨σ', H', J', q⟩ := hsp
      exact ⟨σ', H', J'.ofTry ok, q⟩
    | ret u =>
      obtain ⟨v, σ', H', J', r, q⟩ := hsp
      exact ⟨v, σ', H', J'.ofTry ok, r, q⟩
end
end PL
namespace PL
open PySem PySem.Spec PyProof.Rows L2
def DEnds.gone (DD : DEnds) (i : Nat) : DEnds := { nx := fun ρ c => DD.nx (ρ.set i .no) c, rt := DD.rt, bk := fun ρ c => DD.bk (ρ.set i .no) c, ct := fun ρ c => DD.ct (ρ.set i .no) c }
def sTry (K : PySem.W.Frag) (cl : Addr) (i : Nat) (sb : (DEnv → EDt) → DS) (ss : DS) (ED : DEnv → EDt) : DS := fun DD ρ c =>
  sb (fun ρ1 C ns es c1 => ∃ b, PySem.W.exmOne K (.ref C) (.ref cl) = some b ∧ @Br b (ss (DD.gone i) (ρ1.set i (.fz (.exc C ns es))) c1) (ED ρ1 C ns es c1)) DD ρ c
section
variable {Y : Ctx} {k i : Nat} {x n : Str} {cl : Addr} {body suite : List Stmt} {b₀ : Stmt} {np pos pos' : Pos} {tb : (L2.St → XK) → TS} {ts : TS} {sb : (DEnv → EDt) → DS} {ss : DS}
theorem pds_try_keep (g : Y.Good k) (hN : Y.X.N.Nodup) (hc : Names Y.X x (.ref cl)) (hex : Y.X.ex = [])
    (hb : ∀ pn xe E2 ED2 lo, Ctx.Good ⟨Y.X.tr pn xe, Y.G0, Y.H0, Y.c0, E2, ED2, lo⟩ k → PDSs ⟨Y.X.tr pn xe, Y.G0, Y.H0, Y.c0, E2, ED2, lo⟩ body (tb E2) (sb ED2))
    (hsu : ∀ a pn lo, PDSs ⟨Y.X.suite a pn, Y.G0, Y.H0, Y.c0, fun _ => E0, fun _ _ _ _ _ => False, lo⟩ (b₀ :: suite) ts ss)
    (hi : Y.X.N[i]? = some n := by rfl) (hln : Y.X.env.kindOf n = some .local := by rfl) (hs : Y.X.stack = Y.X.env :: Y.X.outer := by rfl) (hf : Y.X.env.frame = some Y.X.env.locals := by rfl) :
    PDS Y (.Try body [.ExceptHandler (some (.Name x np)) (some n) (b₀ :: suite) pos'] [] [] pos)
      (fun D σ H => tb (fun σ1 cls d H1 => wKeep Y.X.K (.ref cl) i ts (fun cls d σ H => Y.E σ cls d H) D cls d σ1 H1) D σ H) (sTry Y.X.K cl i sb ss Y.ED) := by
  refine ⟨ps_try_keep (tb := fun W => tb fun σ cls d H => W cls d σ H) hs hf hex hN hi hln hc g.tk (fun W pn xe tk => (hb pn xe (fun σ cls d H => W cls d σ H) (fun _ _ _ _ _ => False) ⟨fun _ => none, fun _ => False, fun _ => False⟩ ⟨tk, fun _ _ _ _ _ _ _ _ _ _ _ _ _ _ _ z => z.elim, g.room, g.calm⟩).p) (fun a pn => (hsu a pn ⟨fun _ => none, fun _ => False, fun _ => False⟩).p), ?_⟩
  intro P G H c ρ σ DD EE K R q
  refine (hb Y.X.pn (fun _ _ => True) _ _ G ⟨fun _ _ _ => trivial, ?_, g.room, g.calm⟩).s P G H c ρ σ DD EE ⟨?_, K.rt, ?_, ?_⟩ ⟨⟨R.r.ok, R.r.evo, R.r.len, R.r.sl, R.r.sep, GS.Le.refl _⟩, R.le⟩ q
  · intro ρ1 σ1 G1 H1 c1 R1 C ns es dx G2 H2 c2 ev re z
    obtain ⟨b, hb1, z⟩ := z
    have R1' : Rel Y G1 H1 c1 ρ1 σ1 := ⟨R1.ok, R1.evo, R1.len, R1.sl, R1.sep, R.r.lo.trans R1.lo⟩
    refine ⟨b, C, rfl, hb1, fun e a ha => ?_, fun e => ?_⟩
    · rw [e, ev_brT] at z
      have ev2 := Evo.laid ev.ok (exT C a dx) ha
      have R2 := R1'.evo' (ev.trans ev2)
      have rp : Rp Y.X.K { G2 with f := upd G2.f a (exT C a dx) } (.ref a) (.exc C ns es) := by
        rcases re with ⟨rfl, rfl, rfl⟩ | ⟨d, fs, rfl, hd, hn, hr⟩
        · exact .exc (fs := []) upd_same (.inl ⟨rfl, rfl⟩) rfl .nil
        · exact .exc upd_same (.inr ⟨d, rfl, ev2.le.f _ _ hd⟩) hn (hr.mono ev2.le)
      have R3 := R2.set_fz rp i
      refine (hsu a [] G).s P _ _ _ _ _ (DD.gone i) _ ⟨fun G' H' c' ρ' σ' R' w => ?_, K.rt, fun G' H' c' ρ' σ' R' w => ?_, fun G' H' c' ρ' σ' R' w => ?_⟩ ⟨⟨R3.ok, R3.evo, R3.len, R3.sl, R3.sep, R1.lo.trans (ev.le.trans ev2.le)⟩, R.le.trans (R1.lo.trans (ev.le.trans ev2.le))⟩ z
      · exact K.nx _ _ _ _ _ ⟨Rel.set_no (Y := Y) ⟨R'.r.ok, R'.r.evo, R'.r.len, R'.r.sl, R'.r.sep, R.r.lo.trans R'.r.lo⟩ i none, R'.le⟩ w
      · exact K.bk _ _ _ _ _ ⟨Rel.set_no (Y := Y) ⟨R'.r.ok, R'.r.evo, R'.r.len, R'.r.sl, R'.r.sep, R.r.lo.trans R'.r.lo⟩ i none, R'.le⟩ w
      · exact K.ct _ _ _ _ _ ⟨Rel.set_no (Y := Y) ⟨R'.r.ok, R'.r.evo, R'.r.len, R'.r.sl, R'.r.sep, R.r.lo.trans R'.r.lo⟩ i none, R'.le⟩ w
    · rw [e, ev_brF] at z
      exact g.err ρ1 σ1 G1 H1 c1 R1' C ns es dx G2 H2 c2 ev re z
  · exact fun G' H' c' ρ' σ' R' w => K.nx _ _ _ _ _ ⟨⟨R'.r.ok, R'.r.evo, R'.r.len, R'.r.sl, R'.r.sep, R.r.lo.trans R'.r.lo⟩, R'.le⟩ w
  · exact fun G' H' c' ρ' σ' R' w => K.bk _ _ _ _ _ ⟨⟨R'.r.ok, R'.r.evo, R'.r.len, R'.r.sl, R'.r.sep, R.r.lo.trans R'.r.lo⟩, R'.le⟩ w
  · exact fun G' H' c' ρ' σ' R' w => K.ct _ _ _ _ _ ⟨⟨R'.r.ok, R'.r.evo, R'.r.len, R'.r.sl, R'.r.sep, R.r.lo.trans R'.r.lo⟩, R'.le⟩ w
end
end PL
namespace PySem.W
open PySem PySem.Spec PySem.Calls PyProof.Rows
section
variable {prog : Program} {w : World} {A : Around} {E : Value → Shared → Prop} {s : Shared} {K : Frag} {x D : Addr} {ox : Obj} {od : Option Obj}
theorem find_dataD {C : Addr} {name : Str} {a g : Value} (hc : (clsIn K C).isSome = true) (ha : findIn K (.ref C) name = some (some a)) (hg : specialIn K a "__get__" = some (some g)) (ht : takesIn K a = some true) : findObj K C od name = some (.bind g a) := by
  obtain ⟨cd, hc⟩ := Option.isSome_iff_exists.mp hc
  unfold findObj
  rw [hc, Option.bind_some, ha, Option.bind_some]
  simp [hg, ht]
theorem class_excD {Q : Option Value → Shared → Prop} (T : L2.ExcC K D) (X : K.In s.heap) (I : InstAt s.heap x ox D od) (h : Q (some (.ref D)) { s with toks := s.toks + 1 }) : wpAny (model prog w) A (getAttr? (.ref x) "__class__") Q E s := by
  have hf : findObj K D od "__class__" = some (.bind (.builtin "getset_descriptor.__get__") (.builtin "object.__class__")) := find_dataD (by obtain ⟨cd, hc, _⟩ := any_some T.hd; rw [hc]; rfl) T.ha T.hn T.ht
  obtain ⟨hp, g, d, t, os⟩ := s
  have L0 := I.type (M := model prog w)
  have L1 := looks_findIn (M := model prog w) X T.hg
  have L2 := looks_findIn (M := model prog w) X T.hk
  have L3 := looks_find (M := model prog w) X I hf
  have sub : Looks (model prog w) hp (isInstance (.ref x) (.type "BaseException")) true := L0.andThen (looks_subIn X T.hs)
  have hx0 : (false && onTheHeap (Value.builtin "BaseException.__getattribute__")) = false := rfl
  have hx2 : (Value.builtin "BaseException.__getattribute__" == Value.builtin "object.__getattribute__") = false := by decide +kernel
  have hx1 : (onTheHeap (Value.ref D) && Value.builtin "BaseException.__getattribute__" == Value.builtin "object.__getattribute__") = false := by rw [hx2]; rfl
  unfold getAttr? getAttrBy? getAttrBy
  refine wpAny_bind (wpAny_mkText (wpAny_bind (wpAny_attempt (wpAny_holding (wpAny_bind (L0.at (wpAny_bind (L1.at ?_))))))))
  show wpAny _ _ (if (onTheHeap (Value.ref D) && Value.builtin "BaseException.__getattribute__" == Value.builtin "object.__getattribute__") = true then _ else _) _ _ _
  rw [hx1, if_neg Bool.false_ne_true]
  unfold getAttrByItsOwn hookBefore
  refine wpAny_bind ?_
  rw [if_pos (show onTheHeap (Value.ref D) = true from rfl)]
  refine L2.at ?_
  refine wpAny_bind (wpAny_attempt (wpAny_holding ?_))
  unfold callGetattribute
  rw [hx0, if_neg Bool.false_ne_true]
  unfold boundAndCalled
  rw [PySem.F.excAttr_ValueError.ga.bind (.ref x)]
  refine wpAny_bind (wpAny_pure ?_)
  show wpAny _ _ (call (.builtin "BaseException.__getattribute__") [.ref x, .str "__class__" t]) _ _ _
  refine wpAny_call (codeAny_call_builtin PySem.F.excAttr_ValueError.ga.plain PySem.F.entry_bexc_ga ?_)
  refine @check_slot (model prog w) _ _ ⟨hp, g, d, t + 1, os⟩ "BaseException.__getattribute__" "BaseException" "__getattribute__" (.ref x) [.str "__class__" t] [] _ (by decide +kernel) (by decide +kernel) sub (PySem.F.args_bexc_ga (.ref x) (.str "__class__" t)) ?_
  unfold Builtin.«object.__getattribute__»
  refine wpAny_bind (wpAny_of_eq (a := ((Value.ref x : Value), [Value.str "__class__" t])) (by first | rfl | (simp only [slotArgs]; rfl)) ?_)
  refine wpAny_bind (wpAny_pure (wpAny_bind (L0.at (wpAny_bind (L3.at ?_)))))
  show wpAny _ _ (holding [Value.builtin "object.__class__"] (call (.builtin "getset_descriptor.__get__") [.builtin "object.__class__", .ref x, .ref D]) >>= ret) _ _ _
  refine wpAny_bind (wpAny_holding (wpAny_call (class_get (s := ⟨hp, g, d, t + 1, os⟩) (ox := ox) (od := od) X I T.hm ?_)))
  refine wpAny_pure ?_
  show wpAny _ _ (handedOut (.ref D)) _ _ _
  rw [handedOut_of (v := .ref D) rfl]
  first
    | exact wpAny_pure (wpAny_pure h)
    | exact wpAny_pure h
    | exact wpAny_pure (wpAny_bind (wpAny_pure (wpAny_pure h)))
theorem kitx_excD (T : L2.ExcC K D) : KitX K (.ref x) (.ref D) (fun h => InstAt h x ox D od) where
  ty := fun _ _ _ I => I.type
  it := fun M h X _ => by
    obtain ⟨cdD, hcD, _⟩ := any_some T.hd
    unfold clsIn at hcD
    split at hcD
    · rename_i c1 d1 cd1 sl1 ho
      exact fun A1 Q1 E1 s1 k q => by
        unfold isType loadHead
        exact wpAny_bind (wpAny_loadPart (k _ _ (X _ _ ho)) (wpAny_pure q))
    · cases hcD
  ne := (handS_kitx_exc (x := x) (ox := ox) T.hg T.hk T.hs T.hd T.ha T.hn T.ht T.hm).ne
  ca := fun X I k => class_excD T X I k
end
end PySem.W
namespace PL
open PySem PySem.Spec PyProof.Rows L2
theorem inst_exT {P : Program} {w : World} {H : Hp} {h : Heap} {C a : Addr} {d : Option Addr} (hok : HOk P w H h) (e : H a = some (exT C a d)) (hd : d = none ∨ ∃ dd fs, d = some dd ∧ H dd = some (.xd fs)) :
    ∃ oe od, PySem.W.InstAt h a oe C od ∧ (d = none → od = none) := by
  obtain ⟨⟨oe, vs, e1, hc, hdi, hda⟩, _, _⟩ := (show ObjOk P w H h a (.ext _) from hok a _ e)
  rcases hd with rfl | ⟨dd, fs, rfl, ed⟩
  · exact ⟨oe, none, ⟨e1, hc, by unfold PySem.W.notCls; rw [hda] <;> rfl, by rw [hdi]; trivial⟩, fun _ => rfl⟩
  · obtain ⟨mA, hns, _⟩ := (show ObjOk P w H h dd (.xd fs) from hok dd _ ed)
    obtain ⟨od, ho, _⟩ := lookIn_ns hns
    exact ⟨oe, some od, ⟨e1, hc, by unfold PySem.W.notCls; rw [hda] <;> rfl, by rw [hdi]; exact ho⟩, fun z => nomatch z⟩
def DictX (H : Hp) (d : Option Addr) : Prop := d = none ∨ ∃ dd fs, d = some dd ∧ H dd = some (.xd fs)
def rIsX (K : PySem.W.Frag) : List V → Hp → VK → Prop := fun xs H Q => ∃ (a C : Addr) (d : Option Addr) (c : V) (cv : Value) (b : Bool), xs = [.ref a, c] ∧ H a = some (exT C a d) ∧ DictX H d ∧ ExcC K C ∧ ClsV c cv ∧ PySem.W.kitOne K (.ref C) cv = some b ∧ Q (.bl b) H
def rIsO (K : PySem.W.Frag) : List V → Hp → VK → Prop := fun xs H Q => rIsi K xs H Q ∨ rIsX K xs H Q
theorem call_isO {X : Cx} : CallR X (.builtin "isinstance") (rIsO X.K) := by
  intro pins s σ H xs us Q I r h
  rcases h with h | ⟨a, C, d, c, cv, b, rfl, e1, e2, T, k, e, q⟩
  · exact call_isi pins s σ H xs us Q I r h
  · obtain ⟨u1, u2, rfl, r1, r2⟩ := vals2 r
    have ec := k.eq r2
    subst ec
    cases (show u1 = Value.ref a from r1)
    obtain ⟨oe, od, J, _⟩ := inst_exT I.hok e1 e2
    exact PySem.W.kia_one (PySem.W.kitx_excD T) I.kIn J e (fun z => nomatch z) fun tk => ⟨.bl b, H, I.tok tk, rfl, q⟩
def typD (K : PySem.W.Frag) (IC : Addr → Prop) : D → Value → Prop
  | .exc C _ _, t => ExcC K C ∧ t = .ref C
  | .ins C _ _, t => IC C ∧ t = .ref C
  | d, t => ∃ k, kind d = some k ∧ t = .type k
def aIsO (K : PySem.W.Frag) (IC : Addr → Prop) (ds : List D) (c : CN) (Q : QD) : Prop := match ds with
  | [x, .cls C] => ∃ t b, typD K IC x t ∧ PySem.W.kitOne K t (.ref C) = some b ∧ Q (.bl b) c
  | _ => False
theorem br_isO {K : PySem.W.Frag} {IC : Addr → Prop} (hI : ∀ C, IC C → ICls K C) : BrN K (rIsO K) (aIsO K IC) := fun G H c xs ds Qd Q ok r q k => by
  unfold aIsO at q
  split at q
  · obtain ⟨t, b, ht, hk, q⟩ := q
    rename_i x C
    cases r with
    | cons r rr =>
      cases rr with
      | cons r2 rr =>
        cases rr
        cases r2
        have fin := k _ _ G H c (Evo.refl ok) (.bl b) q
        have base : ∀ kk, kind x = some kk → t = .type kk → rIsO K [_, .ref C] H Q := fun kk e1 e2 => by
          subst e2
          exact .inl ⟨_, _, _, .ref C, b, rfl, .own C, tyX_of ok r e1, hk, fin⟩
        cases x with
        | exc C2 ns es =>
          obtain ⟨T, rfl⟩ := ht
          cases r with
          | exc h1 h2 h3 h4 =>
            exact .inr ⟨_, _, _, _, .ref C, b, rfl, ok.same _ _ h1, h2.imp (fun z => z.1) (fun ⟨d, z1, z2⟩ => ⟨d, _, z1, ok.same _ _ z2⟩), T, .own C, hk, fin⟩
        | ins C2 ns es =>
          obtain ⟨h, rfl⟩ := ht
          have I := hI C2 h
          cases r with
          | ins h1 h2 h3 => exact .inl ⟨_, _, _, .ref C, b, rfl, .own C, .base (.ins (ok.same _ _ h1) I.cl I.ha I.hn I.ht I.hm), hk, fin⟩
        | non => obtain ⟨kk, e1, e2⟩ := ht; exact base kk e1 e2
        | bl _ => obtain ⟨kk, e1, e2⟩ := ht; exact base kk e1 e2
        | int _ => obtain ⟨kk, e1, e2⟩ := ht; exact base kk e1 e2
        | str _ => obtain ⟨kk, e1, e2⟩ := ht; exact base kk e1 e2
        | ty _ => obtain ⟨kk, e1, e2⟩ := ht; exact base kk e1 e2
        | cls _ => obtain ⟨kk, e1, e2⟩ := ht; exact base kk e1 e2
        | tup _ => obtain ⟨kk, e1, e2⟩ := ht; exact base kk e1 e2
        | lst _ => obtain ⟨kk, e1, e2⟩ := ht; exact base kk e1 e2
        | dct _ _ => obtain ⟨kk, e1, e2⟩ := ht; exact base kk e1 e2
        | opq => obtain ⟨kk, e1, e2⟩ := ht; exact base kk e1 e2
        | mo _ => obtain ⟨kk, e1, e2⟩ := ht; exact base kk e1 e2
        | set _ _ => obtain ⟨kk, e1, e2⟩ := ht; exact base kk e1 e2
        | scr _ => obtain ⟨kk, e1, e2⟩ := ht; exact base kk e1 e2
  · exact q.elim
def tFldX (K : PySem.W.Frag) (f : Str) (te : TE) : TE := fun σ H Q => te σ H fun x H1 => ∃ (a C : Addr) (dd : Addr) (fs : List (Str × V)) (v : V), x = .ref a ∧ H1 a = some (exT C a (some dd)) ∧ XfC K C ∧ PySem.W.findIn K (.ref C) f = some none ∧ H1 dd = some (.xd fs) ∧ fs.lookup f = some v ∧ Q v H1
theorem pe_fldX {X : Cx} {e : Expr} {te : TE} {pos : Pos} {n : Str} (he : PE X e te) (hb : attributeBase e n X.env (eval e X.env) = eval e X.env) : PE X (.Attribute e n pos) (tFldX X.K n te) := by
  refine ⟨fun pins s σ H Q I h => attr_of hb (thn (he.run pins s σ H _ I h) fun u s1 hh => ?_)⟩
  obtain ⟨x, H1, I1, rx, a, C, dd, fs, v, rfl, ea, T, hno, ed, l, q⟩ := hh
  obtain rfl : u = Value.ref a := rx
  obtain ⟨⟨oe, vs, e1, hc, hdi, hda⟩, _, _⟩ := (show ObjOk X.prog X.w H1 s1.heap a (.ext _) from I1.hok a _ ea)
  obtain ⟨mA, hns, hr⟩ := (show ObjOk X.prog X.w H1 s1.heap dd (.xd fs) from I1.hok dd _ ed)
  obtain ⟨od, ho, hl⟩ := lookIn_ns hns
  obtain ⟨u, hu, ru⟩ := RelO.some_of (v := v) (o := mA n) (by rw [← l]; exact hr n)
  have J : PySem.W.InstAt s1.heap a oe C (some od) := ⟨e1, hc, by unfold PySem.W.notCls; rw [hda] <;> rfl, by rw [hdi]; exact ho⟩
  exact HandSPX.exc_get I1.kIn J T.ga T.gg T.exC (PySem.W.findObj_own T.hdC hno rfl (by rw [hl, hu])) (handed_of ru) ⟨v, H1, I1.tok _, ru, q⟩
def fldD (f : Str) : List Str → List D → Option D
  | n :: ns, d :: ds => if f = n then some d else fldD f ns ds
  | _, _ => none
theorem fldD_rp {K : PySem.W.Frag} {G : GS K} {f : Str} : ∀ {fs : List (Str × V)} {ns : List Str} {ds : List D} {d : D}, fs.map (·.1) = ns → RpAll K G (fs.map (·.2)) ds → fldD f ns ds = some d → ∃ v, fs.lookup f = some v ∧ Rp K G v d
  | [], ns, ds, d, h, r, e => by subst h; simp [fldD] at e
  | (n, v) :: fs, ns, ds, d, h, r, e => by
    subst h
    cases r with
    | cons r1 r2 =>
      rename_i d1 ds1
      simp only [List.map_cons, fldD] at e
      by_cases hn : f = n
      · rw [if_pos hn] at e
        cases e
        exact ⟨v, by rw [List.lookup_cons, hn]; simp, r1⟩
      · rw [if_neg hn] at e
        obtain ⟨u, h1, h2⟩ := fldD_rp rfl r2 e
        refine ⟨u, ?_, h2⟩
        rw [List.lookup_cons, beq_eq_false_iff_ne.mpr hn]
        exact h1
def dFldX (K : PySem.W.Frag) (f : Str) (t : DE) : DE := fun ρ c Q => t ρ c fun x c1 => ∃ C ns es d, x = .exc C ns es ∧ XfC K C ∧ PySem.W.findIn K (.ref C) f = some none ∧ fldD f ns es = some d ∧ Q d c1
theorem pd_fldX {Y : Ctx} {e : Expr} {te : TE} {t : DE} {pos : Pos} {n : Str} (he : PD Y e te t) (hb : attributeBase e n Y.X.env (eval e Y.X.env) = eval e Y.X.env := by rfl) : PD Y (.Attribute e n pos) (tFldX Y.X.K n te) (dFldX Y.X.K n t) :=
  ⟨pe_fldX he.p hb, fun G H c ρ σ Qd Q R q k => he.s G H c ρ σ _ _ R q fun x v G1 H1 c1 ev r q => by
    obtain ⟨C, ns, es, d, rfl, T, hno, hf, q⟩ := q
    cases r with
    | exc h1 h2 h3 h4 =>
      obtain ⟨u, hl, ru⟩ := fldD_rp h3 h4 hf
      rcases h2 with ⟨rfl, rfl⟩ | ⟨dd, rfl, ed⟩
      · cases hl
      · exact ⟨_, _, dd, _, u, rfl, ev.ok.same _ _ h1, T, hno, ev.ok.same _ _ ed, hl, k d u G1 H1 c1 ev ru q⟩⟩
end PL
namespace PL
open PySem PySem.Spec PyProof.Rows L2
def spXI (K : PySem.W.Frag) (f : Str) : Sp := fun vs H Q _ => ∃ (a C : Addr) (y : V), vs = [.ref a, y] ∧ OexC K C ∧ PySem.W.findIn K (.ref C) f = some none ∧ H a = some (exo a C none) ∧
  ∀ d, H d = none → d ≠ a → Q .non (upd (upd H d (exd d [(f, y)])) a (exo a C (some d)))
section
variable {P : Program} {w : World} {K : PySem.W.Frag} {mg : Str → Option Value} {base : Heap} {x qual p f : Str} {params : Arguments} {body : List Stmt} {scope : Scope} {dvs : List V} {kws : List (Str × V)} {fI : Addr} {fd : FuncData} {CX : CXT}
theorem okXI (F : FunD K x qual params body scope dvs kws fI fd) (S : FnScope ["self", p] ["self", p] scope)
    (hb : ∀ cdv A outer s H E, PSs (cxOf CX P w K mg base ["self", p] qual scope fI cdv A outer s H E) body (tOst K f (tVar 0) (tVar 1))) : FnOk P w K mg base CX 1 fI fd ["self", p] (spXI K f) := by
  refine F.ok S (fun vs H Q E h => ?_) fun cdv A outer s H vs Q E hr h => ?_
  · obtain ⟨a, C, y, rfl, _⟩ := h; rfl
  · obtain ⟨a, C, y, rfl, T, hno, e, k⟩ := h
    exact ⟨_, hb cdv A outer s H E, y, rfl, .ref a, rfl, a, C, rfl, T, hno, .inl ⟨e, fun d n ne => k d n ne⟩⟩
end
section
variable {Y : Ctx} {k : Nat} {C fI : Addr} {fd : FuncData} {x p f : Str} {e : Expr} {ta : TA} {t : DA} {p0 pc pos : Pos}
def sRaise1 (C : Addr) (f : Str) (ED : DEnv → EDt) (t : DA) : DS := fun _ ρ c => t ρ c fun ds c1 => ∃ d, ds = [d] ∧ ED ρ C [f] [d] c1
theorem pds_raise1 (g : Y.Good k) (h2 : 2 ≤ k) (T : OexC Y.X.K C) (hno : PySem.W.findIn Y.X.K (.ref C) f = some none) (iC : PySem.W.findIn Y.X.K (.ref C) "__init__" = some (some (.ref fI))) (tI : PySem.W.typeIn Y.X.K (.ref fI) = some (.type "function"))
    (F : FnOk Y.X.prog Y.X.w Y.X.K Y.X.mg Y.X.base (L2.CX Y.X.prog Y.X.w) 1 fI fd ["self", p] (spXI Y.X.K f)) (hb : Binds Y.X.K fd ["self", p] []) (hm : Y.X.mg x = some (.ref C)) (ha : PDA Y [e] ta t)
    (hg : Gl Y.X x := by rfl) (hdb : (x == ("__debug__" : Str)) = false := by decide) (he : starEach [e] Y.X.env = (false, eval e Y.X.env) :: starEach [] Y.X.env := by rfl) (hpl : (backTo pc (starEach [] Y.X.env)).any (·.1) = false := by rfl) :
    PDS Y (.Raise (some (.Call (.Name x p0) [e] [] pc)) none pos) (fun _ σ H => tMkO C (spXI Y.X.K f) [] ta σ H fun cls d H' => Y.E σ cls d H') (sRaise1 C f Y.ED t) := by
  refine ⟨ps_raise g.calm g.tk (pmk_oex T iC tI F (g.room.mono h2) hb .nil (fun _ _ _ _ _ _ _ ⟨_, _, _, _, _, _, _, _, _, _, _, _, z⟩ => z.elim) hg hm ha.p hdb he hpl), ?_⟩
  intro P G H c ρ σ DD EE K R q
  refine ha.s G H c ρ σ _ _ R.r q fun ds vs G1 H1 c1 ev rr q => ?_
  obtain ⟨d, rfl, q⟩ := q
  cases rr with
  | cons r1 rr =>
    rename_i v _
    cases rr
    refine ⟨by simp, fun a na => ⟨a, C, v, rfl, T, hno, upd_same, fun dx nd ne => ⟨rfl, dx, [(f, v)], upd_same, ?_, ?_, ?_⟩⟩⟩
    · rw [upd_ne ne, upd_same]
    · rw [upd_ne ne] at nd
      exact nd
    · rw [upd_ne ne] at nd
      have eH : upd (L2.del (upd (upd (upd H1 a (exo a C none)) dx (exd dx [(f, v)])) a (exo a C (some dx))) a) dx (.xd [(f, v)]) = upd H1 dx (.xd [(f, v)]) := by
        funext b
        by_cases h1 : b = dx
        · rw [h1, upd_same, upd_same]
        · rw [upd_ne h1, upd_ne h1]
          by_cases h3 : b = a
          · rw [h3, del_same, na]
          · rw [del_ne h3, upd_ne h3, upd_ne h1, upd_ne h3]
      rw [eH]
      have ev2 := Evo.laid ev.ok (.xd [(f, v)]) nd
      exact g.err ρ σ G1 H1 c1 (R.r.evo' ev) C [f] [d] (some dx) _ _ c1 ev2 (.inr ⟨dx, [(f, v)], rfl, upd_same, rfl, .cons (r1.mono ev2.le) .nil⟩) q
end
end PL
namespace PL
open PySem PySem.Spec PyProof.Rows L2
section
variable {Y : Ctx} {P G : GS Y.X.K} {H : Hp} {c : CN} {ρ : DEnv} {σ : L2.St}
end
section
variable {Y : Ctx} {es : List Expr} {e : Expr} {fa : TA} {t : DA} {x : Str} {p pos pos' apos cpos : Pos}
def sNewL (i : Nat) (t : DA) : DS := fun DD ρ c => t ρ c fun ds c1 => ds.length ≤ sizeLine ∧ DD.nx (ρ.set i (.ol ds)) c1
def sAppend (i : Nat) (t : DA) : DS := fun DD ρ c => ∃ l, ρ[i]? = some (.ol l) ∧ l.length < sizeLine ∧ t ρ c fun ds c1 => ∃ d, ds = [d] ∧ DD.nx (ρ.set i (.ol (l ++ [d]))) c1
end
end PL
namespace PL
open PySem PySem.Spec PyProof.Rows L2
def oexB (K : PySem.W.Frag) (C : Addr) : Bool := match K.lookup C with
  | some ⟨.type "type", _, .cls cd, sl⟩ => (match cd.mro, sl.toList with
    | .ref C2 :: bm, [_, _, _, _, some (.builtin n), _] => C2 == C && n == "ValueError.__new__" && !cd.hasDel && cd.hasDict && PySem.HandSPX.refsVE bm
    | _, _ => false)
  | _ => false
theorem oexB_ok {K : PySem.W.Frag} {C : Addr} (q : oexB K C = true) : ∃ nm q N bs bm sn sub ab col dd k0 k1 k2 k3 k5, K.lookup C = some (excClassObj nm q C N bs bm true sn sub ab col dd k0 k1 k2 k3 k5 "ValueError.__new__") ∧ PySem.HandSPX.refsVE bm = true := by
  unfold oexB at q
  split at q
  · rename_i dd cd sl ho
    split at q
    · rename_i C2 bm k0 k1 k2 k3 n k5 hm hs
      simp only [Bool.and_eq_true, beq_iff_eq, Bool.not_eq_true'] at q
      obtain ⟨⟨⟨⟨rfl, rfl⟩, hdel⟩, hdi⟩, ht⟩ := q
      obtain ⟨nm, bs, mro, ns, qn, hd, sn, sub, ab, col, del⟩ := cd
      dsimp only at hm hdel hdi
      subst hm hdel hdi
      have hsl : sl = #[k0, k1, k2, k3, some (.builtin "ValueError.__new__"), k5] := by
        obtain ⟨l⟩ := sl
        simp only at hs
        rw [hs]
      subst hsl
      exact ⟨nm, qn, ns, bs, bm, sn, sub, ab, col, dd, k0, k1, k2, k3, k5, ho, ht⟩
    · cases q
  · cases q
structure XCls (K : PySem.W.Frag) (mg : Str → Option Value) (x f : Str) (C fI : Addr) : Prop where
  m : mg x = some (.ref C)
  o : OexC K C
  xc : ExcC K C
  xf : XfC K C
  no : PySem.W.findIn K (.ref C) f = some none
  iC : PySem.W.findIn K (.ref C) "__init__" = some (some (.ref fI))
  tI : PySem.W.typeIn K (.ref fI) = some (.type "function")
def xcB (K : PySem.W.Frag) (C : Addr) : Bool :=
  He.eqO (PySem.W.findIn K (.ref C) "__getattribute__") (some (some (.builtin "BaseException.__getattribute__"))) && He.eqO (PySem.W.findIn K (.ref C) "__getattr__") (some none) && decide (PySem.W.subIn K (.ref C) (.type "BaseException") = some true) && PySem.W.hasDictIn K C &&
    He.eqO (PySem.W.findIn K (.ref C) "__class__") (some (some (.builtin "object.__class__"))) && decide (PySem.W.specialIn K (.builtin "object.__class__") "__get__" = some (some (.builtin "getset_descriptor.__get__"))) && decide (PySem.W.takesIn K (.builtin "object.__class__") = some true) &&
    decide (PySem.W.mroIn K C (.type "object") = some true)
theorem xcB_ok {K : PySem.W.Frag} {C : Addr} (h : xcB K C = true) : ExcC K C := by
  simp only [xcB, Bool.and_eq_true, decide_eq_true_eq] at h
  obtain ⟨⟨⟨⟨⟨⟨⟨h1, h2⟩, h3⟩, h4⟩, h5⟩, h6⟩, h7⟩, h8⟩ := h
  exact ⟨He.eqO_ok h1, He.eqO_ok h2, h3, h4, He.eqO_ok h5, h6, h7, h8⟩
def xclsB (K : PySem.W.Frag) (f : Str) (C fI : Addr) : Bool :=
  oexB K C && He.eqO (PySem.W.findIn K (.ref C) "__setattr__") (some (some (.builtin "object.__setattr__"))) && decide (PySem.W.typeIn K (.ref C) = some (.type "type")) && PySem.W.keepIn K (.ref C) && xcB K C &&
    He.eqO (PySem.W.findIn K (.ref C) f) (some none) && He.eqO (PySem.W.findIn K (.ref C) "__init__") (some (some (.ref fI))) && decide (PySem.W.typeIn K (.ref fI) = some (.type "function"))
theorem xclsB_ok {K : PySem.W.Frag} {mg : Str → Option Value} {x f : Str} {C fI : Addr} (m : mg x = some (.ref C)) (h : xclsB K f C fI = true) : XCls K mg x f C fI := by
  simp only [xclsB, Bool.and_eq_true, decide_eq_true_eq] at h
  obtain ⟨⟨⟨⟨⟨⟨⟨h1, h2⟩, h3⟩, h4⟩, h5⟩, h6⟩, h7⟩, h8⟩ := h
  have e := xcB_ok h5
  exact ⟨m, ⟨oexB_ok h1, He.eqO_ok h2, e.hs, h3, h4⟩, e, ⟨e.hg, e.hk, e.hs, e.hd⟩, He.eqO_ok h6, He.eqO_ok h7, h8⟩
section
variable {K : PySem.W.Frag} {IC : Addr → Prop} {i : Nat} {ρ : DEnv} {c : CN} {Q : QD} {DD : DEnds} {t : DA} {te : DE} {x : D} {C cl : Addr} {f : Str} {ns : List Str} {es l : List D} {ED : DEnv → EDt} {sb : (DEnv → EDt) → DS} {ss : DS}
theorem ev_newL : sNewL i t DD ρ c = t ρ c fun ds c1 => ds.length ≤ 16777216 ∧ @Nx DD.nx (ρ.set i (.ol ds)) c1 := by rw [← sizeLine_eq]; rfl
theorem ev_try : sTry K cl i sb ss ED DD ρ c = sb (fun ρ1 C ns es c1 => ∃ b, PySem.W.exmOne K (.ref C) (.ref cl) = some b ∧ @Br b (ss (DD.gone i) (ρ1.set i (.fz (.exc C ns es))) c1) (ED ρ1 C ns es c1)) DD ρ c := propext Iff.rfl
end
end PL
namespace PL
open PySem PySem.Spec PyProof.Rows L2
section
variable {K : PySem.W.Frag} {mg : Str → Option Value} {x qual : Str} {params : Arguments} {body : List Stmt} {scope : Scope} {kws : List (Str × V)} {f : Addr} {fd : FuncData} {ps : List Str} {st : Stmt}
end
end PL
namespace PL
open PySem PySem.Spec PyProof.Rows L2
def intsD : List D → Option (List Int)
  | [] => some []
  | .int i :: l => (intsD l).map (i :: ·)
  | _ => none
theorem intsD_map (ns : List Int) : intsD (ns.map .int) = some ns := by
  induction ns with
  | nil => rfl
  | cons n ns ih => rw [List.map_cons, intsD, ih]; rfl
def aSum (ds : List D) (c : CN) (Q : QD) : Prop := match ds with
  | [.lst l] => ∃ ns, intsD l = some ns ∧ Q (.int ns.sum) c
  | _ => False
section
variable {Y : Ctx} {e : Expr} {te : TE} {t : DE} {apos pos : Pos}
def dBits (t : DE) : DE := fun ρ c Q => t ρ c fun x c1 => ∃ i, x = .int i ∧ Q (.int (Builtin.Int.intBits i : Nat)) c1
theorem pd_bits (he : PD Y e te t) (hbase : attributeBase e "bit_length" Y.X.env (eval e Y.X.env) = eval e Y.X.env := by rfl) (hline : (apos.endLine == pos.line) = true := by rfl) : PD Y (.Call (.Attribute e "bit_length" apos) [] [] pos) (tBits te) (dBits t) :=
  ⟨pe_bits he.p hbase hline, fun G H c ρ σ Qd Q R q k => he.s G H c ρ σ _ _ R q fun x v G1 H1 c1 ev r ⟨i, ex, q⟩ => by
    subst ex
    cases r
    exact ⟨i, rfl, k _ _ G1 H1 c1 ev (.int _) q⟩⟩
theorem ev_bits {ρ : DEnv} {c : CN} {Q : QD} {t : DE} : dBits t ρ c Q = t ρ c fun x c1 => ∃ i, x = .int i ∧ Q (.int (Builtin.Int.intBits i : Nat)) c1 := propext Iff.rfl
end
end PL
namespace PL
open PySem PySem.Spec PyProof.Rows L2
def pickL {α : Type} (idx : List Nat) (l : List α) : List α := idx.filterMap (l[·]?)
theorem pd_cls {Y : Ctx} {x : Str} {C : Addr} {pos : Pos} (hm : Y.X.mg x = some (.ref C)) (hg : Gl Y.X x := by rfl) (hd : (x == ("__debug__" : Str)) = false := by decide) : PD Y (.Name x pos) (tC (.ref C)) (dC (.cls C)) := pd_glob hm (show RelV (.ref C) (.ref C) from rfl) (fun _ => .cls C) hg hd
theorem pdss_cast {Y : Ctx} {b : List Stmt} {ts ts2 : TS} {t t2 : DS} (h : PDSs Y b ts t) (e1 : ts = ts2) (e2 : t = t2) : PDSs Y b ts2 t2 := by subst e1 e2; exact h
end PL
namespace PL
open PySem PySem.Spec PyProof.Rows L2
theorem pd_cast {Y : Ctx} {e : Expr} {te te2 : TE} {t t2 : DE} (h : PD Y e te t) (e1 : te = te2) (e2 : t = t2) : PD Y e te2 t2 := by subst e1 e2; exact h
theorem pdts_cast {Y : Ctx} {e : List Expr} {te te2 : TT} {t t2 : DT} (h : PDTs Y e te t) (e1 : te = te2) (e2 : t = t2) : PDTs Y e te2 t2 := by subst e1 e2; exact h
theorem pdg_cast {Y : Ctx} {e : Expr} {te te2 : TG} {t t2 : DG} {vs : List Nat} (h : PDG Y e te t vs) (e1 : te = te2) (e2 : t = t2) : PDG Y e te2 t2 vs := by subst e1 e2; exact h
end PL
namespace PL
open PySem PySem.Spec PyProof.Rows L2
def rMulS : R2 := fun x y H Q => ∃ a n, x = .str a ∧ y = .int n ∧ n ≤ 1000000 ∧ -1000000 ≤ n ∧ a.length ≤ 16 ∧ Q (.str (Txt.mul a n)) H
theorem mulOk {a : Str} {n : Int} (h1 : n ≤ 1000000) (h2 : -1000000 ≤ n) (h3 : a.length ≤ 16) : MulOk a n := by
  refine ⟨by rw [decide_eq_false (by omega), decide_eq_false (by omega)]; rfl, fun h _ => ?_, fun h _ => ?_⟩
  · have : (2 ^ 63 - 1 : Int) / n ≥ (2 ^ 63 - 1) / 1000000 := by
      have a : (2 ^ 63 - 1 : Int) / 1000000 * n ≤ 2 ^ 63 - 1 := by
        have : (2 ^ 63 - 1 : Int) / 1000000 * n ≤ (2 ^ 63 - 1 : Int) / 1000000 * 1000000 := Int.mul_le_mul_of_nonneg_left h1 (by decide)
        exact Int.le_trans this (by decide)
      exact (Int.le_ediv_iff_mul_le (by omega)).mpr a
    have b : (16 : Int) ≤ (2 ^ 63 - 1) / 1000000 := by decide
    omega
  · have : a.length * n.toNat ≤ 16 * 1000000 := Nat.mul_le_mul h3 (by omega)
    unfold Builtin.Str.tooLong
    rw [sizeLine_eq]
    exact decide_eq_false (by omega)
theorem op_mulS {X : Cx} : OpR X (binaryOp .Mult) rMulS := by
  intro pins s σ H x y v u Q I rx ry h
  obtain ⟨a, n, rfl, rfl, h1, h2, h3, q⟩ := h
  obtain ⟨t, rfl⟩ := rx
  obtain ⟨t', rfl⟩ := ry
  exact SB.mul (mulOk h1 h2 h3) fun t' k => ⟨.str _, H, I.tok _, ⟨_, rfl⟩, q⟩
def aTimes (x : D) (y : D) (c : CN) (Q : QD) : Prop := match x, y with
  | .int i, .int j => CMul i j ∧ Q (.int (i * j)) c
  | .str a, .int n => n ≤ 1000000 ∧ -1000000 ≤ n ∧ a.length ≤ 16 ∧ Q (.str (Txt.mul a n)) c
  | .lst l, .int n => -(2 ^ 63) ≤ n ∧ n < 2 ^ 63 ∧ l.length * n.toNat ≤ 16777216 ∧ Q (.lst (List.replicate n.toNat l).flatten) c
  | .tup l, .int n => l ≠ [] ∧ 2 ≤ n ∧ n ≤ 1000 ∧ l.length ≤ 1000 ∧ Q (.tup (List.replicate n.toNat l).flatten) c
  | _, _ => False
def rTimes (K : PySem.W.Frag) : R2 := fun x y H Q => rI CMul (fun i j => V.int (i * j)) x y H Q ∨ rMulS x y H Q ∨ rRep x y H Q ∨ rRepT K x y H Q
theorem op_times {X : Cx} : OpR X (binaryOp .Mult) (rTimes X.K) := op_mul.or (op_mulS.or (op_rep.or op_repT))
theorem rep_rp {K : PySem.W.Frag} {G : GS K} {xs : List V} {ds : List D} (h : RpAll K G xs ds) : ∀ n : Nat, RpAll K G (List.replicate n xs).flatten (List.replicate n ds).flatten
  | 0 => .nil
  | n + 1 => by
    rw [List.replicate_succ, List.replicate_succ, List.flatten_cons, List.flatten_cons]
    exact h.append (rep_rp h n)
theorem br_times {K : PySem.W.Frag} : Br2 K (rTimes K) aTimes := fun G H c x y d e Qd Q ok rx ry q k => by
  unfold aTimes at q
  split at q
  · cases rx; cases ry
    exact .inl ⟨_, _, rfl, rfl, q.1, k _ _ G H c (Evo.refl ok) (.int _) q.2⟩
  · cases rx; cases ry
    obtain ⟨h1, h2, h3, q⟩ := q
    exact .inr (.inl ⟨_, _, rfl, rfl, h1, h2, h3, k _ _ G H c (Evo.refl ok) (.str _) q⟩)
  · cases ry
    obtain ⟨h1, h2, h3, q⟩ := q
    cases rx with
    | lst g1 g2 => exact .inr (.inr (.inl ⟨_, _, _, rfl, rfl, ok.same _ _ g1, h1, h2, by rw [g2.length, sizeLine_eq]; exact h3, fun p np => k _ _ _ _ c (Evo.laid ok _ np) (Rp.newLst ok np (rep_rp g2 _)) q⟩))
  · cases ry
    obtain ⟨h0, h1, h2, h3, q⟩ := q
    cases rx with
    | tup g1 g2 =>
      refine .inr (.inr (.inr ⟨_, _, _, rfl, rfl, SqT.same ok.same g1, fun e => h0 ?_, h1, h2, by rw [g2.length]; exact h3, fun p np => k _ _ _ _ c (Evo.laid ok _ np) (Rp.newTup ok np (rep_rp g2 _)) q⟩))
      subst e
      cases g2
      rfl
  · exact q.elim
def rSum2 (K : PySem.W.Frag) : R2 := fun x y H Q => rPlus K x y H Q ∨ rCat x y H Q
def aSum2 (x : D) (y : D) (c : CN) (Q : QD) : Prop := match x, y with
  | .int i, .int j => Q (.int (i + j)) c
  | .str i, .str j => i.length + j.length ≤ 16777216 ∧ Q (.str (i ++ j)) c
  | .tup l, .tup m => l.length + m.length ≤ 16777216 ∧ Q (.tup (l ++ m)) c
  | .lst l, .lst m => l.length + m.length ≤ 16777216 ∧ Q (.lst (l ++ m)) c
  | _, _ => False
theorem op_sum2 {X : Cx} : OpR X (binaryOp .Add) (rSum2 X.K) := op_plus.or op_cat
theorem br_sum2 {K : PySem.W.Frag} : Br2 K (rSum2 K) aSum2 := fun G H c x y d e Qd Q ok rx ry q k => by
  unfold aSum2 at q
  split at q
  · exact .inl (br_plus G H c x y _ _ Qd Q ok rx ry q k)
  · exact .inl (br_plus G H c x y _ _ Qd Q ok rx ry (by rw [← sizeLine_eq] at q; exact q) k)
  · exact .inl (br_plus G H c x y _ _ Qd Q ok rx ry (by rw [← sizeLine_eq] at q; exact q) k)
  · obtain ⟨h, q⟩ := q
    cases rx with
    | lst g1 g2 =>
      cases ry with
      | lst g3 g4 => exact .inr ⟨_, _, _, _, rfl, rfl, ok.same _ _ g1, ok.same _ _ g3, by rw [g2.length, g4.length, sizeLine_eq]; exact h, fun p np => k _ _ _ _ c (Evo.laid ok _ np) (Rp.newLst ok np (g2.append g4)) q⟩
  · exact q.elim
def rCut2 (K : PySem.W.Frag) : V → Option Int → Option Int → Hp → VK → Prop := fun x lo hi H Q => rCut K x lo hi H Q ∨ rSlS x lo hi H Q
def aSlice2 (x : D) (lo : Option Int) (hi : Option Int) (c : CN) (Q : QD) : Prop := match x with
  | .tup l => Q (.tup (cut l lo hi)) c
  | .lst l => Q (.lst (cut l lo hi)) c
  | .str z => z.length ≤ 16777216 ∧ Q (.str (cutS z lo hi)) c
  | _ => False
theorem sl_cut2 {X : Cx} : SlR X (rCut2 X.K) := sl_cut.or sl_str
theorem br_slice2 {K : PySem.W.Frag} : BrS K (rCut2 K) aSlice2 := fun G H c x d lo hi Qd Q ok rx q k => by
  unfold aSlice2 at q
  split at q
  · exact .inl (br_slice G H c x _ lo hi Qd Q ok rx q k)
  · exact .inl (br_slice G H c x _ lo hi Qd Q ok rx q k)
  · cases rx
    exact .inr ⟨_, rfl, by rw [sizeLine_eq]; exact q.1, k _ _ G H c (Evo.refl ok) (.str _) q.2⟩
  · exact q.elim
def flatD : D → Bool
  | .non => true
  | .bl _ => true
  | .int _ => true
  | .str _ => true
  | _ => false
theorem eqV_eqD {K : PySem.W.Frag} {G : GS K} {x y : V} {d e : D} (rx : Rp K G x d) (ry : Rp K G y e) (fd : flatD d = true) (fe : flatD e = true) : eqV x y = eqD d e := by
  cases d <;> cases fd <;> cases rx <;> cases e <;> cases fe <;> cases ry <;> first | rfl | (rename_i a b; cases a <;> simp [eqV, eqD, b2n]; done) | (rename_i a b; cases b <;> simp [eqV, eqD, b2n]; done)
theorem flat_V {K : PySem.W.Frag} {G : GS K} {x : V} {d : D} (rx : Rp K G x d) (fd : flatD d = true) : flatV x = true := by
  cases d <;> cases fd <;> cases rx <;> rfl
theorem inV_D {K : PySem.W.Frag} {G : GS K} {x : V} {d : D} (rx : Rp K G x d) (fd : flatD d = true) : ∀ {xs : List V} {ds : List D}, RpAll K G xs ds → ds.all flatD = true → xs.all flatV = true ∧ inV x xs = ds.any fun e => eqD e d
  | _, _, .nil, _ => ⟨rfl, rfl⟩
  | _, _, .cons r h, f => by
    rw [List.all_cons, Bool.and_eq_true] at f
    obtain ⟨h1, h2⟩ := inV_D rx fd h f.2
    refine ⟨by rw [List.all_cons, flat_V r f.1, h1]; rfl, ?_⟩
    unfold inV at h2 ⊢
    rw [List.any_cons, List.any_cons, h2, eqV_eqD r rx f.1 fd]
def rInA (K : PySem.W.Frag) : R2 := fun x y H Q => rIn K false x y H Q ∨ (∃ (c : Nat) (z : Str), x = .str ⟨#[c]⟩ ∧ y = .str z ∧ Q (.bl (decide (c ∈ z.cps.toList))) H) ∨ rInD K x y H Q
def rNotInA (K : PySem.W.Frag) : R2 := fun x y H Q => rIn K true x y H Q ∨ (∃ (c : Nat) (z : Str), x = .str ⟨#[c]⟩ ∧ y = .str z ∧ Q (.bl (!decide (c ∈ z.cps.toList))) H) ∨ rNotInD K x y H Q
def aIn (ng : Bool) (x : D) (y : D) (c : CN) (Q : QD) : Prop := match y with
  | .str z => ∃ c0, x = .str ⟨#[c0]⟩ ∧ Q (.bl (ng != decide (c0 ∈ z.cps.toList))) c
  | .tup l => flatD x = true ∧ l.all flatD = true ∧ Q (.bl (ng != l.any fun e => eqD e x)) c
  | .lst l => (Pl 60 x ∧ Pl 60 (.lst l)) ∧ Q (.bl (ng != l.any fun e => eqD e x)) c
  | _ => False
theorem op_inA {X : Cx} (hu : X.A.units + 65 < cLine) : OpR X (compareOp .In) (rInA X.K) := op_in_seq.or (op_in_sign.or (op_inD hu))
theorem op_notInA {X : Cx} (hu : X.A.units + 65 < cLine) : OpR X (compareOp .NotIn) (rNotInA X.K) := op_notIn_seq.or (op_notIn_sign.or (op_notInD hu))
theorem any_eqv {x : D} {p : PyData} (hx : toP x = some p) : ∀ {l : List D} {ps : List PyData}, toPs l = some ps → (ps.any fun z => PyData.eqv z p) = l.any fun e => eqD e x
  | [], ps, e => by unfold toPs at e; cases e; rfl
  | d :: l, ps, e => by
    unfold toPs at e
    obtain ⟨p2, e1, e2⟩ := Option.bind_eq_some_iff.mp e
    obtain ⟨r, e3, rfl⟩ := Option.map_eq_some_iff.mp e2
    rw [List.any_cons, List.any_cons, eqv_eqD d x e1 hx, any_eqv hx e3]
theorem in_lst {K : PySem.W.Frag} {G : GS K} {H : Hp} {c : CN} {x y : V} {d : D} {l : List D} (ok : G.Ok H c) (rx : Rp K G x d) (ry : Rp K G y (.lst l)) (h1 : Pl 60 d) (h2 : Pl 60 (.lst l)) :
    ∃ p ps, Dp K H x p ∧ Dp K H y (.list ps) ∧ SeqAt.shaped p = true ∧ SeqAt.shaped (.list ps) = true ∧ (ps.any fun z => PyData.eqv z p) = l.any fun e => eqD e d := by
  obtain ⟨p, hp, sp⟩ := h1.plain
  obtain ⟨q, hq, sq⟩ := h2.plain
  have hq' := hq
  unfold toP at hq'
  obtain ⟨ps, e1, rfl⟩ := Option.map_eq_some_iff.mp hq'
  exact ⟨p, ps, dp_of ok.same hp rx, dp_of ok.same hq ry, sp, sq, any_eqv hp e1⟩
theorem br_inA {K : PySem.W.Frag} : Br2 K (rInA K) (aIn false) := fun G H c x y d e Qd Q ok rx ry q k => by
  unfold aIn at q
  split at q
  · obtain ⟨c0, rfl, q⟩ := q
    cases rx; cases ry
    exact .inr (.inl ⟨_, _, rfl, rfl, k _ _ G H c (Evo.refl ok) (.bl _) (by simpa using q)⟩)
  · obtain ⟨h1, h2, q⟩ := q
    cases ry with
    | tup g1 g2 =>
      obtain ⟨a1, a2⟩ := inV_D rx h1 g2 h2
      refine .inl ⟨_, _, rfl, .inr (SqT.same ok.same g1), flat_V rx h1, a1, ?_⟩
      rw [if_neg (by decide), a2]
      exact k _ _ G H c (Evo.refl ok) (.bl _) (by simpa using q)
  · obtain ⟨⟨h1, h2⟩, q⟩ := q
    obtain ⟨p, ps, b1, b2, b3, b4, b5⟩ := in_lst ok rx ry h1 h2
    refine .inr (.inr ⟨p, ps, b1, b2, b3, b4, ?_⟩)
    rw [b5]
    exact k _ _ G H c (Evo.refl ok) (.bl _) (by simpa using q)
  · exact q.elim
theorem br_notInA {K : PySem.W.Frag} : Br2 K (rNotInA K) (aIn true) := fun G H c x y d e Qd Q ok rx ry q k => by
  unfold aIn at q
  split at q
  · obtain ⟨c0, rfl, q⟩ := q
    cases rx; cases ry
    exact .inr (.inl ⟨_, _, rfl, rfl, k _ _ G H c (Evo.refl ok) (.bl _) (by simpa using q)⟩)
  · obtain ⟨h1, h2, q⟩ := q
    cases ry with
    | tup g1 g2 =>
      obtain ⟨a1, a2⟩ := inV_D rx h1 g2 h2
      refine .inl ⟨_, _, rfl, .inr (SqT.same ok.same g1), flat_V rx h1, a1, ?_⟩
      rw [if_pos rfl, a2]
      exact k _ _ G H c (Evo.refl ok) (.bl _) (by simpa using q)
  · obtain ⟨⟨h1, h2⟩, q⟩ := q
    obtain ⟨p, ps, b1, b2, b3, b4, b5⟩ := in_lst ok rx ry h1 h2
    refine .inr (.inr ⟨p, ps, b1, b2, b3, b4, ?_⟩)
    rw [b5]
    exact k _ _ G H c (Evo.refl ok) (.bl _) (by simpa using q)
  · exact q.elim
section
variable {Y : Ctx} {a b : Expr} {ea eb : TE} {ta tb : DE} {pos p2 : Pos} {lo hi : Option Expr} {el eh : TO} {tl th : DO} {k : Nat}
theorem pd_times (ha : PD Y a ea ta) (hb : PD Y b eb tb) : PD Y (.BinOp a .Mult b pos) (tOp (rTimes Y.X.K) ea eb) (dOp aTimes ta tb) := pd_op op_times br_times ha hb
theorem pd_sum2 (ha : PD Y a ea ta) (hb : PD Y b eb tb) : PD Y (.BinOp a .Add b pos) (tOp (rSum2 Y.X.K) ea eb) (dOp aSum2 ta tb) := pd_op op_sum2 br_sum2 ha hb
theorem pd_part2 (ha : PD Y a ea ta) (hl : PDO Y lo el tl) (hu : PDO Y hi eh th) : PD Y (.Subscript a (.Slice lo hi none p2) pos) (tSl (rCut2 Y.X.K) ea el eh) (dSl aSlice2 ta tl th) := pd_slice sl_cut2 br_slice2 ha hl hu
theorem pdc_in (g : Y.Good k) (ha : PD Y a ea ta) (hb : PD Y b eb tb) : PDC Y .In a b (tOp (rInA Y.X.K) ea eb) (dOp (aIn false) ta tb) := pdc_op (op_inA (by have := g.room.un; omega)) br_inA ha hb
theorem pdc_notIn (g : Y.Good k) (ha : PD Y a ea ta) (hb : PD Y b eb tb) : PDC Y .NotIn a b (tOp (rNotInA Y.X.K) ea eb) (dOp (aIn true) ta tb) := pdc_op (op_notInA (by have := g.room.un; omega)) br_notInA ha hb
end
section
variable {a b : Int} {c : CN} {Q : QD} {x y : Str} {l m : List D} {d : D} {lo hi : Option Int} {ng : Bool}
theorem ev_tmI : aTimes (.int a) (.int b) c Q = (CMul a b ∧ Q (.int (a * b)) c) := propext Iff.rfl
theorem ev_tmS : aTimes (.str x) (.int b) c Q = (b ≤ 1000000 ∧ -1000000 ≤ b ∧ x.length ≤ 16 ∧ Q (.str (Txt.mul x b)) c) := propext Iff.rfl
theorem ev_tmL : aTimes (.lst l) (.int b) c Q = (-(2 ^ 63) ≤ b ∧ b < 2 ^ 63 ∧ l.length * b.toNat ≤ 16777216 ∧ Q (.lst (List.replicate b.toNat l).flatten) c) := propext Iff.rfl
theorem ev_tmT : aTimes (.tup l) (.int b) c Q = (l ≠ [] ∧ 2 ≤ b ∧ b ≤ 1000 ∧ l.length ≤ 1000 ∧ Q (.tup (List.replicate b.toNat l).flatten) c) := propext Iff.rfl
theorem ev_s2I : aSum2 (.int a) (.int b) c Q = Q (.int (a + b)) c := propext Iff.rfl
theorem ev_s2S : aSum2 (.str x) (.str y) c Q = (x.length + y.length ≤ 16777216 ∧ Q (.str (x ++ y)) c) := propext Iff.rfl
theorem ev_s2T : aSum2 (.tup l) (.tup m) c Q = (l.length + m.length ≤ 16777216 ∧ Q (.tup (l ++ m)) c) := propext Iff.rfl
theorem ev_s2L : aSum2 (.lst l) (.lst m) c Q = (l.length + m.length ≤ 16777216 ∧ Q (.lst (l ++ m)) c) := propext Iff.rfl
theorem ev_p2T : aSlice2 (.tup l) lo hi c Q = Q (.tup (cut l lo hi)) c := propext Iff.rfl
theorem ev_p2L : aSlice2 (.lst l) lo hi c Q = Q (.lst (cut l lo hi)) c := propext Iff.rfl
theorem ev_p2S : aSlice2 (.str x) lo hi c Q = (x.length ≤ 16777216 ∧ Q (.str (cutS x lo hi)) c) := propext Iff.rfl
theorem ev_inS {c0 : Nat} : aIn ng (.str ⟨#[c0]⟩) (.str x) c Q = Q (.bl (ng != decide (c0 ∈ x.cps.toList))) c := by
  apply propext; constructor
  · rintro ⟨c1, e, q⟩; cases e; exact q
  · intro q; exact ⟨c0, rfl, q⟩
theorem ev_inT : aIn ng d (.tup l) c Q = (flatD d = true ∧ l.all flatD = true ∧ Q (.bl (ng != l.any fun e => eqD e d)) c) := propext Iff.rfl
theorem ev_inL : aIn ng d (.lst l) c Q = ((Pl 60 d ∧ Pl 60 (.lst l)) ∧ Q (.bl (ng != l.any fun e => eqD e d)) c) := propext Iff.rfl
end
end PL
namespace PL
open PySem PySem.Spec PyProof.Rows L2
def olP (s : Option Sl) (P : List D → Prop) : Prop := ∃ l, s = some (.ol l) ∧ P l
theorem ev_olP {l : List D} {P : List D → Prop} : olP (some (.ol l)) P = P l := by simp [olP]
def hd1 (ds : List D) (P : D → Prop) : Prop := ∃ d, ds = [d] ∧ P d
theorem ev_hd1 {d : D} {P : D → Prop} : hd1 [d] P = P d := by simp [hd1]
def sumP (ds : List D) (P : Int → Prop) : Prop := ∃ l ns, ds = [.lst l] ∧ intsD l = some ns ∧ P ns.sum
theorem sumP.mk {P : Int → Prop} {l : List D} {ns : List Int} (h : intsD l = some ns) (k : P ns.sum) : sumP [.lst l] P := ⟨l, ns, rfl, h, k⟩
def anyP (ds : List D) (P : Bool → Prop) : Prop := ∃ l bs, ds = [.lst l] ∧ bools l = some bs ∧ P (bs.any id)
theorem anyP.mk {P : Bool → Prop} {l : List D} {bs : List Bool} (h : bools l = some bs) (k : P (bs.any id)) : anyP [.lst l] P := ⟨l, bs, rfl, h, k⟩
def excP (x : D) (f : Str) (P : Addr → D → Prop) : Prop := ∃ C d, x = .exc C [f] [d] ∧ P C d
theorem ev_excP {C : Addr} {d : D} {f : Str} {P : Addr → D → Prop} : excP (.exc C [f] [d]) f P = P C d := by
  apply propext; constructor
  · rintro ⟨_, _, e, h⟩; cases e; exact h
  · exact fun h => ⟨_, _, rfl, h⟩
def dFldX1 (CS : Addr → Prop) (f : Str) (t : DE) : DE := fun ρ c Q => t ρ c fun x c1 => excP x f fun C d => CS C ∧ Q d c1
theorem pd_fldX1 {Y : Ctx} {CS : Addr → Prop} {e : Expr} {te : TE} {t : DE} {pos : Pos} {n : Str} (hC : ∀ C, CS C → XfC Y.X.K C ∧ PySem.W.findIn Y.X.K (.ref C) n = some none) (he : PD Y e te t) (hb : attributeBase e n Y.X.env (eval e Y.X.env) = eval e Y.X.env := by rfl) : PD Y (.Attribute e n pos) (tFldX Y.X.K n te) (dFldX1 CS n t) :=
  ⟨(pd_fldX he hb).p, fun G H c ρ σ Qd Q R q k => by
    refine he.s G H c ρ σ _ _ R q fun x v G1 H1 c1 ev r q => ?_
    obtain ⟨C, d, rfl, hc, q⟩ := q
    obtain ⟨T, hno⟩ := hC C hc
    cases r with
    | exc h1 h2 h3 h4 =>
      obtain ⟨u, hl, ru⟩ := fldD_rp (f := n) h3 h4 (show fldD n [n] [d] = some d by simp [fldD])
      rcases h2 with ⟨rfl, rfl⟩ | ⟨dd, rfl, ed⟩
      · cases hl
      · exact ⟨_, _, dd, _, u, rfl, ev.ok.same _ _ h1, T, hno, ev.ok.same _ _ ed, hl, k d u G1 H1 c1 ev ru q⟩⟩
section
variable {K : PySem.W.Frag} {IC : Addr → Prop} {i : Nat} {ρ : DEnv} {c : CN} {Q : QD} {DD : DEnds} {t : DA} {te : DE} {ta : DE} {st : DS} {x : D} {A B C : Addr} {f : Str} {ns : List Str} {es l : List D} {ED : DEnv → EDt} {rd : RD2} {b : Bool} {CS : Addr → Prop} {tc : DT} {k : String}
theorem ev_append : sAppend i t DD ρ c = olP ρ[i]? fun l => l.length < 16777216 ∧ t ρ c fun ds c1 => hd1 ds fun d => @Nx DD.nx (ρ.set i (.ol (l ++ [d]))) c1 := by rw [← sizeLine_eq]; rfl
theorem ev_freeze : sFreeze i st DD ρ c = olP ρ[i]? fun l => @Nx (st DD) (ρ.set i (.fz (.lst l))) c := propext Iff.rfl
theorem ev_raise : sRaise1 C f ED t DD ρ c = t ρ c fun ds c1 => hd1 ds fun d => ED ρ C [f] [d] c1 := propext Iff.rfl
theorem ev_fldX1 : dFldX1 CS f te ρ c Q = te ρ c fun x c1 => excP x f fun C d => CS C ∧ Q d c1 := propext Iff.rfl
theorem ev_sum : aSum l c Q = sumP l fun n => Q (.int n) c := by
  apply propext
  constructor
  · intro h
    unfold aSum at h
    split at h
    · obtain ⟨ns, e, q⟩ := h; exact ⟨_, ns, rfl, e, q⟩
    · exact h.elim
  · rintro ⟨l, ns, rfl, e, q⟩; exact ⟨ns, e, q⟩
theorem ev_anyB : bAny l c Q = anyP l fun b => Q (.bl b) c := propext Iff.rfl
def fzP (s : Option Sl) (P : D → Prop) : Prop := ∃ x, s = some (.fz x) ∧ P x
theorem ev_fzP {d : D} {P : D → Prop} : fzP (some (.fz d)) P = P d := by simp [fzP]
theorem ev_aug : sAug i te rd DD ρ c = fzP ρ[i]? fun x => te ρ c fun y c1 => rd x y c1 fun z c2 => @Nx DD.nx (ρ.set i (.fz z)) c2 := propext Iff.rfl
theorem isO_exc (hx : ExcC K A) (h : PySem.W.kitOne K (.ref A) (.ref B) = some b) : aIsO K IC [.exc A ns es, .cls B] c Q = Q (.bl b) c := by
  apply propext
  constructor
  · rintro ⟨t, b', ⟨_, rfl⟩, h', q⟩
    rw [h] at h'; cases h'; exact q
  · exact fun q => ⟨_, b, ⟨hx, rfl⟩, h, q⟩
theorem isO_ins (hx : IC A) (h : PySem.W.kitOne K (.ref A) (.ref B) = some b) : aIsO K IC [.ins A ns es, .cls B] c Q = Q (.bl b) c := by
  apply propext
  constructor
  · rintro ⟨t, b', ⟨_, rfl⟩, h', q⟩
    rw [h] at h'; cases h'; exact q
  · exact fun q => ⟨_, b, ⟨hx, rfl⟩, h, q⟩
theorem isO_kind (hx : kind x = some k) (h : PySem.W.kitOne K (.type k) (.ref B) = some b) : aIsO K IC [x, .cls B] c Q = Q (.bl b) c := by
  have e : ∀ t, typD K IC x t ↔ t = .type k := fun t => by
    cases x <;> first | (cases hx; done) | (simp only [kind, Option.some.injEq] at hx; subst hx; simp [typD, kind])
  apply propext
  constructor
  · rintro ⟨t, b', ht, h', q⟩
    rw [(e t).mp ht, h] at h'; cases h'; exact q
  · exact fun q => ⟨_, b, (e _).mpr rfl, h, q⟩
end
inductive Res where
  | ok (d : D)
  | er (C : Addr) (f : Str) (d : D)
def Res.to (r : Res) (c : CN) (Q : QD) (E : EDt) : Prop := match r with
  | .ok d => Q d c
  | .er C f d => E C [f] [d] c
end PL
namespace PySem.W
open PySem PySem.Spec PySem.Calls PyProof.Rows
section
variable {prog : Program} {w : World} {A : Around} {E : Value → Shared → Prop} {s : Shared} {K : Frag} {x C L f : Addr} {h₀ : Heap} {m : Str → Option Value} {ox : Obj} {od : Option Obj} {b tb : Value}
theorem on_bind (self : Value) : bindSpecial (.builtin "object.__ne__") self = pure (.builtin "object.__ne__", [self]) :=
  (Slot.of (T := "object") (name := "__ne__") (owner := "object") (n := "__ne__") (by rw [typeLookup_type, builtinLookup_eq_fast]; kernel_rfl) (by decide +kernel) (by decide +kernel) (by decide +kernel)
    (.inl (by decide +kernel)) (by rw [isSubtype_type]; kernel_rfl)).bind self
theorem one_own {Q : Fin → Shared → Prop} (hu : A.units < cLine) (X : K.In s.heap) (I : InstAt s.heap x ox C od) (hs : findIn K (.ref C) "__eq__" = some (some (.ref f))) (hf : isFn K (.ref f) = true)
    (h : wpAny (model prog w) A (call (.ref f) [.ref x, b]) (fun v s' => ∃ k, v = .bool k ∧ Q (.done (.ret (.bool (!k)))) s') E s) :
    wpAny (model prog w) A (Builtin.«object.__ne__» ⟨[.ref x, b], []⟩) Q E s := by
  unfold Builtin.«object.__ne__»
  repeat (first
    | with_reducible refine wpAny_cRoomFor hu ?_
    | (refine wpAny_bind (m := callSpecialIfBound? (.ref x) (Str.ofString "__eq__") [b])
        (ifBound_K X I hs hf (wpAny_mono h (fun r s' hr => by
          obtain ⟨k, rfl, hq⟩ := hr
          repeat (first | exact hq | exact wpAny_pure hq | exact wpAny_truthy_bool hq | (refine wpAny_bind (m := truthy (.bool _)) (wpAny_truthy_bool ?_)) | wp_step)) fun _ _ e => e)))
    | wp_step)
theorem ifBound_B {M : Model} {id : String} {args : List Value} {Q : Option Value → Shared → Prop} {name : Str} (X : K.In s.heap) (I : InstAt s.heap x ox C od) (hs : findIn K (.ref C) name = some (some (.builtin id))) (hb : bindSpecial (.builtin id) (.ref x) = pure (.builtin id, [.ref x]))
    (h : wpAny M A (call (.builtin id) (.ref x :: args)) (fun v => Q (some v)) E s) : wpAny M A (callSpecialIfBound? (.ref x) name args) Q E s := by
  simp only [callSpecialIfBound?, bindSpecialIfBound?]
  refine wpAny_holding (wpAny_bind (wpAny_bind (wpAny_bind (I.type.here ((looks_findIn X hs).here ?_)))))
  refine wpAny_bind (wpAny_askSetting (wpAny_ite ?_))
  have fin : wpAny M A (call (.builtin id) ([.ref x] ++ args) >>= fun v => pure (some v)) Q E s := wpAny_bind (wpAny_mono h (fun v s' h' => wpAny_pure h') fun _ _ h' => h')
  split
  · rw [hb]; exact wpAny_bind (wpAny_pure (wpAny_pure (by exact fin)))
  · rw [hb]; exact wpAny_tryCatch (wpAny_bind (wpAny_pure (wpAny_pure (by exact fin))))
theorem ne_K {Q : Value → Shared → Prop} (hu : A.units + 1 < cLine) (F : Fr h₀ L s.heap m) (X₀ : K.In h₀) (I : InstAt s.heap x ox C od) (hb : Looks (model prog w) s.heap (typeOf b) tb) (hn : notFirst K C tb = true)
    (hs : findIn K (.ref C) "__eq__" = some (some (.ref f))) (hf : isFn K (.ref f) = true) (hne : findIn K (.ref C) "__ne__" = some (some (.builtin "object.__ne__"))) (hso : subIn K (.ref C) (.type "object") = some true)
    (h : wpAny (model prog w) A.in1 (call (.ref f) [.ref x, b]) (fun v s' => ∃ k, v = .bool k ∧ Q (.bool (!k)) s') E s) : wpAny (model prog w) A (richCompare .NotEq (.ref x) b) Q E s := by
  have X := X₀.keeps F.keep
  have sub : Looks (model prog w) s.heap (isInstance (.ref x) (.type "object")) true := I.type.andThen (looks_subIn X hso)
  have one : wpAny (model prog w) A (tryCompare (.ref x) (cmpInfo .NotEq).2.1 b) (fun r s' => ∃ v, r = some v ∧ Q v s') E s := by
    unfold tryCompare
    refine wpAny_bind (ifBound_B X I hne (on_bind _) (wpAny_call (codeAny_call_builtin PySem.F.cmp_object.ne.plain PySem.F.cmpEntry_ne ?_)))
    refine @check_slot (model prog w) _ _ s "object.__ne__" "object" "__ne__" (.ref x) [b] [] _ PySem.F.cmpKind_ne PySem.F.cmpSplit_ne sub (PySem.F.cmpArgs_ne _ _) ?_
    refine one_own (A := A.in1) hu X I hs hf (wpAny_mono h (fun v s' hv => ?_) fun _ _ e => e)
    obtain ⟨k, rfl, hq⟩ := hv
    first | exact ⟨k, rfl, wpAny_pure ⟨_, rfl, hq⟩⟩ | exact ⟨k, rfl, ⟨_, rfl, hq⟩⟩ | exact ⟨k, rfl, wpAny_pure (wpAny_pure ⟨_, rfl, hq⟩)⟩
  unfold richCompare
  simp only [oneThing_ref]
  refine wpAny_holding (wpAny_bind (wpAny_cRoomFor (Nat.lt_of_succ_lt hu) ?_))
  refine wpAny_bind (I.type.here (wpAny_bind (hb.here ?_)))
  split
  · rename_i q
    have e : subIn K tb (.ref C) = some false := by
      rcases Bool.or_eq_true_iff.mp hn with e | e
      · rw [beq_iff_eq.mp e] at q; simp at q
      · exact beq_iff_eq.mp e
    refine wpAny_bind ((looks_subIn X e).here ?_)
    simp only [Bool.false_eq_true, if_false]
    refine wpAny_bind (wpAny_mono one (fun r s' z => ?_) fun _ _ e => e)
    obtain ⟨v, rfl, hq⟩ := z
    exact wpAny_pure hq
  · refine wpAny_bind (wpAny_pure ?_)
    simp only [Bool.false_eq_true, if_false]
    refine wpAny_bind (wpAny_mono one (fun r s' z => ?_) fun _ _ e => e)
    obtain ⟨v, rfl, hq⟩ := z
    exact wpAny_pure hq
end
end PySem.W
namespace PL
open PySem PySem.Spec PyProof.Rows L2
structure DCls (K : PySem.W.Frag) (mg : Str → Option Value) (x f : Str) (C fI : Addr) : Prop where
  m : mg x = some (.ref C)
  make : Mk K C fI
  cl : Cls K C
  no : NoAttr K C f
  ic : ICls K C
def spDI (K : PySem.W.Frag) (f : Str) : Sp := fun vs H Q _ => ∃ (a C dx : Addr) (y : V), vs = [.ref a, y] ∧ Cls K C ∧ NoAttr K C f ∧ H a = some (.ins C dx []) ∧ Q .non (upd H a (.ins C dx [(f, y)]))
section
variable {P : Program} {w : World} {K : PySem.W.Frag} {mg : Str → Option Value} {base : Heap} {x qual p f : Str} {params : Arguments} {body : List Stmt} {scope : Scope} {dvs : List V} {kws : List (Str × V)} {fI : Addr} {fd : FuncData} {CX : CXT}
theorem okDI (F : FunD K x qual params body scope dvs kws fI fd) (S : FnScope ["self", p] ["self", p] scope)
    (hb : ∀ cdv A outer s H E, PSs (cxOf CX P w K mg base ["self", p] qual scope fI cdv A outer s H E) body (sFld K (tVar 0) (tVar 1) f)) : FnOk P w K mg base CX 1 fI fd ["self", p] (spDI K f) := by
  refine F.ok S (fun vs H Q E h => ?_) fun cdv A outer s H vs Q E hr h => ?_
  · obtain ⟨a, C, dx, y, rfl, _⟩ := h; rfl
  · obtain ⟨a, C, dx, y, rfl, cl, no, e, k⟩ := h
    exact ⟨_, hb cdv A outer s H E, y, rfl, .ref a, rfl, a, C, dx, [], rfl, e, cl, no, by simp, k⟩
end
theorem noE {X : Cx} {P : Program} {w : World} : Passes (L2.CX P w) X fun _ _ _ => False := fun _ _ _ _ _ _ _ ⟨_, _, _, _, _, _, _, _, _, _, _, _, z⟩ => z.elim
def insP (C : Addr) (f : Str) (x : D) (P : D → Prop) : Prop := ∃ ns es d, x = .ins C ns es ∧ fldD f ns es = some d ∧ P d
def isIP (C : Addr) (x : D) : Prop := ∃ ns es, x = .ins C ns es
theorem ev_insP {C : Addr} {f : Str} {d : D} {P : D → Prop} : insP C f (.ins C [f] [d]) P = P d := by
  apply propext; constructor
  · rintro ⟨_, _, d', e, h, q⟩
    cases e
    simp only [fldD, if_pos] at h
    cases h; exact q
  · exact fun h => ⟨_, _, _, rfl, by simp [fldD], h⟩
theorem ev_isIP {C : Addr} {ns : List Str} {es : List D} : isIP C (.ins C ns es) = True := eq_true ⟨_, _, rfl⟩
section
variable {Y : Ctx} {k : Nat} {C fI f gA p : Addr} {fd : FuncData} {x fn n m pn : Str} {ps ks : List Str} {e o a b : Expr} {es : List Expr} {kws : List Keyword} {te ta tb : TE} {de da db : DE} {ts tk : TA} {t dk : DA} {p0 pc pos apos : Pos} {sp : SpD} {dvs : List V} {dds : List D} {ds : List Value}
def dMake (C : Addr) (f : Str) (t : DA) : DE := fun ρ c Q => t ρ c fun ds c1 => hd1 ds fun d => Q (.ins C [f] [d]) c1
theorem make_sim {sp' : Sp} (hsp : sp' = spDI Y.X.K fn) (T : DCls Y.X.K Y.X.mg x fn C fI) (ha : SimA Y ts t) : SimE Y (tMake C sp' [] (fun _ _ _ => False) ts) (dMake C fn t) := by
  subst hsp
  intro G H c ρ σ Qd Q R q kk
  refine ha G H c ρ σ _ _ R q fun ds vs G1 H1 c1 ev rr ⟨d, ed, q⟩ a dx na nd ne => ?_
  subst ed
  cases rr with
  | @cons v _ _ _ r1 rr =>
    cases rr
    have e1 := Evo.laidU ev.ok (.own a) nd
    have na' : upd H1 dx (.own a) a = none := by rw [upd_ne (Ne.symm ne)]; exact na
    have e2 := Evo.laid e1.ok (.ins C dx [(fn, v)]) na'
    have eH : upd (upd (upd H1 dx (.own a)) a (.ins C dx [])) a (.ins C dx [(fn, v)]) = upd (upd H1 dx (.own a)) a (.ins C dx [(fn, v)]) := by
      funext b
      by_cases h : b = a
      · rw [h, upd_same, upd_same]
      · rw [upd_ne h, upd_ne h, upd_ne h]
    refine ⟨a, C, dx, v, rfl, T.cl, T.no, upd_same, rfl, ?_⟩
    rw [eH]
    exact kk (.ins C [fn] [d]) (.ref a) _ _ c1 ((ev.trans e1).trans e2) (.ins (fs := [(fn, v)]) upd_same rfl (.cons (r1.mono (e1.le.trans e2.le)) .nil)) q
theorem pd_make1 (g : Y.Good k) (h2 : 2 ≤ k) (T : DCls Y.X.K Y.X.mg x fn C fI) (F : FnOk Y.X.prog Y.X.w Y.X.K Y.X.mg Y.X.base (L2.CX Y.X.prog Y.X.w) 1 fI fd ["self", pn] (spDI Y.X.K fn)) (hb : Binds Y.X.K fd ["self", pn] []) (ha : PDA Y [e] ts t)
    (hg : Gl Y.X x := by rfl) (hdb : (x == ("__debug__" : Str)) = false := by decide) (he : starEach [e] Y.X.env = (false, eval e Y.X.env) :: starEach [] Y.X.env := by rfl) (hpl : (backTo pos (starEach [] Y.X.env)).any (·.1) = false := by rfl) :
    PD Y (.Call (.Name x p0) [e] [] pos) (tMake C (spDI Y.X.K fn) [] (fun _ _ _ => False) ts) (dMake C fn t) :=
  ⟨pe_make T.make F (g.room.mono h2) hg T.m hb .nil noE ha.p hdb he hpl, make_sim rfl T ha.s⟩
def dFldI (C : Addr) (f : Str) (t : DE) : DE := fun ρ c Q => t ρ c fun x c1 => insP C f x fun d => Q d c1
theorem pd_fldI (cl : Cls Y.X.K C) (no : NoAttr Y.X.K C fn) (he : PD Y e te de) (hb : attributeBase e fn Y.X.env (eval e Y.X.env) = eval e Y.X.env := by rfl) : PD Y (.Attribute e fn pos) (tFld Y.X.K te fn) (dFldI C fn de) :=
  ⟨pe_fld he.p hb, fun G H c ρ σ Qd Q R q kk => he.s G H c ρ σ _ _ R q fun x v G1 H1 c1 ev r ⟨ns, es, d, ex, hf, q⟩ => by
    subst ex
    cases r with
    | ins h1 h2 h3 =>
      obtain ⟨u, hl, ru⟩ := fldD_rp h2 h3 hf
      exact ⟨_, C, _, _, u, rfl, ev.ok.same _ _ h1, cl, no, hl, kk d u G1 H1 c1 ev ru q⟩⟩
def dProp (C : Addr) (sp : SpD) (t : DE) : DE := fun ρ c Q => t ρ c fun x c1 => isIP C x ∧ @Run sp [x] c1 Q (fun _ _ _ _ => False)
theorem pd_prop (g : Y.Good (k + 1)) (cl : Cls Y.X.K C) (hp : PropOf Y.X.K C fn p gA) (F : FnOk Y.X.prog Y.X.w Y.X.K Y.X.mg Y.X.base (L2.CX Y.X.prog Y.X.w) k gA fd ["self"] (spOf Y.X.K sp)) (hb : Binds Y.X.K fd ["self"] []) (he : PD Y e te de)
    (hab : attributeBase e fn Y.X.env (eval e Y.X.env) = eval e Y.X.env := by rfl) : PD Y (.Attribute e fn pos) (tProp C (spOf Y.X.K sp) [] (fun _ _ _ => False) te) (dProp C sp de) :=
  ⟨pe_prop he.p cl hp F g.room hb .nil noE hab, fun G H c ρ σ Qd Q R q kk => he.s G H c ρ σ _ _ R q fun x v G1 H1 c1 ev r ⟨⟨ns, es, ex⟩, q⟩ => by
    subst ex
    cases r with
    | ins h1 h2 h3 =>
      exact ⟨_, _, _, rfl, ev.ok.same _ _ h1, G1, c1, [.ins C ns es], Qd, fun _ _ _ _ => False, ev.ok, .cons (.ins h1 h2 h3) .nil, q, fun d v G' H' c' e' r' q' => kk d v G' H' c' (ev.trans e') r' q', fun _ _ _ _ _ _ _ _ _ z => z⟩⟩
end
section
variable {X : Cx} {CX : CXT} {k : Nat} {f C : Addr} {fd : FuncData} {ps : List Str} {sp : Sp} {dvs : List V} {ds : List Value} {E : L2.St → XK} {x m : Str} {p pos apos : Pos} {e o : Expr} {es : List Expr} {ta : TE} {t tk : TA} {ks : List Str} {kws : List Keyword} {g : List Value → List Value → List Value} {gV : List V → List V → List V}
def tMethE (C : Addr) (m : Str) (sp : Sp) (dvs : List V) (E : L2.St → XK) (ta : TE) (t : TA) : TE := fun σ H Q => ta σ H fun x H1 => ∃ a dx fs, x = .ref a ∧ H1 a = some (.ins C dx fs) ∧ fs.lookup m = none ∧
  t σ H1 fun vs H2 => sp (x :: (vs ++ dvs)) H2 Q (E σ)
theorem pe_methE {pl : Sem Bool} (he : PE X o ta) (c : Cls X.K C) (hm : Meth X.K C m f) (F : FnOk X.prog X.w X.K X.mg X.base CX k f fd ps sp) (hr : Room k X.A) (hb : Binds X.K fd ps ds) (hd : Vals dvs ds) (hx : ∀ σ, PassesAt CX X σ (E σ)) (ha : PA X (e :: es) t)
    (hst : starEach (e :: es) X.env = (false, eval e X.env) :: starEach es X.env := by rfl) (hpl : (backTo pos (starEach es X.env)).any (·.1) = false := by rfl)
    (ht : eval (.Call (.Attribute o m apos) (e :: es) [] pos) X.env = (do
      let ov ← eval o X.env
      standAt apos.atName
      let (f, first) ← holding [ov] (getMethod ov m pl)
      callWith pos f first (backTo pos (starEach (e :: es) X.env)) (backToKw pos (keywordEach [] X.env))) := by rfl) :
    PE X (.Call (.Attribute o m apos) (e :: es) [] pos) (tMethE C m sp dvs E ta t) := by
  refine ⟨fun pins s σ H Q I h => ?_⟩
  refine PySem.W.methodCall_KW (pl := pl) (thn (he.run pins s σ H _ I h) fun u s1 ⟨x, H1, I1, rx, a, dx, fs, ex, ea, l, q⟩ => ?_) ht
  subst ex
  obtain rfl : u = Value.ref a := rx
  refine getmeth_ok I1 ea c hm l ?_
  refine PySem.W.callWith_K (first := [.ref a]) (h₀ := X.base) I.ok.mod.kin hm.kp (thn (ha.run pos pins s1 σ H1 _ I1 q) fun us s2 ⟨vs, H2, I2, r, q2⟩ => ⟨I2.kIn, ?_⟩) hst hpl
  exact at_pos (us := .ref a :: us) (vs := .ref a :: vs) F hr hb hd (hx σ) I2 (.cons rfl r) q2
theorem pe_meth0E {pl : Sem Bool} (he : PE X o ta) (c : Cls X.K C) (hm : Meth X.K C m f) (F : FnOk X.prog X.w X.K X.mg X.base CX k f fd ps sp) (hr : Room k X.A) (hb : Binds X.K fd ps ds) (hd : Vals dvs ds) (hx : ∀ σ, PassesAt CX X σ (E σ))
    (ht : eval (.Call (.Attribute o m apos) [] [] pos) X.env = (do
      let ov ← eval o X.env
      standAt apos.atName
      let (f, first) ← holding [ov] (getMethod ov m pl)
      callWith pos f first (backTo pos (starEach [] X.env)) (backToKw pos (keywordEach [] X.env))) := by rfl) :
    PE X (.Call (.Attribute o m apos) [] [] pos) (tMethE C m sp dvs E ta tNil) := by
  refine ⟨fun pins s σ H Q I h => ?_⟩
  refine PySem.W.methodCall_KW (pl := pl) (thn (he.run pins s σ H _ I h) fun u s1 ⟨x, H1, I1, rx, a, dx, fs, ex, ea, l, q⟩ => ?_) ht
  subst ex
  obtain rfl : u = Value.ref a := rx
  refine getmeth_ok I1 ea c hm l ?_
  exact PySem.W.callWith_K0 (first := [.ref a]) I1.kIn hm.kp (at_pos (us := [.ref a]) (vs := [.ref a]) F hr hb hd (hx σ) I1 (.cons rfl .nil) q)
end
section
variable {Y : Ctx} {k : Nat} {C f : Addr} {fd : FuncData} {m : Str} {ps ks : List Str} {e o : Expr} {es : List Expr} {kws : List Keyword} {te : TE} {de : DE} {fa fk : TA} {t tk : DA} {pos apos : Pos} {sp : SpD} {dvs : List V} {dds : List D} {pl : Sem Bool}
structure CalM (K : PySem.W.Frag) (C : Addr) (m : Str) (f : Addr) (fd : FuncData) (ps : List Str) (dvs : List V) : Prop where
  c : Cls K C
  m : Meth K C m f
  b : ∃ ds, Vals dvs ds ∧ Binds K fd ps ds
def noFP (C : Addr) (m : Str) (x : D) : Prop := ∃ ns es, x = .ins C ns es ∧ ns.contains m = false
theorem ev_noFP {ns : List Str} {es : List D} : noFP C m (.ins C ns es) = (ns.contains m = false) := by
  apply propext; constructor
  · rintro ⟨_, _, e, h⟩; cases e; exact h
  · exact fun h => ⟨_, _, rfl, h⟩
theorem lookup_nf {m : Str} : ∀ {fs : List (Str × V)}, (fs.map (·.1)).contains m = false → fs.lookup m = none
  | [], _ => rfl
  | (n, v) :: fs, h => by
    simp only [List.map_cons, List.contains_cons, Bool.or_eq_false_iff] at h
    rw [List.lookup_cons, h.1]
    exact lookup_nf h.2
def dMeth (C : Addr) (m : Str) (ED : DEnv → EDt) (sp : SpD) (dds : List D) (de : DE) (t : DA) : DE := fun ρ c Q => de ρ c fun x c1 => noFP C m x ∧ t ρ c1 fun ds c2 => @Run sp (x :: (ds ++ dds)) c2 Q (ED ρ)
theorem meth_sim (g : Y.Good k) (hd : ∀ G, RpAll Y.X.K G dvs dds) (he : SimE Y te de) (ha : SimA Y fa t) : SimE Y (tMethE C m (spOf Y.X.K sp) dvs Y.E te fa) (dMeth C m Y.ED sp dds de t) := fun G H c ρ σ Qd Q R q kk =>
  he G H c ρ σ _ _ R q fun x v G1 H1 c1 ev r ⟨⟨ns, es, ex, hn⟩, q⟩ => by
    subst ex
    cases r with
    | ins h1 h2 h3 =>
      refine ⟨_, _, _, rfl, ev.ok.same _ _ h1, lookup_nf (by rw [h2]; exact hn), ?_⟩
      exact ha G1 H1 c1 ρ σ _ _ (R.evo' ev) q fun ds vs G2 H2 c2 ev2 r2 q => ⟨G2, c2, .ins C ns es :: (ds ++ dds), Qd, Y.ED ρ, ev2.ok, .cons (Rp.mono ev2.le (.ins h1 h2 h3)) (r2.append (hd _)), q, fun d v G' H' c' e' r' q' => kk d v G' H' c' ((ev.trans ev2).trans e') r' q',
        fun C ns es dx G' H' c' e' r' q' => g.err ρ σ G H c R C ns es dx G' H' c' ((ev.trans ev2).trans e') r' q'⟩
theorem pd_meth (g : Y.Good k) (F : FnOk Y.X.prog Y.X.w Y.X.K Y.X.mg Y.X.base (L2.CX Y.X.prog Y.X.w) k f fd ps (spOf Y.X.K sp)) (cm : CalM Y.X.K C m f fd ps dvs) (hdd : ∀ G, RpAll Y.X.K G dvs dds) (he : PD Y o te de) (ha : PDA Y (e :: es) fa t)
    (hst : starEach (e :: es) Y.X.env = (false, eval e Y.X.env) :: starEach es Y.X.env := by rfl) (hpl : (backTo pos (starEach es Y.X.env)).any (·.1) = false := by rfl)
    (ht : eval (.Call (.Attribute o m apos) (e :: es) [] pos) Y.X.env = (do
      let ov ← eval o Y.X.env
      standAt apos.atName
      let (f, first) ← holding [ov] (getMethod ov m pl)
      callWith pos f first (backTo pos (starEach (e :: es) Y.X.env)) (backToKw pos (keywordEach [] Y.X.env))) := by rfl) :
    PD Y (.Call (.Attribute o m apos) (e :: es) [] pos) (tMethE C m (spOf Y.X.K sp) dvs Y.E te fa) (dMeth C m Y.ED sp dds de t) := by
  obtain ⟨ds, hd, hb⟩ := cm.b
  exact ⟨pe_methE he.p cm.c cm.m F g.room hb hd g.pass ha.p hst hpl ht, meth_sim g hdd he.s ha.s⟩
theorem pd_meth0 (g : Y.Good k) (F : FnOk Y.X.prog Y.X.w Y.X.K Y.X.mg Y.X.base (L2.CX Y.X.prog Y.X.w) k f fd ps (spOf Y.X.K sp)) (cm : CalM Y.X.K C m f fd ps dvs) (hdd : ∀ G, RpAll Y.X.K G dvs dds) (he : PD Y o te de)
    (ht : eval (.Call (.Attribute o m apos) [] [] pos) Y.X.env = (do
      let ov ← eval o Y.X.env
      standAt apos.atName
      let (f, first) ← holding [ov] (getMethod ov m pl)
      callWith pos f first (backTo pos (starEach [] Y.X.env)) (backToKw pos (keywordEach [] Y.X.env))) := by rfl) :
    PD Y (.Call (.Attribute o m apos) [] [] pos) (tMethE C m (spOf Y.X.K sp) dvs Y.E te tNil) (dMeth C m Y.ED sp dds de dNil) := by
  obtain ⟨ds, hd, hb⟩ := cm.b
  exact ⟨pe_meth0E he.p cm.c cm.m F g.room hb hd g.pass ht, meth_sim g hdd he.s pda_nil.s⟩
structure CalMK (K : PySem.W.Frag) (C : Addr) (m : Str) (f : Addr) (fd : FuncData) (ps : List Str) (ks : List Str) : Prop where
  c : Cls K C
  m : Meth K C m f
  b : ∃ g, KBn K fd ps 1 ks g (fun vs zs => vs ++ zs)
def dMethK (C : Addr) (m : Str) (ED : DEnv → EDt) (n : Nat) (sp : SpD) (de : DE) (t : DA) : DE := fun ρ c Q => de ρ c fun x c1 => noFP C m x ∧ t ρ c1 fun ds c2 => ds.length = n ∧ @Run sp (x :: ds) c2 Q (ED ρ)
end
end PL
namespace PL
open PySem PySem.Spec PyProof.Rows L2
theorem takesF {X : Cx} : Takes X fun _ _ _ _ => False := fun _ _ ⟨_, _, _, _, _, _, _, _, _, _, _, _, _, _, _, _, z⟩ => z.elim
section
variable {X : Cx} {CX : CXT} {k : Nat} {f C : Addr} {fd : FuncData} {ps : List Str} {sp : Sp} {E : L2.St → XK} {a b : Expr} {pos : Pos} {ta tb : TE} {op : Operator} {cop : CmpOp}
def OpRS (X : Cx) (f : Value → Value → Sem Value) (r : L2.St → R2) : Prop := ∀ (pins : List (Addr × Obj)) (s : Shared) (σ : L2.St) (H : Hp) (x y : V) (v u : Value) (Q : VK), L2.Inv X pins σ H s → RelV x v → RelV y u → r σ x y H Q → wpAny (model X.prog X.w) X.A (f v u) (EP X pins σ Q) X.xe s
def tOpS (r : L2.St → R2) (ta tb : TE) : TE := fun σ H Q => ta σ H fun x H1 => tb σ H1 fun y H2 => r σ x y H2 Q
theorem OpRS.of {g : Value → Value → Sem Value} {r : R2} (h : OpR X g r) : OpRS X g fun _ => r := fun pins s σ H x y v u Q I rx ry q => h pins s σ H x y v u Q I rx ry q
theorem OpRS.or {g : Value → Value → Sem Value} {r r' : L2.St → R2} (h : OpRS X g r) (h' : OpRS X g r') : OpRS X g fun σ x y H Q => r σ x y H Q ∨ r' σ x y H Q := fun pins s σ H x y v u Q I rx ry q =>
  q.elim (fun q => h pins s σ H x y v u Q I rx ry q) fun q => h' pins s σ H x y v u Q I rx ry q
theorem pe_opS {r : L2.St → R2} (ho : OpRS X (binaryOp op) r) (ha : PE X a ta) (hb : PE X b tb) : PE X (.BinOp a op b pos) (tOpS r ta tb) :=
  ⟨fun pins s σ H Q I h => wpAny_BinOp (binT ha hb I h fun v u s2 x y H2 I2 rx ry q => ho pins s2 σ H2 x y v u Q I2 rx ry q)⟩
def rBinO (C : Addr) (sp : Sp) (E : L2.St → XK) : L2.St → R2 := fun σ x y H Q => ∃ a dx fs b dy gs, x = .ref a ∧ y = .ref b ∧ H a = some (.ins C dx fs) ∧ H b = some (.ins C dy gs) ∧ sp [x, y] H Q (E σ)
theorem op_binO (h1 : PySem.W.selfFirst X.K C = true) (hs : PySem.W.findIn X.K (.ref C) (PySem.dunder op.info.2) = some (some (.ref f))) (hf : PySem.W.isFn X.K (.ref f) = true) (F : FnOk X.prog X.w X.K X.mg X.base CX k f fd ps sp) (hr : Room k X.A) (hb : Binds X.K fd ps [])
    (hx : ∀ σ, PassesAt CX X σ (E σ)) : OpRS X (binaryOp op) (rBinO C sp E) := by
  intro pins s σ H x y v u Q I rx ry h
  obtain ⟨a, dx, fs, b, dy, gs, rfl, rfl, ha, hb', q⟩ := h
  cases (show v = Value.ref a from rx)
  cases (show u = Value.ref b from ry)
  obtain ⟨mA, O, _⟩ := ins_get I.hok ha
  obtain ⟨mB, O2, _⟩ := ins_get I.hok hb'
  obtain ⟨od, J, _⟩ := O.look
  obtain ⟨od', J', _⟩ := O2.look
  obtain ⟨m, hF⟩ := I.fr
  refine PySem.W.binop_K hF I.ok.mod.kin J J'.type h1 hs hf (wpAny_mono (at_pos (us := [.ref a, .ref b]) (vs := [.ref a, .ref b]) (dvs := []) F hr hb .nil (hx σ) I (.cons rfl (.cons rfl .nil)) (by rw [List.append_nil]; exact q)) (fun w s' z => ?_) fun _ _ x => x)
  obtain ⟨z', H', I', rz, qz⟩ := z
  exact SlX.cmpback rz ⟨z', H', I', rz, qz⟩
def rEqO (K : PySem.W.Frag) (C : Addr) (ng : Bool) (sp : Sp) (E : L2.St → XK) : L2.St → R2 := fun σ x y H Q => ∃ a dx fs t, x = .ref a ∧ H a = some (.ins C dx fs) ∧ TyX K H y t ∧ PySem.W.notFirst K C t = true ∧ sp [x, y] H (fun v H' => ∃ b, v = .bl b ∧ Q (.bl (ng != b)) H') (E σ)
theorem op_eqO (hs : PySem.W.findIn X.K (.ref C) "__eq__" = some (some (.ref f))) (hf : PySem.W.isFn X.K (.ref f) = true) (F : FnOk X.prog X.w X.K X.mg X.base CX k f fd ps sp) (hr : Room k X.A) (hb : Binds X.K fd ps [])
    (hx : ∀ σ, PassesAt CX X σ (E σ)) : OpRS X (compareOp .Eq) (rEqO X.K C false sp E) := by
  intro pins s σ H x y v u Q I rx ry h
  obtain ⟨a, dx, fs, t, rfl, ha, ty, hn, q⟩ := h
  cases (show v = Value.ref a from rx)
  obtain ⟨mA, O, _⟩ := ins_get I.hok ha
  obtain ⟨od, J, _⟩ := O.look
  obtain ⟨m, hF⟩ := I.fr
  obtain ⟨P, kx, hP, _⟩ := kit_of I ry ty
  show wpAny (model X.prog X.w) X.A (richCompare .Eq (.ref a) u) (EP X pins σ Q) X.xe s
  refine PySem.W.cmp_K (op := .Eq) hr.units0 hF I.ok.mod.kin J (kx.ty _ _ I.kIn hP) hn hs hf ?_
  refine wpAny_mono (at_pos (us := [.ref a, u]) (vs := [.ref a, y]) (dvs := []) F hr hb .nil (hx σ) I (.cons rfl (.cons ry .nil)) (by rw [List.append_nil]; exact q)) (fun w s' z => ?_) fun _ _ x => x
  obtain ⟨z', H', I', rz, b, ez, qz⟩ := z
  subst ez
  cases rz
  exact ⟨.bl b, H', I', rfl, by simpa using qz⟩
end
def Br2S (Y : Ctx) (r : L2.St → R2) (rd : DEnv → RD2) : Prop := ∀ G0 H0 c0 ρ σ G H c x y d e (Qd : QD) (Q : VK), Rel Y G0 H0 c0 ρ σ → Evo G0 H0 c0 G H c → Rp Y.X.K G x d → Rp Y.X.K G y e → rd ρ d e c Qd →
  (∀ d' v G' H' c', Evo G H c G' H' c' → Rp Y.X.K G' v d' → Qd d' c' → Q v H') → r σ x y H Q
theorem Br2S.of {Y : Ctx} {r : R2} {rd : RD2} (h : Br2 Y.X.K r rd) : Br2S Y (fun _ => r) fun _ => rd := fun _ _ _ _ _ G H c x y d e Qd Q _ ev rx ry q k => h G H c x y d e Qd Q ev.ok rx ry q k
def dOpS (rd : DEnv → RD2) (ta tb : DE) (ρ : DEnv) (c : CN) (Q : QD) : Prop := ta ρ c fun x c1 => tb ρ c1 fun y c2 => rd ρ x y c2 Q
section
variable {Y : Ctx} {k : Nat} {C f : Addr} {fd : FuncData} {ps : List Str} {a b : Expr} {ea eb : TE} {ta tb : DE} {pos : Pos} {sp : SpD} {op : Operator} {cop : CmpOp} {r : L2.St → R2} {rd : DEnv → RD2}
theorem two3 {G H c ρ σ} {Qd : QD} {Q : VK} (R : Rel Y G H c ρ σ) (ha : SimE Y ea ta) (hb : SimE Y eb tb) (br : Br2S Y r rd) (h : dOpS rd ta tb ρ c Qd) (kk : ∀ d v G' H' c', Evo G H c G' H' c' → Rp Y.X.K G' v d → Qd d c' → Q v H') : tOpS r ea eb σ H Q := by
  refine ha G H c ρ σ _ _ R h fun d v G1 H1 c1 e1 r1 q1 => ?_
  refine hb G1 H1 c1 ρ σ _ _ (R.evo' e1) q1 fun d2 v2 G2 H2 c2 e2 r2 q2 => ?_
  exact br G H c ρ σ G2 H2 c2 v v2 d d2 Qd Q R (e1.trans e2) (r1.mono e2.le) r2 q2 fun d' v G3 H3 c3 e3 r q => kk d' v G3 H3 c3 ((e1.trans e2).trans e3) r q
theorem pd_opS (ho : OpRS Y.X (binaryOp op) r) (br : Br2S Y r rd) (ha : PD Y a ea ta) (hb : PD Y b eb tb) : PD Y (.BinOp a op b pos) (tOpS r ea eb) (dOpS rd ta tb) :=
  ⟨pe_opS ho ha.p hb.p, fun G H c ρ σ Qd Q R h kk => two3 R ha.s hb.s br h kk⟩
theorem pdc_opS (ho : OpRS Y.X (compareOp cop) r) (br : Br2S Y r rd) (ha : PD Y a ea ta) (hb : PD Y b eb tb) : PDC Y cop a b (tOpS r ea eb) (dOpS rd ta tb) :=
  ⟨⟨fun pins s σ H Q I h => bin ha.p hb.p I h fun v u s2 x y H2 I2 r1 r2 q => ho pins s2 σ H2 x y v u Q I2 r1 r2 q⟩, fun G H c ρ σ Qd Q R h kk => two3 R ha.s hb.s br h kk⟩
def aBinO (C : Addr) (ED : DEnv → EDt) (sp : SpD) (r0 : RD2) (ρ : DEnv) (x y : D) (c : CN) (Q : QD) : Prop := match x with
  | .ins C' ns es => C' = C ∧ isIP C y ∧ @Run sp [.ins C' ns es, y] c Q (ED ρ)
  | x => r0 x y c Q
theorem br_binO {r0 : R2} {rd0 : RD2} (g : Y.Good k) (h0 : Br2 Y.X.K r0 rd0) : Br2S Y (fun σ x y H Q => r0 x y H Q ∨ rBinO C (spOf Y.X.K sp) Y.E σ x y H Q) (aBinO C Y.ED sp rd0) := by
  intro G0 H0 c0 ρ σ G H c x y d e Qd Q R ev rx ry q kk
  cases d with
  | ins C' ns es =>
    obtain ⟨rfl, ⟨ms, fs, rfl⟩, q⟩ := q
    cases rx with
    | ins h1 h2 h3 =>
      cases ry with
      | ins g1 g2 g3 =>
        exact .inr ⟨_, _, _, _, _, _, rfl, rfl, ev.ok.same _ _ h1, ev.ok.same _ _ g1, G, c, _, Qd, Y.ED ρ, ev.ok, .cons (.ins h1 h2 h3) (.cons (.ins g1 g2 g3) .nil), q, kk,
          fun C ns es dx G' H' c' e' r' q' => g.err ρ σ G0 H0 c0 R C ns es dx G' H' c' (ev.trans e') r' q'⟩
  | _ => exact .inl (h0 G H c x y _ e Qd Q ev.ok rx ry q kk)
def eqY (K : PySem.W.Frag) (C : Addr) (y : D) : Prop := isIP C y ∨ ∃ T, kind y = some T ∧ PySem.W.notFirst K C (.type T) = true
def aEqO (K : PySem.W.Frag) (C : Addr) (ng : Bool) (sp : SpD) (x y : D) (c : CN) (Q : QD) : Prop := match x with
  | .ins C' ns es => C' = C ∧ eqY K C y ∧ @Run sp [.ins C' ns es, y] c (fun v c' => @asB v fun b => Q (.bl (ng != b)) c') (fun _ _ _ _ => False)
  | x => Pl 60 x ∧ Pl 60 y ∧ Q (.bl (ng != eqD x y)) c
theorem br_eqO {r0 : R2} {rd0 : RD2} {ng : Bool} {E : L2.St → XK} (I : ICls Y.X.K C) (h0 : Br2 Y.X.K r0 rd0) (hrd : ∀ x y c Q, Pl 60 x ∧ Pl 60 y ∧ Q (.bl (ng != eqD x y)) c → rd0 x y c Q) : Br2S Y (fun σ x y H Q => r0 x y H Q ∨ rEqO Y.X.K C ng (spOf Y.X.K sp) E σ x y H Q) (fun _ => aEqO Y.X.K C ng sp) := by
  intro G0 H0 c0 ρ σ G H c x y d e Qd Q R ev rx ry q kk
  cases d with
  | ins C' ns es =>
    obtain ⟨rfl, hy, q⟩ := q
    cases rx with
    | ins h1 h2 h3 =>
      have ty : ∃ t, TyX Y.X.K H y t ∧ PySem.W.notFirst Y.X.K C' t = true := by
        rcases hy with ⟨ms, fs, rfl⟩ | ⟨T, hk, hn⟩
        · cases ry with
          | ins g1 g2 g3 => exact ⟨.ref C', .base (.ins (ev.ok.same _ _ g1) I.cl I.ha I.hn I.ht I.hm), by simp [PySem.W.notFirst]⟩
        · exact ⟨_, tyX_of ev.ok ry hk, hn⟩
      obtain ⟨t, ty, hn⟩ := ty
      refine .inr ⟨_, _, _, t, rfl, ev.ok.same _ _ h1, ty, hn, G, c, _, _, fun _ _ _ _ => False, ev.ok, .cons (.ins h1 h2 h3) (.cons ry .nil), q, ?_, fun _ _ _ _ _ _ _ _ _ z => z.elim⟩
      rintro d v G' H' c' ev' r' ⟨b, rfl, q'⟩
      cases r'
      exact ⟨b, rfl, kk _ _ G' H' c' ev' (.bl _) q'⟩
  | _ => exact .inl (h0 G H c x y _ e Qd Q ev.ok rx ry (hrd _ _ _ _ q) kk)
structure OpsC (K : PySem.W.Frag) (C : Addr) : Prop where
  sf : PySem.W.selfFirst K C = true
  ne : PySem.W.findIn K (.ref C) "__ne__" = some (some (.builtin "object.__ne__"))
  so : PySem.W.subIn K (.ref C) (.type "object") = some true
theorem pd_addO (g : Y.Good k) (O : OpsC Y.X.K C) (m : Meth Y.X.K C "__add__" f) (F : FnOk Y.X.prog Y.X.w Y.X.K Y.X.mg Y.X.base (L2.CX Y.X.prog Y.X.w) k f fd ps (spOf Y.X.K sp)) (hb : Binds Y.X.K fd ps []) (ha : PD Y a ea ta) (hb' : PD Y b eb tb) :
    PD Y (.BinOp a .Add b pos) (tOpS (fun σ x y H Q => rSum2 Y.X.K x y H Q ∨ rBinO C (spOf Y.X.K sp) Y.E σ x y H Q) ea eb) (dOpS (aBinO C Y.ED sp aSum2) ta tb) :=
  pd_opS ((OpRS.of op_sum2).or (op_binO O.sf m.at_ m.fn F g.room hb g.pass)) (br_binO g br_sum2) ha hb'
def aNone : RD2 := fun _ _ _ _ => False
theorem pd_orO (g : Y.Good k) (O : OpsC Y.X.K C) (m : Meth Y.X.K C "__or__" f) (F : FnOk Y.X.prog Y.X.w Y.X.K Y.X.mg Y.X.base (L2.CX Y.X.prog Y.X.w) k f fd ps (spOf Y.X.K sp)) (hb : Binds Y.X.K fd ps []) (ha : PD Y a ea ta) (hb' : PD Y b eb tb) :
    PD Y (.BinOp a .BitOr b pos) (tOpS (fun σ x y H Q => (fun _ _ _ _ => False : R2) x y H Q ∨ rBinO C (spOf Y.X.K sp) Y.E σ x y H Q) ea eb) (dOpS (aBinO C Y.ED sp aNone) ta tb) :=
  pd_opS ((OpRS.of (r := fun _ _ _ _ => False) fun _ _ _ _ _ _ _ _ _ _ _ _ h => h.elim).or (op_binO O.sf m.at_ m.fn F g.room hb g.pass)) (br_binO g (fun _ _ _ _ _ _ _ _ _ _ _ _ h _ => h)) ha hb'
theorem pdc_eqO (g : Y.Good (k + 1)) (I : ICls Y.X.K C) (m : Meth Y.X.K C "__eq__" f) (F : FnOk Y.X.prog Y.X.w Y.X.K Y.X.mg Y.X.base (L2.CX Y.X.prog Y.X.w) k f fd ps (spOf Y.X.K sp)) (hb : Binds Y.X.K fd ps []) (ha : PD Y a ea ta) (hb' : PD Y b eb tb) :
    PDC Y .Eq a b (tOpS (fun σ x y H Q => rEqD Y.X.K x y H Q ∨ rEqO Y.X.K C false (spOf Y.X.K sp) (fun _ _ _ _ => False) σ x y H Q) ea eb) (dOpS (fun _ => aEqO Y.X.K C false sp) ta tb) :=
  pdc_opS ((OpRS.of (op_eqD g.room.units)).or (op_eqO m.at_ m.fn F (g.room.mono (Nat.le_succ _)) hb fun σ => passAt takesF σ)) (br_eqO I br_eqD fun x y c Q h => by simpa [aEqD] using h) ha hb'
end
end PL
namespace PL
open PySem PySem.Spec PyProof.Rows L2
structure DefP where
  ad : PySem.W.Frag → Addr
  name : Str
  qual : Str
  params : Arguments
  body : List Stmt
  scope : Scope
  dfl : List He.Dv := []
  kwd : List (Str × He.Dv) := []
def fnP (K : PySem.W.Frag) (f : Addr) : He.FnW := match K.lookup f with
  | some ⟨_, _, .func fd, _⟩ => some (fd.name, fd.qualname, fd.params, fd.body, fd.scope, fd.globals, fd.closure, fd.builtins)
  | _ => none
def DefP.val (d : DefP) : He.FnW := some (d.name, d.qual, d.params, .stmts d.body, d.scope, mainGlobals, [], builtinsNs)
def DefP.dvs (K : PySem.W.Frag) (d : DefP) : List V := d.dfl.map (He.Dv.v K)
def DefP.kws (K : PySem.W.Frag) (d : DefP) : List (Str × V) := d.kwd.map fun q => (q.1, q.2.v K)
def DefP.ok (K : PySem.W.Frag) (d : DefP) : Bool := PySem.W.keepIn K (.ref (d.ad K)) && (match K.lookup (d.ad K) with
  | some ⟨_, _, .func fd, _⟩ => PySem.W.codeIn K fd.code d.qual && (He.dflB K fd.defaults (d.dvs K) && He.kwdB K fd.kwdefaults (d.kws K))
  | _ => false)
theorem DefP.funD {K : PySem.W.Frag} {d : DefP} (e : fnP K (d.ad K) = d.val) (c : d.ok K = true) : ∃ fd, FunD K d.name d.qual d.params d.body d.scope (d.dvs K) (d.kws K) (d.ad K) fd := by
  obtain ⟨kp, c2⟩ := He.ba c
  unfold fnP at e
  cases q : K.lookup (d.ad K) with
  | none => rw [q] at c2; cases c2
  | some o =>
    obtain ⟨oc, od, dt, osl⟩ := o
    rw [q] at c2 e
    cases dt with
    | func fd =>
      obtain ⟨n1, n2, n3, n4, n5, n6, n7, n8, n9, n10, n11, n12, n13, n14, n15⟩ := fd
      have e2 : (some (n1, n2, n3, n4, n5, n6, n7, n15) : He.FnW) = some (d.name, d.qual, d.params, .stmts d.body, d.scope, mainGlobals, [], builtinsNs) := e
      simp only [Option.some.injEq, Prod.mk.injEq] at e2
      obtain ⟨h1, h2, h3, h4, h5, h6, h7, h8⟩ := e2
      subst h1 h2 h3 h4 h5 h6 h7 h8
      have c3 : (PySem.W.codeIn K n13 d.qual && (He.dflB K n8 (d.dvs K) && He.kwdB K n9 (d.kws K))) = true := c2
      obtain ⟨k1, k2⟩ := He.ba c3
      obtain ⟨k3, k4⟩ := He.ba k2
      exact ⟨_, ⟨oc, od, n8, n9, n10, n11, n12, n13, n14, osl, rfl, q, k1, He.dflB_ok k3, He.kwdB_ok k4⟩, kp⟩
    | _ => cases c2
abbrev Looks' : Type := List (PySem.W.Frag → Bool)
abbrev AlP : Type := Bool × List He.FnW
def obsP (fn : List DefP) (ex : Looks') (K : PySem.W.Frag) : AlP := ((ex.all fun f => f K) && fn.all fun d => d.ok K, fn.map fun d => fnP K (d.ad K))
def valP (fn : List DefP) : AlP := (true, fn.map DefP.val)
def SaysP (fn : List DefP) (ex : Looks') (K : PySem.W.Frag) : Prop := obsP fn ex K = valP fn
section
variable {fn : List DefP} {ex : Looks'} {K : PySem.W.Frag}
theorem SaysP.look (c : SaysP fn ex K) (i : Nat) {f : PySem.W.Frag → Bool} (h : ex[i]? = some f := by rfl) : f K = true := by
  have c1 := (He.ba (show ((ex.all fun f => f K) && fn.all fun d => d.ok K) = true from congrArg (fun z : AlP => z.1) c)).1
  exact List.all_eq_true.mp c1 f (List.mem_of_getElem? h)
theorem SaysP.def_ (c : SaysP fn ex K) (i : Nat) {d : DefP} (h : fn[i]? = some d := by rfl) : ∃ fd, FunD K d.name d.qual d.params d.body d.scope (d.dvs K) (d.kws K) (d.ad K) fd := by
  have c2 := (He.ba (show ((ex.all fun f => f K) && fn.all fun d => d.ok K) = true from congrArg (fun z : AlP => z.1) c)).2
  have e : fn.map (fun d => fnP K (d.ad K)) = fn.map DefP.val := congrArg (fun z : AlP => z.2) c
  have e2 : (fn.map fun d => fnP K (d.ad K))[i]? = (fn.map DefP.val)[i]? := by rw [e]
  rw [List.getElem?_map, List.getElem?_map, h] at e2
  exact DefP.funD (Option.some.inj e2) (List.all_eq_true.mp c2 d (List.mem_of_getElem? h))
end
def ppA (K : PySem.W.Frag) (x f : Str) : Addr := He.ma K (He.ga K x) f
def pgA (K : PySem.W.Frag) (x f : Str) : Addr := match PySem.W.recIn K (ppA K x f) "property" with
  | some (.ref g :: _) => g
  | _ => 0
def propB (K : PySem.W.Frag) (x f : Str) : Bool := He.eqO (PySem.W.findIn K (.ref (He.ga K x)) f) (some (some (.ref (ppA K x f)))) && decide (PySem.W.specialIn K (.ref (ppA K x f)) "__get__" = some (some (.builtin "property.__get__"))) &&
  decide (PySem.W.takesIn K (.ref (ppA K x f)) = some true) && (match PySem.W.recIn K (ppA K x f) "property" with
    | some (.ref g :: _) => decide (g = pgA K x f)
    | _ => false)
theorem propB_ok {K : PySem.W.Frag} {x f : Str} (h : propB K x f = true) : PropOf K (He.ga K x) f (ppA K x f) (pgA K x f) := by
  simp only [propB, Bool.and_eq_true, decide_eq_true_eq] at h
  obtain ⟨⟨⟨h1, h2⟩, h3⟩, h4⟩ := h
  refine ⟨He.eqO_ok h1, h2, h3, ?_⟩
  split at h4
  · rename_i g r e
    exact ⟨r, by rw [e, of_decide_eq_true h4]⟩
  · cases h4
def iclsB (K : PySem.W.Frag) (x : Str) : Bool := (He.Fa.cls x).ok K && He.eqO (PySem.W.findIn K (.ref (He.ga K x)) "__class__") (some (some (.builtin "object.__class__"))) &&
  decide (PySem.W.specialIn K (.builtin "object.__class__") "__get__" = some (some (.builtin "getset_descriptor.__get__"))) && decide (PySem.W.takesIn K (.builtin "object.__class__") = some true) &&
  decide (PySem.W.mroIn K (He.ga K x) (.type "object") = some true) && basics.all fun T => decide (PySem.W.kitOne K (.ref (He.ga K x)) (.type T) = some false)
theorem iclsB_ok {K : PySem.W.Frag} {x : Str} (h : iclsB K x = true) : ICls K (He.ga K x) := by
  simp only [iclsB, Bool.and_eq_true, decide_eq_true_eq, List.all_eq_true] at h
  obtain ⟨⟨⟨⟨⟨h1, h2⟩, h3⟩, h4⟩, h5⟩, h6⟩ := h
  exact ⟨He.cls_ok h1, He.eqO_ok h2, h3, h4, h5, h6⟩
def dclsB (K : PySem.W.Frag) (x f : Str) : Bool := (He.Fa.glo x).ok K && (He.Fa.mkr x).ok K && (He.Fa.noat x f).ok K && iclsB K x
theorem dclsB_ok {K : PySem.W.Frag} {h : Heap} {mg : Str → Option Value} (X : K.In h) (G : h.Ns mainGlobals mg) {x f : Str} (q : dclsB K x f = true) : DCls K mg x f (He.ga K x) (He.ma K (He.ga K x) "__init__") := by
  simp only [dclsB, Bool.and_eq_true] at q
  obtain ⟨⟨⟨h1, h2⟩, h3⟩, h4⟩ := q
  exact ⟨He.glo_ok X G h1, He.mkr_ok h2, (iclsB_ok h4).cl, He.noat_ok h3, iclsB_ok h4⟩
def opsB (K : PySem.W.Frag) (x : Str) : Bool := PySem.W.selfFirst K (He.ga K x) && He.eqO (PySem.W.findIn K (.ref (He.ga K x)) "__ne__") (some (some (.builtin "object.__ne__"))) && decide (PySem.W.subIn K (.ref (He.ga K x)) (.type "object") = some true)
theorem opsB_ok {K : PySem.W.Frag} {x : Str} (h : opsB K x = true) : OpsC K (He.ga K x) := by
  simp only [opsB, Bool.and_eq_true, decide_eq_true_eq] at h
  exact ⟨h.1.1, He.eqO_ok h.1.2, h.2⟩
def kinds7 : List String := ["NoneType", "bool", "int", "str", "tuple", "list", "dict"]
theorem kind_7 {d : D} {k : String} (h : kind d = some k) : k ∈ kinds7 := by
  cases d <;> first | (cases h; done) | (cases h; simp [kinds7])
def ktB (K : PySem.W.Frag) (x : Str) : Bool := kinds7.all fun T => decide (PySem.W.kitOne K (.type T) (.ref (He.ga K x)) = some false)
theorem ktB_ok {K : PySem.W.Frag} {x : Str} (h : ktB K x = true) : ∀ T ∈ kinds7, PySem.W.kitOne K (.type T) (.ref (He.ga K x)) = some false := fun T hT => of_decide_eq_true (List.all_eq_true.mp h T hT)
def kxB (K : PySem.W.Frag) (x y : Str) (b : Bool) : Bool := decide (PySem.W.kitOne K (.ref (He.ga K x)) (.ref (He.ga K y)) = some b)
theorem kxB_ok {K : PySem.W.Frag} {x y : Str} {b : Bool} (h : kxB K x y b = true) : PySem.W.kitOne K (.ref (He.ga K x)) (.ref (He.ga K y)) = some b := of_decide_eq_true h
theorem isO_kd {K : PySem.W.Frag} {IC : Addr → Prop} {B : Addr} {x : D} {c : CN} {Q : QD} (hk : ∀ T ∈ kinds7, PySem.W.kitOne K (.type T) (.ref B) = some false) (hx : (kind x).isSome = true) : aIsO K IC [x, .cls B] c Q = Q (.bl false) c := by
  obtain ⟨k, hk2⟩ := Option.isSome_iff_exists.mp hx
  exact isO_kind hk2 (hk k (kind_7 hk2))
end PL
namespace PL
open PySem PySem.Spec PyProof.Rows L2
section
variable {Y : Ctx} {x y z : Str} {a b e : Expr} {ta : TA} {t : DA} {px py pz pt pos pt2 : Pos} {kt k2 k : Nat}
theorem pd_gint {i : Int} (hm : ∃ t, Y.X.mg x = some (.int i t)) (hg : Gl Y.X x := by rfl) (hd : (x == ("__debug__" : Str)) = false := by decide) : PD Y (.Name x pos) (tC (.int i)) (dC (.int i)) := by
  obtain ⟨t, hm⟩ := hm
  exact pd_glob hm ⟨t, rfl⟩ (fun _ => .int i) hg hd
theorem pd_gstr {i : Str} (hm : ∃ t, Y.X.mg x = some (.str i t)) (hg : Gl Y.X x := by rfl) (hd : (x == ("__debug__" : Str)) = false := by decide) : PD Y (.Name x pos) (tC (.str i)) (dC (.str i)) := by
  obtain ⟨t, hm⟩ := hm
  exact pd_glob hm ⟨t, rfl⟩ (fun _ => .str i) hg hd
def sPar (i j : Nat) (t : DA) : DS := fun DD ρ c => t ρ c fun ds c1 => ∃ d e, ds = [d, e] ∧ @Nx DD.nx ((ρ.set i (.fz d)).set j (.fz e)) c1
def twoP (ds : List D) (P : D → D → Prop) : Prop := ∃ d e, ds = [d, e] ∧ P d e
theorem ev_twoP {d e : D} {P : D → D → Prop} : twoP [d, e] P = P d e := by
  apply propext; constructor
  · rintro ⟨_, _, h, q⟩; cases h; exact q
  · exact fun q => ⟨_, _, rfl, q⟩
theorem ev_par {i j : Nat} {DD : DEnds} {ρ : DEnv} {c : CN} : sPar i j t DD ρ c = t ρ c fun ds c1 => twoP ds fun d e => @Nx DD.nx ((ρ.set i (.fz d)).set j (.fz e)) c1 := propext Iff.rfl
end
section
variable {C C' f : Addr} {ED : DEnv → EDt} {sp : SpD} {r0 : RD2} {ρ : DEnv} {x y : D} {c : CN} {Q : QD} {ns : List Str} {es l : List D} {i : Int} {s : Str} {b : Bool} {K : PySem.W.Frag} {ng : Bool} {ta tb : DE} {t : DA} {te : DE} {rd : DEnv → RD2} {m : Str} {dds : List D} {n : Nat} {fn : Str}
theorem ev_make : dMake C fn t ρ c Q = t ρ c fun ds c1 => hd1 ds fun d => Q (.ins C [fn] [d]) c1 := propext Iff.rfl
theorem ev_fldI : dFldI C fn te ρ c Q = te ρ c fun x c1 => insP C fn x fun d => Q d c1 := propext Iff.rfl
theorem ev_prop : dProp C sp te ρ c Q = te ρ c fun x c1 => isIP C x ∧ @Run sp [x] c1 Q (fun _ _ _ _ => False) := propext Iff.rfl
theorem ev_meth : dMeth C m ED sp dds te t ρ c Q = te ρ c fun x c1 => noFP C m x ∧ t ρ c1 fun ds c2 => @Run sp (x :: (ds ++ dds)) c2 Q (ED ρ) := propext Iff.rfl
theorem ev_methK : dMethK C m ED n sp te t ρ c Q = te ρ c fun x c1 => noFP C m x ∧ t ρ c1 fun ds c2 => ds.length = n ∧ @Run sp (x :: ds) c2 Q (ED ρ) := propext Iff.rfl
theorem ev_opS : dOpS rd ta tb ρ c Q = ta ρ c fun x c1 => tb ρ c1 fun y c2 => rd ρ x y c2 Q := propext Iff.rfl
theorem ev_binI : aBinO C ED sp r0 ρ (.ins C ns es) y c Q = (isIP C y ∧ @Run sp [.ins C ns es, y] c Q (ED ρ)) := by
  apply propext; constructor
  · exact fun h => h.2
  · exact fun h => ⟨rfl, h⟩
theorem ev_bin_i : aBinO C ED sp r0 ρ (.int i) y c Q = r0 (.int i) y c Q := propext Iff.rfl
theorem ev_bin_s : aBinO C ED sp r0 ρ (.str s) y c Q = r0 (.str s) y c Q := propext Iff.rfl
theorem ev_bin_t : aBinO C ED sp r0 ρ (.tup l) y c Q = r0 (.tup l) y c Q := propext Iff.rfl
theorem ev_bin_l : aBinO C ED sp r0 ρ (.lst l) y c Q = r0 (.lst l) y c Q := propext Iff.rfl
theorem ev_eqOI : aEqO K C ng sp (.ins C ns es) y c Q = (eqY K C y ∧ @Run sp [.ins C ns es, y] c (fun v c' => @asB v fun b => Q (.bl (ng != b)) c') (fun _ _ _ _ => False)) := by
  apply propext; constructor
  · exact fun h => h.2
  · exact fun h => ⟨rfl, h⟩
theorem ev_eqO_n : aEqO K C ng sp .non y c Q = (Pl 60 .non ∧ Pl 60 y ∧ Q (.bl (ng != eqD .non y)) c) := propext Iff.rfl
theorem ev_eqO_b : aEqO K C ng sp (.bl b) y c Q = (Pl 60 (.bl b) ∧ Pl 60 y ∧ Q (.bl (ng != eqD (.bl b) y)) c) := propext Iff.rfl
theorem ev_eqO_i : aEqO K C ng sp (.int i) y c Q = (Pl 60 (.int i) ∧ Pl 60 y ∧ Q (.bl (ng != eqD (.int i) y)) c) := propext Iff.rfl
theorem ev_eqO_s : aEqO K C ng sp (.str s) y c Q = (Pl 60 (.str s) ∧ Pl 60 y ∧ Q (.bl (ng != eqD (.str s) y)) c) := propext Iff.rfl
theorem ev_eqO_t : aEqO K C ng sp (.tup l) y c Q = (Pl 60 (.tup l) ∧ Pl 60 y ∧ Q (.bl (ng != eqD (.tup l) y)) c) := propext Iff.rfl
theorem ev_eqO_l : aEqO K C ng sp (.lst l) y c Q = (Pl 60 (.lst l) ∧ Pl 60 y ∧ Q (.bl (ng != eqD (.lst l) y)) c) := propext Iff.rfl
theorem eqY_ins : eqY K C (.ins C ns es) = True := eq_true (.inl ⟨_, _, rfl⟩)
end
theorem FnOk.no {P : Program} {w : World} {K : PySem.W.Frag} {mg : Str → Option Value} {base : Heap} {CX : CXT} {x qual : Str} {params : Arguments} {body : List Stmt} {scope : Scope} {dvs : List V} {kws : List (Str × V)} {f : Addr} {fd : FuncData} {N ps : List Str} {k : Nat} {sp : Sp}
    (F : FunD K x qual params body scope dvs kws f fd) (S : FnScope N ps scope) (h : ∀ vs H Q E, sp vs H Q E → False) : FnOk P w K mg base CX (k + 1) f fd ps sp :=
  F.ok S (fun vs H Q E q => (h _ _ _ _ q).elim) fun _ _ _ _ _ _ _ _ _ q => (h _ _ _ _ q).elim
theorem spOf_no {K : PySem.W.Frag} {sp : SpD} (h : ∀ ds c Q E, sp ds c Q E → False) : ∀ vs H Q E, spOf K sp vs H Q E → False := fun _ _ _ _ ⟨_, _, _, _, _, _, _, q, _⟩ => h _ _ _ _ q
end PL
namespace PL
open PySem PySem.Spec PyProof.Rows L2
def loOk : D → Int → Bool
  | .int l, i => decide (l ≤ i)
  | _, _ => true
def hiOk : D → Int → Bool
  | .int h, i => decide (i ≤ h)
  | _, _ => true
def isIntG : D → D → D → Bool
  | .int i, lo, hi => loOk lo i && hiOk hi i
  | _, _, _ => false
def isIntB (d : D) (lo : Int) : Bool := isIntG d (.int lo) .non
theorem isIntB_int {i lo : Int} : isIntB (.int i) lo = decide (lo ≤ i) := by simp [isIntB, isIntG, loOk, hiOk]
def bnd : D → Bool
  | .non => true
  | .int _ => true
  | _ => false
def lineOk : D → Bool
  | .tup [i, x] => isIntB i 0 && isStr x
  | _ => false
def badAt (k : Nat) : List D → Option Nat
  | [] => none
  | r :: l => if lineOk r then badAt (k + 1) l else some k
def firstOk : D → Bool
  | .tup (i :: _) => eqD i (.int 0)
  | _ => false
def check : D → D
  | .tup (r :: l) => match badAt 0 (r :: l) with
    | some k => .tup [.str "line", .int (k : Nat)]
    | none => match firstOk r with
      | true => .non
      | false => .tup [.str "first"]
  | _ => .tup [.str "form"]
theorem badAt_none : ∀ {l : List D} {k : Nat}, (∀ r, r ∈ l → lineOk r = true) → badAt k l = none
  | [], _, _ => rfl
  | r :: l, k, h => by rw [badAt, h r List.mem_cons_self, if_pos rfl]; exact badAt_none fun x hx => h x (List.mem_cons_of_mem _ hx)
theorem pl_nil {n : Nat} : Pl (n + 1) (.tup []) := fun d hd => nomatch hd
theorem pl_cons {n : Nat} {a : D} {l : List D} (h : Pl n a) (k : Pl (n + 1) (.tup l)) : Pl (n + 1) (.tup (a :: l)) := fun d hd => by
  rcases List.mem_cons.mp hd with rfl | hd
  · exact h
  · exact k d hd
theorem pl_lst {n : Nat} {l : List D} (k : Pl (n + 1) (.tup l)) : Pl (n + 1) (.lst l) := k
theorem pl_str {n : Nat} {x : Str} (h : (decide (x.length ≤ 1000) && PyData.strOk x) = true) : Pl n (.str x) := by
  simp only [Bool.and_eq_true, decide_eq_true_eq] at h
  cases n <;> exact h
theorem pl_int {n : Nat} {i : Int} : Pl n (.int i) := by cases n <;> trivial
theorem pl_bl {n : Nat} {i : Bool} : Pl n (.bl i) := by cases n <;> trivial
theorem pl_non {n : Nat} : Pl n .non := by cases n <;> trivial
def plB : Nat → D → Bool
  | _, .non => true
  | _, .bl _ => true
  | _, .int _ => true
  | _, .str x => decide (x.length ≤ 1000) && PyData.strOk x
  | n + 1, .tup l => l.attach.all fun ⟨d, _⟩ => plB n d
  | n + 1, .lst l => l.attach.all fun ⟨d, _⟩ => plB n d
  | _, _ => false
theorem plB_ok : ∀ {n : Nat} {d : D}, plB n d = true → Pl n d
  | n, .non, _ => pl_non
  | n, .bl b, _ => pl_bl
  | n, .int b, _ => pl_int
  | n, .str b, h => pl_str (by cases n <;> simpa [plB] using h)
  | n + 1, .tup l, h => fun d hd => plB_ok (by
    simp only [plB, List.all_eq_true, List.mem_attach, forall_const, Subtype.forall] at h
    exact h d hd)
  | n + 1, .lst l, h => fun d hd => plB_ok (by
    simp only [plB, List.all_eq_true, List.mem_attach, forall_const, Subtype.forall] at h
    exact h d hd)
  | 0, .tup l, h => by simp [plB] at h
  | 0, .lst l, h => by simp [plB] at h
  | n, .ty _, h => by cases n <;> simp [plB] at h
  | n, .cls _, h => by cases n <;> simp [plB] at h
  | n, .dct _ _, h => by cases n <;> simp [plB] at h
  | n, .ins _ _ _, h => by cases n <;> simp [plB] at h
  | n, .exc _ _ _, h => by cases n <;> simp [plB] at h
  | n, .opq, h => by cases n <;> simp [plB] at h
  | n, .mo _, h => by cases n <;> simp [plB] at h
  | n, .set _ _, h => by cases n <;> simp [plB] at h
  | n, .scr _, h => by cases n <;> simp [plB] at h
theorem kind_pl {n : Nat} {d : D} (h : Pl n d) : (kind d).isSome = true := by
  cases d <;> first | rfl | (cases n <;> exact h.elim)
mutual
theorem eqD_refl : ∀ {n : Nat} {d : D}, Pl n d → eqD d d = true
  | n, .non, _ => by simp [eqD]
  | n, .bl b, _ => by simp [eqD]
  | n, .int b, _ => by simp [eqD]
  | n, .str b, h => by simp [eqD]
  | n + 1, .tup l, h => by simp only [eqD]; exact eqDs_refl h
  | n + 1, .lst l, h => by simp only [eqD]; exact eqDs_refl h
  | 0, .tup l, h => h.elim
  | 0, .lst l, h => h.elim
  | n, .ty _, h => by cases n <;> exact h.elim
  | n, .cls _, h => by cases n <;> exact h.elim
  | n, .dct _ _, h => by cases n <;> exact h.elim
  | n, .ins _ _ _, h => by cases n <;> exact h.elim
  | n, .exc _ _ _, h => by cases n <;> exact h.elim
  | n, .opq, h => by cases n <;> exact h.elim
  | n, .mo _, h => by cases n <;> exact h.elim
  | n, .set _ _, h => by cases n <;> exact h.elim
  | n, .scr _, h => by cases n <;> exact h.elim
theorem eqDs_refl : ∀ {n : Nat} {l : List D}, (∀ d, d ∈ l → Pl n d) → eqDs l l = true
  | n, [], _ => by simp [eqDs]
  | n, d :: l, h => by simp only [eqDs, eqD_refl (h d List.mem_cons_self), eqDs_refl fun x hx => h x (List.mem_cons_of_mem _ hx)]; rfl
end
abbrev LRow := Int × Str
def encR (r : LRow) : D := .tup [.int r.1, .str r.2]
def encL (rows : List LRow) : D := .tup (rows.map encR)
def strS (x : Str) : Prop := x.length ≤ 1000 ∧ okStr x = true ∧ PyData.strOk x = true
structure LayOk (rows : List LRow) : Prop where
  ne : rows ≠ []
  first : ∀ r, rows[0]? = some r → r.1 = 0
  rows : ∀ r, r ∈ rows → 0 ≤ r.1 ∧ strS r.2
theorem encR_line {r : LRow} (h : 0 ≤ r.1 ∧ strS r.2) : lineOk (encR r) = true := by
  simp only [encR, lineOk, isIntB_int, isStr, h.2.2.1, Bool.and_true]
  exact decide_eq_true h.1
theorem pl_encR {r : LRow} (h : strS r.2) : Pl 1 (encR r) := pl_cons pl_int (pl_cons (pl_str (by simp [h.1, h.2.2])) pl_nil)
theorem LayOk.pl {rows : List LRow} (h : LayOk rows) : Pl 3 (encL rows) := fun d hd => by
  obtain ⟨r, hr, rfl⟩ := List.mem_map.mp hd
  exact (pl_encR (h.rows r hr).2).succ
theorem LayOk.check {rows : List LRow} (h : LayOk rows) : check (encL rows) = .non := by
  cases rows with
  | nil => exact absurd rfl h.ne
  | cons r l =>
    have e : badAt 0 (encR r :: l.map encR) = none := badAt_none fun x hx => by
      obtain ⟨q, hq, rfl⟩ := List.mem_map.mp (show x ∈ (r :: l).map encR from hx)
      exact encR_line (h.rows q hq)
    have e1 : firstOk (encR r) = true := by
      have := h.first r rfl
      simp [firstOk, encR, eqD, this]
    simp only [encL, List.map_cons, PL.check, e, e1]
theorem pick {P : D → Prop} {R : D → Prop} (m : List D) (hm : ∀ v, v ∈ m → P v) {j : Int} (j0 : 0 ≤ j) (j1 : j < m.length) (fin : ∀ v, P v → R v) : @atP (atI m j) R := by
  obtain ⟨v, hv, hv2⟩ := atI_lt j0 j1
  exact atP.mk hv (fin v (hm v hv2))
theorem intBits_small {n : Int} (h0 : 0 ≤ n) (h : n < 536870912) : Builtin.Int.intBits n < 30 := by
  unfold Builtin.Int.intBits
  split
  · decide
  · rename_i hn
    have hn' : n ≠ 0 := by simpa using hn
    have : n.natAbs.log2 < 29 := (Nat.log2_lt (by omega)).mpr (by omega)
    omega
end PL
namespace PL
end PL
namespace PL
open PySem PySem.Spec PyProof.Rows L2
theorem cut_1 {α : Type} (x : α) (l : List α) : cut (x :: l) (some 1) none = l := by rw [cut_from _ (by decide)]; rfl
end PL
namespace PL
open PySem PySem.Spec PyProof.Rows L2
def strSB (x : Str) : Bool := decide (x.length ≤ 1000) && okStr x && PyData.strOk x
theorem strSB_ok {x : Str} (h : strSB x = true) : strS x := by
  simp only [strSB, Bool.and_eq_true, decide_eq_true_eq] at h
  exact ⟨h.1.1, h.1.2, h.2⟩
theorem LayOk.one {x : Str} (h : strS x) : LayOk [(0, x)] := ⟨by simp, fun q hq => by cases hq; rfl, fun q hq => by
  rw [List.mem_singleton.mp hq]; exact ⟨Int.le_refl _, h⟩⟩
theorem LayOk.snoc {rows : List LRow} (h : LayOk rows) {r : LRow} (h0 : 0 ≤ r.1) (hs : strS r.2) : LayOk (rows ++ [r]) := by
  refine ⟨by simp, fun q hq => ?_, fun q hq => ?_⟩
  · cases rows with
    | nil => exact absurd rfl h.ne
    | cons x l => exact h.first q hq
  · rcases List.mem_append.mp hq with hq | hq
    · exact h.rows q hq
    · rw [List.mem_singleton.mp hq]; exact ⟨h0, hs⟩
end PL
namespace PL
end PL
namespace PL
open PySem PySem.Spec PyProof.Rows L2
theorem isO.exc {K : PySem.W.Frag} {IC : Addr → Prop} {A B : Addr} {b : Bool} {ns : List Str} {es : List D} {c : CN} {Q : QD} (hx : ExcC K A) (h : PySem.W.kitOne K (.ref A) (.ref B) = some b) (q : Q (.bl b) c) : aIsO K IC [.exc A ns es, .cls B] c Q := (isO_exc hx h).mpr q
theorem isO.ins {K : PySem.W.Frag} {IC : Addr → Prop} {A B : Addr} {b : Bool} {ns : List Str} {es : List D} {c : CN} {Q : QD} (hx : IC A) (h : PySem.W.kitOne K (.ref A) (.ref B) = some b) (q : Q (.bl b) c) : aIsO K IC [.ins A ns es, .cls B] c Q := (isO_ins hx h).mpr q
theorem isO.kd {K : PySem.W.Frag} {IC : Addr → Prop} {B : Addr} {x : D} {c : CN} {Q : QD} (hk : ∀ T ∈ kinds7, PySem.W.kitOne K (.type T) (.ref B) = some false) (hx : (kind x).isSome = true) (q : Q (.bl false) c) : aIsO K IC [x, .cls B] c Q := (isO_kd hk hx).mpr q
end PL
namespace PL
theorem gone_nx {DD : DEnds} {i : Nat} {ρ : DEnv} {c : CN} : (DD.gone i).nx ρ c = @Nx DD.nx (ρ.set i .no) c := propext Iff.rfl
theorem gone_bk {DD : DEnds} {i : Nat} {ρ : DEnv} {c : CN} : (DD.gone i).bk ρ c = @Nx DD.bk (ρ.set i .no) c := propext Iff.rfl
theorem gone_ct {DD : DEnds} {i : Nat} {ρ : DEnv} {c : CN} : (DD.gone i).ct ρ c = @Nx DD.ct (ρ.set i .no) c := propext Iff.rfl
theorem gone_rt {DD : DEnds} {i : Nat} : (DD.gone i).rt = DD.rt := rfl
theorem set_nx' {i : Nat} {t : DE} {DD : DEnds} {ρ : DEnv} {c : CN} {j : Nat} : sSet i t (DD.gone j) ρ c = t ρ c fun d c1 => @Nx DD.nx ((ρ.set i (.fz d)).set j .no) c1 := propext Iff.rfl
end PL
namespace PL
open PySem PySem.Spec PyProof.Rows L2
section
variable {C : Addr} {ns : List Str} {es : List D} {ks : List Key} {T : String}
theorem n_exc : PL.isNon (.exc C ns es) = false := rfl
theorem n_ins : PL.isNon (.ins C ns es) = false := rfl
theorem n_dct : PL.isNon (.dct ks es) = false := rfl
theorem n_opq : PL.isNon .opq = false := rfl
theorem k_exc : kind (.exc C ns es) = none := rfl
theorem k_ins : kind (.ins C ns es) = none := rfl
theorem k_dct : kind (.dct ks es) = some "dict" := rfl
theorem i_ins : isaB T (.ins C ns es) = false := rfl
theorem i_dct : isaB T (.dct ks es) = (T == "dict") := rfl
theorem is_ins : isIns (.ins C ns es) = some C := rfl
end
end PL
namespace PL
open PySem PySem.Spec PyProof.Rows L2
def kSeq (n : Nat) (g : DGs) (d : D) (ρ : DEnv) (c : CN) (Q : DEnv → CN → Prop) : Prop := match d with
  | .tup ds => ds.length = n ∧ g ds ρ c Q
  | .lst ds => ds.length = n ∧ g ds ρ c Q
  | _ => False
theorem pdg_seq {Y : Ctx} {es : List Expr} {ggs : TGs} {gs : DGs} {vs : List Nat} {pos : Pos} {k n : Nat} (hc : Y.X.calm = true) (h : PDGs Y es ggs gs vs) (hn : (assignEach es Y.X.env).length = n := by rfl) (hst : (assignEach es Y.X.env).findIdx? (·.1) = none := by rfl) :
    PDG Y (.Tuple es k pos) (fun v σ H Q => gTup Y.X.K n ggs v σ H Q ∨ gUnl Y.X.K n ggs v σ H Q) (kSeq n gs) vs :=
  ⟨⟨fun pins s σ H v u Q I r hw => hw.elim (fun hw => (pg_tup hc h.p hn hst).run pins s σ H v u Q I r hw) fun hw => (pg_unl hc h.p hn hst).run pins s σ H v u Q I r hw⟩, fun G H c ρ σ d v Qd Q R r hw kk => by
    cases d with
    | tup ds =>
      cases r with
      | tup h1 h2 => exact .inl ⟨_, _, rfl, SqT.same R.ok.same h1, by rw [h2.length]; exact hw.1, h.s G H c ρ σ ds _ _ _ R h2 hw.2 kk⟩
    | lst ds =>
      cases r with
      | lst h1 h2 => exact .inr ⟨_, _, rfl, R.ok.sq h1, by rw [h2.length]; exact hw.1, h.s G H c ρ σ ds _ _ _ R h2 hw.2 kk⟩
    | _ => exact hw.elim⟩
section
variable {n : Nat} {gs : DGs} {l : List D} {ρ : DEnv} {c : CN} {Q : DEnv → CN → Prop}
theorem ev_kseqT : kSeq n gs (.tup l) ρ c Q = (l.length = n ∧ gs l ρ c Q) := propext Iff.rfl
theorem ev_kseqL : kSeq n gs (.lst l) ρ c Q = (l.length = n ∧ gs l ρ c Q) := propext Iff.rfl
end
end PL
set_option maxHeartbeats 1000000
namespace PLs
open PySem PySem.Spec PyProof.Rows L2
section
variable {P : Program} {w : World} {α : Type} [DecidableEq α] (knd : PySem.KeyKind P w α)
open Classical in
noncomputable def keyC (v : Value) : Option α := if h : ∃ k, knd.is k v = true then some h.choose else none
theorem keyC_is {k : α} {v : Value} (h : knd.is k v = true) : keyC knd v = some k := by
  unfold keyC
  have e : ∃ k, knd.is k v = true := ⟨k, h⟩
  rw [dif_pos e, knd.inj v _ k e.choose_spec h]
theorem is_keyC {k : α} {v : Value} (h : keyC knd v = some k) : knd.is k v = true := by
  unfold keyC at h
  split at h
  · rename_i e; cases h; exact e.choose_spec
  · cases h
def SetG (h : Heap) (a : Addr) (l : List α) : Prop := ∃ o es ep t, h.get? a = some o ∧ o.ExactSet ∧ o.data = .set es ep t ∧ ElemsOf knd es.toList ∧ es.toList.map (fun e => keyC knd e.2) = l.map some ∧ l.Nodup ∧
  es.size < scanBound ∧ t.fits es.size = true ∧ Ris t.place.toList ∧ (w.params.followText "set-order" = true ∨ t.led = true)
variable {knd} {h h' : Heap} {a : Addr} {l : List α}
theorem SetG.at (R : SetG knd h a l) (k : ∀ o, h.get? a = some o → h'.get? a = some o) : SetG knd h' a l := by
  obtain ⟨o, es, ep, t, ho, r⟩ := R
  exact ⟨o, es, ep, t, k o ho, r⟩
theorem SetG.len (R : SetG knd h a l) : l.length < scanBound := by
  obtain ⟨o, es, ep, t, ho, hx, hd, g, hm, nd, hb, r⟩ := R
  have := congrArg List.length hm
  simp only [List.length_map, Array.length_toList] at this
  omega
theorem SetG.mem {es : List (Int × Value)} (hm : es.map (fun e => keyC knd e.2) = l.map some) {k : α} : k ∈ l ↔ ∃ e, e ∈ es ∧ knd.is k e.2 = true := by
  have h1 : k ∈ l ↔ some k ∈ es.map fun e => keyC knd e.2 := by rw [hm]; simp
  rw [h1, List.mem_map]
  exact ⟨fun ⟨e, he, q⟩ => ⟨e, he, is_keyC knd q⟩, fun ⟨e, he, q⟩ => ⟨e, he, keyC_is knd q⟩⟩
end
section
variable {P : Program} {w : World} {A : Around} {E : Value → Shared → Prop} {s : Shared} {a : Addr} {α : Type} [DecidableEq α] {knd : PySem.KeyKind P w α} {l : List α}
end
end PLs
set_option maxHeartbeats 1000000
namespace PLs
open PySem PySem.Spec PyProof.Rows L2
section
variable {P : Program} {w : World} {H : Hp} {h : Heap} {a : Addr} {l : List Str}
variable {A : Around} {E : Value → Shared → Prop} {s : Shared}
end
section
variable {X : Cx} {pins : List (Addr × Obj)} {σ : L2.St} {H : Hp} {s : Shared} {E : Value → Shared → Prop} {D : Addr} {l : List Str}
end
end PLs
set_option maxHeartbeats 2000000
namespace PLs
open PySem PySem.Spec PyProof.Rows L2 PpSet
section
variable {X : Cx}
variable {pins : List (Addr × Obj)} {s : Shared} {σ : L2.St} {H : Hp} {Q : VK} {elt tg iter : Expr} {ifs : List Expr} {scope : Scope} {own : List (PySem.Str × Nat)} {pos pos' : Pos} {wi : TI} {g : TG} {tt : TT} {te : TE}
structure Parts (X : Cx) (tg elt : Expr) (ifs : List Expr) (scope : Scope) (g : TG) (tt : TT) (te : TE) : Prop where
  g : ∀ (s : Shared) (H : Hp) (C : Addr) (cl : List (PySem.Str × Addr)) (fp : List Addr), PG (X.blk s H scope (compEnvC scope cl C X.env) fp) tg g
  t : ∀ (s : Shared) (H : Hp) (C : Addr) (cl : List (PySem.Str × Addr)) (fp : List Addr), PTs (X.blk s H scope (compEnvC scope cl C X.env) fp) ifs tt
  e : ∀ (s : Shared) (H : Hp) (C : Addr) (cl : List (PySem.Str × Addr)) (fp : List Addr), PE (X.blk s H scope (compEnvC scope cl C X.env) fp) elt te
end
end PLs
namespace PL
open PySem PySem.Spec PyProof.Rows L2
section
variable {Y : Ctx} {b e : Expr} {es : List Expr} {eb : TE} {tb t0 : DE} {fa : TA} {t : DA} {x : Str} {p pos apos cpos : Pos}
def dOlen (i : Nat) : DE := fun ρ c Q => olP ρ[i]? fun l => Q (.int l.length) c
def dOix (i : Nat) (tb : DE) : DE := fun ρ c Q => olP ρ[i]? fun l => tb ρ c fun y c1 => asI y fun k => @atP (L2.atI l k) fun d => Q d c1
def lstP (d : D) (P : List D → Prop) : Prop := ∃ m, d = .lst m ∧ P m
theorem ev_lstP {m : List D} {P : List D → Prop} : lstP (.lst m) P = P m := by simp [lstP]
def sExtend (i : Nat) (t : DA) : DS := fun DD ρ c => olP ρ[i]? fun l => t ρ c fun ds c1 => hd1 ds fun d => lstP d fun m => l.length + m.length ≤ 16777216 ∧ @Nx DD.nx (ρ.set i (.ol (l ++ m))) c1
end
section
variable {Y : Ctx} {a b d e tg : Expr} {ee : TE} {te : DE} {fa : TA} {t : DA} {pos p : Pos}
theorem br_iadd {K : PySem.W.Frag} : Br2 K (rI0 fun i j => .int (i + j)) aAdd := br_I0 fun _ _ _ => .int _
def stepInts (lo c : Int) (n : Nat) : List D := (List.range n).map fun i => D.int (lo + (i : Nat) * c)
def downP (ds : List D) (P : List D → Prop) : Prop := ∃ i j : Int, ds = [.int i, .int j, .int (-1)] ∧ (-(2 ^ 62) ≤ i ∧ i < 2 ^ 62 ∧ -(2 ^ 62) ≤ j ∧ j < 2 ^ 62) ∧ P (stepInts i (-1) (i - j).toNat)
def diDown (t : DA) (ρ : DEnv) (c : CN) (Q : List D → CN → Prop) : Prop := t ρ c fun ds c1 => downP ds fun L => Q L c1
def maxP (ds : List D) (P : Int → Prop) : Prop := ∃ l ns m, ds = [.lst l] ∧ intsD l = some ns ∧ m ∈ ns ∧ (∀ y, y ∈ ns → y ≤ m) ∧ P m
def aMaxL (ds : List D) (c : CN) (Q : QD) : Prop := maxP ds fun m => Q (.int m) c
end
end PL
set_option maxHeartbeats 2000000
namespace PLs
open PySem PySem.Spec PyProof.Rows L2
structure GotS (xs : List Str) (i : Nat) (l : List Str) : Prop where
  len : l.length ≤ i
  mem : ∀ x, x ∈ l ↔ x ∈ xs.take i
  nd : l.Nodup
theorem GotS.next {xs : List Str} {i : Nat} {l l' : List Str} {x : Str} (g : GotS xs i l) (hx : xs[i]? = some x) (e1 : x ∈ l → l' = l) (e2 : x ∉ l → l'.Perm (x :: l)) : GotS xs (i + 1) l' := by
  have tk : ∀ y, y ∈ xs.take (i + 1) ↔ (y ∈ xs.take i ∨ y = x) := fun y => by rw [List.take_succ, hx]; simp
  by_cases c : x ∈ l
  · rw [e1 c]
    refine ⟨Nat.le_succ_of_le g.len, fun y => ?_, g.nd⟩
    rw [tk, ← g.mem]
    exact ⟨.inl, fun z => z.elim id fun e => e ▸ c⟩
  · have p := e2 c
    refine ⟨by rw [p.length_eq]; exact Nat.succ_le_succ g.len, fun y => ?_, p.nodup_iff.mpr (List.nodup_cons.mpr ⟨c, g.nd⟩)⟩
    rw [tk, ← g.mem, p.mem_iff, List.mem_cons]
    exact ⟨fun z => z.elim .inr .inl, fun z => z.elim .inr .inl⟩
section
variable {P : Program} {w : World} {A : Around} {E : Value → Shared → Prop} {s : Shared}
end
section
variable {X : Cx}
end
end PLs
namespace PL
open PySem PySem.Spec PyProof.Rows L2 PLs
def leU (a b : Str) : Bool := !ltCps b.cps.toList a.cps.toList
def dedU : List Str → List Str
  | [] => []
  | x :: l => if x ∈ dedU l then dedU l else x :: dedU l
def sortU (l : List Str) : List Str := (dedU l).mergeSort leU
theorem mem_dedU {x : Str} : ∀ {l : List Str}, x ∈ dedU l ↔ x ∈ l
  | [] => Iff.rfl
  | y :: l => by
    unfold dedU
    by_cases c : y ∈ dedU l
    · rw [if_pos c, mem_dedU, List.mem_cons]
      exact ⟨.inr, fun z => z.elim (fun e => e ▸ mem_dedU.mp c) id⟩
    · rw [if_neg c, List.mem_cons, List.mem_cons, mem_dedU]
theorem length_dedU : ∀ l : List Str, (dedU l).length ≤ l.length
  | [] => Nat.le_refl _
  | y :: l => by
    unfold dedU
    have := length_dedU l
    split
    · exact Nat.le_succ_of_le this
    · exact Nat.succ_le_succ this
theorem mem_sortU {x : Str} {l : List Str} : x ∈ sortU l ↔ x ∈ l := by
  unfold sortU
  rw [List.mem_mergeSort, mem_dedU]
theorem length_sortU (l : List Str) : (sortU l).length ≤ l.length := by
  unfold sortU
  rw [List.length_mergeSort]; exact length_dedU l
section
variable {K : PySem.W.Frag} {G : GS K}
end
def strsP (d : D) (P : List Str → Prop) : Prop := ∃ xs, d = .lst (xs.map D.str) ∧ P xs
theorem strsP.mk {xs : List Str} {P : List Str → Prop} (h : P xs) : strsP (.lst (xs.map D.str)) P := ⟨xs, rfl, h⟩
def dSortSet (t : DA) : DE := fun ρ c Q => t ρ c fun ds c1 => hd1 ds fun d => strsP d fun xs => xs.length + 1 < 4096 ∧ Q (.lst ((sortU xs).map D.str)) c1
section
variable {Y : Ctx} {e : Expr} {es : List Expr} {fa : TA} {t : DA} {p p2 pos pos2 : Pos}
end
structure HasO {K : PySem.W.Frag} (G : GS K) (H : Hp) (a : Addr) (o : HO) : Prop where
  h : H a = some o
  f : G.f a = none
  p : ¬ G.pu a
theorem HasO.evo {K : PySem.W.Frag} {G G' : GS K} {H H' : Hp} {c c' : CN} {a : Addr} {o : HO} (h : HasO G H a o) (e : Evo G H c G' H' c') : HasO G' H' a o := ⟨e.keep a o h.h h.p, e.new a o h.h h.f, fun z => h.p (e.npu a o h.h z)⟩
def ScB (g : DG) (tt : DT) (te : DE) (vs : List Nat) (ρ : DEnv) (L : List D) (c1 : CN) (Q : List Str → CN → Prop) : Prop := ∃ I : Nat → List Str → CN → Prop, I 0 [] c1 ∧
  (∀ k x acc c, L[k]? = some x → I k acc c → g x (wipeD ρ vs) c fun ρ2 c2 => tt ρ2 c2 fun b c3 => if b = true then te ρ2 c3 fun y c4 => ∃ z, y = .str z ∧ acc.length + 1 < 4096 ∧ I (k + 1) (acc ++ [z]) c4 else I (k + 1) acc c3) ∧ ∀ acc c, I L.length acc c → Q acc c
def dSortSc (ti : DI) (g : DG) (tt : DT) (te : DE) (vs : List Nat) : DE := fun ρ c Q => ti ρ c fun L c1 => ScB g tt te vs ρ L c1 fun acc c2 => Q (.lst ((sortU acc).map D.str)) c2
structure GotA (acc l : List Str) : Prop where
  len : l.length ≤ acc.length
  mem : ∀ x, x ∈ l ↔ x ∈ acc
  nd : l.Nodup
theorem GotA.next {acc l l' : List Str} {x : Str} (g : GotA acc l) (e1 : x ∈ l → l' = l) (e2 : x ∉ l → l'.Perm (x :: l)) : GotA (acc ++ [x]) l' := by
  have tk : ∀ y, y ∈ acc ++ [x] ↔ (y ∈ acc ∨ y = x) := fun y => by simp
  by_cases c : x ∈ l
  · rw [e1 c]
    refine ⟨by rw [List.length_append]; exact Nat.le_trans g.len (Nat.le_add_right _ _), fun y => ?_, g.nd⟩
    rw [tk, ← g.mem]
    exact ⟨.inl, fun z => z.elim id fun e => e ▸ c⟩
  · have p := e2 c
    refine ⟨by rw [p.length_eq, List.length_append]; exact Nat.succ_le_succ g.len, fun y => ?_, p.nodup_iff.mpr (List.nodup_cons.mpr ⟨c, g.nd⟩)⟩
    rw [tk, ← g.mem, p.mem_iff, List.mem_cons]
    exact ⟨fun z => z.elim .inr .inl, fun z => z.elim .inr .inl⟩
section
variable {Y : Ctx} {iter tg elt : Expr} {ifs : List Expr} {wi : TI} {ti : DI} {gg : TG} {g : DG} {eA : TT} {tA : DT} {ee : TE} {te : DE} {scope : Scope} {own : List (Str × Nat)} {p pos pos2 : Pos}
end
end PL
set_option maxHeartbeats 1000000
namespace PL
open PySem PySem.Spec PyProof.Rows L2 PLs
open PySem.W in
section
variable {prog : Program} {w : World} {A : Around} {E : Value → Shared → Prop} {s : Shared} {K : Frag} {x C L f : Addr} {h₀ : Heap} {m : Str → Option Value} {ox : Obj} {od : Option Obj}
end
section
variable {X : Cx} {CX : CXT} {k : Nat} {f C : Addr} {fd : FuncData} {ps : List Str} {sp : Sp} {E : XK} {op : Operator}
end
def sAugO (C : Addr) (ED : DEnv → EDt) (i : Nat) (te : DE) (sp : SpD) : DS := fun DD ρ c => fzP ρ[i]? fun x => te ρ c fun y c1 => isIP C x ∧ isIP C y ∧ @Run sp [x, y] c1 (fun z c2 => @Nx DD.nx (ρ.set i (.fz z)) c2) (ED ρ)
section
variable {Y : Ctx} {k : Nat} {C f : Addr} {fd : FuncData} {ps : List Str} {e : Expr} {ee : TE} {te : DE} {pos pos' : Pos} {sp : SpD} {op : Operator} {x : Str} {E : XK}
end
def zipD : List D → List D → List D
  | x :: l, y :: m => .tup [x, y] :: zipD l m
  | _, _ => []
def zipP (ds : List D) (P : List D → Prop) : Prop := ∃ l m, ds = [.lst l, .lst m] ∧ P (zipD l m)
theorem ev_zipP {l m : List D} {P : List D → Prop} : zipP [.lst l, .lst m] P = P (zipD l m) := by
  apply propext; constructor
  · rintro ⟨_, _, e, h⟩; cases e; exact h
  · exact fun h => ⟨_, _, rfl, h⟩
def diZip (t : DA) : DI := fun ρ c Q => t ρ c fun ds c1 => zipP ds fun L => Q L c1
section
variable {i : Nat} {ρ : DEnv} {c : CN} {Q : QD} {QL : List D → CN → Prop} {DD : DEnds} {t : DA} {te tb : DE} {ti : DI} {g : DG} {tt : DT} {vs : List Nat} {l m : List D} {C : Addr} {ED : DEnv → EDt} {sp : SpD} {ds : List D}
theorem ev_olen : dOlen i ρ c Q = olP ρ[i]? fun l => Q (.int l.length) c := propext Iff.rfl
theorem ev_oix : dOix i tb ρ c Q = olP ρ[i]? fun l => tb ρ c fun y c1 => asI y fun k => @atP (L2.atI l k) fun d => Q d c1 := propext Iff.rfl
theorem ev_extend : sExtend i t DD ρ c = olP ρ[i]? fun l => t ρ c fun ds c1 => hd1 ds fun d => lstP d fun m => l.length + m.length ≤ 16777216 ∧ @Nx DD.nx (ρ.set i (.ol (l ++ m))) c1 := propext Iff.rfl
theorem ev_down : diDown t ρ c QL = t ρ c fun ds c1 => downP ds fun L => QL L c1 := propext Iff.rfl
theorem ev_maxL : aMaxL ds c Q = maxP ds fun m => Q (.int m) c := propext Iff.rfl
theorem ev_sortSet : dSortSet t ρ c Q = t ρ c fun ds c1 => hd1 ds fun d => strsP d fun xs => xs.length + 1 < 4096 ∧ Q (.lst ((sortU xs).map D.str)) c1 := propext Iff.rfl
theorem ev_sortSc : dSortSc ti g tt te vs ρ c Q = ti ρ c fun L c1 => ScB g tt te vs ρ L c1 fun acc c2 => Q (.lst ((sortU acc).map D.str)) c2 := propext Iff.rfl
theorem ev_augO : sAugO C ED i te sp DD ρ c = fzP ρ[i]? fun x => te ρ c fun y c1 => isIP C x ∧ isIP C y ∧ @Run sp [x, y] c1 (fun z c2 => @Nx DD.nx (ρ.set i (.fz z)) c2) (ED ρ) := propext Iff.rfl
theorem ev_never : sNever DD ρ c = False := propext Iff.rfl
theorem ev_zip : diZip t ρ c QL = t ρ c fun ds c1 => zipP ds fun L => QL L c1 := propext Iff.rfl
end
end PL
namespace PL
open PySem PySem.Spec PyProof.Rows L2
def dLstRg (ta tb : DE) : DE := fun ρ c Q => ta ρ c fun x c1 => tb ρ c1 fun y c2 => asI x fun i => asI y fun j => (0 ≤ i ∧ i ≤ 16777216 ∧ 0 ≤ j ∧ j ≤ 16777216) ∧ Q (.lst (upInts i (j - i).toNat)) c2
section
variable {Y : Ctx} {a b : Expr} {ea eb : TE} {ta tb : DE} {p p2 pos pos2 : Pos}
end
theorem ev_lstRg {ta tb : DE} {ρ : DEnv} {c : CN} {Q : QD} : dLstRg ta tb ρ c Q = ta ρ c fun x c1 => tb ρ c1 fun y c2 => asI x fun i => asI y fun j => (0 ≤ i ∧ i ≤ 16777216 ∧ 0 ≤ j ∧ j ≤ 16777216) ∧ Q (.lst (upInts i (j - i).toNat)) c2 := propext Iff.rfl
def twoL (x y : D) (P : List D → List D → Prop) : Prop := ∃ l m, x = .lst l ∧ y = .lst m ∧ P l m
theorem ev_twoL {l m : List D} {P : List D → List D → Prop} : twoL (.lst l) (.lst m) P = P l m := by
  apply propext; constructor
  · rintro ⟨_, _, e, e', h⟩; cases e; cases e'; exact h
  · exact fun h => ⟨_, _, rfl, rfl, h⟩
def sNewCat (i : Nat) (ta tb : DE) : DS := fun DD ρ c => ta ρ c fun x c1 => tb ρ c1 fun y c2 => twoL x y fun l m => l.length + m.length ≤ 16777216 ∧ @Nx DD.nx (ρ.set i (.ol (l ++ m))) c2
theorem ev_newCat {i : Nat} {ta tb : DE} {DD : DEnds} {ρ : DEnv} {c : CN} : sNewCat i ta tb DD ρ c = ta ρ c fun x c1 => tb ρ c1 fun y c2 => twoL x y fun l m => l.length + m.length ≤ 16777216 ∧ @Nx DD.nx (ρ.set i (.ol (l ++ m))) c2 := propext Iff.rfl
end PL
namespace PL
open PySem PySem.Spec PyProof.Rows L2
inductive Fm where
  | text (x : Str) | brk (o : Option Str) | hole (x : Str) | join (a b : Fm) | choice (a b : Fm) | nested (i : Int) (a : Fm) | group (a : Fm) | flat (a : Fm)
def lettersL : List Nat := ("abcdefghijklmnopqrstuvwxyz" : Str).cps.toList
def nameB (x : Str) : Bool := decide (1 ≤ x.length) && decide (x.length ≤ 8) && x.cps.toList.all fun n => decide (n ∈ lettersL)
namespace Fm
def enc : Fm → D
  | text x => .tup [.str "text", .str x]
  | brk none => .tup [.str "break", .non]
  | brk (some x) => .tup [.str "break", .str x]
  | hole x => .tup [.str "hole", .str x]
  | join a b => .tup [.str "join", enc a, enc b]
  | choice a b => .tup [.str "choice", enc a, enc b]
  | nested i a => .tup [.str "nested", .int i, enc a]
  | group a => .tup [.str "group", enc a]
  | flat a => .tup [.str "flattened", enc a]
def inner : Fm → List Fm
  | join a b => [a, b]
  | choice a b => [a, b]
  | nested _ a => [a]
  | group a => [a]
  | flat a => [a]
  | _ => []
def parts : Fm → Nat
  | join a b => 1 + (parts a + parts b)
  | choice a b => 1 + (parts a + parts b)
  | nested _ a => 1 + parts a
  | group a => 1 + parts a
  | flat a => 1 + parts a
  | _ => 1
def fl : Fm → Int
  | brk none => 0
  | join a b => fl a * fl b
  | choice a b => fl a + fl b
  | nested _ a => fl a
  | group a => fl a
  | flat a => fl a
  | _ => 1
def bo : Fm → Int
  | join a b => bo a * bo b
  | choice a b => bo a + bo b
  | nested _ a => bo a
  | group a => bo a + fl a
  | flat a => fl a
  | _ => 1
def holes : Fm → List Str
  | hole x => [x]
  | join a b => holes a ++ holes b
  | choice a b => holes a ++ holes b
  | nested _ a => holes a
  | group a => holes a
  | flat a => holes a
  | _ => []
def ok : Fm → Prop
  | text x => strS x
  | brk none => True
  | brk (some x) => strS x
  | hole x => strS x ∧ nameB x = true
  | join a b => ok a ∧ ok b
  | choice a b => ok a ∧ ok b
  | nested i a => (0 ≤ i ∧ i ≤ 40) ∧ ok a
  | group a => ok a
  | flat a => ok a
theorem parts_pos (f : Fm) : 1 ≤ parts f := by cases f <;> simp [parts] <;> omega
theorem parts_inner (f : Fm) : parts f = 1 + (f.inner.map parts).sum := by cases f <;> simp [parts, inner]
theorem ok_inner {f g : Fm} (h : ok f) (hg : g ∈ f.inner) : ok g := by
  cases f <;> simp [inner] at hg <;> simp only [ok] at h
  · rcases hg with rfl | rfl; exact h.1; exact h.2
  · rcases hg with rfl | rfl; exact h.1; exact h.2
  · subst hg; exact h.2
  · subst hg; exact h
  · subst hg; exact h
theorem parts_lt {f g : Fm} (hg : g ∈ f.inner) : parts g < parts f := by
  cases f <;> simp [inner] at hg
  · rcases hg with rfl | rfl <;> simp [parts] <;> omega
  · rcases hg with rfl | rfl <;> simp [parts] <;> omega
  · subst hg; simp [parts]
  · subst hg; simp [parts]
  · subst hg; simp [parts]
theorem holes_inner {f : Fm} {x : Str} : x ∈ holes f ↔ f = hole x ∨ ∃ g ∈ f.inner, x ∈ holes g := by
  cases f <;> simp [holes, inner, eq_comm]
theorem pl_leaf {k x : Str} {n : Nat} (hk : (decide (k.length ≤ 1000) && PyData.strOk k) = true) (h : strS x) : Pl (n + 1) (.tup [.str k, .str x]) := pl_cons (pl_str hk) (pl_cons (pl_str (by simp [h.1, h.2.2])) pl_nil)
theorem pl : ∀ {f : Fm}, ok f → Pl (parts f) (enc f)
  | text x, h => pl_leaf (n := 0) (by decide +kernel) h
  | brk none, h => pl_cons (n := 0) (pl_str (by decide +kernel)) (pl_cons pl_non pl_nil)
  | brk (some x), h => pl_leaf (n := 0) (by decide +kernel) h
  | hole x, h => pl_leaf (n := 0) (by decide +kernel) h.1
  | join a b, h => by
    show Pl (1 + (parts a + parts b)) _
    rw [Nat.add_comm 1]
    exact pl_cons (pl_str (by decide +kernel)) (pl_cons ((pl h.1).mono (by omega)) (pl_cons ((pl h.2).mono (by omega)) pl_nil))
  | choice a b, h => by
    show Pl (1 + (parts a + parts b)) _
    rw [Nat.add_comm 1]
    exact pl_cons (pl_str (by decide +kernel)) (pl_cons ((pl h.1).mono (by omega)) (pl_cons ((pl h.2).mono (by omega)) pl_nil))
  | nested i a, h => by
    show Pl (1 + parts a) _
    rw [Nat.add_comm 1]
    exact pl_cons (pl_str (by decide +kernel)) (pl_cons pl_int (pl_cons (pl h.2) pl_nil))
  | group a, h => by
    show Pl (1 + parts a) _
    rw [Nat.add_comm 1]
    exact pl_cons (pl_str (by decide +kernel)) (pl_cons (pl h) pl_nil)
  | flat a, h => by
    show Pl (1 + parts a) _
    rw [Nat.add_comm 1]
    exact pl_cons (pl_str (by decide +kernel)) (pl_cons (pl h) pl_nil)
def nl : Fm → Nat
  | join a b => 1 + (nl a + nl b)
  | choice a b => 1 + (nl a + nl b)
  | nested _ a => 1 + nl a
  | group a => 1 + nl a
  | flat a => 1 + nl a
  | _ => 0
def dep : Fm → Nat
  | join a b => 1 + max (dep a) (dep b)
  | choice a b => 1 + max (dep a) (dep b)
  | nested _ a => 1 + dep a
  | group a => 1 + dep a
  | flat a => 1 + dep a
  | _ => 1
theorem dep_pos (f : Fm) : 1 ≤ dep f := by cases f <;> simp [dep] <;> omega
theorem nl_le : ∀ f : Fm, nl f ≤ parts f
  | text _ => Nat.zero_le _
  | brk _ => Nat.zero_le _
  | hole _ => Nat.zero_le _
  | join a b => by have := nl_le a; have := nl_le b; simp only [nl, parts]; omega
  | choice a b => by have := nl_le a; have := nl_le b; simp only [nl, parts]; omega
  | nested _ a => by have := nl_le a; simp only [nl, parts]; omega
  | group a => by have := nl_le a; simp only [nl, parts]; omega
  | flat a => by have := nl_le a; simp only [nl, parts]; omega
theorem dep_le : ∀ f : Fm, dep f ≤ parts f
  | text _ => Nat.le_refl _
  | brk _ => Nat.le_refl _
  | hole _ => Nat.le_refl _
  | join a b => by have := dep_le a; have := dep_le b; simp only [dep, parts]; omega
  | choice a b => by have := dep_le a; have := dep_le b; simp only [dep, parts]; omega
  | nested _ a => by have := dep_le a; simp only [dep, parts]; omega
  | group a => by have := dep_le a; simp only [dep, parts]; omega
  | flat a => by have := dep_le a; simp only [dep, parts]; omega
theorem dep_lt {f g : Fm} (hg : g ∈ f.inner) : dep g < dep f := by
  cases f <;> simp [inner] at hg
  · rcases hg with rfl | rfl <;> simp only [dep] <;> omega
  · rcases hg with rfl | rfl <;> simp only [dep] <;> omega
  · subst hg; simp only [dep]; omega
  · subst hg; simp only [dep]; omega
  · subst hg; simp only [dep]; omega
theorem pld : ∀ {f : Fm}, ok f → Pl (dep f) (enc f)
  | text x, h => pl_leaf (n := 0) (by decide +kernel) h
  | brk none, h => pl_cons (n := 0) (pl_str (by decide +kernel)) (pl_cons pl_non pl_nil)
  | brk (some x), h => pl_leaf (n := 0) (by decide +kernel) h
  | hole x, h => pl_leaf (n := 0) (by decide +kernel) h.1
  | join a b, h => by
    show Pl (1 + max (dep a) (dep b)) _
    rw [Nat.add_comm 1]
    exact pl_cons (pl_str (by decide +kernel)) (pl_cons ((pld h.1).mono (by omega)) (pl_cons ((pld h.2).mono (by omega)) pl_nil))
  | choice a b, h => by
    show Pl (1 + max (dep a) (dep b)) _
    rw [Nat.add_comm 1]
    exact pl_cons (pl_str (by decide +kernel)) (pl_cons ((pld h.1).mono (by omega)) (pl_cons ((pld h.2).mono (by omega)) pl_nil))
  | nested i a, h => by
    show Pl (1 + dep a) _
    rw [Nat.add_comm 1]
    exact pl_cons (pl_str (by decide +kernel)) (pl_cons pl_int (pl_cons (pld h.2) pl_nil))
  | group a, h => by
    show Pl (1 + dep a) _
    rw [Nat.add_comm 1]
    exact pl_cons (pl_str (by decide +kernel)) (pl_cons (pld h) pl_nil)
  | flat a, h => by
    show Pl (1 + dep a) _
    rw [Nat.add_comm 1]
    exact pl_cons (pl_str (by decide +kernel)) (pl_cons (pld h) pl_nil)
def wle (M : Int) : Fm → Prop
  | join a b => (bo a * bo b ≤ M ∧ fl a * fl b ≤ M) ∧ wle M a ∧ wle M b
  | choice a b => (bo a + bo b ≤ M ∧ fl a + fl b ≤ M) ∧ wle M a ∧ wle M b
  | nested _ a => wle M a
  | group a => bo a + fl a ≤ M ∧ wle M a
  | flat a => wle M a
  | _ => 1 ≤ M
theorem wle.top {M : Int} : ∀ {f : Fm}, wle M f → bo f ≤ M ∧ fl f ≤ M
  | text _, h => ⟨h, h⟩
  | hole _, h => ⟨h, h⟩
  | brk none, h => by
    have h : 1 ≤ M := h
    exact ⟨h, by show (0 : Int) ≤ M; omega⟩
  | brk (some _), h => ⟨h, h⟩
  | join a b, h => h.1
  | choice a b, h => h.1
  | nested _ a, h => wle.top (f := a) h
  | group a, h => ⟨h.1, (wle.top (f := a) h.2).2⟩
  | flat a, h => ⟨(wle.top (f := a) h).2, (wle.top (f := a) h).2⟩
theorem wle.sub {M : Int} {f g : Fm} (h : wle M f) (hg : g ∈ inner f) : wle M g := by
  cases f with
  | join a b => simp only [inner, List.mem_cons, List.not_mem_nil, or_false] at hg; rcases hg with rfl | rfl; exact h.2.1; exact h.2.2
  | choice a b => simp only [inner, List.mem_cons, List.not_mem_nil, or_false] at hg; rcases hg with rfl | rfl; exact h.2.1; exact h.2.2
  | nested i a => simp only [inner, List.mem_cons, List.not_mem_nil, or_false] at hg; subst hg; exact h
  | group a => simp only [inner, List.mem_cons, List.not_mem_nil, or_false] at hg; subst hg; exact h.2
  | flat a => simp only [inner, List.mem_cons, List.not_mem_nil, or_false] at hg; subst hg; exact h
  | _ => cases hg
def small (f : Fm) : Prop := parts f ≤ 30000 ∧ wle (2 ^ 60) f ∧ dep f ≤ 200 ∧ (holes f).length ≤ 4000
theorem holes_len : ∀ f : Fm, (holes f).length ≤ parts f
  | text _ => Nat.zero_le _
  | brk _ => Nat.zero_le _
  | hole _ => Nat.le_refl _
  | join a b => by have := holes_len a; have := holes_len b; simp only [holes, parts, List.length_append]; omega
  | choice a b => by have := holes_len a; have := holes_len b; simp only [holes, parts, List.length_append]; omega
  | nested _ a => by have := holes_len a; simp only [holes, parts]; omega
  | group a => by have := holes_len a; simp only [holes, parts]; omega
  | flat a => by have := holes_len a; simp only [holes, parts]; omega
theorem holes_sub {f g : Fm} (hg : g ∈ f.inner) : (holes g).length ≤ (holes f).length := by
  cases f <;> simp only [inner, List.mem_cons, List.not_mem_nil, or_false] at hg
  case join a b => rcases hg with rfl | rfl <;> simp only [holes, List.length_append] <;> omega
  case choice a b => rcases hg with rfl | rfl <;> simp only [holes, List.length_append] <;> omega
  all_goals (subst hg; exact Nat.le_refl _)
theorem small.in {f g : Fm} (h : small f) (hg : g ∈ f.inner) : small g := ⟨Nat.le_trans (Nat.le_of_lt (parts_lt hg)) h.1, h.2.1.sub hg, Nat.le_trans (Nat.le_of_lt (dep_lt hg)) h.2.2.1, Nat.le_trans (holes_sub hg) h.2.2.2⟩
theorem pl59 {f : Fm} (h : dep f ≤ 59) (hk : ok f) : Pl 59 (enc f) := (pld hk).mono h
theorem pl60 {f : Fm} (h : dep f ≤ 59) (hk : ok f) : Pl 60 (enc f) := (pl59 h hk).mono (by decide)
theorem pow_le {a b : Nat} (h : a ≤ b) : (2 : Int) ^ a ≤ 2 ^ b := by exact_mod_cast Nat.pow_le_pow_right (by decide : 0 < 2) h
theorem pow_ge (a : Nat) : (1 : Int) ≤ 2 ^ a := by have := pow_le (Nat.zero_le a); simpa using this
theorem prod_le {x y : Int} {a b : Nat} (hx : 0 ≤ x ∧ x ≤ 2 ^ a) (hy : 0 ≤ y ∧ y ≤ 2 ^ b) : 0 ≤ x * y ∧ x * y ≤ 2 ^ (1 + (a + b)) := by
  refine ⟨Int.mul_nonneg hx.1 hy.1, Int.le_trans (Int.mul_le_mul hx.2 hy.2 hy.1 (Int.le_trans hx.1 hx.2)) ?_⟩
  rw [← Int.pow_add]; exact pow_le (by omega)
theorem sum_le {x y : Int} {a b : Nat} (hx : 0 ≤ x ∧ x ≤ 2 ^ a) (hy : 0 ≤ y ∧ y ≤ 2 ^ b) : 0 ≤ x + y ∧ x + y ≤ 2 ^ (1 + (a + b)) := by
  refine ⟨by omega, ?_⟩
  have h1 := pow_le (show a ≤ a + b by omega)
  have h2 := pow_le (show b ≤ a + b by omega)
  have e : (2 : Int) ^ (1 + (a + b)) = 2 * 2 ^ (a + b) := by rw [Nat.add_comm, Int.pow_succ]; omega
  omega
theorem up_le {x : Int} {a : Nat} (hx : 0 ≤ x ∧ x ≤ 2 ^ a) : 0 ≤ x ∧ x ≤ 2 ^ (1 + a) := ⟨hx.1, Int.le_trans hx.2 (pow_le (by omega))⟩
theorem dbl_le {x y : Int} {a : Nat} (hx : 0 ≤ x ∧ x ≤ 2 ^ a) (hy : 0 ≤ y ∧ y ≤ 2 ^ a) : 0 ≤ x + y ∧ x + y ≤ 2 ^ (1 + a) := by
  have e : (2 : Int) ^ (1 + a) = 2 * 2 ^ a := by rw [Nat.add_comm, Int.pow_succ]; omega
  omega
theorem fl_nl : ∀ f : Fm, 0 ≤ fl f ∧ fl f ≤ 2 ^ nl f
  | text x => ⟨by simp [fl], by simp [fl, nl]⟩
  | brk none => ⟨by simp [fl], by simp [fl, nl]⟩
  | brk (some x) => ⟨by simp [fl], by simp [fl, nl]⟩
  | hole x => ⟨by simp [fl], by simp [fl, nl]⟩
  | join a b => prod_le (fl_nl a) (fl_nl b)
  | choice a b => sum_le (fl_nl a) (fl_nl b)
  | nested _ a => up_le (fl_nl a)
  | group a => up_le (fl_nl a)
  | flat a => up_le (fl_nl a)
theorem bo_nl : ∀ f : Fm, 0 ≤ bo f ∧ bo f ≤ 2 ^ nl f
  | text x => ⟨by simp [bo], by simp [bo, nl]⟩
  | brk _ => ⟨by simp [bo], by simp [bo, nl]⟩
  | hole x => ⟨by simp [bo], by simp [bo, nl]⟩
  | join a b => prod_le (bo_nl a) (bo_nl b)
  | choice a b => sum_le (bo_nl a) (bo_nl b)
  | nested _ a => up_le (bo_nl a)
  | group a => dbl_le (bo_nl a) (fl_nl a)
  | flat a => up_le (fl_nl a)
theorem wle_nl {n : Nat} : ∀ {f : Fm}, nl f ≤ n → wle (2 ^ n) f
  | text x, _ => pow_ge n
  | brk o, _ => pow_ge n
  | hole x, _ => pow_ge n
  | join a b, h => by
    have h' : 1 + (nl a + nl b) ≤ n := h
    exact ⟨⟨Int.le_trans (bo_nl (join a b)).2 (pow_le h), Int.le_trans (fl_nl (join a b)).2 (pow_le h)⟩, wle_nl (f := a) (by omega), wle_nl (f := b) (by omega)⟩
  | choice a b, h => by
    have h' : 1 + (nl a + nl b) ≤ n := h
    exact ⟨⟨Int.le_trans (bo_nl (choice a b)).2 (pow_le h), Int.le_trans (fl_nl (choice a b)).2 (pow_le h)⟩, wle_nl (f := a) (by omega), wle_nl (f := b) (by omega)⟩
  | nested _ a, h => by
    have h' : 1 + nl a ≤ n := h
    exact wle_nl (f := a) (by omega)
  | group a, h => by
    have h' : 1 + nl a ≤ n := h
    exact ⟨Int.le_trans (bo_nl (group a)).2 (pow_le h), wle_nl (f := a) (by omega)⟩
  | flat a, h => by
    have h' : 1 + nl a ≤ n := h
    exact wle_nl (f := a) (by omega)
theorem small_nl {f : Fm} (h1 : parts f ≤ 900) (h2 : nl f ≤ 60) (h3 : dep f ≤ 59) : small f := ⟨Nat.le_trans h1 (by decide), wle_nl h2, Nat.le_trans h3 (by decide), Nat.le_trans (holes_len f) (Nat.le_trans h1 (by decide))⟩
theorem small_of {f : Fm} (h : parts f ≤ 59) : small f := small_nl (Nat.le_trans h (by decide)) (Nat.le_trans (nl_le f) (Nat.le_trans h (by decide))) (Nat.le_trans (dep_le f) h)
def cp (L : List Fm) (i : Nat) : Nat := 1 + ((L.take i).map fun g => g.inner.length).sum
theorem cp_append {L M : List Fm} {i : Nat} (h : i ≤ L.length) : cp (L ++ M) i = cp L i := by unfold cp; rw [List.take_append_of_le_length h]
theorem cp_succ {L : List Fm} {i : Nat} {g : Fm} (h : L[i]? = some g) : cp L (i + 1) = cp L i + g.inner.length := by
  unfold cp
  rw [List.take_succ, h]
  simp; omega
structure Bfs (f : Fm) (L : List Fm) (k : Nat) : Prop where
  first : L[0]? = some f
  le : k ≤ L.length
  size : L.length = cp L k
  gap : ∀ i, i < k → i < cp L i
  kids : ∀ i g, i < k → L[i]? = some g → ∀ j h, g.inner[j]? = some h → L[cp L i + j]? = some h
  tot : k + ((L.drop k).map parts).sum = parts f
  hol : ∀ x, x ∈ holes f ↔ (∃ g ∈ L.take k, g = hole x) ∨ ∃ g ∈ L.drop k, x ∈ holes g
  ok : Fm.ok f → ∀ g ∈ L, Fm.ok g
  sm : ∀ g ∈ L, parts g ≤ parts f
  her : ∀ p : Fm → Prop, (∀ x y, p x → y ∈ x.inner → p y) → p f → ∀ g ∈ L, p g
  wt : ∀ u W : Fm → Nat, (∀ x, W x = u x + (x.inner.map W).sum) → ((L.take k).map u).sum + ((L.drop k).map W).sum = W f
theorem Bfs.start (f : Fm) : Bfs f [f] 0 where
  first := rfl
  le := Nat.zero_le _
  size := by simp [cp]
  gap := fun _ h => absurd h (Nat.not_lt_zero _)
  kids := fun _ _ h => absurd h (Nat.not_lt_zero _)
  tot := by simp
  hol := fun x => by simp
  ok := fun h g hg => by rw [List.mem_singleton.mp hg]; exact h
  sm := fun g hg => by rw [List.mem_singleton.mp hg]; exact Nat.le_refl _
  her := fun p _ h g hg => by rw [List.mem_singleton.mp hg]; exact h
  wt := fun u W _ => by simp
theorem Bfs.step {f : Fm} {L : List Fm} {k : Nat} {g : Fm} (b : Bfs f L k) (h : L[k]? = some g) : Bfs f (L ++ g.inner) (k + 1) := by
  have lt : k < L.length := (List.getElem?_eq_some_iff.mp h).1
  have dr : L.drop k = g :: L.drop (k + 1) := by
    rw [List.drop_eq_getElem_cons lt]
    have := (List.getElem?_eq_some_iff.mp h).2
    rw [this]
  have tk : (L ++ g.inner).take (k + 1) = L.take k ++ [g] := by rw [List.take_append_of_le_length lt, List.take_succ, h]; rfl
  have dr2 : (L ++ g.inner).drop (k + 1) = L.drop (k + 1) ++ g.inner := List.drop_append_of_le_length lt
  refine ⟨?_, ?_, ?_, ?_, ?_, ?_, ?_, ?_, ?_, ?_, ?_⟩
  · rw [List.getElem?_append_left (by omega)]; exact b.first
  · rw [List.length_append]; omega
  · rw [List.length_append, cp_append lt, cp_succ h, ← b.size]
  · intro i hi
    rw [cp_append (by omega)]
    by_cases c : i < k
    · exact b.gap i c
    · have e : i = k := by omega
      subst e
      rw [← b.size]; exact lt
  · intro i g' hi hg j h' hj
    rw [cp_append (by omega)]
    rw [List.getElem?_append_left (by omega)] at hg
    by_cases c : i < k
    · have q := b.kids i g' c hg j h' hj
      rw [List.getElem?_append_left (List.getElem?_eq_some_iff.mp q).1]; exact q
    · have e : i = k := by omega
      subst e
      rw [h] at hg
      cases hg
      rw [← b.size, List.getElem?_append_right (Nat.le_add_right _ _), Nat.add_sub_cancel_left]; exact hj
  · have t := b.tot
    rw [dr, List.map_cons, List.sum_cons, parts_inner g] at t
    rw [dr2, List.map_append, List.sum_append]
    omega
  · intro x
    rw [b.hol, tk, dr2, dr]
    constructor
    · rintro (⟨y, hy, e⟩ | ⟨y, hy, e⟩)
      · exact .inl ⟨y, List.mem_append_left _ hy, e⟩
      · rcases List.mem_cons.mp hy with rfl | hy
        · rcases holes_inner.mp e with e | ⟨z, hz, e⟩
          · exact .inl ⟨y, by simp, e⟩
          · exact .inr ⟨z, List.mem_append_right _ hz, e⟩
        · exact .inr ⟨y, List.mem_append_left _ hy, e⟩
    · rintro (⟨y, hy, e⟩ | ⟨y, hy, e⟩)
      · rcases List.mem_append.mp hy with hy | hy
        · exact .inl ⟨y, hy, e⟩
        · rw [List.mem_singleton.mp hy] at e
          exact .inr ⟨g, List.mem_cons_self, holes_inner.mpr (.inl e)⟩
      · rcases List.mem_append.mp hy with hy | hy
        · exact .inr ⟨y, List.mem_cons_of_mem _ hy, e⟩
        · exact .inr ⟨g, List.mem_cons_self, holes_inner.mpr (.inr ⟨y, hy, e⟩)⟩
  · intro hf y hy
    rcases List.mem_append.mp hy with hy | hy
    · exact b.ok hf y hy
    · exact ok_inner (b.ok hf g (List.mem_of_getElem? h)) hy
  · intro y hy
    rcases List.mem_append.mp hy with hy | hy
    · exact b.sm y hy
    · exact Nat.le_trans (Nat.le_of_lt (parts_lt hy)) (b.sm g (List.mem_of_getElem? h))
  · intro p hp hf y hy
    rcases List.mem_append.mp hy with hy | hy
    · exact b.her p hp hf y hy
    · exact hp g y (b.her p hp hf g (List.mem_of_getElem? h)) hy
  · intro u W hW
    have t := b.wt u W hW
    rw [dr, List.map_cons, List.sum_cons, hW g] at t
    rw [tk, dr2, List.map_append, List.sum_append, List.map_append, List.sum_append, List.map_cons, List.map_nil, List.sum_cons, List.sum_nil]
    omega
theorem Bfs.room {f : Fm} {L : List Fm} {k : Nat} (b : Bfs f L k) : L.length ≤ parts f := by
  have t := b.tot
  have h : (L.drop k).length ≤ ((L.drop k).map parts).sum := by
    generalize L.drop k = M
    induction M with
    | nil => simp
    | cons x M ih => have := parts_pos x; rw [List.map_cons, List.sum_cons, List.length_cons]; omega
  rw [List.length_drop] at h
  have := b.le
  omega
theorem Bfs.len {f : Fm} {L : List Fm} (b : Bfs f L L.length) : L.length = parts f := by have t := b.tot; rw [List.drop_length] at t; simpa using t
inductive Trip : List Fm → List D → Prop
  | nil : Trip [] []
  | cons {fs : List Fm} {ds : List D} (h : Fm) (p : Int) (hp : ∀ M, wle M h ↔ p ≤ M) : Trip fs ds → Trip (h :: fs) (.tup [.int (bo h), .int (fl h), .int p] :: ds)
theorem Trip.length : ∀ {fs : List Fm} {ds : List D}, Trip fs ds → ds.length = fs.length
  | _, _, .nil => rfl
  | _, _, .cons _ _ _ h => congrArg (· + 1) h.length
theorem Trip.snoc {fs : List Fm} {ds : List D} (h : Trip fs ds) (g : Fm) (p : Int) (hp : ∀ M, wle M g ↔ p ≤ M) : Trip (fs ++ [g]) (ds ++ [.tup [.int (bo g), .int (fl g), .int p]]) := by
  induction h with
  | nil => exact .cons g p hp .nil
  | cons k q hq _ ih => exact .cons k q hq ih
theorem Trip.get : ∀ {fs : List Fm} {ds : List D} {i : Nat} {g : Fm}, Trip fs ds → fs[i]? = some g → ∃ p, (∀ M, wle M g ↔ p ≤ M) ∧ ds[i]? = some (.tup [.int (bo g), .int (fl g), .int p])
  | _, _, _, _, .nil, e => by simp at e
  | _, _, 0, _, .cons k q hq _, e => by simp at e; subst e; exact ⟨q, hq, rfl⟩
  | _, _, i + 1, _, .cons k q _ h, e => by
    obtain ⟨p, h1, hp⟩ := h.get (i := i) (by simpa using e)
    exact ⟨p, h1, by simpa using hp⟩
end Fm
theorem exists_max : ∀ (ns : List Int), ns ≠ [] → ∃ m, m ∈ ns ∧ ∀ y, y ∈ ns → y ≤ m
  | [], h => absurd rfl h
  | [x], _ => ⟨x, by simp, by simp⟩
  | x :: y :: l, _ => by
    obtain ⟨m, hm, hl⟩ := exists_max (y :: l) (by simp)
    by_cases c : x ≤ m
    · refine ⟨m, List.mem_cons_of_mem _ hm, fun z hz => ?_⟩
      rcases List.mem_cons.mp hz with rfl | hz
      · exact c
      · exact hl z hz
    · refine ⟨x, List.mem_cons_self, fun z hz => ?_⟩
      rcases List.mem_cons.mp hz with rfl | hz
      · exact Int.le_refl _
      · have := hl z hz; omega
end PL
namespace PL
open PySem PySem.Spec PyProof.Rows L2
theorem char_inj {a b : Char} (h : a.toNat = b.toNat) : a = b := Char.ext (UInt32.toNat_inj.mp h)
theorem ofS_inj {a b : String} (h : Str.ofString a = Str.ofString b) : a = b := by
  rw [Str.ofString_eq_toList, Str.ofString_eq_toList] at h
  have h : a.toList.map Char.toNat = b.toList.map Char.toNat := by simpa using h
  exact String.toList_inj.mp (List.map_inj_right (fun _ _ e => char_inj e) |>.mp h)
theorem ofS_beq {a b : String} : (Str.ofString a == Str.ofString b) = (a == b) := by
  by_cases c : a = b
  · subst c; simp
  · have : Str.ofString a ≠ Str.ofString b := fun h => c (ofS_inj h)
    rw [beq_eq_false_iff_ne.mpr this, beq_eq_false_iff_ne.mpr c]
theorem pl_lit {n : Nat} {x : Str} (h : (decide (x.length ≤ 1000) && PyData.strOk x) = true) : Pl n (.str x) = True := eq_true (pl_str h)
theorem pk_text {n : Nat} : Pl n (.str "text") = True := pl_lit (by decide +kernel)
theorem pk_break {n : Nat} : Pl n (.str "break") = True := pl_lit (by decide +kernel)
theorem pk_hole {n : Nat} : Pl n (.str "hole") = True := pl_lit (by decide +kernel)
theorem pk_join {n : Nat} : Pl n (.str "join") = True := pl_lit (by decide +kernel)
theorem pk_choice {n : Nat} : Pl n (.str "choice") = True := pl_lit (by decide +kernel)
theorem pk_nested {n : Nat} : Pl n (.str "nested") = True := pl_lit (by decide +kernel)
theorem pk_group {n : Nat} : Pl n (.str "group") = True := pl_lit (by decide +kernel)
theorem pk_flattened {n : Nat} : Pl n (.str "flattened") = True := pl_lit (by decide +kernel)
theorem fd_str {x : Str} : flatD (.str x) = true := rfl
theorem fd_int {i : Int} : flatD (.int i) = true := rfl
theorem fd_non : flatD .non = true := rfl
theorem fd_bl {b : Bool} : flatD (.bl b) = true := rfl
theorem cut_to2 {α : Type} (x y z : α) : cut [x, y, z] none (some 2) = [x, y] := by
  unfold cut
  simp [HT.sIx]
theorem Fm.Trip.item : ∀ {fs : List Fm} {ds : List D} {i : Nat} {d : D}, Fm.Trip fs ds → ds[i]? = some d → ∃ (h : Fm) (p : Int), fs[i]? = some h ∧ (∀ M, h.wle M ↔ p ≤ M) ∧ d = .tup [.int h.bo, .int h.fl, .int p]
  | _, _, _, _, .nil, e => by simp at e
  | _, _, 0, _, .cons k q hq _, e => by simp at e; exact ⟨k, q, rfl, hq, e.symm⟩
  | _, _, i + 1, _, .cons k q _ h, e => by
    obtain ⟨h', p, m, hp, e'⟩ := h.item (i := i) (by simpa using e)
    exact ⟨h', p, by simpa using m, hp, e'⟩
theorem maxP.of {ns : List Int} {P : Int → Prop} (hn : ns ≠ []) (k : ∀ m, P m) : maxP [.lst (ns.map .int)] P := by
  obtain ⟨m, hm, hl⟩ := exists_max ns hn
  exact ⟨_, ns, m, rfl, intsD_map ns, hm, hl, k m⟩
def inL : D → Bool
  | .str s => match s.cps.toList with
    | [n] => decide (n ∈ lettersL)
    | _ => false
  | _ => false
theorem signs_inL (x : Str) : (signs x).all inL = x.cps.toList.all fun n => decide (n ∈ lettersL) := by
  unfold signs
  rw [List.all_map]
  rfl
theorem nameB_parts {x : Str} : nameB x = (decide (1 ≤ x.length) && decide (x.length ≤ 8) && (signs x).all inL) := by rw [signs_inL]; rfl
def Fm.hu : Fm → Nat
  | .hole _ => 1
  | _ => 0
theorem eqd_nn : eqD .non .non = true := by simp [eqD]
theorem eqd_nb {y : Bool} : eqD .non (.bl y) = false := by simp [eqD]
theorem eqd_ni {y : Int} : eqD .non (.int y) = false := by simp [eqD]
theorem eqd_ns {y : Str} : eqD .non (.str y) = false := by simp [eqD]
theorem eqd_nt {y : List D} : eqD .non (.tup y) = false := by simp [eqD]
theorem eqd_nl {y : List D} : eqD .non (.lst y) = false := by simp [eqD]
theorem eqd_bn {x : Bool} : eqD (.bl x) .non = false := by simp [eqD]
theorem eqd_bb {x : Bool} {y : Bool} : eqD (.bl x) (.bl y) = (x == y) := by simp [eqD]
theorem eqd_bi {x : Bool} {y : Int} : eqD (.bl x) (.int y) = (b2n x == y) := by simp [eqD]
theorem eqd_bs {x : Bool} {y : Str} : eqD (.bl x) (.str y) = false := by simp [eqD]
theorem eqd_bt {x : Bool} {y : List D} : eqD (.bl x) (.tup y) = false := by simp [eqD]
theorem eqd_bl {x : Bool} {y : List D} : eqD (.bl x) (.lst y) = false := by simp [eqD]
theorem eqd_in {x : Int} : eqD (.int x) .non = false := by simp [eqD]
theorem eqd_ib {x : Int} {y : Bool} : eqD (.int x) (.bl y) = (x == b2n y) := by simp [eqD]
theorem eqd_ii {x : Int} {y : Int} : eqD (.int x) (.int y) = (x == y) := by simp [eqD]
theorem eqd_is {x : Int} {y : Str} : eqD (.int x) (.str y) = false := by simp [eqD]
theorem eqd_it {x : Int} {y : List D} : eqD (.int x) (.tup y) = false := by simp [eqD]
theorem eqd_il {x : Int} {y : List D} : eqD (.int x) (.lst y) = false := by simp [eqD]
theorem eqd_sn {x : Str} : eqD (.str x) .non = false := by simp [eqD]
theorem eqd_sb {x : Str} {y : Bool} : eqD (.str x) (.bl y) = false := by simp [eqD]
theorem eqd_si {x : Str} {y : Int} : eqD (.str x) (.int y) = false := by simp [eqD]
theorem eqd_ss {x : Str} {y : Str} : eqD (.str x) (.str y) = (x == y) := by simp [eqD]
theorem eqd_st {x : Str} {y : List D} : eqD (.str x) (.tup y) = false := by simp [eqD]
theorem eqd_sl {x : Str} {y : List D} : eqD (.str x) (.lst y) = false := by simp [eqD]
theorem eqd_tn {x : List D} : eqD (.tup x) .non = false := by simp [eqD]
theorem eqd_tb {x : List D} {y : Bool} : eqD (.tup x) (.bl y) = false := by simp [eqD]
theorem eqd_ti {x : List D} {y : Int} : eqD (.tup x) (.int y) = false := by simp [eqD]
theorem eqd_ts {x : List D} {y : Str} : eqD (.tup x) (.str y) = false := by simp [eqD]
theorem eqd_tt {x : List D} {y : List D} : eqD (.tup x) (.tup y) = eqDs x y := by simp [eqD]
theorem eqd_tl {x : List D} {y : List D} : eqD (.tup x) (.lst y) = false := by simp [eqD]
theorem eqd_ln {x : List D} : eqD (.lst x) .non = false := by simp [eqD]
theorem eqd_lb {x : List D} {y : Bool} : eqD (.lst x) (.bl y) = false := by simp [eqD]
theorem eqd_li {x : List D} {y : Int} : eqD (.lst x) (.int y) = false := by simp [eqD]
theorem eqd_ls {x : List D} {y : Str} : eqD (.lst x) (.str y) = false := by simp [eqD]
theorem eqd_lt {x : List D} {y : List D} : eqD (.lst x) (.tup y) = false := by simp [eqD]
theorem eqd_ll {x : List D} {y : List D} : eqD (.lst x) (.lst y) = eqDs x y := by simp [eqD]
theorem eqds_nn : eqDs [] [] = true := by simp [eqDs]
theorem eqds_cc {x y : D} {l m : List D} : eqDs (x :: l) (y :: m) = (eqD x y && eqDs l m) := by simp [eqDs]
theorem eqds_nc {y : D} {m : List D} : eqDs [] (y :: m) = false := by simp [eqDs]
theorem eqds_cn {x : D} {l : List D} : eqDs (x :: l) [] = false := by simp [eqDs]
end PL
namespace PL
open PySem PySem.Spec PyProof.Rows L2
end PL
namespace PL
open PySem PySem.Spec PyProof.Rows L2
structure KTab (K : PySem.W.Frag) (w : World) (p : Addr) (tbl : List (Str × Int)) : Prop where
  at_ : ∃ es n, K.lookup p = some ⟨.type "dict", none, .dict es n, #[]⟩ ∧ PySem.W.KeysLit w.params es.toList
  low : (p == sysModules) = false
  say : ∀ q ∈ tbl, ∃ t, PySem.W.nsIn K p q.1 = some (some (.int q.2 t))
def tabP (tbl : List (Str × Int)) (y : D) (P : Int → Prop) : Prop := ∃ z i, y = .str z ∧ (z, i) ∈ tbl ∧ P i
def dKGet (tbl : List (Str × Int)) (te tf : DE) : DE := fun ρ c Q => te ρ c fun y c1 => tf ρ c1 fun _ c2 => tabP tbl y fun i => Q (.int i) c2
theorem ev_kget {tbl : List (Str × Int)} {te tf : DE} {ρ : DEnv} {c : CN} {Q : QD} : dKGet tbl te tf ρ c Q = te ρ c fun y c1 => tf ρ c1 fun _ c2 => tabP tbl y fun i => Q (.int i) c2 := propext Iff.rfl
abbrev AlQ : Type := AlP × List (Option (List (Option (Str × Int))))
def obsQ (fn : List DefP) (ex : Looks') (ts : List He.Tab) (K : PySem.W.Frag) : AlQ := (obsP fn ex K, ts.map fun t => He.dicW K (t.1 K))
def valQ (fn : List DefP) (ts : List He.Tab) (w : World) : AlQ := (valP fn, ts.map fun t => some (He.keysIn w.params t.2))
def SaysQ (fn : List DefP) (ex : Looks') (ts : List He.Tab) (w : World) (K : PySem.W.Frag) : Prop := obsQ fn ex ts K = valQ fn ts w
section
variable {fn : List DefP} {ex : Looks'} {ts : List He.Tab} {w : World} {K : PySem.W.Frag}
theorem SaysQ.p (c : SaysQ fn ex ts w K) : SaysP fn ex K := congrArg (fun z : AlQ => z.1) c
theorem SaysQ.look (c : SaysQ fn ex ts w K) (i : Nat) {f : PySem.W.Frag → Bool} (h : ex[i]? = some f := by rfl) : f K = true := c.p.look i h
theorem SaysQ.def_ (c : SaysQ fn ex ts w K) (i : Nat) {d : DefP} (h : fn[i]? = some d := by rfl) : ∃ fd, FunD K d.name d.qual d.params d.body d.scope (d.dvs K) (d.kws K) (d.ad K) fd := c.p.def_ i h
theorem SaysQ.tab (c : SaysQ fn ex ts w K) (i : Nat) {t : He.Tab} {tbl : List (Str × Int)} (h : ts[i]? = some t) (v : He.valsB K (t.1 K) (tbl.map fun q => (q.1, .int q.2)) = true) : KTab K w (t.1 K) tbl := by
  have e : ts.map (fun t => He.dicW K (t.1 K)) = ts.map fun t => some (He.keysIn w.params t.2) := congrArg (fun z : AlQ => z.2) c
  have e2 : (ts.map fun t => He.dicW K (t.1 K))[i]? = (ts.map fun t => some (He.keysIn w.params t.2))[i]? := by rw [e]
  rw [List.getElem?_map, List.getElem?_map, h] at e2
  obtain ⟨es, n, h1, h2, h3⟩ := He.dicW_ok (Option.some.inj e2)
  refine ⟨⟨es, n, h1, h2⟩, h3, fun q hq => ?_⟩
  obtain ⟨u, e3, t', rfl⟩ := He.valsB_ok v (List.mem_map.mpr ⟨q, hq, rfl⟩)
  exact ⟨t', e3⟩
end
def fw (w : World) (b : Bool) : World := { w with params := { w.params with followText := fun s => if s = "special-get-raises" then b else w.params.followText s } }
end PL
namespace PL
open PySem PySem.Spec PyProof.Rows L2 StX
abbrev SpS := List D → List D → CN → QD → EDt → Prop
def FnS (P : Program) (w : World) (K : PySem.W.Frag) (mg : Str → Option Value) (base : Heap) (CX : CXT) (k : Nat) (f : Addr) (ks : List Str) (sp : List V → List V → Hp → VK → XK → Prop) : Prop :=
  ∀ (A : Around) (outer : List Env) (s : Shared) (H : Hp) (us ws : List Value) (vs zs : List V) (Q : VK) (E : XK), Room k A → Env0 P w K mg base A outer s H → Vals vs us → Vals zs ws → ws.length = ks.length → sp vs zs H Q E →
    codeAny (model P w) A (.call (.ref f) ⟨us, ks.zip ws⟩) (CR CX outer P w H s Q E) s
theorem FnS.mono {P : Program} {w : World} {K : PySem.W.Frag} {mg : Str → Option Value} {base : Heap} {CX : CXT} {j k : Nat} {f : Addr} {ks : List Str} {sp} (F : FnS P w K mg base CX j f ks sp) (h : j ≤ k) : FnS P w K mg base CX k f ks sp :=
  fun A outer s H us ws vs zs Q E hr => F A outer s H us ws vs zs Q E (hr.mono h)
def spOfS (K : PySem.W.Frag) (sp : SpS) : List V → List V → Hp → VK → XK → Prop := fun vs zs H Q E => ∃ G c ds es Qd ED, G.Ok H c ∧ RpAll K G vs ds ∧ RpAll K G zs es ∧ sp ds es c Qd ED ∧
  (∀ d v G' H' c', Evo G H c G' H' c' → Rp K G' v d → Qd d c' → Q v H') ∧
  ∀ C ns es dx G' H' c', Evo G H c G' H' c' → RpE K G' dx ns es → ED C ns es c' → E (.ref C) dx H'
structure FnB (P : Program) (w : World) (K : PySem.W.Frag) (mg : Str → Option Value) (base : Heap) (k : Nat) (x qual : Str) (params : Arguments) (body : List Stmt) (scope : Scope) (dvs : List V) (kws : List (Str × V)) (f : Addr) (fd : FuncData) (N ps : List Str) (sp : SpD) : Prop where
  F : FunD K x qual params body scope dvs kws f fd
  S : FnScope N ps scope
  b : ∀ (cdv : Value) (A : Around) (outer : List Env) (s : Shared) (H : Hp) (E : XK) (G0 : GS K) (c0 : CN) (ED : EDt), Ctx.Good ⟨cxOf (L2.CX P w) P w K mg base N qual scope f cdv A outer s H E, G0, H, c0, fun _ => E, fun _ => ED, G0⟩ k →
      ∃ ts t, PDSs ⟨cxOf (L2.CX P w) P w K mg base N qual scope f cdv A outer s H E, G0, H, c0, fun _ => E, fun _ => ED, G0⟩ body ts t ∧ ∀ ds Qd, sp ds c0 Qd ED → t { nx := fun _ c => Qd .non c, rt := Qd } (startD N ds) c0
def BnS (P : Program) (w : World) (K : PySem.W.Frag) (mg : Str → Option Value) (base : Heap) (fd : FuncData) (ks ps : List Str) (sd : List D → List D → Prop) (g : List D → List D → List D) : Prop :=
  ∀ (A : Around) (outer : List Env) (s : Shared) (H : Hp) (E : XK) (us ws : List Value) (vs zs : List V) (ds es : List D) (G : GS K) (c : CN), Env0 P w K mg base A outer s H → G.Ok H c → Vals vs us → Vals zs ws → ws.length = ks.length → RpAll K G vs ds → RpAll K G zs es → sd ds es →
    Bnd (L2.CX P w) P w K mg base fd ⟨us, ks.zip ws⟩ ps A outer s H E fun xs H2 => ∃ G2, Evo G H c G2 H2 c ∧ RpAll K G2 xs (g ds es)
section
variable {P : Program} {w : World} {K : PySem.W.Frag} {mg : Str → Option Value} {base : Heap} {x qual : Str} {params : Arguments} {body : List Stmt} {scope : Scope} {dvs : List V} {kws : List (Str × V)} {f : Addr} {fd : FuncData}
def spS (sd : List D → List D → Prop) (g : List D → List D → List D) (sp : SpD) : SpS := fun ds es c Q E => sd ds es ∧ @Run sp (g ds es) c Q E
theorem FnB.star {N ps ks : List Str} {k : Nat} {sp : SpD} {sd : List D → List D → Prop} {g : List D → List D → List D} (B : FnB P w K mg base k x qual params body scope dvs kws f fd N ps sp) (b : BnS P w K mg base fd ks ps sd g) :
    FnS P w K mg base (L2.CX P w) (k + 1) f ks (spOfS K (spS sd g sp)) := by
  intro A outer s H us ws vs zs Q E hr e0 r rz hl h
  obtain ⟨oc, od, dV, kV, doc, pm, an, cdv, ct, osl, efd, lk, hcd, _, _⟩ := B.F.ex
  obtain ⟨G, c, ds, es, Qd, ED, ok, rd, re, ⟨hs, h⟩, hQ, hE⟩ := h
  subst efd
  refine run_bnd lk hcd B.S hr e0 (b A outer s H E us ws vs zs ds es G c e0 ok r rz hl rd re hs) fun s2 H2 xs ⟨G2, ev, rx⟩ hr' => ?_
  obtain ⟨ts, t, hb, ht⟩ := B.b cdv A outer s2 H2 E G2 c ED ⟨takes_of rfl rfl rfl rfl, fun ρ σ G1 H1 c1 R C ns es dx G' H' c' ev2 r q => hE C ns es dx G' H' c' (ev.trans (R.evo.trans ev2)) r q, hr', rfl⟩
  refine ⟨ts, hb.p, hb.s G2 G2 H2 c (startD N (g ds es)) _ { nx := fun _ c => Qd .non c, rt := Qd } _ ?_ ⟨rel_start (Y := ⟨cxOf (L2.CX P w) P w K mg base N qual scope f cdv A outer s2 H2 E, G2, H2, c, fun _ => E, fun _ => ED, G2⟩) ev.ok rx (GS.Le.refl _), GS.Le.refl _⟩ (ht (g ds es) Qd h)⟩
  exact ⟨fun G' H' c' ρ σ R q => hQ _ _ G' H' c' (ev.trans R.r.evo) .non q, fun G' H' c' d v e r q => hQ d v G' H' c' (ev.trans e) r q, fun _ _ _ _ _ _ z => z.elim, fun _ _ _ _ _ _ z => z.elim⟩
def KwChainT {α : Type} (D : Addr) : List (Str × Value) → Sem α → Sem α → Prop
  | [], t, u => t = u
  | q :: l, t, u => ∃ (β γ : Type) (k1 : Option Value → Sem β) (k2 : β → Sem γ) (k3 : γ → Sem α) (a : β), t = ((nsGet D q.1 >>= k1) >>= k2) >>= k3 ∧ k1 (some q.2) = pure a ∧ KwChainT D l (k2 a >>= k3) u
theorem KwChainT.run {α : Type} {M : Model} {D : Addr} {A : Around} {E : Value → Shared → Prop} {s : Shared} {Q : α → Shared → Prop} (X : K.In s.heap) : ∀ {l : List (Str × Value)} {t u : Sem α}, (∀ q ∈ l, PySem.W.nsIn K D q.1 = some (some q.2)) → KwChainT D l t u → wpAny M A u Q E s → wpAny M A t Q E s
  | [], t, u, _, e, h => by cases e; exact h
  | q :: l, t, u, hl, e, h => by
    obtain ⟨β, γ, k1, k2, k3, a, e1, e2, e3⟩ := e
    have l1 : PySem.W.Looks M s.heap (nsGet D q.1 >>= k1) a := (PySem.W.looks_nsIn X (hl q (List.mem_cons_self ..))).andThen (PySem.W.Looks.of_pure e2)
    rw [e1, bind_assoc]
    exact wpAny_bind (l1.here (KwChainT.run X (fun p hp => hl p (List.mem_cons_of_mem _ hp)) e3 h))
end
section
variable {X : Cx} {CX : CXT} {k : Nat} {f : Addr} {ks : List Str} {sp : List V → List V → Hp → VK → XK → Prop} {E : L2.St → XK} {x : Str} {p pos sp_ : Pos} {e : Expr} {es : List Expr} {kws : List Keyword} {t tk : TA} {te : TE}
variable (hr : Room k X.A) (hg : Gl X x) (hm : X.mg x = some (.ref f)) (hk : PySem.W.keepIn X.K (.ref f) = true) (hx : ∀ σ, PassesAt CX X σ (E σ)) (hdb : (x == ("__debug__" : Str)) = false)
include hr hg hm hk hx hdb
end
section
variable {Y : Ctx} {k : Nat} {f : Addr} {ks : List Str} {sp : SpS} {x : Str} {p pos sp_ : Pos} {e : Expr} {es : List Expr} {kws : List Keyword} {fa fk : TA} {t tk : DA} {te : TE} {de : DE}
structure CalS (K : PySem.W.Frag) (mg : Str → Option Value) (x : Str) (f : Addr) : Prop where
  m : mg x = some (.ref f)
  k : PySem.W.keepIn K (.ref f) = true
def dCallS (ED : DEnv → EDt) (m : Nat) (sp : SpS) (t tk : DA) : DE := fun ρ c Q => t ρ c fun ds c1 => tk ρ c1 fun es c2 => es.length = m ∧ sp ds es c2 Q (ED ρ)
def asSeq (x : D) (P : List D → Prop) : Prop := ∃ l, (x = .tup l ∨ x = .lst l) ∧ P l
theorem ev_asSeqT {l : List D} {P : List D → Prop} : asSeq (.tup l) P = P l := by
  apply propext; constructor
  · rintro ⟨_, e | e, h⟩ <;> cases e; exact h
  · exact fun h => ⟨_, .inl rfl, h⟩
theorem ev_asSeqL {l : List D} {P : List D → Prop} : asSeq (.lst l) P = P l := by
  apply propext; constructor
  · rintro ⟨_, e | e, h⟩ <;> cases e; exact h
  · exact fun h => ⟨_, .inr rfl, h⟩
def dStar (te : DE) (t : DA) (ρ : DEnv) (c : CN) (Q : List D → CN → Prop) : Prop := te ρ c fun x c1 => asSeq x fun l => t ρ c1 fun ds c2 => Q (l ++ ds) c2
end
section
variable {ED : DEnv → EDt} {E : EDt} {m : Nat} {c : CN} {sp : SpD} {sq : SpS} {sd : List D → List D → Prop} {g : List D → List D → List D} {ds es : List D} {t tk : DA} {te : DE} {ρ : DEnv} {Q : QD} {QL : List D → CN → Prop} {d : D} {l : List D}
theorem ev_callS : dCallS ED m sq t tk ρ c Q = t ρ c fun ds c1 => tk ρ c1 fun es c2 => es.length = m ∧ sq ds es c2 Q (ED ρ) := propext Iff.rfl
theorem ev_spS : spS sd g sp ds es c Q E = (sd ds es ∧ @Run sp (g ds es) c Q E) := propext Iff.rfl
theorem ev_star : dStar te t ρ c QL = te ρ c fun x c1 => asSeq x fun l => t ρ c1 fun ds c2 => QL (l ++ ds) c2 := propext Iff.rfl
theorem take_1 : (d :: l).take 1 = [d] := rfl
theorem drop_1 : (d :: l).drop 1 = l := rfl
end
section
variable {X : Cx} {Y : Ctx} {a : Expr} {ea : TE} {ta : DE} {pos p2 : Pos} {x2 : ExprContext}
def asT (x : D) (P : List D → Prop) : Prop := ∃ l, x = .tup l ∧ P l
theorem ev_asT {l : List D} {P : List D → Prop} : asT (.tup l) P = P l := by
  apply propext; constructor
  · rintro ⟨_, e, h⟩; cases e; exact h
  · exact fun h => ⟨_, rfl, h⟩
def aEqN : RD2 := fun x y c Q => asT x fun l => y = .tup [] ∧ Q (.bl (l.length == 0)) c
theorem ev_eqN {x y : D} {c : CN} {Q : QD} : aEqN x y c Q = asT x fun l => y = .tup [] ∧ Q (.bl (l.length == 0)) c := propext Iff.rfl
end
end PL
namespace PL
open PySem PySem.Spec PyProof.Rows L2
inductive Fm.Op where
  | join | choice
def Fm.Op.name : Fm.Op → Str
  | .join => "join"
  | .choice => "choice"
def Fm.Op.mk : Fm.Op → Fm → Fm → Fm
  | .join => .join
  | .choice => .choice
def Fm.nx (o : Fm.Op) (mid : Option Fm) (f g : Fm) : Fm := match mid with
  | none => o.mk f g
  | some m => o.mk (o.mk f m) g
def Fm.row (o : Fm.Op) (mid : Option Fm) (f : Fm) (gs : List Fm) : Fm := gs.foldl (Fm.nx o mid) f
theorem Fm.Op.enc (o : Fm.Op) (f g : Fm) : (o.mk f g).enc = .tup [.str o.name, f.enc, g.enc] := by cases o <;> rfl
theorem Fm.Op.ok {o : Fm.Op} {f g : Fm} : (o.mk f g).ok ↔ f.ok ∧ g.ok := by cases o <;> exact Iff.rfl
theorem Fm.Op.parts (o : Fm.Op) (f g : Fm) : (o.mk f g).parts = 1 + (f.parts + g.parts) := by cases o <;> rfl
end PL
namespace PL
open PySem PySem.Spec PyProof.Rows L2 StX
def kD : Key → D
  | .inl i => .int i
  | .inr x => .str x
def dgetD : List Key → List D → Key → Option D
  | k' :: ks, d :: ds, k => if k' = k then some d else dgetD ks ds k
  | _, _, _ => none
def dputK (ks : List Key) (k : Key) : List Key := if (ks.any fun x => decide (x = k)) = true then ks else ks ++ [k]
def dputD : List Key → List D → Key → D → List D
  | k' :: ks, d :: ds, k, e => if k' = k then e :: ds else d :: dputD ks ds k e
  | _, _, _, e => [e]
section
variable {K : PySem.W.Frag} {G : GS K}
theorem kV_rp {y : V} {k : Key} (h : Rp K G y (kD k)) : y = kV k := by cases k <;> (cases h; rfl)
theorem valV_dget : ∀ {kvs : List (Key × V)} {ds : List D} (k : Key), RpAll K G (kvs.map (·.2)) ds → (valV kvs k = none ∧ dgetD (kvs.map (·.1)) ds k = none) ∨ ∃ v d, valV kvs k = some v ∧ dgetD (kvs.map (·.1)) ds k = some d ∧ Rp K G v d
  | [], _, k, h => .inl ⟨rfl, by cases h; rfl⟩
  | p :: kvs, _, k, h => by
    cases h with
    | @cons _ _ d ds r h =>
      by_cases e : p.1 = k
      · exact .inr ⟨p.2, d, valV_pos e, by simp [dgetD, e], r⟩
      · rcases valV_dget k h with ⟨e1, e2⟩ | ⟨v, d', e1, e2, r'⟩
        · exact .inl ⟨by rw [valV_neg e]; exact e1, by simp [dgetD, e, e2]⟩
        · exact .inr ⟨v, d', by rw [valV_neg e]; exact e1, by simp [dgetD, e, e2], r'⟩
end
def dctP (x : D) (P : List Key → List D → Prop) : Prop := ∃ ks ds, x = .dct ks ds ∧ P ks ds
def keyP (y : D) (P : Key → Prop) : Prop := ∃ k, y = kD k ∧ P k
section
variable {ks : List Key} {ds : List D} {P : List Key → List D → Prop} {Pk : Key → Prop} {x : Str} {i : Int}
theorem ev_dctP : dctP (.dct ks ds) P = P ks ds := by
  apply propext; constructor
  · rintro ⟨_, _, e, h⟩; cases e; exact h
  · exact fun h => ⟨_, _, rfl, h⟩
theorem ev_keyS : keyP (.str x) Pk = Pk (.inr x) := by
  apply propext; constructor
  · rintro ⟨k, e, h⟩
    cases k with
    | inl j => cases e
    | inr y => cases e; exact h
  · exact fun h => ⟨.inr x, rfl, h⟩
theorem ev_keyI : keyP (.int i) Pk = Pk (.inl i) := by
  apply propext; constructor
  · rintro ⟨k, e, h⟩
    cases k with
    | inl j => cases e; exact h
    | inr y => cases e
  · exact fun h => ⟨.inl i, rfl, h⟩
end
section
variable {Y : Ctx} {k : Nat} {a b e f o : Expr} {ea eb ec : TE} {ta tb tc : DE} {pos apos cpos : Pos}
theorem DGet.of {G : GS Y.X.K} {H : Hp} {c : CN} {x y : V} {ks : List Key} {ds : List D} {kk : Key} (ok : G.Ok H c) (rx : Rp Y.X.K G x (.dct ks ds)) (ry : Rp Y.X.K G y (kD kk)) : ∃ p, x = .ref p ∧ L2.IsD H p ∧ ((DGet H p y none ∧ dgetD ks ds kk = none) ∨ ∃ v d, DGet H p y (some v) ∧ dgetD ks ds kk = some d ∧ Rp Y.X.K G v d) := by
  cases rx with
  | @dct p kvs _ _ h1 h2 h3 =>
    have h1' := Rd.same ok.same (.inr h1)
    refine ⟨p, rfl, .inl ⟨kvs, h1'⟩, ?_⟩
    rw [kV_rp ry]
    subst h2
    rcases valV_dget kk h3 with ⟨e1, e2⟩ | ⟨v, d, e1, e2, r⟩
    · exact .inl ⟨.inl ⟨kvs, kk, h1', rfl, e1.symm⟩, e2⟩
    · exact .inr ⟨v, d, .inl ⟨kvs, kk, h1', rfl, e1.symm⟩, e2, r⟩
def dDGet (ta tb : DE) : DE := fun ρ c Q => ta ρ c fun x c1 => tb ρ c1 fun y c2 => dctP x fun ks ds => keyP y fun k => ∃ d, dgetD ks ds k = some d ∧ Q d c2
def dGet2 (ta tb tc : DE) : DE := fun ρ c Q => ta ρ c fun x c1 => dctP x fun ks ds => tb ρ c1 fun y c2 => tc ρ c2 fun z c3 => keyP y fun k => Q ((dgetD ks ds k).getD z) c3
def dDIn (ng : Bool) (tb ta : DE) : DE := fun ρ c Q => tb ρ c fun y c1 => ta ρ c1 fun x c2 => dctP x fun ks ds => keyP y fun k => Q (.bl (ng != (dgetD ks ds k).isSome)) c2
def bSortD : RDn := fun ds c Q => hd1 ds fun d => dctP d fun ks _ => ∃ xs : List Str, ks = xs.map Sum.inr ∧ xs.length < 64 ∧ xs.Nodup ∧ Q (.lst ((sortU xs).map D.str)) c
end
def dPairs : List (DE × DE) → DEnv → CN → (List (D × D) → CN → Prop) → Prop
  | [], _, c, Q => Q [] c
  | (tk, tv) :: r, ρ, c, Q => tk ρ c fun x c1 => tv ρ c1 fun y c2 => dPairs r ρ c2 fun ps c3 => Q ((x, y) :: ps) c3
def RpPs (K : PySem.W.Frag) (G : GS K) (ps : List (V × V)) (ds : List (D × D)) : Prop := RpAll K G (ps.map (·.1)) (ds.map (·.1)) ∧ RpAll K G (ps.map (·.2)) (ds.map (·.2))
structure PDP (Y : Ctx) (pos : Pos) (keys : List (Option Expr)) (values : List Expr) (trs : List (TE × TE)) (drs : List (DE × DE)) : Prop where
  p : PPs Y.X pos keys values trs
  s : ∀ G H c ρ σ (Qd : List (D × D) → CN → Prop) (Q : List (V × V) → Hp → Prop), Rel Y G H c ρ σ → dPairs drs ρ c Qd → (∀ ds ps G' H' c', Evo G H c G' H' c' → RpPs Y.X.K G' ps ds → Qd ds c' → Q ps H') → tPairs trs σ H Q
section
variable {Y : Ctx} {pos : Pos} {k v : Expr} {ks : List (Option Expr)} {vs : List Expr} {ek ev : TE} {tk tv : DE} {trs : List (TE × TE)} {drs : List (DE × DE)}
def dDisp (drs : List (DE × DE)) : DE := fun ρ c Q => dPairs drs ρ c fun ps c1 => ps.length ≤ 15 ∧ ∃ ks : List Key, ps.map (·.1) = ks.map kD ∧ ks.Nodup ∧ Q (.dct ks (ps.map (·.2))) c1
end
section
variable {Y : Ctx} {P G : GS Y.X.K} {H : Hp} {c : CN} {ρ : DEnv} {σ : L2.St}
end
section
variable {Y : Ctx} {rest : List Stmt} {s1 : TS} {t : DS} {k : Nat} {e i0 : Expr} {x : Str} {ee ei : TE} {te ti : DE} {p pos pos' pos2 : Pos}
def sNewD (i : Nat) : DS := fun DD ρ c => DD.nx (ρ.set i (.od [] [])) c
def odP (s : Option Sl) (P : List Key → List D → Prop) : Prop := ∃ ks ds, s = some (.od ks ds) ∧ P ks ds
def sPutD (i : Nat) (te ti : DE) : DS := fun DD ρ c => te ρ c fun d c1 => odP ρ[i]? fun ks ds => ti ρ c1 fun y c2 => keyP y fun k => ks.length < 16777216 ∧ ks.Nodup ∧ DD.nx (ρ.set i (.od (dputK ks k) (dputD ks ds k d))) c2
def sFreezeD (i : Nat) (t : DS) : DS := fun DD ρ c => odP ρ[i]? fun ks ds => t DD (ρ.set i (.fz (.dct ks ds))) c
def dOdGet (i : Nat) (ti : DE) : DE := fun ρ c Q => odP ρ[i]? fun ks ds => ti ρ c fun y c1 => keyP y fun k => ∃ d, dgetD ks ds k = some d ∧ Q d c1
def dOdIn (ng : Bool) (i : Nat) (ti : DE) : DE := fun ρ c Q => ti ρ c fun y c1 => odP ρ[i]? fun ks ds => keyP y fun k => Q (.bl (ng != (dgetD ks ds k).isSome)) c1
end
end PL
namespace PL
open PySem PySem.Spec PyProof.Rows L2 StX
open PySem.W (dictOf kwEs putL putName_dict putL_new putN)
section
variable {P : Program} {w : World} {A : Around} {E : Value → Shared → Prop} {d : Addr}
end
section
variable {P : Program} {w : World} {K : PySem.W.Frag} {mg : Str → Option Value} {base : Heap} {x qual : Str} {params : Arguments} {body : List Stmt} {scope : Scope} {dvs : List V} {kws : List (Str × V)} {f : Addr} {fd : FuncData}
end
def dDict0 : DE := fun _ c Q => Q (.dct [] []) c
theorem ev_dict0 {ρ : DEnv} {c : CN} {Q : QD} : dDict0 ρ c Q = Q (.dct [] []) c := propext Iff.rfl
section
variable {Q : QD} {c : CN} {i : Nat} {ρ : DEnv} {ta tb tc te ti : DE} {drs : List (DE × DE)} {t : DS} {DD : DEnds} {ks : List Key} {ds : List D} {P : Key → Prop} {Pd : List Key → List D → Prop} {ng : Bool} {tk tv : DE} {QP : List (D × D) → CN → Prop} {r : List (DE × DE)}
theorem ev_dget : dDGet ta tb ρ c Q = ta ρ c fun x c1 => tb ρ c1 fun y c2 => dctP x fun ks ds => keyP y fun k => @atP (dgetD ks ds k) fun d => Q d c2 := propext Iff.rfl
theorem ev_dget2 : dGet2 ta tb tc ρ c Q = ta ρ c fun x c1 => dctP x fun ks ds => tb ρ c1 fun y c2 => tc ρ c2 fun z c3 => keyP y fun k => Q ((dgetD ks ds k).getD z) c3 := propext Iff.rfl
theorem ev_dIn : dDIn ng tb ta ρ c Q = tb ρ c fun y c1 => ta ρ c1 fun x c2 => dctP x fun ks ds => keyP y fun k => Q (.bl (ng != (dgetD ks ds k).isSome)) c2 := propext Iff.rfl
theorem ev_disp : dDisp drs ρ c Q = dPairs drs ρ c fun ps c1 => ps.length ≤ 15 ∧ ∃ ks : List Key, ps.map (·.1) = ks.map kD ∧ ks.Nodup ∧ Q (.dct ks (ps.map (·.2))) c1 := propext Iff.rfl
theorem ev_pairs0 : dPairs [] ρ c QP = QP [] c := propext Iff.rfl
theorem ev_pairs1 : dPairs ((tk, tv) :: r) ρ c QP = tk ρ c fun x c1 => tv ρ c1 fun y c2 => dPairs r ρ c2 fun ps c3 => QP ((x, y) :: ps) c3 := propext Iff.rfl
theorem ev_newD : sNewD i DD ρ c = @Nx DD.nx (ρ.set i (.od [] [])) c := propext Iff.rfl
theorem ev_odP : odP (some (.od ks ds)) Pd = Pd ks ds := by
  apply propext; constructor
  · rintro ⟨_, _, e, h⟩; cases e; exact h
  · exact fun h => ⟨_, _, rfl, h⟩
theorem ev_putD : sPutD i te ti DD ρ c = te ρ c fun d c1 => odP ρ[i]? fun ks ds => ti ρ c1 fun y c2 => keyP y fun k => ks.length < 16777216 ∧ ks.Nodup ∧ @Nx DD.nx (ρ.set i (.od (dputK ks k) (dputD ks ds k d))) c2 := propext Iff.rfl
theorem ev_freezeD : sFreezeD i t DD ρ c = odP ρ[i]? fun ks ds => @Nx (t DD) (ρ.set i (.fz (.dct ks ds))) c := propext Iff.rfl
theorem ev_odget : dOdGet i ti ρ c Q = odP ρ[i]? fun ks ds => ti ρ c fun y c1 => keyP y fun k => @atP (dgetD ks ds k) fun d => Q d c1 := propext Iff.rfl
theorem ev_odIn : dOdIn ng i ti ρ c Q = ti ρ c fun y c1 => odP ρ[i]? fun ks ds => keyP y fun k => Q (.bl (ng != (dgetD ks ds k).isSome)) c1 := propext Iff.rfl
theorem ev_sortD : bSortD ds c Q = hd1 ds fun d => dctP d fun ks _ => ∃ xs : List Str, ks = xs.map Sum.inr ∧ xs.length < 64 ∧ xs.Nodup ∧ Q (.lst ((sortU xs).map D.str)) c := propext Iff.rfl
end
end PL
namespace PL
open PySem PySem.Spec PyProof.Rows L2
def Fm.fill (ks : List Str) (φ : Str → Fm) : Fm → Fm
  | hole x => if (ks.any fun y => decide (y = x)) = true then φ x else hole x
  | join a b => join (fill ks φ a) (fill ks φ b)
  | choice a b => choice (fill ks φ a) (fill ks φ b)
  | nested i a => nested i (fill ks φ a)
  | group a => group (fill ks φ a)
  | flat a => flat (fill ks φ a)
  | f => f
def keysS (ks : List Str) : List Key := ks.map Sum.inr
theorem Fm.fill_ok {ks : List Str} {φ : Str → Fm} (h : ∀ x, x ∈ ks → (φ x).ok) : ∀ {f : Fm}, f.ok → (Fm.fill ks φ f).ok
  | .hole x, hf => by
    simp only [Fm.fill]
    split
    · rename_i c; exact h x (by simpa using c)
    · exact hf
  | .join a b, hf => ⟨Fm.fill_ok h hf.1, Fm.fill_ok h hf.2⟩
  | .choice a b, hf => ⟨Fm.fill_ok h hf.1, Fm.fill_ok h hf.2⟩
  | .nested i a, hf => ⟨hf.1, Fm.fill_ok h hf.2⟩
  | .group a, hf => Fm.fill_ok (f := a) h hf
  | .flat a, hf => Fm.fill_ok (f := a) h hf
  | .text x, hf => hf
  | .brk o, hf => hf
theorem Fm.fill_size {ks : List Str} {φ : Str → Fm} {m n d : Nat} (h : ∀ x, x ∈ ks → (φ x).parts ≤ m ∧ (φ x).nl ≤ n ∧ (φ x).dep ≤ d) (m1 : 1 ≤ m) (d1 : 1 ≤ d) : ∀ f : Fm, (Fm.fill ks φ f).parts ≤ f.parts * m ∧ (Fm.fill ks φ f).nl ≤ f.nl + (f.parts - f.nl) * n ∧ (Fm.fill ks φ f).dep + 1 ≤ f.dep + d
  | .hole x => by
    simp only [Fm.fill]
    split
    · rename_i c
      have := h x (by simpa using c)
      simp only [Fm.parts, Fm.nl, Fm.dep]; omega
    · simp only [Fm.parts, Fm.nl, Fm.dep]; omega
  | .join a b => by
    have := Fm.fill_size h m1 d1 a; have := Fm.fill_size h m1 d1 b; have := Fm.nl_le a; have := Fm.nl_le b
    have e1 : (1 + (a.parts + b.parts)) * m = m + (a.parts * m + b.parts * m) := by rw [Nat.add_mul, Nat.add_mul, Nat.one_mul]
    have e2 : (1 + (a.parts + b.parts) - (1 + (a.nl + b.nl))) * n = (a.parts - a.nl) * n + (b.parts - b.nl) * n := by rw [← Nat.add_mul]; congr 1; omega
    simp only [Fm.fill, Fm.parts, Fm.nl, Fm.dep]; omega
  | .choice a b => by
    have := Fm.fill_size h m1 d1 a; have := Fm.fill_size h m1 d1 b; have := Fm.nl_le a; have := Fm.nl_le b
    have e1 : (1 + (a.parts + b.parts)) * m = m + (a.parts * m + b.parts * m) := by rw [Nat.add_mul, Nat.add_mul, Nat.one_mul]
    have e2 : (1 + (a.parts + b.parts) - (1 + (a.nl + b.nl))) * n = (a.parts - a.nl) * n + (b.parts - b.nl) * n := by rw [← Nat.add_mul]; congr 1; omega
    simp only [Fm.fill, Fm.parts, Fm.nl, Fm.dep]; omega
  | .nested i a => by
    have := Fm.fill_size h m1 d1 a; have := Fm.nl_le a
    have e1 : (1 + a.parts) * m = m + a.parts * m := by rw [Nat.add_mul, Nat.one_mul]
    have e2 : (1 + a.parts - (1 + a.nl)) * n = (a.parts - a.nl) * n := by congr 1; omega
    simp only [Fm.fill, Fm.parts, Fm.nl, Fm.dep]; omega
  | .group a => by
    have := Fm.fill_size h m1 d1 a; have := Fm.nl_le a
    have e1 : (1 + a.parts) * m = m + a.parts * m := by rw [Nat.add_mul, Nat.one_mul]
    have e2 : (1 + a.parts - (1 + a.nl)) * n = (a.parts - a.nl) * n := by congr 1; omega
    simp only [Fm.fill, Fm.parts, Fm.nl, Fm.dep]; omega
  | .flat a => by
    have := Fm.fill_size h m1 d1 a; have := Fm.nl_le a
    have e1 : (1 + a.parts) * m = m + a.parts * m := by rw [Nat.add_mul, Nat.one_mul]
    have e2 : (1 + a.parts - (1 + a.nl)) * n = (a.parts - a.nl) * n := by congr 1; omega
    simp only [Fm.fill, Fm.parts, Fm.nl, Fm.dep]; omega
  | .text x => by simp only [Fm.fill, Fm.parts, Fm.nl, Fm.dep]; omega
  | .brk o => by simp only [Fm.fill, Fm.parts, Fm.nl, Fm.dep]; omega
theorem Fm.dep_nl : ∀ f : Fm, f.dep ≤ f.nl + 1
  | .text _ => by simp only [Fm.parts, Fm.nl, Fm.dep]; omega
  | .brk _ => by simp only [Fm.parts, Fm.nl, Fm.dep]; omega
  | .hole _ => by simp only [Fm.parts, Fm.nl, Fm.dep]; omega
  | .join a b => by have := Fm.dep_nl a; have := Fm.dep_nl b; simp only [Fm.parts, Fm.nl, Fm.dep]; omega
  | .choice a b => by have := Fm.dep_nl a; have := Fm.dep_nl b; simp only [Fm.parts, Fm.nl, Fm.dep]; omega
  | .nested _ a => by have := Fm.dep_nl a; simp only [Fm.parts, Fm.nl, Fm.dep]; omega
  | .group a => by have := Fm.dep_nl a; simp only [Fm.parts, Fm.nl, Fm.dep]; omega
  | .flat a => by have := Fm.dep_nl a; simp only [Fm.parts, Fm.nl, Fm.dep]; omega
def look : List Str → List Fm → Str → Fm
  | k :: ks, g :: gs, x => if k = x then g else look ks gs x
  | _, _, x => .hole x
end PL
namespace PLt
open PySem PySem.Spec PyProof.Rows L2
theorem five_odd : ∀ u : Nat, (5 ^ (2 * u + 1) - 1) % 8 = 4
  | 0 => by decide
  | u + 1 => by
    have ih := five_odd u
    have e : 5 ^ (2 * (u + 1) + 1) = 5 ^ (2 * u + 1) * 25 := by rw [show 2 * (u + 1) + 1 = (2 * u + 1) + 2 by omega, Nat.pow_add]
    have p : 1 ≤ 5 ^ (2 * u + 1) := Nat.one_le_pow _ _ (by decide)
    omega
theorem five_mod : ∀ u : Nat, 5 ^ u % 4 = 1
  | 0 => rfl
  | u + 1 => by have := five_mod u; rw [Nat.pow_succ]; omega
theorem five_two : ∀ (k t : Nat), 2 ^ (k + 2) ∣ 5 ^ t - 1 → 2 ^ k ∣ t
  | 0, t, _ => by rw [Nat.pow_zero]; exact Nat.one_dvd t
  | k + 1, t, h => by
    rcases Nat.mod_two_eq_zero_or_one t with e | e
    · obtain ⟨u, rfl⟩ : ∃ u, t = 2 * u := ⟨t / 2, by omega⟩
      have f : 5 ^ (2 * u) - 1 = (5 ^ u - 1) * (5 ^ u + 1) := by
        have p : 1 ≤ 5 ^ u := Nat.one_le_pow _ _ (by decide)
        obtain ⟨x, hx⟩ : ∃ x, 5 ^ u = x + 1 := ⟨5 ^ u - 1, by omega⟩
        rw [Nat.mul_comm 2 u, Nat.pow_mul, hx]
        have : (x + 1) ^ 2 = x * x + 2 * x + 1 := by rw [Nat.pow_two, Nat.add_mul, Nat.mul_add]; omega
        rw [this, Nat.add_sub_cancel, Nat.add_sub_cancel, Nat.mul_add, Nat.mul_add]
        omega
      have m := five_mod u
      obtain ⟨w, hw⟩ : ∃ w, 5 ^ u + 1 = 2 * w := ⟨(5 ^ u + 1) / 2, by omega⟩
      have wo : w % 2 = 1 := by omega
      rw [f, hw, ← Nat.mul_assoc, Nat.mul_comm _ 2, Nat.mul_assoc, show k + 1 + 2 = (k + 2) + 1 by omega, Nat.pow_succ, Nat.mul_comm (2 ^ (k + 2)) 2] at h
      have h2 : 2 ^ (k + 2) ∣ (5 ^ u - 1) * w := Nat.dvd_of_mul_dvd_mul_left (by decide) h
      have c : Nat.Coprime (2 ^ (k + 2)) w := Nat.Coprime.pow_left _ (by rw [Nat.Coprime, Nat.gcd_rec, wo]; rfl)
      have h3 := five_two k u (c.dvd_of_dvd_mul_right h2)
      rw [Nat.pow_succ, Nat.mul_comm]
      exact Nat.mul_dvd_mul_left 2 h3
    · exfalso
      obtain ⟨u, rfl⟩ : ∃ u, t = 2 * u + 1 := ⟨t / 2, by omega⟩
      have := five_odd u
      have d8 : 2 ^ 3 ∣ 5 ^ (2 * u + 1) - 1 := Nat.dvd_trans (Nat.pow_dvd_pow 2 (by omega)) h
      omega
theorem MaskG.odd {m : Nat} (h : MaskG m) : m % 2 = 1 := by
  obtain ⟨k, hk, e⟩ := h
  obtain ⟨j, rfl⟩ : ∃ j, k = j + 1 := ⟨k - 1, by omega⟩
  rw [Nat.pow_succ] at e
  omega
def orb (s : Nat) : Nat → Nat
  | 0 => s
  | t + 1 => orb s t * 5 + 1
theorem lcg_orb (m s : Nat) : ∀ t, lcgI m (s % (m + 1)) t = orb s t % (m + 1)
  | 0 => rfl
  | t + 1 => by
    show (lcgI m (s % (m + 1)) t * 5 + 1) % (m + 1) = (orb s t * 5 + 1) % (m + 1)
    rw [lcg_orb m s t, Nat.add_mod, Nat.mod_mul_mod, ← Nat.add_mod]
theorem orb_form (s : Nat) : ∀ t, 4 * orb s t + 1 = 5 ^ t * (4 * s + 1)
  | 0 => by simp [orb]
  | t + 1 => by
    have := orb_form s t
    rw [Nat.pow_succ, Nat.mul_comm (5 ^ t) 5, Nat.mul_assoc, ← this]
    simp only [orb]; omega
theorem orb_add (s a : Nat) : ∀ b, orb (orb s a) b = orb s (a + b)
  | 0 => rfl
  | b + 1 => by
    show orb (orb s a) b * 5 + 1 = orb s (a + b) * 5 + 1
    rw [orb_add s a b]
theorem orb_back {k s t : Nat} (h : orb s t % 2 ^ k = s % 2 ^ k) : 2 ^ k ∣ t := by
  refine five_two k t ?_
  have f := orb_form s t
  have p : 1 ≤ 5 ^ t := Nat.one_le_pow _ _ (by decide)
  have le : s ≤ orb s t := by
    have : 4 * s + 1 ≤ 5 ^ t * (4 * s + 1) := Nat.le_mul_of_pos_left _ p
    omega
  have d1 : 2 ^ k ∣ orb s t - s := Nat.dvd_of_mod_eq_zero (Nat.sub_mod_eq_zero_of_mod_eq h)
  have d2 : 2 ^ (k + 2) ∣ 4 * (orb s t - s) := by
    rw [show k + 2 = 2 + k by omega, Nat.pow_add]
    exact Nat.mul_dvd_mul_left 4 d1
  have e : 4 * (orb s t - s) = (5 ^ t - 1) * (4 * s + 1) := by
    rw [Nat.mul_sub, Nat.sub_mul, ← f, Nat.one_mul]
    omega
  rw [e] at d2
  have c : Nat.Coprime (2 ^ (k + 2)) (4 * s + 1) := Nat.Coprime.pow_left _ (by rw [Nat.Coprime, Nat.gcd_rec, show (4 * s + 1) % 2 = 1 by omega]; rfl)
  exact c.dvd_of_dvd_mul_right d2
theorem lcg_inj {m : Nat} (hm : MaskG m) {s a b : Nat} (hs : s ≤ m) (hab : a < b) (hb : b - a ≤ m) : lcgI m s a ≠ lcgI m s b := by
  intro h
  obtain ⟨k, _, e⟩ := hm
  have es : s = s % (m + 1) := (Nat.mod_eq_of_lt (by omega)).symm
  rw [es, lcg_orb, lcg_orb, show b = a + (b - a) by omega, ← orb_add, e] at h
  have := Nat.le_of_dvd (by omega) (orb_back h.symm)
  omega
theorem wayG_le (m : Nat) (h : Int) (k : Nat) : way m h k ≤ m := by
  have hi : SetTable.bits h % (m + 1) ≤ m := Nat.le_of_lt_succ (Nat.mod_lt _ (Nat.succ_pos _))
  have r := runEnd_bd hi
  have z : SetTable.bits h % (m + 1) + (SetTable.runEnd m (SetTable.bits h % (m + 1)) - SetTable.bits h % (m + 1)) ≤ m := by omega
  have q := nth_in (m := m) k (runAt m (SetTable.bits h % (m + 1)) (SetTable.bits h)) z
  exact Nat.le_trans (Nat.le_add_right _ _) q
theorem start_free {m : Nat} (hm : MaskG m) (h : Int) {ps : List Nat} (hl : ps.length ≤ m) : ∃ r, r ≤ ps.length + 12 ∧ runI m (SetTable.bits h) r ∉ ps := by
  rcases Classical.em (∃ r, r ≤ ps.length + 12 ∧ runI m (SetTable.bits h) r ∉ ps) with c | c
  · exact c
  · exfalso
    have hin : ∀ t, t ≤ ps.length → lcgI m (runI m (SetTable.bits h) 12) t ∈ ps := fun t ht => by
      rw [← runI_tail (bits_lt h)]
      rcases Classical.em (runI m (SetTable.bits h) (12 + t) ∈ ps) with z | z
      · exact z
      · exact absurd ⟨12 + t, by omega, z⟩ c
    have s0 := runI_le m (SetTable.bits h) 12
    have nd : ((List.range (ps.length + 1)).map fun t => lcgI m (runI m (SetTable.bits h) 12) t).Nodup := by
      refine List.pairwise_map.mpr (List.Pairwise.imp_of_mem (fun {a b} ha hb hlt => ?_) List.pairwise_lt_range)
      have := List.mem_range.mp hb
      exact lcg_inj hm s0 hlt (by omega)
    have := nat_nodup_len _ ps nd fun x hx => by
      obtain ⟨t, ht, rfl⟩ := List.mem_map.mp hx
      exact hin t (by have := List.mem_range.mp ht; omega)
    rw [List.length_map, List.length_range] at this
    omega
theorem TabG.fresh (fg mv : Nat) (ld : Bool) : TabG (SetTable.fresh fg mv ld) [] :=
  ⟨List.Pairwise.nil, rfl, rfl, ⟨3, by decide, rfl⟩, (fun q hq => nomatch hq), (fun n v q e => by simp at e)⟩
theorem TabG.ahead {t : SetTable} {vs : List Int} (T : TabG t vs) {v : Int} {K n q : Nat} (hK : way t.mask v K ∉ t.place.toList) (hn : vs[n]? = some v) (hq : t.place.toList[n]? = some q) : ∃ k, k < K ∧ way t.mask v k = q := by
  obtain ⟨k, e, z⟩ := T.met n v q hn hq
  refine ⟨k, ?_, e⟩
  rcases Nat.lt_trichotomy k K with c | c | c
  · exact c
  · exact absurd (List.mem_of_getElem? hq) (by rw [← e, c]; exact hK)
  · exact absurd (z K c) hK
structure SitG (m : Nat) (vs : List Int) (ow : Array (Option Nat)) : Prop where
  sz : ow.size = m + 1
  wy : ∀ q n, q ≤ m → oAt ow q = some n → ∃ v K, vs[n]? = some v ∧ way m v K = q ∧ ∀ c, c < K → oAt ow (way m v c) ≠ none
  al : ∀ n, n < vs.length → ∃ q, q ≤ m ∧ oAt ow q = some n
  fw : ∃ ps : List Nat, ps.length = vs.length ∧ ∀ q, q ≤ m → oAt ow q ≠ none → q ∈ ps
theorem SitG.nil (m : Nat) : SitG m [] (Array.replicate (m + 1) none) :=
  ⟨by simp, (fun q n hq e => by rw [oAt_init hq] at e; cases e), (fun n hn => absurd hn (Nat.not_lt_zero _)), [], rfl, (fun q hq e => absurd (oAt_init hq) e)⟩
theorem sit_find {m : Nat} (hm : MaskG m) {ow : Array (Option Nat)} {ps : List Nat} (hl : ps.length ≤ m) (hps : ∀ q, q ≤ m → oAt ow q ≠ none → q ∈ ps) (v : Int) :
    ∃ K, SetTable.layClean.free m ow (SetTable.turns m) (SetTable.bits v % (m + 1)) (SetTable.bits v) = some (way m v K) ∧ oAt ow (way m v K) = none ∧ ∀ c, c < K → oAt ow (way m v c) ≠ none := by
  obtain ⟨r, hr, hn⟩ := start_free hm v hl
  have hw : way m v (off m (SetTable.bits v % (m + 1)) (SetTable.bits v) r) = runI m (SetTable.bits v) r := by
    show (nth m (runAt m _ _) (off m _ _ r)).j = _
    rw [nth_off, itL_run]
    rfl
  have emp : oAt ow (runI m (SetTable.bits v) r) = none := by
    cases z : oAt ow (runI m (SetTable.bits v) r) with
    | none => rfl
    | some n => exact absurd (hps _ (runI_le _ _ _) (by rw [z]; simp)) hn
  obtain ⟨K, k1, k2, k3⟩ := st_least (p := fun k => oAt ow (way m v k) = none) (off m (SetTable.bits v % (m + 1)) (SetTable.bits v) r) (by show oAt ow (way m v _) = none; rw [hw]; exact emp)
  refine ⟨K, free_spec m ow (SetTable.turns m) r _ _ K (by unfold SetTable.turns; omega) k1 (fun c hc => ?_) ?_, k2, k3⟩
  · have := k3 c hc
    cases z : oAt ow (nth m (runAt m (SetTable.bits v % (m + 1)) (SetTable.bits v)) c).j with
    | none => exact absurd z this
    | some _ => rfl
  · rw [show oAt ow (nth m (runAt m (SetTable.bits v % (m + 1)) (SetTable.bits v)) K).j = none from k2]; rfl
theorem SitG.next {m : Nat} (hm : MaskG m) {vs : List Int} {ow : Array (Option Nat)} (S : SitG m vs ow) (hl : vs.length ≤ m) (v : Int) :
    ∃ q, SetTable.layClean.free m ow (SetTable.turns m) (SetTable.bits v % (m + 1)) (SetTable.bits v) = some q ∧ SitG m (vs ++ [v]) (ow.setIfInBounds q (some vs.length)) := by
  obtain ⟨ps, hp, hin⟩ := S.fw
  obtain ⟨K, e1, e2, e3⟩ := sit_find hm (by omega) hin v
  have top := wayG_le m v K
  have ins : way m v K < ow.size := by rw [S.sz]; omega
  have self := oAt_set_self (some vs.length) ins
  have kept : ∀ {i}, oAt ow i ≠ none → oAt (ow.setIfInBounds (way m v K) (some vs.length)) i ≠ none := fun {i} hi => by
    by_cases c : i = way m v K
    · rw [c, self]; simp
    · rw [oAt_set_ne _ c]; exact hi
  refine ⟨_, e1, by rw [Array.size_setIfInBounds]; exact S.sz, fun q n hq e => ?_, fun n hn => ?_, way m v K :: ps, by simp [hp], fun q hq e => ?_⟩
  · by_cases c : q = way m v K
    · rw [c, self] at e
      cases e
      exact ⟨v, K, by simp, c.symm, fun j hj => kept (e3 j hj)⟩
    · rw [oAt_set_ne _ c] at e
      obtain ⟨u, L, a1, a2, a3⟩ := S.wy q n hq e
      exact ⟨u, L, by rw [List.getElem?_append_left (List.getElem?_eq_some_iff.mp a1).1]; exact a1, a2, fun j hj => kept (a3 j hj)⟩
  · by_cases c : n < vs.length
    · obtain ⟨q, hq, e⟩ := S.al n c
      refine ⟨q, hq, ?_⟩
      rw [oAt_set_ne _ (fun z => by rw [z, e2] at e; cases e)]
      exact e
    · simp at hn
      rw [show n = vs.length by omega]
      exact ⟨_, top, self⟩
  · by_cases c : q = way m v K
    · rw [c]; exact List.mem_cons_self
    · rw [oAt_set_ne _ c] at e
      exact List.mem_cons_of_mem _ (hin q hq e)
end PLt
set_option maxHeartbeats 2000000
namespace PLt
open PySem PySem.Spec PyProof.Rows L2
structure RK (P : Program) (w : World) (κ : Type) where
  is : Heap → κ → Addr → Prop
  hash : κ → Int
  draws : κ → Nat
  rm : Nat
  stay : ∀ {h h' : Heap} {k : κ} {a : Addr}, is h k a → (∀ b o, h.get? b = some o → o.cls = .type "tuple" → h'.get? b = some o) → is h' k a
  tup : ∀ {h : Heap} {k : κ} {a : Addr}, is h k a → ∃ o, h.get? a = some o ∧ o.cls = .type "tuple"
  inj : ∀ {h : Heap} {a : Addr} {x y : κ}, is h x a → is h y a → x = y
  py : ∀ {A : Around} {E : Value → Shared → Prop} {s : Shared} {k : κ} {a : Addr} {Q : Int → Shared → Prop}, A.units + rm < cLine → is s.heap k a → Q (hash k) { s with toks := s.toks + draws k } → wpAny (model P w) A (PySem.pyHash (.ref a)) Q E s
  eq : ∀ {A : Around} {E : Value → Shared → Prop} {s : Shared} {x y : κ} {a b : Addr} {Q : Bool → Shared → Prop}, A.units + rm < cLine → is s.heap x a → is s.heap y b → (∀ c : Bool, (c = true ↔ x = y) → Q c s) → wpAny (model P w) A (PySem.eqBool (.ref a) (.ref b)) Q E s
  quiet : ∀ {A : Around} {E : Value → Shared → Prop} {s : Shared} {k : κ} {a : Addr} {Q : Bool → Shared → Prop}, is s.heap k a → Q true s → wpAny (model P w) A (eqIsQuiet 8 (.ref a)) Q E s
  noCls : ∀ {A : Around} {E : Value → Shared → Prop} {s : Shared} {k : κ} {a : Addr} {Q : Bool → Shared → Prop}, is s.heap k a → Q false s → wpAny (model P w) A (ofAClassStatement 8 (.ref a)) Q E s
  byV : ∀ {A : Around} {E : Value → Shared → Prop} {s : Shared} {k : κ} {a : Addr} {Q : Bool → Shared → Prop}, is s.heap k a → (∀ b, Q b s) → wpAny (model P w) A (hashByValue 8 (.ref a)) Q E s
def MAXN : Nat := 9000
section
variable {P : Program} {w : World} {κ : Type} (R : RK P w κ)
def rowsG (L : List (Addr × κ)) : List (Int × Value) := L.map fun p => (R.hash p.2, Value.ref p.1)
structure SetN (h : Heap) (a : Addr) (L : List (Addr × κ)) (es : Array (Int × Value)) (ep : Nat) (t : SetTable) : Prop where
  ob : ∃ o, h.get? a = some o ∧ o.ExactSet ∧ o.data = .set es ep t
  rw : es.toList = rowsG R L
  tb : TabG t (L.map fun p => R.hash p.2)
  nd : (L.map (·.2)).Nodup
  tp : ∀ p ∈ L, R.is h p.2 p.1
  ld : w.params.followText "set-order" = true ∨ t.led = true
  rm : L.length * 5 < t.mask * 3
  few : L.length ≤ MAXN
end
section
variable {P : Program} {w : World} {κ : Type} {R : RK P w κ} {A : Around} {E : Value → Shared → Prop} {s : Shared} {a : Addr} {L : List (Addr × κ)} {es : Array (Int × Value)} {ep : Nat} {t : SetTable}
theorem SetN.size {h : Heap} (S : SetN R h a L es ep t) : es.size = L.length := by
  have := congrArg List.length S.rw
  simpa [rowsG] using this
theorem SetN.fits {h : Heap} (S : SetN R h a L es ep t) : t.fits es.size = true := by
  have h1 := S.tb.ln
  have h2 := S.size
  have h3 := S.rm
  rw [List.length_map] at h1
  unfold SetTable.fits SetTable.fill
  rw [S.tb.nod]
  simp only [Bool.and_eq_true, beq_iff_eq, decide_eq_true_eq]
  show _ ∧ t.place.size + 0 ≤ t.mask
  omega
theorem SetN.entry {h : Heap} (S : SetN R h a L es ep t) {i : Nat} {p : Addr × κ} (e : L[i]? = some p) : es[i]? = some (R.hash p.2, Value.ref p.1) := by
  rw [← Array.getElem?_toList, S.rw, rowsG, List.getElem?_map, e]; rfl
theorem SetN.place {h : Heap} (S : SetN R h a L es ep t) : t.place.toList.length = L.length := by
  have := S.tb.ln
  rw [List.length_map] at this
  rw [Array.length_toList]; exact this
end
end PLt
set_option maxHeartbeats 2000000
namespace PLt
open PySem PySem.Spec PyProof.Rows L2
theorem dpt_mem {k : KD} : ∀ {l : List KD}, k ∈ l → dpt k ≤ dpts l
  | x :: l, h => by
    rcases List.mem_cons.mp h with rfl | h
    · simp only [dpts]; omega
    · have := dpt_mem h; simp only [dpts]; omega
mutual
inductive IsK (h : Heap) : KD → Value → Prop
  | i (n : Int) (t : Tok) : IsK h (.i n) (.int n t)
  | s (x : Str) (t : Tok) : IsK h (.s x) (.str x t)
  | t {a : Addr} {o : Obj} {its : Array Value} {n : Nat} {l : List KD} : h.get? a = some o → o.cls = .type "tuple" → o.data = .seq its n → IsKs h l its.toList → IsK h (.t l) (.ref a)
inductive IsKs (h : Heap) : List KD → List Value → Prop
  | nil : IsKs h [] []
  | cons {k : KD} {v : Value} {l : List KD} {vs : List Value} : IsK h k v → IsKs h l vs → IsKs h (k :: l) (v :: vs)
end
mutual
theorem IsK.stay {h h' : Heap} (kp : ∀ b o, h.get? b = some o → o.cls = .type "tuple" → h'.get? b = some o) : ∀ {k : KD} {v : Value}, IsK h k v → IsK h' k v
  | .i _, _, x => by cases x; exact .i _ _
  | .s _, _, x => by cases x; exact .s _ _
  | .t l, _, x => by cases x with | t e1 e2 e3 e4 => exact .t (kp _ _ e1 e2) e2 e3 (IsKs.stay kp e4)
theorem IsKs.stay {h h' : Heap} (kp : ∀ b o, h.get? b = some o → o.cls = .type "tuple" → h'.get? b = some o) : ∀ {l : List KD} {vs : List Value}, IsKs h l vs → IsKs h' l vs
  | [], _, x => by cases x; exact .nil
  | k :: l, _, x => by cases x with | cons e1 e2 => exact .cons (IsK.stay kp e1) (IsKs.stay kp e2)
end
theorem IsKs.length {h : Heap} : ∀ {l : List KD} {vs : List Value}, IsKs h l vs → l.length = vs.length
  | [], _, x => by cases x; rfl
  | k :: l, _, x => by cases x with | cons e1 e2 => simp [IsKs.length e2]
mutual
theorem IsK.inj {h : Heap} : ∀ {x y : KD} {v : Value}, IsK h x v → IsK h y v → x = y
  | .i _, _, _, x, y => by cases x; cases y; rfl
  | .s _, _, _, x, y => by cases x; cases y; rfl
  | .t l, _, _, x, y => by
    cases x with
    | t e1 e2 e3 e4 =>
      cases y with
      | t f1 f2 f3 f4 =>
        rw [e1] at f1
        cases f1
        rw [e3] at f3
        cases f3
        rw [IsKs.inj e4 f4]
theorem IsKs.inj {h : Heap} : ∀ {x y : List KD} {vs : List Value}, IsKs h x vs → IsKs h y vs → x = y
  | [], _, _, x, y => by cases x; cases y; rfl
  | k :: l, _, _, x, y => by
    cases x with
    | cons e1 e2 =>
      cases y with
      | cons f1 f2 => rw [IsK.inj e1 f1, IsKs.inj e2 f2]
end
section
variable {P : Program} {w : World}
mutual
def drawK : KD → Nat
  | .i _ => 1
  | .s _ => 1
  | .t l => drawKs l + 1
def drawKs : List KD → Nat
  | [] => 0
  | k :: l => drawK k + drawKs l
end
theorem hashKs_app (l m : List KD) : hashKs w (l ++ m) = hashKs w l ++ hashKs w m := by
  induction l with
  | nil => rfl
  | cons k l ih => simp [hashKs, ih]
theorem drawKs_app (l m : List KD) : drawKs (l ++ m) = drawKs l + drawKs m := by
  induction l with
  | nil => simp [drawKs]
  | cons k l ih => simp [drawKs, ih]; omega
theorem IsKs.split {h : Heap} : ∀ {l : List KD} {v : Value} {vs : List Value}, IsKs h l (v :: vs) → ∃ k m, l = k :: m ∧ IsK h k v ∧ IsKs h m vs
  | _, _, _, .cons a b => ⟨_, _, rfl, a, b⟩
theorem hash_ok : ∀ (n : Nat) (k : KD), dpt k ≤ n → ∀ {A : Around} {E : Value → Shared → Prop} {s : Shared} {v : Value} {Q : Int → Shared → Prop}, A.units + n < cLine → IsK s.heap k v → Q (hashK w k) { s with toks := s.toks + drawK k } → wpAny (model P w) A (PySem.pyHash v) Q E s := by
  intro n
  induction n with
  | zero =>
    intro k hk A E s v Q hu x h
    cases k with
    | i m => cases x; exact wpAny_pyHash_int h
    | s y => cases x; exact wpAny_pyHash_str h
    | t l => simp only [dpt] at hk; omega
  | succ n ih =>
    intro k hk A E s v Q hu x h
    cases k with
    | i m => cases x; exact wpAny_pyHash_int h
    | s y => cases x; exact wpAny_pyHash_str h
    | t l =>
      simp only [dpt] at hk
      cases x with
      | @t a o its m _ ho hc hd hi =>
        have hT : s.TypeIs (.ref a) "tuple" := ⟨o, ho, hc⟩
        unfold pyHash
        first | unfold pyHashByItsType | skip
        refine wpAny_bind (wpAny_cRoomFor_or (.inr (by omega)) (wpAny_bind (wpAny_specialOf hT F.slot_tuple_hash.lookup ?_)))
        show wpAny _ _ (if (some (Value.builtin "tuple.__hash__") == some Value.none) = true then _ else _) Q E s
        rw [if_neg (by rw [beq_builtin_none]; decide)]
        refine wpAny_bind (wpAny_specialOf hT F.slot_tuple_hash.lookup ?_)
        show wpAny _ _ (callSpecialIfBoundUnlessNone? (.ref a) "__hash__" _ >>= _) Q E s
        have call := F.slot_tuple_hash
        refine wpAny_bind (wpAny_callSpecialIfBoundUnlessNone?_slot hT call (wpAny_call_entry call hT F.entry_tuple_hash ?_ (F.args_tuple_hash_1 _)))
        show wpAny _ _ (Builtin.Tuple.tupleItemsOf (.ref a) >>= _) _ _ s
        refine wpAny_bind (wpAny_tupleItemsOf ho hd (wpAny_bind ?_))
        rw [← Array.forIn_toList]
        have inv := fun (rest : List Value) (b : Array Int) (s' : Shared) => ∃ done left, l = done ++ left ∧ IsKs s.heap left rest ∧ b.toList = hashKs w done ∧ s' = { s with toks := s.toks + drawKs done }
        refine wpAny_forIn_list _ (fun rest (b : Array Int) s' => ∃ done left, l = done ++ left ∧ IsKs s.heap left rest ∧ b.toList = hashKs w done ∧ s' = { s with toks := s.toks + drawKs done }) _ (fun x rest b s' ⟨done, left, e, hl, hb, es⟩ => ?_) (fun b s' ⟨done, left, e, hl, hb, es⟩ => ?_) _ _ ⟨[], l, rfl, hi, rfl, rfl⟩
        · subst es
          obtain ⟨k, m, rfl, hk1, hm⟩ := hl.split
          have dk : dpt k ≤ n := by
            have := dpt_mem (k := k) (l := l) (by rw [e]; simp)
            omega
          refine wpAny_bind (ih k dk (by show A.units + 1 + n < cLine; omega) (IsK.stay (fun _ _ z _ => z) hk1) ?_)
          have nxt : ∃ done' left', l = done' ++ left' ∧ IsKs s.heap left' rest ∧ (b.push (hashK w k)).toList = hashKs w done' ∧ ({ s with toks := s.toks + drawKs done + drawK k } : Shared) = { s with toks := s.toks + drawKs done' } :=
            ⟨done ++ [k], m, by rw [e]; simp, hm, by rw [Array.toList_push, hb, hashKs_app]; rfl, by rw [drawKs_app]; simp only [drawKs, Nat.add_zero, Nat.add_assoc]⟩
          first
            | exact wpAny_pure nxt
            | exact wpAny_bind (wpAny_pure (wpAny_pure nxt))
        · subst es
          cases hl
          rw [List.append_nil] at e
          subst e
          simp only [hashK, drawK] at h
          show wpAny _ _ (retInt (Builtin.Tuple.tupleHashOf b.toList)) _ _ _
          rw [hb]
          refine wpAny_ret_mkInt ?_
          generalize Builtin.Tuple.tupleHashOf (hashKs w l) = z at h ⊢
          show wpAny _ _ (if (decide (-(2 : Int) ^ 63 ≤ z) && decide (z < 2 ^ 63)) = true then _ else _) Q E _
          unfold reduceHash at h
          by_cases hr : (decide (-(2 : Int) ^ 63 ≤ z) && decide (z < 2 ^ 63)) = true
          · rw [if_pos hr] at h ⊢
            exact wpAny_pure (by simpa [Nat.add_assoc] using h)
          · rw [if_neg hr] at h ⊢
            exact wpAny_bind (wpAny_rule (wpAny_pure (by simpa [Nat.add_assoc] using h)))
end
end PLt
set_option maxHeartbeats 2000000
namespace PLt
open PySem PySem.Spec PyProof.Rows L2
open PySem.SeqAt (EqAt RcAt)
theorem IsKs.get {h : Heap} : ∀ {l : List KD} {vs : List Value} {i : Nat} {v : Value}, IsKs h l vs → vs[i]? = some v → ∃ k, l[i]? = some k ∧ IsK h k v
  | _, _, i, _, .nil, e => by simp at e
  | _, _, 0, _, .cons a b, e => by simp at e; subst e; exact ⟨_, rfl, a⟩
  | _, _, i + 1, _, .cons a b, e => by
    obtain ⟨k, h1, h2⟩ := b.get (i := i) (by simpa using e)
    exact ⟨k, by simpa using h1, h2⟩
def leafK : KD → Option Key
  | .i n => some (.inl n)
  | .s x => some (.inr x)
  | .t _ => none
theorem leaf_is {P : Program} {w : World} {h : Heap} {k : KD} {v : Value} {q : Key} (x : IsK h k v) (e : leafK k = some q) : (mixKind P w).is q v = true := by
  cases k with
  | i n => cases e; cases x; exact kV_is (k := .inl n) ⟨_, rfl⟩
  | s y => cases e; cases x; exact kV_is (k := .inr y) ⟨_, rfl⟩
  | t l => cases e
theorem leaf_inj {a b : KD} {p q : Key} (e1 : leafK a = some p) (e2 : leafK b = some q) : p = q ↔ a = b := by
  cases a <;> cases b <;> cases e1 <;> cases e2 <;> simp
theorem all_range {l m : List KD} {e : Nat → Bool} {n : Nat} (hn : n = min l.length m.length) (h : ∀ i a b, l[i]? = some a → m[i]? = some b → (e i = true ↔ a = b)) : ((List.range n).all e && l.length == m.length) = true ↔ l = m := by
  rw [Bool.and_eq_true, List.all_eq_true, beq_iff_eq]
  constructor
  · rintro ⟨h1, h2⟩
    refine List.ext_getElem? fun i => ?_
    by_cases c : i < n
    · have c1 : i < l.length := by omega
      have c2 : i < m.length := by omega
      have := (h i _ _ (List.getElem?_eq_getElem c1) (List.getElem?_eq_getElem c2)).mp (h1 i (List.mem_range.mpr c))
      rw [List.getElem?_eq_getElem c1, List.getElem?_eq_getElem c2, this]
    · rw [List.getElem?_eq_none (by omega), List.getElem?_eq_none (by omega)]
  · rintro rfl
    refine ⟨fun i hi => ?_, rfl⟩
    have c1 : i < l.length := by have := List.mem_range.mp hi; omega
    exact (h i _ _ (List.getElem?_eq_getElem c1) (List.getElem?_eq_getElem c1)).mpr rfl
theorem eq_ok {s : Shared} : ∀ (n : Nat) (a : KD), dpt a ≤ n → ∀ {A : Around} {b : KD} {v u : Value}, A.units + n < cLine → IsK s.heap a v → IsK s.heap b u → ∃ c : Bool, (c = true ↔ a = b) ∧ EqAt A s v u c := by
  intro n
  induction n with
  | zero =>
    intro a ha A b v u hu x y
    have la : ∃ p, leafK a = some p := by
      cases a with
      | i m => exact ⟨_, rfl⟩
      | s z => exact ⟨_, rfl⟩
      | t l => simp only [dpt] at ha; omega
    obtain ⟨p, hp⟩ := la
    cases b with
    | t l =>
      cases y with
      | @t d o its m _ ho hc hd hi =>
        have T : s.heap.IsTuple d its := ⟨o, ho, hc, m, hd⟩
        refine ⟨false, ⟨(fun z => nomatch z), (fun z => by subst z; cases hp)⟩, ?_⟩
        cases x with
        | i q t => exact EqAt.int_tuple q t T (by omega)
        | s q t => exact EqAt.str_tuple q t T (by omega)
        | t _ _ _ _ => cases hp
    | i m => exact ⟨decide (p = .inl m), by rw [decide_eq_true_eq]; exact leaf_inj hp rfl, fun prog w E Q h => (mixKind prog w).eqBool (leaf_is x hp) (leaf_is y rfl) h⟩
    | s z => exact ⟨decide (p = .inr z), by rw [decide_eq_true_eq]; exact leaf_inj hp rfl, fun prog w E Q h => (mixKind prog w).eqBool (leaf_is x hp) (leaf_is y rfl) h⟩
  | succ n ih =>
    intro a ha A b v u hu x y
    cases a with
    | i m => exact ih (.i m) (Nat.zero_le _) (by omega) x y
    | s z => exact ih (.s z) (Nat.zero_le _) (by omega) x y
    | t l =>
      simp only [dpt] at ha
      cases x with
      | @t c o its m _ ho hc hd hi =>
        have T : s.heap.IsTuple c its := ⟨o, ho, hc, m, hd⟩
        cases b with
        | i q => cases y; exact ⟨false, ⟨(fun z => nomatch z), (fun z => nomatch z)⟩, EqAt.tuple_int q _ T (by omega)⟩
        | s q => cases y; exact ⟨false, ⟨(fun z => nomatch z), (fun z => nomatch z)⟩, EqAt.tuple_str q _ T (by omega)⟩
        | t l2 =>
          cases y with
          | @t d o2 its2 m2 _ ho2 hc2 hd2 hi2 =>
            have T2 : s.heap.IsTuple d its2 := ⟨o2, ho2, hc2, m2, hd2⟩
            by_cases e : c = d
            · subst e
              have := IsK.inj (IsK.t ho hc hd hi) (IsK.t ho2 hc2 hd2 hi2)
              exact ⟨true, ⟨fun _ => this, fun _ => rfl⟩, EqAt.same _⟩
            · have each : ∀ j (h1 : j < its.size) (h2 : j < its2.size), ∃ c : Bool, (∀ p q, l[j]? = some p → l2[j]? = some q → (c = true ↔ p = q)) ∧ EqAt A.in1 s its[j] its2[j] c := fun j h1 h2 => by
                obtain ⟨p, e1, x1⟩ := hi.get (i := j) (v := its[j]) (by rw [Array.getElem?_toList]; exact Array.getElem?_eq_getElem h1)
                obtain ⟨q, e2, x2⟩ := hi2.get (i := j) (v := its2[j]) (by rw [Array.getElem?_toList]; exact Array.getElem?_eq_getElem h2)
                obtain ⟨c, hc, z⟩ := ih p (by have := dpt_mem (List.mem_of_getElem? e1); omega) (A := A.in1) (by show A.units + 1 + n < cLine; omega) x1 x2
                refine ⟨c, fun p' q' e3 e4 => ?_, z⟩
                rw [e1] at e3
                rw [e2] at e4
                cases e3
                cases e4
                exact hc
              have lens1 : l.length = its.size := by rw [hi.length, Array.length_toList]
              have lens2 : l2.length = its2.size := by rw [hi2.length, Array.length_toList]
              open Classical in
              let f : Nat → Bool := fun j => if h : j < its.size ∧ j < its2.size then (each j h.1 h.2).choose else true
              have hf : ∀ j (h1 : j < its.size) (h2 : j < its2.size), f j = (each j h1 h2).choose := fun j h1 h2 => dif_pos ⟨h1, h2⟩
              refine ⟨(List.range (min its.size its2.size)).all f && its.size == its2.size, ?_, EqAt.of_refs e (RcAt.tuples T T2 (by omega) fun j h1 h2 => by rw [hf j h1 h2]; exact (each j h1 h2).choose_spec.2)⟩
              have key := all_range (l := l) (m := l2) (e := f) (n := min its.size its2.size) (by rw [lens1, lens2]) fun j p q e1 e2 => by
                have h1 : j < its.size := by rw [← lens1]; exact (List.getElem?_eq_some_iff.mp e1).1
                have h2 : j < its2.size := by rw [← lens2]; exact (List.getElem?_eq_some_iff.mp e2).1
                rw [hf j h1 h2]
                exact (each j h1 h2).choose_spec.1 p q e1 e2
              rw [lens1, lens2] at key
              rw [key]
              simp
section
variable {P : Program} {w : World}
theorem quiet_ok : ∀ (n : Nat) (k : KD), dpt k ≤ n → ∀ {A : Around} {E : Value → Shared → Prop} {s : Shared} {v : Value} {Q : Bool → Shared → Prop} (f : Nat), n ≤ f → IsK s.heap k v → Q true s → wpAny (model P w) A (eqIsQuiet f v) Q E s := by
  intro n
  induction n with
  | zero =>
    intro k hk A E s v Q f hf x h
    cases k with
    | i m => cases x; rw [eqIsQuiet_byValue f rfl]; exact wpAny_pure h
    | s y => cases x; rw [eqIsQuiet_byValue f rfl]; exact wpAny_pure h
    | t l => simp only [dpt] at hk; omega
  | succ n ih =>
    intro k hk A E s v Q f hf x h
    cases k with
    | i m => cases x; rw [eqIsQuiet_byValue f rfl]; exact wpAny_pure h
    | s y => cases x; rw [eqIsQuiet_byValue f rfl]; exact wpAny_pure h
    | t l =>
      simp only [dpt] at hk
      obtain ⟨g, rfl⟩ : ∃ g, f = g + 1 := ⟨f - 1, by omega⟩
      cases x with
      | @t a o its m _ ho hc hd hi =>
        have hT : s.TypeIs (.ref a) "tuple" := ⟨o, ho, hc⟩
        unfold eqIsQuiet
        refine wpAny_bind (wpAny_specialOf hT F.slot_tuple_eq.lookup ?_)
        show wpAny _ _ (isInstance (.ref a) (.type "tuple") >>= _) _ _ s
        refine wpAny_bind (wpAny_isInstance hT isSubtype_tuple_tuple ?_)
        simp only [Bool.not_true, Bool.false_eq_true, if_false]
        refine wpAny_bind (wpAny_seqItems ho hd (wpAny_bind ?_))
        show wpAny _ _ (forIn its _ _) _ _ s
        rw [← Array.forIn_toList]
        have mem : ∀ v ∈ its.toList, ∃ k, k ∈ l ∧ IsK s.heap k v := fun v hv => by
          obtain ⟨i, hi1, e⟩ := List.getElem_of_mem hv
          obtain ⟨k, e1, e2⟩ := hi.get (i := i) (v := v) (by rw [List.getElem?_eq_getElem hi1, e])
          exact ⟨k, List.mem_of_getElem? e1, e2⟩
        refine wpAny_forIn_list _ (fun rest r s' => r.1 = none ∧ s' = s ∧ ∀ v ∈ rest, ∃ k, k ∈ l ∧ IsK s.heap k v) _ (fun v rest r s' ⟨hr, hs, hall⟩ => ?_) (fun r s' ⟨hr, hs, _⟩ => ?_) _ _ ⟨rfl, rfl, mem⟩
        · subst hs
          obtain ⟨k, hk1, hk2⟩ := hall v List.mem_cons_self
          refine wpAny_bind (ih k (by have := dpt_mem hk1; omega) g (by omega) hk2 ?_)
          simp only [Bool.not_true, Bool.false_eq_true, if_false]
          exact wpAny_pure ⟨rfl, rfl, fun u hu => hall u (List.mem_cons_of_mem _ hu)⟩
        · obtain ⟨r1, r2⟩ := r
          subst hs
          cases (show r1 = none from hr)
          exact wpAny_pure h
theorem cls_ok : ∀ (n : Nat) (k : KD), dpt k ≤ n → ∀ {A : Around} {E : Value → Shared → Prop} {s : Shared} {v : Value} {Q : Bool → Shared → Prop} (f : Nat), n ≤ f → IsK s.heap k v → Q false s → wpAny (model P w) A (ofAClassStatement f v) Q E s := by
  intro n
  induction n with
  | zero =>
    intro k hk A E s v Q f hf x h
    cases k with
    | i m => cases x; cases f <;> exact wpAny_pure h
    | s y => cases x; cases f <;> exact wpAny_pure h
    | t l => simp only [dpt] at hk; omega
  | succ n ih =>
    intro k hk A E s v Q f hf x h
    cases k with
    | i m => cases x; cases f <;> exact wpAny_pure h
    | s y => cases x; cases f <;> exact wpAny_pure h
    | t l =>
      simp only [dpt] at hk
      obtain ⟨g, rfl⟩ : ∃ g, f = g + 1 := ⟨f - 1, by omega⟩
      cases x with
      | @t a o its m _ ho hc hd hi =>
        have hT : s.TypeIs (.ref a) "tuple" := ⟨o, ho, hc⟩
        unfold ofAClassStatement
        refine wpAny_bind (wpAny_typeOf hT ?_)
        dsimp only
        simp only [show (("tuple" : String) == "tuple") = true by decide, if_true, Bool.not_true, Bool.false_eq_true, if_false]
        try refine wpAny_bind (wpAny_pure ?_)
        try simp only [Bool.not_true, Bool.false_eq_true, if_false]
        show wpAny _ _ (seqItems? (.ref a) >>= _) _ _ s
        refine wpAny_bind (wpAny_seqItems ho hd ?_)
        dsimp only
        refine wpAny_bind ?_
        show wpAny _ _ (forIn its _ _) _ _ s
        rw [← Array.forIn_toList]
        have mem : ∀ v ∈ its.toList, ∃ k, k ∈ l ∧ IsK s.heap k v := fun v hv => by
          obtain ⟨i, hi1, e⟩ := List.getElem_of_mem hv
          obtain ⟨k, e1, e2⟩ := hi.get (i := i) (v := v) (by rw [List.getElem?_eq_getElem hi1, e])
          exact ⟨k, List.mem_of_getElem? e1, e2⟩
        refine wpAny_forIn_list _ (fun rest r s' => r.1 = none ∧ s' = s ∧ ∀ v ∈ rest, ∃ k, k ∈ l ∧ IsK s.heap k v) _ (fun v rest r s' ⟨hr, hs, hall⟩ => ?_) (fun r s' ⟨hr, hs, _⟩ => ?_) _ _ ⟨rfl, rfl, mem⟩
        · subst hs
          obtain ⟨k, hk1, hk2⟩ := hall v List.mem_cons_self
          refine wpAny_bind (ih k (by have := dpt_mem hk1; omega) g (by omega) hk2 ?_)
          simp only [Bool.false_eq_true, if_false]
          exact wpAny_pure ⟨rfl, rfl, fun u hu => hall u (List.mem_cons_of_mem _ hu)⟩
        · obtain ⟨r1, r2⟩ := r
          subst hs
          cases (show r1 = none from hr)
          exact wpAny_pure h
theorem byV_ok : ∀ (n : Nat) (k : KD), dpt k ≤ n → ∀ {A : Around} {E : Value → Shared → Prop} {s : Shared} {v : Value} {Q : Bool → Shared → Prop} (f : Nat), n ≤ f → IsK s.heap k v → (∀ b, Q b s) → wpAny (model P w) A (hashByValue f v) Q E s := by
  intro n
  induction n with
  | zero =>
    intro k hk A E s v Q f hf x h
    cases k with
    | i m => cases x; cases f <;> exact wpAny_pure (h _)
    | s y => cases x; cases f <;> exact wpAny_pure (h _)
    | t l => simp only [dpt] at hk; omega
  | succ n ih =>
    intro k hk A E s v Q f hf x h
    cases k with
    | i m => cases x; cases f <;> exact wpAny_pure (h _)
    | s y => cases x; cases f <;> exact wpAny_pure (h _)
    | t l =>
      simp only [dpt] at hk
      obtain ⟨g, rfl⟩ : ∃ g, f = g + 1 := ⟨f - 1, by omega⟩
      cases x with
      | @t a o its m _ ho hc hd hi =>
        have hT : s.TypeIs (.ref a) "tuple" := ⟨o, ho, hc⟩
        unfold hashByValue
        refine wpAny_bind (wpAny_specialOf hT F.slot_tuple_hash.lookup ?_)
        show wpAny _ _ (seqItems? (.ref a) >>= _) _ _ s
        refine wpAny_bind (wpAny_seqItems ho hd (wpAny_bind ?_))
        show wpAny _ _ (forIn its _ _) _ _ s
        rw [← Array.forIn_toList]
        have mem : ∀ v ∈ its.toList, ∃ k, k ∈ l ∧ IsK s.heap k v := fun v hv => by
          obtain ⟨i, hi1, e⟩ := List.getElem_of_mem hv
          obtain ⟨k, e1, e2⟩ := hi.get (i := i) (v := v) (by rw [List.getElem?_eq_getElem hi1, e])
          exact ⟨k, List.mem_of_getElem? e1, e2⟩
        refine wpAny_forIn_list _ (fun rest r s' => r.1 = none ∧ s' = s ∧ ∀ v ∈ rest, ∃ k, k ∈ l ∧ IsK s.heap k v) _ (fun v rest r s' ⟨hr, hs, hall⟩ => ?_) (fun r s' ⟨hr, hs, _⟩ => ?_) _ _ ⟨rfl, rfl, mem⟩
        · subst hs
          obtain ⟨k, hk1, hk2⟩ := hall v List.mem_cons_self
          refine wpAny_bind (ih k (by have := dpt_mem hk1; omega) g (by omega) hk2 fun b => ?_)
          cases b
          · simp only [Bool.not_false, if_true]
            exact wpAny_pure (wpAny_pure (h _))
          · simp only [Bool.not_true, Bool.false_eq_true, if_false]
            exact wpAny_pure ⟨rfl, rfl, fun u hu => hall u (List.mem_cons_of_mem _ hu)⟩
        · obtain ⟨r1, r2⟩ := r
          subst hs
          cases (show r1 = none from hr)
          exact wpAny_pure (h _)
end
end PLt
set_option maxHeartbeats 2000000
namespace PLt
open PySem PySem.Spec PyProof.Rows L2
open PySem.SeqAt (EqAt RcLt firstLt)
mutual
def eqK : KD → KD → Bool
  | .i a, .i b => decide (a = b)
  | .s a, .s b => decide (a = b)
  | .t l, .t m => eqKs l m
  | _, _ => false
def eqKs : List KD → List KD → Bool
  | [], [] => true
  | x :: xs, y :: ys => eqK x y && eqKs xs ys
  | _, _ => false
end
mutual
def ltK : KD → KD → Bool
  | .i a, .i b => decide (a < b)
  | .s a, .s b => decide (a.cps.toList < b.cps.toList)
  | .t l, .t m => ltKs l m
  | .i _, .s _ => true
  | .i _, .t _ => true
  | .s _, .t _ => true
  | _, _ => false
def ltKs : List KD → List KD → Bool
  | [], _ :: _ => true
  | x :: xs, y :: ys => ltK x y || (eqK x y && ltKs xs ys)
  | _, _ => false
end
mutual
theorem eqK_iff : ∀ {a b : KD}, eqK a b = true ↔ a = b
  | .i a, .i b => by simp [eqK]
  | .i a, .s b => by simp [eqK]
  | .i a, .t b => by simp [eqK]
  | .s a, .i b => by simp [eqK]
  | .s a, .s b => by simp [eqK]
  | .s a, .t b => by simp [eqK]
  | .t a, .i b => by simp [eqK]
  | .t a, .s b => by simp [eqK]
  | .t a, .t b => by rw [eqK, eqKs_iff]; simp
theorem eqKs_iff : ∀ {a b : List KD}, eqKs a b = true ↔ a = b
  | [], [] => by simp [eqKs]
  | [], _ :: _ => by simp [eqKs]
  | _ :: _, [] => by simp [eqKs]
  | x :: xs, y :: ys => by rw [eqKs, Bool.and_eq_true, eqK_iff, eqKs_iff]; simp
end
theorem str_tri {a b : Str} (h1 : ¬ a.cps.toList < b.cps.toList) (h2 : ¬ b.cps.toList < a.cps.toList) : a = b := by
  have := List.le_antisymm (List.not_lt.mp h2) (List.not_lt.mp h1)
  cases a; cases b
  simp at this
  rw [this]
mutual
theorem ltK_irr : ∀ (a : KD), ltK a a = false
  | .i a => by simp [ltK]
  | .s a => by simp [ltK, List.lt_irrefl]
  | .t a => by rw [ltK]; exact ltKs_irr a
theorem ltKs_irr : ∀ (a : List KD), ltKs a a = false
  | [] => by simp [ltKs]
  | x :: xs => by rw [ltKs, ltK_irr x, ltKs_irr xs]; simp
end
mutual
theorem ltK_tri : ∀ {a b : KD}, ltK a b = false → ltK b a = false → a = b
  | .i a, .i b, h1, h2 => by simp [ltK] at h1 h2; rw [Int.le_antisymm h2 h1]
  | .i a, .s b, h1, h2 => by simp [ltK] at h1
  | .i a, .t b, h1, h2 => by simp [ltK] at h1
  | .s a, .i b, h1, h2 => by simp [ltK] at h2
  | .s a, .s b, h1, h2 => by rw [ltK, decide_eq_false_iff_not] at h1 h2; rw [str_tri h1 h2]
  | .s a, .t b, h1, h2 => by simp [ltK] at h1
  | .t a, .i b, h1, h2 => by simp [ltK] at h2
  | .t a, .s b, h1, h2 => by simp [ltK] at h2
  | .t a, .t b, h1, h2 => by rw [ltK] at h1 h2; rw [ltKs_tri h1 h2]
theorem ltKs_tri : ∀ {a b : List KD}, ltKs a b = false → ltKs b a = false → a = b
  | [], [], _, _ => rfl
  | [], _ :: _, h1, _ => by simp [ltKs] at h1
  | _ :: _, [], _, h2 => by simp [ltKs] at h2
  | x :: xs, y :: ys, h1, h2 => by
    rw [ltKs, Bool.or_eq_false_iff] at h1 h2
    have e := ltK_tri h1.1 h2.1
    subst e
    have r : eqK x x = true := eqK_iff.mpr rfl
    rw [r, Bool.true_and] at h1 h2
    rw [ltKs_tri h1.2 h2.2]
end
mutual
theorem ltK_tr : ∀ {a b c : KD}, ltK a b = true → ltK b c = true → ltK a c = true
  | .i a, .i b, .i c, h1, h2 => by simp [ltK] at h1 h2 ⊢; omega
  | .i a, .i b, .s c, _, _ => rfl
  | .i a, .i b, .t c, _, _ => rfl
  | .i a, .s b, .i c, _, h2 => by simp [ltK] at h2
  | .i a, .s b, .s c, _, _ => rfl
  | .i a, .s b, .t c, _, _ => rfl
  | .i a, .t b, .i c, _, h2 => by simp [ltK] at h2
  | .i a, .t b, .s c, _, h2 => by simp [ltK] at h2
  | .i a, .t b, .t c, _, _ => rfl
  | .s a, .i b, _, h1, _ => by simp [ltK] at h1
  | .s a, .s b, .i c, _, h2 => by simp [ltK] at h2
  | .s a, .s b, .s c, h1, h2 => by rw [ltK, decide_eq_true_eq] at h1 h2 ⊢; exact List.lt_trans h1 h2
  | .s a, .s b, .t c, _, _ => rfl
  | .s a, .t b, .i c, _, h2 => by simp [ltK] at h2
  | .s a, .t b, .s c, _, h2 => by simp [ltK] at h2
  | .s a, .t b, .t c, _, _ => rfl
  | .t a, .i b, _, h1, _ => by simp [ltK] at h1
  | .t a, .s b, _, h1, _ => by simp [ltK] at h1
  | .t a, .t b, .i c, _, h2 => by simp [ltK] at h2
  | .t a, .t b, .s c, _, h2 => by simp [ltK] at h2
  | .t a, .t b, .t c, h1, h2 => by rw [ltK] at h1 h2 ⊢; exact ltKs_tr h1 h2
theorem ltKs_tr : ∀ {a b c : List KD}, ltKs a b = true → ltKs b c = true → ltKs a c = true
  | [], _ :: _, _ :: _, _, _ => by simp [ltKs]
  | [], _ :: _, [], _, h2 => by simp [ltKs] at h2
  | [], [], _, h1, _ => by simp [ltKs] at h1
  | _ :: _, [], _, h1, _ => by simp [ltKs] at h1
  | _ :: _, _ :: _, [], _, h2 => by simp [ltKs] at h2
  | x :: xs, y :: ys, z :: zs, h1, h2 => by
    rw [ltKs, Bool.or_eq_true, Bool.and_eq_true, eqK_iff] at h1 h2 ⊢
    rcases h1 with h1 | ⟨rfl, h1⟩
    · rcases h2 with h2 | ⟨rfl, h2⟩
      · exact .inl (ltK_tr h1 h2)
      · exact .inl h1
    · rcases h2 with h2 | ⟨rfl, h2⟩
      · exact .inl h2
      · exact .inr ⟨rfl, ltKs_tr h1 h2⟩
end
theorem ltK_asym {a b : KD} (h : ltK a b = true) : ltK b a = false := by
  cases e : ltK b a with
  | false => rfl
  | true => have := ltK_tr h e; rw [ltK_irr] at this; cases this
theorem ltK_neg {x y z : KD} (h1 : ltK y x = false) (h2 : ltK z y = false) : ltK z x = false := by
  cases e : ltK z x with
  | false => rfl
  | true =>
    cases q : ltK x y with
    | true => rw [ltK_tr e q] at h2; cases h2
    | false => rw [ltK_tri q h1] at e; rw [e] at h2; cases h2
mutual
def CmK : KD → KD → Prop
  | .i _, .i _ => True
  | .s _, .s _ => True
  | .t l, .t m => CmKs l m
  | _, _ => False
def CmKs : List KD → List KD → Prop
  | x :: xs, y :: ys => CmK x y ∧ CmKs xs ys
  | _, _ => True
end
theorem CmKs.get : ∀ {l m : List KD} {j : Nat} {a b : KD}, CmKs l m → l[j]? = some a → m[j]? = some b → CmK a b
  | [], _, j, _, _, _, e, _ => by simp at e
  | _ :: _, [], j, _, _, _, _, e => by simp at e
  | x :: xs, y :: ys, 0, _, _, h, e1, e2 => by simp at e1 e2; subst e1 e2; rw [CmKs] at h; exact h.1
  | x :: xs, y :: ys, j + 1, _, _, h, e1, e2 => by
    rw [CmKs] at h
    exact CmKs.get h.2 (j := j) (by simpa using e1) (by simpa using e2)
end PLt
set_option maxHeartbeats 2000000
namespace PLt
open PySem PySem.Spec PyProof.Rows L2
open PySem.SeqAt (EqAt RcLt firstLt)
def rkT (P : Program) (w : World) : RK P w (List KD) where
  is h l a := IsK h (.t l) (.ref a) ∧ dpts l ≤ 3
  hash l := hashK w (.t l)
  draws l := drawK (.t l)
  rm := 4
  stay := fun x k => ⟨x.1.stay k, x.2⟩
  tup := by rintro h k a ⟨x, _⟩; cases x with | t ho hc _ _ => exact ⟨_, ho, hc⟩
  inj := fun x y => by have := IsK.inj x.1 y.1; injection this
  py := fun hu x h => hash_ok 4 _ (by have := x.2; simp only [dpt]; omega) hu x.1 h
  eq := fun hu x y h => by
    obtain ⟨c, hc, z⟩ := eq_ok 4 _ (by have := x.2; simp only [dpt]; omega) hu x.1 y.1
    exact z P w _ _ (h c (hc.trans (by simp)))
  quiet := fun x h => quiet_ok 4 _ (by have := x.2; simp only [dpt]; omega) 8 (by omega) x.1 h
  noCls := fun x h => cls_ok 4 _ (by have := x.2; simp only [dpt]; omega) 8 (by omega) x.1 h
  byV := fun x h => byV_ok 4 _ (by have := x.2; simp only [dpt]; omega) 8 (by omega) x.1 h
section
variable {P : Program} {w : World} {A : Around} {E : Value → Shared → Prop} {s : Shared} {a : Addr} {es : Array (Int × Value)} {ep : Nat} {t : SetTable}
end
end PLt
set_option maxHeartbeats 2000000
namespace PLt
open PySem PySem.Spec PyProof.Rows L2
open PySem.SeqAt (EqAt RcLt firstLt)
open Classical in
noncomputable def keyV (h : Heap) (v : Value) : KD := if e : ∃ k, IsK h k v then e.choose else .i 0
section
variable {P : Program} {w : World} {A : Around} {E : Value → Shared → Prop} {s : Shared}
variable {a : Addr} {L : List (Addr × List KD)} {es : Array (Int × Value)} {ep : Nat} {t : SetTable}
structure LayS (L : List (List KD)) : Prop where
  hd : (∀ l ∈ L, ∃ r rs, l = .t r :: rs) ∨ (∀ l ∈ L, ∃ r rs, l = .i r :: rs)
  cm : ∀ l ∈ L, ∀ m ∈ L, CmKs l m
end
end PLt
set_option maxHeartbeats 2000000
namespace PLt
open PySem PySem.Spec PyProof.Rows L2 PLs
abbrev SetK (_ : Program) (w : World) (h : Heap) (a : Addr) (L : List (Addr × List KD)) : Prop := SetW w h a L
section
variable {P : Program} {w : World} {H : Hp} {h : Heap} {a : Addr} {L : List (Addr × List KD)}
theorem SetK.toN (S : SetK P w h a L) (tp : ∀ p ∈ L, (rkT P w).is h p.2 p.1) : ∃ es ep t, SetN (rkT P w) h a L es ep t := by
  obtain ⟨es, ep, t, h1, h2, h3, h4, h5, h6, h7⟩ := S
  exact ⟨es, ep, t, h1, h2, h3, h4, tp, h5, h6, h7⟩
theorem SetK.at {h' : Heap} (S : SetK P w h a L) (k : ∀ o, h.get? a = some o → h'.get? a = some o) : SetK P w h' a L := by
  obtain ⟨es, ep, t, ⟨o, h0, h1⟩, r⟩ := S
  exact ⟨es, ep, t, ⟨o, k o h0, h1⟩, r⟩
theorem SetK.few (S : SetK P w h a L) : L.length ≤ MAXN := by obtain ⟨es, ep, t, h1, h2, h3, h4, h5, h6, h7⟩ := S; exact h7
end
section
variable {X : Cx} {pins : List (Addr × Obj)} {σ : L2.St} {H : Hp} {s : Shared}
mutual
theorem KH.is (I : L2.Inv X pins σ H s) : ∀ {k : KD} {v : V} {u : Value}, KH X.K H k v → RelV v u → IsK s.heap k u
  | .i _, _, _, x, r => by cases x; obtain ⟨t, rfl⟩ := r; exact .i _ _
  | .s _, _, _, x, r => by cases x; obtain ⟨t, rfl⟩ := r; exact .s _ _
  | .t l, _, _, x, r => by
    cases x with
    | t x1 x2 =>
      cases (show _ = _ from r)
      obtain ⟨its, rv, ⟨o, ho, hc, n, hd⟩, _⟩ := I.tuple x1
      exact .t ho hc hd (KHs.is I x2 rv)
theorem KHs.is (I : L2.Inv X pins σ H s) : ∀ {l : List KD} {vs : List V} {us : List Value}, KHs X.K H l vs → Vals vs us → IsKs s.heap l us
  | [], _, _, x, r => by cases x; cases r; exact .nil
  | k :: l, _, _, x, r => by
    cases x with
    | cons x1 x2 =>
      cases r with
      | cons r1 r2 => exact .cons (KH.is I x1 r1) (KHs.is I x2 r2)
end
def KP (K : W.Frag) (H : Hp) (p : Addr × List KD) : Prop := KH K H (.t p.2) (.ref p.1) ∧ dpts p.2 ≤ 3
theorem KP.is (I : L2.Inv X pins σ H s) {p : Addr × List KD} (x : KP X.K H p) : (rkT X.prog X.w).is s.heap p.2 p.1 := ⟨x.1.is I rfl, x.2⟩
end
section
variable {P : Program} {w : World} {A : Around} {E : Value → Shared → Prop} {s : Shared} {a : Addr} {L : List (Addr × List KD)} {es : Array (Int × Value)} {ep : Nat} {t : SetTable}
end
section
variable {X : Cx} {pins : List (Addr × Obj)} {σ : L2.St} {H : Hp} {s : Shared} {E : Value → Shared → Prop} {D : Addr} {L : List (Addr × List KD)}
end
end PLt
set_option maxHeartbeats 2000000
namespace PLt
open PySem PySem.Spec PyProof.Rows L2 PLs
structure GotK (xs : List (Addr × List KD)) (i : Nat) (L : List (Addr × List KD)) : Prop where
  len : L.length ≤ i
  sub : ∀ p ∈ L, p ∈ xs.take i
  all : ∀ p ∈ xs.take i, p.2 ∈ L.map (·.2)
theorem GotK.zero (xs : List (Addr × List KD)) : GotK xs 0 [] := ⟨Nat.le_refl _, (fun p h => nomatch h), (fun p h => by simp at h)⟩
theorem GotK.next {xs L L' : List (Addr × List KD)} {i : Nat} {p : Addr × List KD} (g : GotK xs i L) (hp : xs[i]? = some p) (e1 : p.2 ∈ L.map (·.2) → L' = L) (e2 : p.2 ∉ L.map (·.2) → L'.Perm (p :: L)) : GotK xs (i + 1) L' := by
  have tk : ∀ q, q ∈ xs.take (i + 1) ↔ (q ∈ xs.take i ∨ q = p) := fun q => by rw [List.take_succ, hp]; simp
  by_cases c : p.2 ∈ L.map (·.2)
  · rw [e1 c]
    exact ⟨Nat.le_succ_of_le g.len, fun q hq => (tk q).mpr (.inl (g.sub q hq)), fun q hq => ((tk q).mp hq).elim (g.all q) fun z => z ▸ c⟩
  · have pm := e2 c
    refine ⟨by rw [pm.length_eq]; exact Nat.succ_le_succ g.len, fun q hq => (tk q).mpr ?_, fun q hq => (pm.map (·.2)).mem_iff.mpr ?_⟩
    · rcases List.mem_cons.mp (pm.mem_iff.mp hq) with z | z
      · exact .inr z
      · exact .inl (g.sub q z)
    · rw [List.map_cons, List.mem_cons]
      exact ((tk q).mp hq).elim (fun z => .inr (g.all q z)) fun z => .inl (z ▸ rfl)
section
variable {P : Program} {w : World} {A : Around} {E : Value → Shared → Prop} {s : Shared}
end
section
variable {X : Cx}
theorem SetK.nd {P : Program} {w : World} {h : Heap} {a : Addr} {L : List (Addr × List KD)} (S : SetK P w h a L) : (L.map (·.2)).Nodup := by obtain ⟨es, ep, t, h1, h2, h3, h4, _⟩ := S; exact h4
end
section
variable {P : Program} {w : World} {A : Around} {E : Value → Shared → Prop} {s : Shared} {a : Addr} {L : List (Addr × List KD)} {es : Array (Int × Value)} {ep : Nat} {t : SetTable}
end
section
variable {X : Cx}
end
end PLt
set_option maxHeartbeats 2000000
namespace PLt
open PySem PySem.Spec PyProof.Rows L2 PLs
abbrev two (t0 i0 t1 i1 : Expr) (ifs0 ifs1 : List Expr) : List Comprehension := [⟨t0, i0, ifs0, 0⟩, ⟨t1, i1, ifs1, 0⟩]
section
variable {prog : Program} {w : World} {A : Around} {R : Result → Shared → Prop} {s : Shared} {elt t0 i0 t1 i1 : Expr} {ifs0 ifs1 : List Expr} {scope : Scope} {pos : Pos} {it acc : Value} {env : Env}
abbrev tests (ifs : List Expr) (env : Env) : Sem Bool := forIn ifs true fun c r => if r = true then do let ok ← isTrue c env (eval c env); pure (ForInStep.yield ok) else pure (ForInStep.yield r)
abbrev lost (prog : Program) (w : World) (A : Around) (env : Env) (R : Result → Shared → Prop) : Value → Shared → Prop := notedBy (model prog w) A env fun e s' => R (.error e) s'
end
end PLt
set_option maxHeartbeats 2000000
namespace PLt
open PySem PySem.Spec PyProof.Rows L2 PLs PpSet
section
variable {X : Cx}
variable {pins : List (Addr × Obj)} {s : Shared} {σ : L2.St} {H : Hp} {Q : VK} {elt tg iter tg1 iter1 : Expr} {ifs ifs1 : List Expr} {scope : Scope} {own : List (PySem.Str × Nat)} {vs1 : List Nat} {pos pos' : Pos} {wi wi1 : TI} {g g1 : TG} {tt tt1 : TT} {te : TE}
structure Inner (X : Cx) (tg1 iter1 : Expr) (ifs1 : List Expr) (scope : Scope) (wi1 : TI) (g1 : TG) (tt1 : TT) : Prop where
  i : ∀ (s : Shared) (H : Hp) (C : Addr) (cl : List (PySem.Str × Addr)) (fp : List Addr), PI (X.blk s H scope (compEnvC scope cl C X.env) fp) tg1 iter1 wi1
  g : ∀ (s : Shared) (H : Hp) (C : Addr) (cl : List (PySem.Str × Addr)) (fp : List Addr), PG (X.blk s H scope (compEnvC scope cl C X.env) fp) tg1 g1
  t : ∀ (s : Shared) (H : Hp) (C : Addr) (cl : List (PySem.Str × Addr)) (fp : List Addr), PTs (X.blk s H scope (compEnvC scope cl C X.env) fp) ifs1 tt1
end
end PLt
set_option maxHeartbeats 2000000
namespace PLt
open PySem PySem.Spec PyProof.Rows L2
def lekK (a b : KD) : Bool := !ltK b a
def dedK : List KD → List KD
  | [] => []
  | x :: l => if (dedK l).any (eqK x) = true then dedK l else x :: dedK l
def sortK (l : List KD) : List KD := (dedK l).mergeSort lekK
theorem lekK_tr (a b c : KD) (h1 : lekK a b = true) (h2 : lekK b c = true) : lekK a c = true := by
  unfold lekK at *
  rw [Bool.not_eq_true'] at *
  exact ltK_neg h1 h2
theorem lekK_total (a b : KD) : (lekK a b || lekK b a) = true := by
  unfold lekK
  cases e : ltK b a with
  | false => rfl
  | true => rw [ltK_asym e]; rfl
theorem lekK_anti {a b : KD} (h1 : lekK a b = true) (h2 : lekK b a = true) : a = b := by
  unfold lekK at *
  rw [Bool.not_eq_true'] at *
  exact ltK_tri h2 h1
structure RowsK (ks : List KD) : Prop where
  tup : ∀ k ∈ ks, ∃ r rs, k = .t (r :: rs) ∧ dpts (r :: rs) ≤ 3
  hd : (∀ k ∈ ks, ∃ r rs, k = .t (.t r :: rs)) ∨ (∀ k ∈ ks, ∃ r rs, k = .t (.i r :: rs))
  cm : ∀ a ∈ ks, ∀ b ∈ ks, CmK a b
theorem RowsK.lay {ks : List KD} (h : RowsK ks) {L : List (Addr × List KD)} (hm : ∀ q ∈ L, KD.t q.2 ∈ ks) : LayS (L.map (·.2)) where
  hd := h.hd.imp (fun g l hl => by
    obtain ⟨q, hq, rfl⟩ := List.mem_map.mp hl
    obtain ⟨r, rs, e⟩ := g _ (hm q hq)
    injection e with e
    exact ⟨r, rs, e⟩) (fun g l hl => by
    obtain ⟨q, hq, rfl⟩ := List.mem_map.mp hl
    obtain ⟨r, rs, e⟩ := g _ (hm q hq)
    injection e with e
    exact ⟨r, rs, e⟩)
  cm := fun l hl m hm' => by
    obtain ⟨p, hp, rfl⟩ := List.mem_map.mp hl
    obtain ⟨q, hq, rfl⟩ := List.mem_map.mp hm'
    have := h.cm _ (hm p hp) _ (hm q hq)
    rw [CmK] at this
    exact this
end PLt
namespace PL
open PySem PySem.Spec PyProof.Rows L2 PLt PLs
section
variable {K : PySem.W.Frag} {G : GS K}
mutual
theorem rp_kh : ∀ {k : KD} {v : V}, Rp K G v (kdD k) → KH K G.f k v
  | .i _, _, h => by rw [kdD] at h; cases h; exact .i _
  | .s _, _, h => by rw [kdD] at h; cases h; exact .s _
  | .t l, _, h => by rw [kdD] at h; cases h with | tup h1 h2 => exact .t h1 (rps_khs h2)
theorem rps_khs : ∀ {l : List KD} {vs : List V}, RpAll K G vs (kdDs l) → KHs K G.f l vs
  | [], _, h => by rw [kdDs] at h; cases h; exact .nil
  | k :: l, _, h => by rw [kdDs] at h; cases h with | cons h1 h2 => exact .cons (rp_kh h1) (rps_khs h2)
end
mutual
theorem kh_rp : ∀ {k : KD} {v : V}, KH K G.f k v → Rp K G v (kdD k)
  | .i _, _, h => by rw [kdD]; cases h; exact .int _
  | .s _, _, h => by rw [kdD]; cases h; exact .str _
  | .t l, _, h => by rw [kdD]; cases h with | t h1 h2 => exact .tup h1 (khs_rps h2)
theorem khs_rps : ∀ {l : List KD} {vs : List V}, KHs K G.f l vs → RpAll K G vs (kdDs l)
  | [], _, h => by rw [kdDs]; cases h; exact .nil
  | k :: l, _, h => by rw [kdDs]; cases h with | cons h1 h2 => exact .cons (kh_rp h1) (khs_rps h2)
end
theorem KP.same {H H' : Hp} (s : Same H H') {p : Addr × List KD} (h : KP K H p) : KP K H' p := ⟨kh_same s h.1, h.2⟩
end
def keysP (d : D) (P : List KD → Prop) : Prop := ∃ ks, d = .lst (ks.map kdD) ∧ P ks
theorem keysP.mk {ks : List KD} {P : List KD → Prop} (h : P ks) : keysP (.lst (ks.map kdD)) P := ⟨ks, rfl, h⟩
def dSortSetK (t : DA) : DE := fun ρ c Q => t ρ c fun ds c1 => hd1 ds fun d => keysP d fun ks => RowsK ks ∧ ks.length ≤ 9000 ∧ Q (.lst ((sortK ks).map kdD)) c1
def dSetK (w : World) (t : DA) : DE := fun ρ c Q => t ρ c fun ds c1 => hd1 ds fun d => keysP d fun ks => (∀ k ∈ ks, ∃ l, k = .t l ∧ dpts l ≤ 3) ∧ ks.length ≤ 9000 ∧ Q (.set w ks) c1
section
variable {Y : Ctx} {e : Expr} {es : List Expr} {fa : TA} {t : DA} {p p2 pos pos2 : Pos} {k : Nat}
variable {a b : Expr} {ea eb : TE} {ta tb : DE}
end
end PL
set_option maxHeartbeats 2000000
namespace PL
open PySem PySem.Spec PyProof.Rows L2 PLt PLs
structure GotC (acc : List KD) (L : List (Addr × List KD)) : Prop where
  len : L.length ≤ acc.length
  mem : ∀ k, k ∈ L.map (fun q => KD.t q.2) ↔ k ∈ acc
theorem GotC.nil : GotC [] [] := ⟨Nat.le_refl _, fun k => Iff.rfl⟩
theorem GotC.next {acc : List KD} {L L' : List (Addr × List KD)} {z : Addr × List KD} (g : GotC acc L) (e1 : z.2 ∈ L.map (·.2) → L' = L) (e2 : z.2 ∉ L.map (·.2) → L'.Perm (z :: L)) : GotC (acc ++ [.t z.2]) L' := by
  have tk : ∀ k, k ∈ acc ++ [KD.t z.2] ↔ (k ∈ acc ∨ k = .t z.2) := fun k => by simp
  by_cases c : z.2 ∈ L.map (·.2)
  · rw [e1 c]
    refine ⟨by rw [List.length_append]; exact Nat.le_trans g.len (Nat.le_add_right _ _), fun k => ?_⟩
    rw [tk, ← g.mem]
    refine ⟨.inl, fun h => h.elim id fun e => ?_⟩
    obtain ⟨q, hq, e'⟩ := List.mem_map.mp c
    exact List.mem_map.mpr ⟨q, hq, by rw [e, e']⟩
  · have p := e2 c
    refine ⟨by rw [p.length_eq, List.length_append]; exact Nat.succ_le_succ g.len, fun k => ?_⟩
    rw [tk, ← g.mem, (p.map fun q => KD.t q.2).mem_iff, List.map_cons, List.mem_cons]
    exact ⟨fun h => h.elim .inr .inl, fun h => h.elim .inr .inl⟩
def Sc2I (g1 : DG) (tt1 : DT) (te : DE) (vs1 : List Nat) (ρ2 : DEnv) (L1 : List D) (acc : List KD) (c4 : CN) (Nx : List KD → CN → Prop) : Prop := ∃ I1 : Nat → List KD → CN → Prop, I1 0 acc c4 ∧
  (∀ j y acc1 c5, L1[j]? = some y → I1 j acc1 c5 → g1 y (wipeD ρ2 vs1) c5 fun ρ3 c6 => tt1 ρ3 c6 fun b c7 => if b = true then te ρ3 c7 fun z c8 => ∃ l, z = kdD (.t l) ∧ dpts l ≤ 3 ∧ acc1.length + 1 ≤ 9000 ∧ I1 (j + 1) (acc1 ++ [.t l]) c8 else I1 (j + 1) acc1 c7) ∧
  ∀ acc1 c, I1 L1.length acc1 c → @Nx acc1 c
def Sc2B (g : DG) (tt : DT) (ti1 : DI) (g1 : DG) (tt1 : DT) (te : DE) (vs vs1 : List Nat) (ρ : DEnv) (L : List D) (c1 : CN) (Q : List KD → CN → Prop) : Prop := ∃ I : Nat → List KD → CN → Prop, I 0 [] c1 ∧
  (∀ k x acc c, L[k]? = some x → I k acc c → g x (wipeD ρ vs) c fun ρ2 c2 => tt ρ2 c2 fun b c3 => if b = true then ti1 ρ2 c3 fun L1 c4 => Sc2I g1 tt1 te vs1 ρ2 L1 acc c4 (I (k + 1)) else I (k + 1) acc c3) ∧
  ∀ acc c, I L.length acc c → Q acc c
def dSortSc2 (ti : DI) (g : DG) (tt : DT) (ti1 : DI) (g1 : DG) (tt1 : DT) (te : DE) (vs vs1 : List Nat) : DE := fun ρ c Q => ti ρ c fun L c1 => Sc2B g tt ti1 g1 tt1 te vs vs1 ρ L c1 fun acc c2 => RowsK acc ∧ Q (.lst ((sortK acc).map kdD)) c2
section
variable {Y : Ctx} {iter tg iter1 tg1 elt : Expr} {ifs ifs1 : List Expr} {wi wi1 : TI} {ti ti1 : DI} {gg gg1 : TG} {g g1 : DG} {eA eA1 : TT} {tA tA1 : DT} {ee : TE} {te : DE} {scope : Scope} {own : List (Str × Nat)} {vs1 : List Nat} {p pos pos2 : Pos} {k : Nat}
structure BlkI (Y : Ctx) (tg1 iter1 : Expr) (ifs1 : List Expr) (scope : Scope) (wi1 : TI) (ti1 : DI) (gg1 : TG) (g1 : DG) (eA1 : TT) (tA1 : DT) (vs1 : List Nat) : Prop where
  i : ∀ (s : Shared) (H : Hp) (C : Addr) (cl : List (Str × Addr)) (fp : List Addr), PDI (Y.blk s H scope (compEnvC scope cl C Y.X.env) fp) tg1 iter1 wi1 ti1
  g : ∀ (s : Shared) (H : Hp) (C : Addr) (cl : List (Str × Addr)) (fp : List Addr), PDG (Y.blk s H scope (compEnvC scope cl C Y.X.env) fp) tg1 gg1 g1 vs1
  t : ∀ (s : Shared) (H : Hp) (C : Addr) (cl : List (Str × Addr)) (fp : List Addr), PDTs (Y.blk s H scope (compEnvC scope cl C Y.X.env) fp) ifs1 eA1 tA1
end
end PL
set_option maxHeartbeats 2000000
namespace PLt
open PySem PySem.Spec PyProof.Rows L2 PLs
section
variable {X : Cx}
end
end PLt
namespace PL
open PySem PySem.Spec PyProof.Rows L2 PLt PLs
def dMinD (t tk : DA) : DE := fun ρ c Q => t ρ c fun ds c1 => tk ρ c1 fun es c2 => hd1 ds fun d => hd1 es fun e => keysP d fun ks => RowsK ks ∧ (ks = [] → Q e c2) ∧ ∀ k ∈ ks, (∀ j ∈ ks, ltK j k = false) → Q (kdD k) c2
section
variable {Y : Ctx} {e : Expr} {fa fk : TA} {t tk : DA} {p pos : Pos} {kws : List Keyword} {k : Nat}
end
end PL
set_option maxHeartbeats 2000000
namespace PL
open PySem PySem.Spec PyProof.Rows L2 PLt
section
variable {Y : Ctx} {w : World} {ng : Bool} {t tk : DA} {ti ti1 : DI} {g g1 : DG} {tt tt1 : DT} {te : DE} {vs vs1 : List Nat} {ρ : DEnv} {c : CN} {Q : QD} {x y : D}
theorem ev_sortSetK : dSortSetK t ρ c Q = t ρ c fun ds c1 => hd1 ds fun d => keysP d fun ks => RowsK ks ∧ ks.length ≤ 9000 ∧ Q (.lst ((sortK ks).map kdD)) c1 := propext Iff.rfl
theorem ev_setK : dSetK w t ρ c Q = t ρ c fun ds c1 => hd1 ds fun d => keysP d fun ks => (∀ k ∈ ks, ∃ l, k = .t l ∧ dpts l ≤ 3) ∧ ks.length ≤ 9000 ∧ Q (.set w ks) c1 := propext Iff.rfl
theorem ev_sortSc2 : dSortSc2 ti g tt ti1 g1 tt1 te vs vs1 ρ c Q = ti ρ c fun L c1 => Sc2B g tt ti1 g1 tt1 te vs vs1 ρ L c1 fun acc c2 => RowsK acc ∧ Q (.lst ((sortK acc).map kdD)) c2 := propext Iff.rfl
theorem ev_minD : dMinD t tk ρ c Q = t ρ c fun ds c1 => tk ρ c1 fun es c2 => hd1 ds fun d => hd1 es fun e => keysP d fun ks => RowsK ks ∧ (ks = [] → Q e c2) ∧ ∀ k ∈ ks, (∀ j ∈ ks, ltK j k = false) → Q (kdD k) c2 := propext Iff.rfl
end
section
variable {ti1 : DI} {g g1 : DG} {tt1 : DT} {te : DE} {vs vs1 : List Nat} {ρ ρ2 : DEnv} {c : CN} {L L1 : List D} {acc : List KD} {Nx : List KD → CN → Prop}
end
def rowK (r : LRow) : KD := .t [.i r.1, .s r.2]
def layK (l : List LRow) : KD := .t (l.map rowK)
theorem rowK_inj {a b : LRow} (h : rowK a = rowK b) : a = b := by
  unfold rowK at h
  simp only [KD.t.injEq, List.cons.injEq, KD.i.injEq, KD.s.injEq, and_true] at h
  exact Prod.ext h.1 h.2
theorem map_rowK_inj : ∀ {a b : List LRow}, a.map rowK = b.map rowK → a = b
  | [], [], _ => rfl
  | [], _ :: _, h => by cases h
  | _ :: _, [], h => by cases h
  | x :: a, y :: b, h => by
    rw [List.map_cons, List.map_cons] at h
    injection h with h1 h2
    rw [rowK_inj h1, map_rowK_inj h2]
theorem layK_inj {a b : List LRow} (h : layK a = layK b) : a = b := by
  unfold layK at h
  injection h with h
  exact map_rowK_inj h
def leL (a b : List LRow) : Bool := lekK (layK a) (layK b)
def dedL : List (List LRow) → List (List LRow)
  | [] => []
  | x :: l => if x ∈ dedL l then dedL l else x :: dedL l
def sortL (ls : List (List LRow)) : List (List LRow) := (dedL ls).mergeSort leL
theorem mem_dedL {x : List LRow} : ∀ {l : List (List LRow)}, x ∈ dedL l ↔ x ∈ l
  | [] => Iff.rfl
  | y :: l => by
    unfold dedL
    by_cases c : y ∈ dedL l
    · rw [if_pos c, mem_dedL, List.mem_cons]
      exact ⟨.inr, fun z => z.elim (fun e => e ▸ mem_dedL.mp c) id⟩
    · rw [if_neg c, List.mem_cons, List.mem_cons, mem_dedL]
theorem nodup_dedL : ∀ l : List (List LRow), (dedL l).Nodup
  | [] => List.nodup_nil
  | y :: l => by
    unfold dedL
    by_cases c : y ∈ dedL l
    · rw [if_pos c]; exact nodup_dedL l
    · rw [if_neg c]; exact List.nodup_cons.mpr ⟨c, nodup_dedL l⟩
theorem length_dedL : ∀ l : List (List LRow), (dedL l).length ≤ l.length
  | [] => Nat.le_refl _
  | y :: l => by
    unfold dedL
    have := length_dedL l
    split
    · exact Nat.le_succ_of_le this
    · exact Nat.succ_le_succ this
theorem leL_anti {a b : List LRow} (h1 : leL a b = true) (h2 : leL b a = true) : a = b := layK_inj (lekK_anti h1 h2)
theorem leL_tr (a b c : List LRow) (h1 : leL a b = true) (h2 : leL b c = true) : leL a c = true := lekK_tr _ _ _ h1 h2
theorem leL_total (a b : List LRow) : (leL a b || leL b a) = true := lekK_total _ _
theorem mem_sortL {x : List LRow} {l : List (List LRow)} : x ∈ sortL l ↔ x ∈ l := by
  unfold sortL
  rw [List.mem_mergeSort, mem_dedL]
theorem length_sortL (l : List (List LRow)) : (sortL l).length ≤ l.length := by
  unfold sortL
  rw [List.length_mergeSort]; exact length_dedL l
theorem nodup_sortL (l : List (List LRow)) : (sortL l).Nodup := (List.mergeSort_perm _ _).nodup_iff.mpr (nodup_dedL l)
theorem pw_sortL (l : List (List LRow)) : (sortL l).Pairwise fun a b => leL a b = true := List.pairwise_mergeSort leL_tr leL_total _
theorem sortL_of {ys l : List (List LRow)} (nd : ys.Nodup) (hm : ∀ x, x ∈ ys ↔ x ∈ l) (hs : ys.Pairwise fun a b => leL a b = true) : ys = sortL l := by
  refine List.Perm.eq_of_pairwise (le := fun a b => leL a b = true) (fun a b _ _ => leL_anti) hs (pw_sortL l) ?_
  exact (List.perm_ext_iff_of_nodup nd (nodup_sortL l)).mpr fun x => by rw [hm, mem_sortL]
end PL
set_option maxHeartbeats 2000000
namespace PL
open PySem PySem.Spec PyProof.Rows L2 PLt
def lastR (a : List LRow) : LRow := a.getLast?.getD (0, "")
def headR (a : List LRow) : LRow := a.head?.getD (0, "")
def joinL (a b : List LRow) : List LRow := a.dropLast ++ (lastR a |>.1, (lastR a).2 ++ (headR b).2) :: b.drop 1
def movL (n : Int) (a : List LRow) : List LRow := a.take 1 ++ (a.drop 1).map fun r => (r.1 + n, r.2)
theorem joinL_snoc (a b : List LRow) (r q : LRow) : joinL (a ++ [r]) (q :: b) = a ++ (r.1, r.2 ++ q.2) :: b := by
  simp [joinL, lastR, headR]
theorem movL_cons (n : Int) (r : LRow) (a : List LRow) : movL n (r :: a) = r :: a.map fun r => (r.1 + n, r.2) := by simp [movL]
def chL (l : List LRow) : Nat := (l.map fun r => r.2.length).sum
namespace Fm
def lays : Fm → Bool → List (List LRow)
  | text x, _ => [[(0, x)]]
  | brk _, false => [[(0, ""), (0, "")]]
  | brk (some x), true => [[(0, x)]]
  | brk none, true => []
  | hole _, _ => []
  | join a b, fl => sortL ((lays a fl).flatMap fun x => (lays b fl).map (joinL x))
  | choice a b, fl => sortL (lays a fl ++ lays b fl)
  | nested n a, fl => (lays a fl).map (movL n)
  | flat a, _ => lays a true
  | group a, true => lays a true
  | group a, false => sortL (lays a false ++ lays a true)
def wd : Fm → Nat
  | text x => x.length + 2
  | brk none => 2
  | brk (some x) => x.length + 2
  | hole _ => 2
  | join a b => wd a + wd b
  | choice a b => wd a + wd b
  | nested _ a => wd a
  | group a => wd a
  | flat a => wd a
def room : Fm → Prop
  | text _ => True
  | brk _ => True
  | hole _ => False
  | join a b => room a ∧ room b ∧ ∀ fl, (lays a fl).length * (lays b fl).length ≤ 9000
  | choice a b => room a ∧ room b ∧ ∀ fl, (lays a fl).length + (lays b fl).length ≤ 9000
  | nested _ a => room a
  | group a => room a ∧ (lays a false).length + (lays a true).length ≤ 9000
  | flat a => room a
end Fm
theorem chL_app (a b : List LRow) : chL (a ++ b) = chL a + chL b := by simp [chL]
theorem chL_cons (r : LRow) (b : List LRow) : chL (r :: b) = r.2.length + chL b := by simp [chL]
theorem lay_snoc {a : List LRow} (h : a ≠ []) : ∃ b r, a = b ++ [r] := ⟨a.dropLast, a.getLast h, (List.dropLast_concat_getLast h).symm⟩
theorem lay_cons {a : List LRow} (h : a ≠ []) : ∃ r b, a = r :: b := by cases a with
  | nil => exact absurd rfl h
  | cons r b => exact ⟨r, b, rfl⟩
theorem str_app_len (a b : Str) : (a ++ b).length = a.length + b.length := Str.length_append a b
theorem Fm.lays_wd : ∀ (f : Fm) (fl : Bool) (l : List LRow), l ∈ f.lays fl → l ≠ [] ∧ l.length + chL l ≤ f.wd
  | .text x, fl, l, h => by simp [Fm.lays] at h; subst h; simp [Fm.wd, chL]; omega
  | .brk none, false, l, h => by simp [Fm.lays] at h; subst h; simp [Fm.wd, chL]; decide
  | .brk (some x), false, l, h => by
    simp [Fm.lays] at h; subst h
    refine ⟨by simp, ?_⟩
    have : (("" : Str)).length = 0 := by decide
    simp [Fm.wd, chL, this]
  | .brk (some x), true, l, h => by simp [Fm.lays] at h; subst h; simp [Fm.wd, chL]; omega
  | .brk none, true, l, h => by simp [Fm.lays] at h
  | .hole _, fl, l, h => by simp [Fm.lays] at h
  | .join a b, fl, l, h => by
    rw [Fm.lays, mem_sortL, List.mem_flatMap] at h
    obtain ⟨x, hx, h⟩ := h
    obtain ⟨y, hy, rfl⟩ := List.mem_map.mp h
    obtain ⟨n1, w1⟩ := Fm.lays_wd a fl x hx
    obtain ⟨n2, w2⟩ := Fm.lays_wd b fl y hy
    obtain ⟨x', r, rfl⟩ := lay_snoc n1
    obtain ⟨q, y', rfl⟩ := lay_cons n2
    rw [joinL_snoc]
    refine ⟨by simp, ?_⟩
    simp only [List.length_append, List.length_cons, List.length_nil, chL_app, chL_cons, str_app_len, Fm.wd] at w1 w2 ⊢
    have : chL [] = 0 := rfl
    omega
  | .choice a b, fl, l, h => by
    rw [Fm.lays, mem_sortL, List.mem_append] at h
    rcases h with h | h
    · have := Fm.lays_wd a fl l h; exact ⟨this.1, by simp only [Fm.wd]; omega⟩
    · have := Fm.lays_wd b fl l h; exact ⟨this.1, by simp only [Fm.wd]; omega⟩
  | .nested n a, fl, l, h => by
    rw [Fm.lays] at h
    obtain ⟨x, hx, rfl⟩ := List.mem_map.mp h
    obtain ⟨n1, w1⟩ := Fm.lays_wd a fl x hx
    obtain ⟨r, y, rfl⟩ := lay_cons n1
    rw [movL_cons]
    refine ⟨by simp, ?_⟩
    have e : chL (y.map fun r => (r.1 + n, r.2)) = chL y := by unfold chL; rw [List.map_map]; rfl
    simp only [List.length_cons, List.length_map, chL_cons, e, Fm.wd] at w1 ⊢
    omega
  | .flat a, fl, l, h => by rw [Fm.lays] at h; exact Fm.lays_wd a true l h
  | .group a, true, l, h => by rw [Fm.lays] at h; exact Fm.lays_wd a true l h
  | .group a, false, l, h => by
    rw [Fm.lays, mem_sortL, List.mem_append] at h
    rcases h with h | h
    · exact Fm.lays_wd a false l h
    · exact Fm.lays_wd a true l h
theorem Fm.lays_ne (f : Fm) (fl : Bool) : ∀ l ∈ f.lays fl, l ≠ [] := fun l h => (Fm.lays_wd f fl l h).1
def rowD : D → LRow
  | .tup [.int i, .str x] => (i, x)
  | _ => (0, "")
def rowsD : D → List LRow
  | .tup l => l.map rowD
  | _ => []
theorem rowsD_encL (l : List LRow) : rowsD (encL l) = l := by
  show (l.map encR).map rowD = l
  rw [List.map_map]
  have : (rowD ∘ encR) = id := funext fun r => rfl
  rw [this, List.map_id]
end PL
set_option maxHeartbeats 2000000
namespace PL
open PySem PySem.Spec PyProof.Rows L2 PLt
theorem Fm.wle.mono {M N : Int} (h : M ≤ N) : ∀ {f : Fm}, f.wle M → f.wle N
  | .text x, k => Int.le_trans (show 1 ≤ M from k) h
  | .hole x, k => Int.le_trans (show 1 ≤ M from k) h
  | .brk x, k => Int.le_trans (show 1 ≤ M from k) h
  | .join a b, k => ⟨⟨Int.le_trans k.1.1 h, Int.le_trans k.1.2 h⟩, k.2.1.mono h, k.2.2.mono h⟩
  | .choice a b, k => ⟨⟨Int.le_trans k.1.1 h, Int.le_trans k.1.2 h⟩, k.2.1.mono h, k.2.2.mono h⟩
  | .nested n a, k => Fm.wle.mono (f := a) h k
  | .flat a, k => Fm.wle.mono (f := a) h k
  | .group a, k => ⟨Int.le_trans k.1 h, k.2.mono h⟩
end PL
set_option maxHeartbeats 2000000
namespace PL
open PySem PySem.Spec PyProof.Rows L2 PLt
theorem Fm.ways_nn : ∀ f : Fm, 0 ≤ f.bo ∧ 0 ≤ f.fl
  | .text _ => by simp [Fm.bo, Fm.fl]
  | .hole _ => by simp [Fm.bo, Fm.fl]
  | .brk none => by simp [Fm.bo, Fm.fl]
  | .brk (some _) => by simp [Fm.bo, Fm.fl]
  | .join a b => ⟨Int.mul_nonneg (Fm.ways_nn a).1 (Fm.ways_nn b).1, Int.mul_nonneg (Fm.ways_nn a).2 (Fm.ways_nn b).2⟩
  | .choice a b => ⟨Int.add_nonneg (Fm.ways_nn a).1 (Fm.ways_nn b).1, Int.add_nonneg (Fm.ways_nn a).2 (Fm.ways_nn b).2⟩
  | .nested _ a => Fm.ways_nn a
  | .group a => ⟨Int.add_nonneg (Fm.ways_nn a).1 (Fm.ways_nn a).2, (Fm.ways_nn a).2⟩
  | .flat a => ⟨(Fm.ways_nn a).2, (Fm.ways_nn a).2⟩
def pw2 (k : Nat) : Int := ((2 ^ k : Nat) : Int)
theorem pw2_pos (k : Nat) : 1 ≤ pw2 k := by
  have := Nat.one_le_two_pow (n := k)
  unfold pw2
  omega
theorem pw2_succ (k : Nat) : pw2 (k + 1) = 2 * pw2 k := by unfold pw2; rw [Nat.pow_succ]; omega
theorem pw2_add (a b : Nat) : pw2 (a + b) = pw2 a * pw2 b := by unfold pw2; rw [Nat.pow_add]; exact Int.natCast_mul _ _
theorem pw2_mono {a b : Nat} (h : a ≤ b) : pw2 a ≤ pw2 b := by
  unfold pw2
  exact Int.ofNat_le.mpr (Nat.pow_le_pow_right (by decide) h)
def Fm.mc : Fm → Nat
  | .text x => x.length
  | .brk (some x) => x.length
  | .brk none => 0
  | .hole _ => 0
  | .join a b => mc a + mc b
  | .choice a b => max (mc a) (mc b)
  | .nested _ a => mc a
  | .group a => mc a
  | .flat a => mc a
structure Fm.gen (k : Nat) (f : Fm) : Prop where
  m : f.mc ≤ 4 * k
  w : (f.wd : Int) ≤ 4 * (pw2 k - 1)
  b : f.bo + f.fl ≤ pw2 k
  l : f.wle (pw2 k)
theorem two_le {k : Nat} (h : 1 ≤ k) : 2 ≤ pw2 k := by
  have := pw2_mono h
  exact Int.le_trans (by decide) this
theorem Fm.gen.leaf {k : Nat} {f : Fm} (h : 1 ≤ k) (h1 : f.parts = 1) (h2 : f.wd ≤ 4) : f.gen k := by
  have := two_le h
  cases f with
  | text x => exact ⟨by simp only [Fm.wd, Fm.mc] at h2 ⊢; omega, by omega, by simp only [Fm.bo, Fm.fl]; omega, by show 1 ≤ _; omega⟩
  | hole x => exact ⟨Nat.zero_le _, by omega, by simp only [Fm.bo, Fm.fl]; omega, by show 1 ≤ _; omega⟩
  | brk o =>
    refine ⟨by cases o <;> simp only [Fm.wd, Fm.mc] at h2 ⊢ <;> omega, by omega, ?_, by show 1 ≤ _; omega⟩
    cases o <;> (simp only [Fm.bo, Fm.fl]; omega)
  | join a b => simp only [Fm.parts] at h1; have := a.parts_pos; omega
  | choice a b => simp only [Fm.parts] at h1; have := a.parts_pos; omega
  | nested i a => simp only [Fm.parts] at h1; have := a.parts_pos; omega
  | group a => simp only [Fm.parts] at h1; have := a.parts_pos; omega
  | flat a => simp only [Fm.parts] at h1; have := a.parts_pos; omega
theorem mul_le_tot {a b c d x y : Int} (h1 : 0 ≤ a) (h2 : 0 ≤ b) (h3 : 0 ≤ c) (h4 : 0 ≤ d) (hx : a + b ≤ x) (hy : c + d ≤ y) : a * c + b * d ≤ x * y := by
  have e1 : (a + b) * (c + d) ≤ x * y := Int.mul_le_mul hx hy (Int.add_nonneg h3 h4) (Int.le_trans (Int.add_nonneg h1 h2) hx)
  have e2 : (a + b) * (c + d) = a * c + b * d + (a * d + b * c) := by
    rw [Int.add_mul, Int.mul_add, Int.mul_add]; omega
  have e3 := Int.mul_nonneg h1 h4
  have e4 := Int.mul_nonneg h2 h3
  omega
theorem sum_le_mul {x y : Int} (hx : 2 ≤ x) (hy : 2 ≤ y) : x + y ≤ x * y := by
  have := Int.mul_nonneg (show 0 ≤ x - 2 by omega) (show 0 ≤ y - 1 by omega)
  rw [Int.sub_mul, Int.mul_sub] at this
  omega
theorem Fm.gen.join {k m : Nat} {f g : Fm} (hk : 1 ≤ k) (hm : 1 ≤ m) (h1 : f.gen k) (h2 : g.gen m) : (Fm.join f g).gen (k + m) := by
  have n1 := f.ways_nn
  have n2 := g.ways_nn
  have t := mul_le_tot n1.1 n1.2 n2.1 n2.2 h1.b h2.b
  have p1 := two_le hk
  have p2 := two_le hm
  have s := sum_le_mul p1 p2
  have q1 := Int.mul_nonneg n1.1 n2.1
  have q2 := Int.mul_nonneg n1.2 n2.2
  refine ⟨by have := h1.m; have := h2.m; simp only [Fm.mc]; omega, ?_, ?_, ⟨⟨?_, ?_⟩, h1.l.mono (pw2_mono (by omega)), h2.l.mono (pw2_mono (by omega))⟩⟩
  · have a1 := h1.w
    have a2 := h2.w
    rw [pw2_add]
    simp only [Fm.wd]
    omega
  · rw [pw2_add]; exact t
  · rw [pw2_add]; omega
  · rw [pw2_add]; omega
theorem Fm.gen.choice {k m : Nat} {f g : Fm} (hk : 1 ≤ k) (hm : 1 ≤ m) (h1 : f.gen k) (h2 : g.gen m) : (Fm.choice f g).gen (k + m) := by
  have n1 := f.ways_nn
  have n2 := g.ways_nn
  have s := sum_le_mul (two_le hk) (two_le hm)
  have b1 := h1.b
  have b2 := h2.b
  refine ⟨by have := h1.m; have := h2.m; simp only [Fm.mc]; omega, ?_, ?_, ⟨⟨?_, ?_⟩, h1.l.mono (pw2_mono (by omega)), h2.l.mono (pw2_mono (by omega))⟩⟩
  · have a1 := h1.w
    have a2 := h2.w
    rw [pw2_add]
    simp only [Fm.wd]
    omega
  · rw [pw2_add]; simp only [Fm.bo, Fm.fl]; omega
  · rw [pw2_add]; omega
  · rw [pw2_add]; omega
theorem Fm.gen.nested {k : Nat} {f : Fm} {i : Int} (h : f.gen k) : (Fm.nested i f).gen k := ⟨h.m, h.w, h.b, h.l⟩
theorem Fm.gen.mono {k m : Nat} {f : Fm} (h : f.gen k) (hk : k ≤ m) : f.gen m := by
  have := pw2_mono hk
  exact ⟨by have := h.m; omega, by have := h.w; omega, Int.le_trans h.b this, h.l.mono this⟩
theorem Fm.gen.group {k : Nat} {f : Fm} (h : f.gen k) : (Fm.group f).gen (k + 1) := by
  have n1 := f.ways_nn
  have b1 := h.b
  have p := pw2_pos k
  refine ⟨by have := h.m; simp only [Fm.mc]; omega, ?_, ?_, ?_, h.l.mono (pw2_mono (by omega))⟩
  · have := h.w; rw [pw2_succ]; simp only [Fm.wd]; omega
  · rw [pw2_succ]; simp only [Fm.bo, Fm.fl]; omega
  · rw [pw2_succ]; omega
theorem Fm.gen.flat {k : Nat} {f : Fm} (h : f.gen k) : (Fm.flat f).gen (k + 1) := by
  have n1 := f.ways_nn
  have b1 := h.b
  have p := pw2_pos k
  refine ⟨by have := h.m; simp only [Fm.mc]; omega, ?_, ?_, h.l.mono (pw2_mono (by omega))⟩
  · have := h.w; rw [pw2_succ]; simp only [Fm.wd]; omega
  · rw [pw2_succ]; simp only [Fm.bo, Fm.fl]; omega
theorem Fm.gen.assoc {k m : Nat} {f g h : Fm} (hk : 1 ≤ k) (hm : 1 ≤ m) (h1 : f.gen k) (h2 : (Fm.join g h).gen m) : (Fm.join (.join f g) h).gen (k + m) := by
  have n1 := f.ways_nn
  have n2 := g.ways_nn
  have n3 := h.ways_nn
  have w := Fm.gen.join hk hm h1 h2
  have b := w.b
  have l := w.l
  simp only [Fm.bo, Fm.fl] at b
  refine ⟨by have := w.m; simp only [Fm.mc] at this ⊢; omega, by have := w.w; simp only [Fm.wd] at this ⊢; omega, by simp only [Fm.bo, Fm.fl]; rw [Int.mul_assoc, Int.mul_assoc]; exact b, ⟨⟨?_, ?_⟩, ⟨⟨?_, ?_⟩, l.2.1, l.2.2.2.1⟩, l.2.2.2.2⟩⟩
  · simp only [Fm.bo]; rw [Int.mul_assoc]; exact l.1.1
  · simp only [Fm.fl]; rw [Int.mul_assoc]; exact l.1.2
  · rw [pw2_add]
    exact Int.mul_le_mul h1.l.top.1 h2.l.2.1.top.1 n2.1 (by have := pw2_pos k; omega)
  · rw [pw2_add]
    exact Int.mul_le_mul h1.l.top.2 h2.l.2.1.top.2 n2.2 (by have := pw2_pos k; omega)
end PL
set_option maxHeartbeats 2000000
namespace PLt
open PySem PySem.Spec PyProof.Rows L2 PLs
section
variable {X : Cx}
end
end PLt
namespace PL
open PySem PySem.Spec PyProof.Rows L2 PLt PLs
end PL
set_option maxHeartbeats 2000000
namespace PL
open PySem PySem.Spec PyProof.Rows L2 PLt
def Fm.sz : Fm → Nat
  | .join a b => sz a + sz b
  | .choice a b => sz a + sz b
  | .nested _ a => sz a
  | .group a => sz a + 1
  | .flat a => sz a + 1
  | _ => 1
def Fm.lv : Fm → Prop
  | .join a b => lv a ∧ lv b
  | .choice a b => lv a ∧ lv b
  | .nested _ a => lv a
  | .group a => lv a
  | .flat a => lv a
  | f => f.wd ≤ 4
def Fm.gz (k : Nat) (f : Fm) : Prop := f.sz ≤ k ∧ f.lv
theorem Fm.sz_pos : ∀ f : Fm, 1 ≤ f.sz
  | .join a b => by have := Fm.sz_pos a; simp only [Fm.sz]; omega
  | .choice a b => by have := Fm.sz_pos a; simp only [Fm.sz]; omega
  | .nested _ a => Fm.sz_pos a
  | .group a => by simp only [Fm.sz]; omega
  | .flat a => by simp only [Fm.sz]; omega
  | .text _ => Nat.le_refl _
  | .brk _ => Nat.le_refl _
  | .hole _ => Nat.le_refl _
theorem Fm.lv.gen : ∀ {f : Fm}, f.lv → f.gen f.sz
  | .join a b, h => (Fm.lv.gen h.1).join a.sz_pos b.sz_pos (Fm.lv.gen h.2)
  | .choice a b, h => (Fm.lv.gen h.1).choice a.sz_pos b.sz_pos (Fm.lv.gen h.2)
  | .nested _ a, h => (Fm.lv.gen (f := a) h).nested
  | .group a, h => (Fm.lv.gen (f := a) h).group
  | .flat a, h => (Fm.lv.gen (f := a) h).flat
  | .text _, h => .leaf (Nat.le_refl _) rfl h
  | .brk _, h => .leaf (Nat.le_refl _) rfl h
  | .hole _, h => .leaf (Nat.le_refl _) rfl h
theorem Fm.gz.leaf {k : Nat} {f : Fm} (h : 1 ≤ k) (h1 : f.parts = 1) (h2 : f.wd ≤ 4) : f.gz k := by
  cases f with
  | text x => exact ⟨h, h2⟩
  | hole x => exact ⟨h, h2⟩
  | brk o => exact ⟨h, h2⟩
  | join a b => simp only [Fm.parts] at h1; have := a.parts_pos; omega
  | choice a b => simp only [Fm.parts] at h1; have := a.parts_pos; omega
  | nested i a => simp only [Fm.parts] at h1; have := a.parts_pos; omega
  | group a => simp only [Fm.parts] at h1; have := a.parts_pos; omega
  | flat a => simp only [Fm.parts] at h1; have := a.parts_pos; omega
theorem Fm.gz.mono {k m : Nat} {f : Fm} (h : f.gz k) (hk : k ≤ m) : f.gz m := ⟨Nat.le_trans h.1 hk, h.2⟩
theorem Fm.gz.join {k m : Nat} {f g : Fm} (_ : 1 ≤ k) (_ : 1 ≤ m) (h1 : f.gz k) (h2 : g.gz m) : (Fm.join f g).gz (k + m) := ⟨Nat.add_le_add h1.1 h2.1, h1.2, h2.2⟩
theorem Fm.gz.choice {k m : Nat} {f g : Fm} (_ : 1 ≤ k) (_ : 1 ≤ m) (h1 : f.gz k) (h2 : g.gz m) : (Fm.choice f g).gz (k + m) := ⟨Nat.add_le_add h1.1 h2.1, h1.2, h2.2⟩
theorem Fm.gz.nested {k : Nat} {f : Fm} {i : Int} (h : f.gz k) : (Fm.nested i f).gz k := h
theorem Fm.gz.group {k : Nat} {f : Fm} (h : f.gz k) : (Fm.group f).gz (k + 1) := ⟨Nat.succ_le_succ h.1, h.2⟩
theorem Fm.gz.flat {k : Nat} {f : Fm} (h : f.gz k) : (Fm.flat f).gz (k + 1) := ⟨Nat.succ_le_succ h.1, h.2⟩
theorem Fm.gz.sub {k : Nat} {f g : Fm} (h : f.gz k) (hg : g ∈ f.inner) : g.gz k := by
  obtain ⟨h1, h2⟩ := h
  cases f <;> simp [Fm.inner] at hg
  · simp only [Fm.sz] at h1; rcases hg with rfl | rfl; exact ⟨by omega, h2.1⟩; exact ⟨by omega, h2.2⟩
  · simp only [Fm.sz] at h1; rcases hg with rfl | rfl; exact ⟨by omega, h2.1⟩; exact ⟨by omega, h2.2⟩
  · subst hg; exact ⟨h1, h2⟩
  · subst hg; simp only [Fm.sz] at h1; exact ⟨by omega, h2⟩
  · subst hg; simp only [Fm.sz] at h1; exact ⟨by omega, h2⟩
theorem Fm.gz.gen {k : Nat} {f : Fm} (h : f.gz k) : f.gen k := (Fm.lv.gen h.2).mono h.1
end PL
set_option maxHeartbeats 2000000
namespace PL
open PySem PySem.Spec PyProof.Rows L2 PLt
theorem mem_choice {a b : Fm} {fl : Bool} {l : List LRow} : l ∈ (Fm.choice a b).lays fl ↔ l ∈ a.lays fl ∨ l ∈ b.lays fl := by rw [Fm.lays, mem_sortL, List.mem_append]
theorem mem_join {a b : Fm} {fl : Bool} {l : List LRow} : l ∈ (Fm.join a b).lays fl ↔ ∃ x ∈ a.lays fl, ∃ y ∈ b.lays fl, l = joinL x y := by
  rw [Fm.lays, mem_sortL, List.mem_flatMap]
  exact ⟨fun ⟨x, hx, h⟩ => let ⟨y, hy, e⟩ := List.mem_map.mp h; ⟨x, hx, y, hy, e.symm⟩, fun ⟨x, hx, y, hy, e⟩ => ⟨x, hx, List.mem_map.mpr ⟨y, hy, e.symm⟩⟩⟩
theorem mem_text {x : Str} {fl : Bool} {l : List LRow} : l ∈ (Fm.text x).lays fl ↔ l = [(0, x)] := by simp [Fm.lays]
theorem joinL_one (x y : Str) : joinL [(0, x)] [(0, y)] = [(0, x ++ y)] := by simp [joinL, lastR, headR]
theorem okStr_app {x y : Str} (hx : okStr x = true) (hy : okStr y = true) : okStr (x ++ y) = true := by
  have e : (x ++ y).cps = x.cps ++ y.cps := rfl
  unfold okStr signs at *
  rw [e, Array.toList_append, List.map_append, List.all_append, hx, hy]; rfl
theorem strOk_app {x y : Str} (hx : PyData.strOk x = true) (hy : PyData.strOk y = true) : PyData.strOk (x ++ y) = true := by
  have e : (x ++ y).cps = x.cps ++ y.cps := rfl
  unfold PyData.strOk at *
  rw [e, Array.all_append, hx, hy]; rfl
def rowOk (r : LRow) : Prop := 0 ≤ r.1 ∧ okStr r.2 = true ∧ PyData.strOk r.2 = true
theorem rowOk_zero {x : Str} (h : strS x) : rowOk (0, x) := ⟨Int.le_refl _, h.2.1, h.2.2⟩
theorem rowOk_empty : rowOk (0, "") := ⟨Int.le_refl _, by decide +kernel, by decide +kernel⟩
theorem Fm.lays_row : ∀ (f : Fm), f.ok → ∀ (fl : Bool) (l : List LRow), l ∈ f.lays fl → chL l ≤ f.mc ∧ (∀ r ∈ l, rowOk r) ∧ ∃ x q, l = (0, x) :: q
  | .text x, ok, fl, l, h => by
    rw [mem_text] at h; subst h
    exact ⟨by simp [chL, Fm.mc], fun r hr => by rw [List.mem_singleton.mp hr]; exact rowOk_zero ok, _, _, rfl⟩
  | .brk none, ok, false, l, h => by
    simp [Fm.lays] at h; subst h
    exact ⟨by simp [chL, Fm.mc]; decide, fun r hr => by simp at hr; rw [hr]; exact rowOk_empty, _, _, rfl⟩
  | .brk (some x), ok, false, l, h => by
    simp [Fm.lays] at h; subst h
    exact ⟨by have : (("" : Str)).length = 0 := by decide
              simp [chL, Fm.mc, this], fun r hr => by simp at hr; rw [hr]; exact rowOk_empty, _, _, rfl⟩
  | .brk (some x), ok, true, l, h => by
    simp [Fm.lays] at h; subst h
    exact ⟨by simp [chL, Fm.mc], fun r hr => by rw [List.mem_singleton.mp hr]; exact rowOk_zero ok, _, _, rfl⟩
  | .brk none, ok, true, l, h => by simp [Fm.lays] at h
  | .hole _, ok, fl, l, h => by simp [Fm.lays] at h
  | .join a b, ok, fl, l, h => by
    rw [mem_join] at h
    obtain ⟨x, hx, y, hy, rfl⟩ := h
    obtain ⟨c1, o1, u, r, rfl⟩ := Fm.lays_row a ok.1 fl x hx
    obtain ⟨c2, o2, v, q, rfl⟩ := Fm.lays_row b ok.2 fl y hy
    have o2q : ∀ r ∈ q, rowOk r := fun r hr => o2 r (List.mem_cons_of_mem _ hr)
    have o2v := o2 (0, v) List.mem_cons_self
    rcases List.eq_nil_or_concat r with rfl | ⟨r', z, rfl⟩
    · have e1 : joinL [((0 : Int), u)] ((0, v) :: q) = (0, u ++ v) :: q := joinL_snoc [] q (0, u) (0, v)
      have o1u := o1 (0, u) List.mem_cons_self
      rw [e1]
      refine ⟨?_, fun r hr => ?_, _, _, rfl⟩
      · simp only [chL_cons, str_app_len, Fm.mc] at c1 c2 ⊢
        have : chL [] = 0 := rfl
        omega
      · rcases List.mem_cons.mp hr with rfl | hr
        · exact ⟨Int.le_refl _, okStr_app o1u.2.1 o2v.2.1, strOk_app o1u.2.2 o2v.2.2⟩
        · exact o2q r hr
    · have e0 : ((0 : Int), u) :: r'.concat z = ((0, u) :: r') ++ [z] := by simp
      rw [e0] at c1 o1 ⊢
      rw [joinL_snoc]
      have o1z := o1 z (by simp)
      refine ⟨?_, fun r hr => ?_, _, _, rfl⟩
      · simp only [chL_app, chL_cons, str_app_len, Fm.mc] at c1 c2 ⊢
        have : chL [] = 0 := rfl
        omega
      · rcases List.mem_append.mp hr with hr | hr
        · exact o1 r (List.mem_append_left _ hr)
        · rcases List.mem_cons.mp hr with rfl | hr
          · exact ⟨o1z.1, okStr_app o1z.2.1 o2v.2.1, strOk_app o1z.2.2 o2v.2.2⟩
          · exact o2q r hr
  | .choice a b, ok, fl, l, h => by
    rw [mem_choice] at h
    rcases h with h | h
    · have := Fm.lays_row a ok.1 fl l h
      exact ⟨by simp only [Fm.mc]; omega, this.2⟩
    · have := Fm.lays_row b ok.2 fl l h
      exact ⟨by simp only [Fm.mc]; omega, this.2⟩
  | .nested n a, ok, fl, l, h => by
    rw [Fm.lays] at h
    obtain ⟨x, hx, rfl⟩ := List.mem_map.mp h
    obtain ⟨c1, o1, u, r, rfl⟩ := Fm.lays_row a ok.2 fl x hx
    rw [movL_cons]
    have e : chL (r.map fun r => (r.1 + n, r.2)) = chL r := by unfold chL; rw [List.map_map]; rfl
    refine ⟨by simp only [chL_cons, e, Fm.mc] at c1 ⊢; exact c1, fun q hq => ?_, _, _, rfl⟩
    rcases List.mem_cons.mp hq with rfl | hq
    · exact o1 _ List.mem_cons_self
    · obtain ⟨q', hq', rfl⟩ := List.mem_map.mp hq
      have := o1 q' (List.mem_cons_of_mem _ hq')
      exact ⟨by have := this.1; have := ok.1.1; show 0 ≤ q'.1 + n; omega, this.2⟩
  | .flat a, ok, fl, l, h => by rw [Fm.lays] at h; exact Fm.lays_row a ok true l h
  | .group a, ok, true, l, h => by rw [Fm.lays] at h; exact Fm.lays_row a ok true l h
  | .group a, ok, false, l, h => by
    rw [Fm.lays, mem_sortL, List.mem_append] at h
    rcases h with h | h
    · exact Fm.lays_row a ok false l h
    · exact Fm.lays_row a ok true l h
theorem chL_mem {l : List LRow} {r : LRow} (h : r ∈ l) : r.2.length ≤ chL l := by
  induction l with
  | nil => cases h
  | cons q l ih =>
    rw [chL_cons]
    rcases List.mem_cons.mp h with rfl | h
    · omega
    · have := ih h; omega
def LaysP (ls : List (List LRow)) : Prop := ∀ l ∈ ls, LayOk l
theorem LaysP.pl {ls : List (List LRow)} (h : LaysP ls) : Pl 60 (.lst (ls.map encL)) := pl_lst fun d hd => by
  obtain ⟨l, hl, rfl⟩ := List.mem_map.mp hd
  exact (h l hl).pl.mono (by decide)
structure Lets (n : Nat) (x : Str) : Prop where
  len : x.cps.toList.length = n
  le : ∀ c ∈ x.cps.toList, 97 ≤ c
structure Two (f : Fm) : Prop where
  ok : f.ok
  h : f.holes = []
  d : f.dep ≤ 42
  w : f.wle 2048
  wd : f.wd ≤ 8184
  m : f.mc ≤ 1000
theorem Two.of {f : Fm} {k : Nat} (ok : f.ok) (h : f.holes = []) (g : f.gen k) (hk : k ≤ 10) (d : f.dep ≤ 40) : Two f := by
  have g := g.mono hk
  have e : pw2 10 = 1024 := rfl
  exact ⟨ok, h, by omega, g.l.mono (by rw [e]; decide), by have := g.w; omega, by have := g.m; omega⟩
theorem Two.group {f : Fm} {k : Nat} (ok : f.ok) (h : f.holes = []) (g : f.gen k) (hk : k ≤ 10) (d : f.dep ≤ 40) : Two (.group f) := by
  have g := g.mono hk
  have e : pw2 10 = 1024 := rfl
  refine ⟨ok, h, by simp only [Fm.dep]; omega, ⟨by have := g.b; omega, g.l.mono (by rw [e]; decide)⟩, by have := g.w; simp only [Fm.wd]; omega, by have := g.m; simp only [Fm.mc]; omega⟩
theorem Two.both {f : Fm} {k : Nat} (ok : f.ok) (h : f.holes = []) (g : f.gen k) (hk : k ≤ 10) (d : f.dep ≤ 40) : Two (.choice f (.flat f)) := by
  have g := g.mono hk
  have e : pw2 10 = 1024 := rfl
  have b := g.b
  have n := f.ways_nn
  refine ⟨⟨ok, ok⟩, by simp [Fm.holes, h], by simp only [Fm.dep]; omega, ⟨⟨?_, ?_⟩, g.l.mono (by rw [e]; decide), g.l.mono (by rw [e]; decide)⟩, by have := g.w; simp only [Fm.wd]; omega, by have := g.m; simp only [Fm.mc]; omega⟩
  · simp only [Fm.bo, Fm.fl]; omega
  · simp only [Fm.bo, Fm.fl]; omega
end PL
set_option maxHeartbeats 2000000
namespace PL
open PySem PySem.Spec PyProof.Rows L2 PLt
theorem Fm.lays_head : ∀ (f : Fm) (fl : Bool) (l : List LRow), l ∈ f.lays fl → ∃ x r, l = (0, x) :: r
  | .text x, fl, l, h => by simp [Fm.lays] at h; subst h; exact ⟨_, _, rfl⟩
  | .brk none, false, l, h => by simp [Fm.lays] at h; subst h; exact ⟨_, _, rfl⟩
  | .brk (some x), false, l, h => by simp [Fm.lays] at h; subst h; exact ⟨_, _, rfl⟩
  | .brk (some x), true, l, h => by simp [Fm.lays] at h; subst h; exact ⟨_, _, rfl⟩
  | .brk none, true, l, h => by simp [Fm.lays] at h
  | .hole _, fl, l, h => by simp [Fm.lays] at h
  | .join a b, fl, l, h => by
    rw [mem_join] at h
    obtain ⟨x, hx, y, hy, rfl⟩ := h
    obtain ⟨u, r, rfl⟩ := Fm.lays_head a fl x hx
    obtain ⟨v, q, rfl⟩ := Fm.lays_head b fl y hy
    rcases List.eq_nil_or_concat r with rfl | ⟨r', z, rfl⟩
    · exact ⟨_, q, by simp [joinL, lastR, headR]; rfl⟩
    · rw [show (0, u) :: r'.concat z = ((0, u) :: r') ++ [z] by simp, joinL_snoc]
      exact ⟨u, _, rfl⟩
  | .choice a b, fl, l, h => by
    rw [mem_choice] at h
    rcases h with h | h
    · exact Fm.lays_head a fl l h
    · exact Fm.lays_head b fl l h
  | .nested n a, fl, l, h => by
    rw [Fm.lays] at h
    obtain ⟨x, hx, rfl⟩ := List.mem_map.mp h
    obtain ⟨u, r, rfl⟩ := Fm.lays_head a fl x hx
    exact ⟨u, _, movL_cons _ _ _⟩
  | .flat a, fl, l, h => by rw [Fm.lays] at h; exact Fm.lays_head a true l h
  | .group a, true, l, h => by rw [Fm.lays] at h; exact Fm.lays_head a true l h
  | .group a, false, l, h => by
    rw [Fm.lays, mem_sortL, List.mem_append] at h
    rcases h with h | h
    · exact Fm.lays_head a false l h
    · exact Fm.lays_head a true l h
theorem Fm.lays_flat : ∀ (f : Fm) (l : List LRow), l ∈ f.lays true → ∃ x, l = [(0, x)]
  | .text x, l, h => by simp [Fm.lays] at h; subst h; exact ⟨_, rfl⟩
  | .brk (some x), l, h => by simp [Fm.lays] at h; subst h; exact ⟨_, rfl⟩
  | .brk none, l, h => by simp [Fm.lays] at h
  | .hole _, l, h => by simp [Fm.lays] at h
  | .join a b, l, h => by
    rw [mem_join] at h
    obtain ⟨x, hx, y, hy, rfl⟩ := h
    obtain ⟨u, rfl⟩ := Fm.lays_flat a x hx
    obtain ⟨v, rfl⟩ := Fm.lays_flat b y hy
    exact ⟨_, joinL_one u v⟩
  | .choice a b, l, h => by
    rw [mem_choice] at h
    rcases h with h | h
    · exact Fm.lays_flat a l h
    · exact Fm.lays_flat b l h
  | .nested n a, l, h => by
    rw [Fm.lays] at h
    obtain ⟨x, hx, rfl⟩ := List.mem_map.mp h
    obtain ⟨u, rfl⟩ := Fm.lays_flat a x hx
    exact ⟨u, movL_cons _ _ _⟩
  | .flat a, l, h => by rw [Fm.lays] at h; exact Fm.lays_flat a l h
  | .group a, l, h => by rw [Fm.lays] at h; exact Fm.lays_flat a l h
theorem mem_nested {n : Int} {a : Fm} {fl : Bool} {l : List LRow} : l ∈ (Fm.nested n a).lays fl ↔ ∃ x ∈ a.lays fl, l = movL n x := by
  rw [Fm.lays, List.mem_map]
  exact ⟨fun ⟨x, h, e⟩ => ⟨x, h, e.symm⟩, fun ⟨x, h, e⟩ => ⟨x, h, e.symm⟩⟩
theorem mem_flat {a : Fm} {fl : Bool} {l : List LRow} : l ∈ (Fm.flat a).lays fl ↔ l ∈ a.lays true := by rw [Fm.lays]
theorem mem_groupT {a : Fm} {l : List LRow} : l ∈ (Fm.group a).lays true ↔ l ∈ a.lays true := by rw [Fm.lays]
theorem mem_groupF {a : Fm} {l : List LRow} : l ∈ (Fm.group a).lays false ↔ l ∈ a.lays false ∨ l ∈ a.lays true := by rw [Fm.lays, mem_sortL, List.mem_append]
end PL
set_option maxHeartbeats 2000000
namespace PL
open PySem PySem.Spec PyProof.Rows L2 PLt
namespace Fm
def ub (k : Int) : Fm → Int × Int
  | join a b => ((ub k a).1 * (ub k b).1, (ub k a).2 * (ub k b).2)
  | choice a b => ((ub k a).1 + (ub k b).1, (ub k a).2 + (ub k b).2)
  | nested _ a => ub k a
  | group a => ((ub k a).1 + (ub k a).2, (ub k a).2)
  | flat a => ((ub k a).2, (ub k a).2)
  | hole _ => (k, k)
  | brk none => (1, 0)
  | _ => (1, 1)
def ubB (M k : Int) : Fm → Bool
  | join a b => decide ((ub k a).1 * (ub k b).1 ≤ M) && decide ((ub k a).2 * (ub k b).2 ≤ M) && ubB M k a && ubB M k b
  | choice a b => decide ((ub k a).1 + (ub k b).1 ≤ M) && decide ((ub k a).2 + (ub k b).2 ≤ M) && ubB M k a && ubB M k b
  | nested _ a => ubB M k a
  | group a => decide ((ub k a).1 + (ub k a).2 ≤ M) && ubB M k a
  | flat a => ubB M k a
  | hole _ => true
  | _ => decide (1 ≤ M)
def uw (k : Nat) : Fm → Nat
  | join a b => uw k a + uw k b
  | choice a b => uw k a + uw k b
  | nested _ a => uw k a
  | group a => uw k a
  | flat a => uw k a
  | hole _ => k
  | f => wd f
def up (k : Nat) : Fm → Nat
  | join a b => 1 + (up k a + up k b)
  | choice a b => 1 + (up k a + up k b)
  | nested _ a => 1 + up k a
  | group a => 1 + up k a
  | flat a => 1 + up k a
  | hole _ => k
  | f => parts f
def ud (k : Nat) : Fm → Nat
  | join a b => 1 + max (ud k a) (ud k b)
  | choice a b => 1 + max (ud k a) (ud k b)
  | nested _ a => 1 + ud k a
  | group a => 1 + ud k a
  | flat a => 1 + ud k a
  | hole _ => k
  | f => dep f
theorem fill_hole {ks : List Str} {φ : Str → Fm} {x : Str} (h : x ∈ ks) : fill ks φ (hole x) = φ x := by
  rw [fill, if_pos]
  simpa using h
theorem fill_ub {ks : List Str} {φ : Str → Fm} {k : Int} (hk : ∀ x ∈ ks, (φ x).bo ≤ k ∧ (φ x).fl ≤ k) : ∀ {f : Fm}, (∀ x ∈ f.holes, x ∈ ks) → (fill ks φ f).bo ≤ (ub k f).1 ∧ (fill ks φ f).fl ≤ (ub k f).2
  | .text x, _ => by simp [fill, bo, fl, ub]
  | .brk none, _ => by simp [fill, bo, fl, ub]
  | .brk (some x), _ => by simp [fill, bo, fl, ub]
  | .hole x, h => by rw [fill_hole (h x (by simp [holes]))]; exact hk x (h x (by simp [holes]))
  | .join a b, h => by
    obtain ⟨a1, a2⟩ := fill_ub hk (f := a) fun x hx => h x (by simp [holes, hx])
    obtain ⟨b1, b2⟩ := fill_ub hk (f := b) fun x hx => h x (by simp [holes, hx])
    have n1 := ways_nn (fill ks φ a)
    have n2 := ways_nn (fill ks φ b)
    exact ⟨Int.mul_le_mul a1 b1 n2.1 (Int.le_trans n1.1 a1), Int.mul_le_mul a2 b2 n2.2 (Int.le_trans n1.2 a2)⟩
  | .choice a b, h => by
    obtain ⟨a1, a2⟩ := fill_ub hk (f := a) fun x hx => h x (by simp [holes, hx])
    obtain ⟨b1, b2⟩ := fill_ub hk (f := b) fun x hx => h x (by simp [holes, hx])
    exact ⟨Int.add_le_add a1 b1, Int.add_le_add a2 b2⟩
  | .nested n a, h => fill_ub hk (f := a) h
  | .group a, h => by
    obtain ⟨a1, a2⟩ := fill_ub hk (f := a) h
    exact ⟨Int.add_le_add a1 a2, a2⟩
  | .flat a, h => by
    obtain ⟨a1, a2⟩ := fill_ub hk (f := a) h
    exact ⟨a2, a2⟩
theorem fill_wle {ks : List Str} {φ : Str → Fm} {M k : Int} (hk : ∀ x ∈ ks, (φ x).bo ≤ k ∧ (φ x).fl ≤ k ∧ (φ x).wle M) : ∀ {f : Fm}, (∀ x ∈ f.holes, x ∈ ks) → ubB M k f = true → (fill ks φ f).wle M
  | .text x, _, e => by show 1 ≤ M; simpa [ubB] using e
  | .brk x, _, e => by show 1 ≤ M; simpa [ubB] using e
  | .hole x, h, _ => by rw [fill_hole (h x (by simp [holes]))]; exact (hk x (h x (by simp [holes]))).2.2
  | .join a b, h, e => by
    simp only [ubB, Bool.and_eq_true, decide_eq_true_eq] at e
    have ha : ∀ x ∈ a.holes, x ∈ ks := fun x hx => h x (by simp [holes, hx])
    have hb : ∀ x ∈ b.holes, x ∈ ks := fun x hx => h x (by simp [holes, hx])
    have t := fill_ub (fun x hx => ⟨(hk x hx).1, (hk x hx).2.1⟩) (f := .join a b) h
    exact ⟨⟨Int.le_trans t.1 e.1.1.1, Int.le_trans t.2 e.1.1.2⟩, fill_wle hk ha e.1.2, fill_wle hk hb e.2⟩
  | .choice a b, h, e => by
    simp only [ubB, Bool.and_eq_true, decide_eq_true_eq] at e
    have ha : ∀ x ∈ a.holes, x ∈ ks := fun x hx => h x (by simp [holes, hx])
    have hb : ∀ x ∈ b.holes, x ∈ ks := fun x hx => h x (by simp [holes, hx])
    have t := fill_ub (fun x hx => ⟨(hk x hx).1, (hk x hx).2.1⟩) (f := .choice a b) h
    exact ⟨⟨Int.le_trans t.1 e.1.1.1, Int.le_trans t.2 e.1.1.2⟩, fill_wle hk ha e.1.2, fill_wle hk hb e.2⟩
  | .nested n a, h, e => fill_wle hk (f := a) h e
  | .flat a, h, e => fill_wle hk (f := a) h e
  | .group a, h, e => by
    simp only [ubB, Bool.and_eq_true, decide_eq_true_eq] at e
    have t := fill_ub (fun x hx => ⟨(hk x hx).1, (hk x hx).2.1⟩) (f := .group a) h
    exact ⟨Int.le_trans t.1 e.1, fill_wle hk (f := a) h e.2⟩
theorem fill_wd {ks : List Str} {φ : Str → Fm} {k : Nat} (hk : ∀ x ∈ ks, (φ x).wd ≤ k) : ∀ {f : Fm}, (∀ x ∈ f.holes, x ∈ ks) → (fill ks φ f).wd ≤ uw k f
  | .text x, _ => Nat.le_refl _
  | .brk x, _ => Nat.le_refl _
  | .hole x, h => by rw [fill_hole (h x (by simp [holes]))]; exact hk x (h x (by simp [holes]))
  | .join a b, h => Nat.add_le_add (fill_wd hk (f := a) fun x hx => h x (by simp [holes, hx])) (fill_wd hk (f := b) fun x hx => h x (by simp [holes, hx]))
  | .choice a b, h => Nat.add_le_add (fill_wd hk (f := a) fun x hx => h x (by simp [holes, hx])) (fill_wd hk (f := b) fun x hx => h x (by simp [holes, hx]))
  | .nested n a, h => fill_wd hk (f := a) h
  | .flat a, h => fill_wd hk (f := a) h
  | .group a, h => fill_wd hk (f := a) h
theorem fill_holesOf {ks : List Str} {φ : Str → Fm} {x : Str} : ∀ {f : Fm}, (∀ y ∈ f.holes, y ∈ ks) → x ∈ (fill ks φ f).holes → ∃ y ∈ f.holes, x ∈ (φ y).holes
  | .text y, _, h => by simp [fill, holes] at h
  | .brk y, _, h => by simp [fill, holes] at h
  | .hole y, hk, h => by
    rw [fill_hole (hk y (by simp [holes]))] at h
    exact ⟨y, by simp [holes], h⟩
  | .join a b, hk, h => by
    simp only [fill, holes, List.mem_append] at h
    rcases h with h | h
    · obtain ⟨y, h1, h2⟩ := fill_holesOf (f := a) (fun x hx => hk x (by simp [holes, hx])) h
      exact ⟨y, by simp [holes, h1], h2⟩
    · obtain ⟨y, h1, h2⟩ := fill_holesOf (f := b) (fun x hx => hk x (by simp [holes, hx])) h
      exact ⟨y, by simp [holes, h1], h2⟩
  | .choice a b, hk, h => by
    simp only [fill, holes, List.mem_append] at h
    rcases h with h | h
    · obtain ⟨y, h1, h2⟩ := fill_holesOf (f := a) (fun x hx => hk x (by simp [holes, hx])) h
      exact ⟨y, by simp [holes, h1], h2⟩
    · obtain ⟨y, h1, h2⟩ := fill_holesOf (f := b) (fun x hx => hk x (by simp [holes, hx])) h
      exact ⟨y, by simp [holes, h1], h2⟩
  | .nested n a, hk, h => fill_holesOf (f := a) hk h
  | .flat a, hk, h => fill_holesOf (f := a) hk h
  | .group a, hk, h => fill_holesOf (f := a) hk h
end Fm
end PL
set_option maxHeartbeats 2000000
namespace PL
open PySem PySem.Spec PyProof.Rows L2 PLt
def cntS (x : Str) : Nat := (Txt.count x "(").toNat
theorem cntS_cast (x : Str) : ((cntS x : Nat) : Int) = Txt.count x "(" := Int.toNat_of_nonneg (count_bounds x "(").1
theorem cntS_le (x : Str) : cntS x ≤ x.length + 1 := by
  have := (count_bounds x "(").2
  have := cntS_cast x
  omega
namespace Fm
def ownS : Fm → Option Str
  | text x => some x
  | brk (some x) => some x
  | _ => none
def ownM (f : Fm) : Nat := match ownS f with
  | some x => cntS x
  | none => 0
def marks : Fm → Nat
  | join a b => marks a + marks b
  | choice a b => marks a + marks b
  | nested _ a => marks a
  | group a => marks a
  | flat a => marks a
  | f => ownM f
theorem marks_wd : ∀ f : Fm, f.marks ≤ f.wd
  | text x => by have := cntS_le x; simp only [marks, ownM, ownS, wd]; omega
  | brk none => by simp [marks, ownM, ownS]
  | brk (some x) => by have := cntS_le x; simp only [marks, ownM, ownS, wd]; omega
  | hole x => by simp [marks, ownM, ownS]
  | join a b => by have := marks_wd a; have := marks_wd b; simp only [marks, wd]; omega
  | choice a b => by have := marks_wd a; have := marks_wd b; simp only [marks, wd]; omega
  | nested _ a => by have := marks_wd a; simp only [marks, wd]; omega
  | group a => by have := marks_wd a; simp only [marks, wd]; omega
  | flat a => by have := marks_wd a; simp only [marks, wd]; omega
def mark (n : Nat) : Str := Txt.mul "(" (n : Nat)
def fillM (n : Nat) (x : Str) : Fm := .join (.join (.text (mark n ++ x ++ "." ++ ")")) (.brk (some (mark n ++ x ++ "/" ++ ")")))) (.text (mark n ++ x ++ "-" ++ ")"))
end Fm
end PL
set_option maxHeartbeats 2000000
namespace PL
open PySem PySem.Spec PyProof.Rows L2 PLt
def strP (d : D) (P : Str → Prop) : Prop := ∃ x, d = .str x ∧ P x
theorem ev_strP {x : Str} {P : Str → Prop} : strP (.str x) P = P x := by simp [strP]
def dCount (te : DE) (t : DA) : DE := fun ρ c Q => te ρ c fun x c1 => strP x fun a => t ρ c1 fun ds c2 => hd1 ds fun y => strP y fun b => Q (.int (Txt.count a b)) c2
theorem ev_count {te : DE} {t : DA} {ρ : DEnv} {c : CN} {Q : QD} : dCount te t ρ c Q = te ρ c fun x c1 => strP x fun a => t ρ c1 fun ds c2 => hd1 ds fun y => strP y fun b => Q (.int (Txt.count a b)) c2 := propext Iff.rfl
section
variable {Y : Ctx} {o e : Expr} {fa : TA} {t : DA} {te : TE} {de : DE} {apos cpos : Pos}
end
end PL
set_option maxHeartbeats 4000000
namespace PL
open PySem PySem.Spec PyProof.Rows L2 PLt
open PySem.W (dictOf)
inductive SEnt : List DictEntry → List (Str × Value) → Prop
  | nil : SEnt [] []
  | cons {e : DictEntry} {x : Str} {t : Tok} {es : List DictEntry} {kvs : List (Str × Value)} : e.key = .str x t → SEnt es kvs → SEnt (e :: es) ((x, e.val) :: kvs)
theorem SEnt.length : ∀ {es : List DictEntry} {kvs : List (Str × Value)}, SEnt es kvs → es.length = kvs.length
  | _, _, .nil => rfl
  | _, _, .cons _ h => congrArg (· + 1) h.length
theorem SEnt.str : ∀ {es : List DictEntry} {kvs : List (Str × Value)}, SEnt es kvs → ∀ e ∈ es, ∃ x t, e.key = .str x t ∧ x ∈ kvs.map (·.1)
  | _, _, .nil, e, he => nomatch he
  | _, _, .cons h r, e, he => by
    rcases List.mem_cons.mp he with rfl | he
    · exact ⟨_, _, h, List.mem_cons_self⟩
    · obtain ⟨x, t, h1, h2⟩ := r.str e he
      exact ⟨x, t, h1, List.mem_cons_of_mem _ h2⟩
section
variable {P : Program} {w : World} {A : Around} {E : Value → Shared → Prop} {s : Shared} {d a : Addr}
end
end PL
set_option maxHeartbeats 4000000
namespace PL
open PySem PySem.Spec PyProof.Rows L2 PLt StX
open PySem.W (dictOf)
section
variable {X : Cx} {CX : CXT} {k : Nat} {f : Addr} {x : Str} {p pos kp : Pos} {e o : Expr} {es : List Expr} {t : TA} {to : TE} {sp : List Str → List V → List V → Hp → VK → XK → Prop} {E : L2.St → XK}
end
section
variable {Y : Ctx} {k : Nat} {f : Addr} {sp : List Str → SpS} {x : Str} {p pos kp : Pos} {e o : Expr} {es : List Expr} {fa : TA} {t : DA} {te : TE} {de : DE} {good : List Str → Prop}
def dCallDD (ED : DEnv → EDt) (good : List Str → Prop) (sp : List Str → SpS) (t : DA) (de : DE) : DE := fun ρ c Q => t ρ c fun ds c1 => de ρ c1 fun x c2 => ∃ ks es, x = .dct (keysS ks) es ∧ ks.length ≤ 16777215 ∧ good ks ∧ sp ks ds es c2 Q (ED ρ)
theorem ev_callDD {ED : DEnv → EDt} {ρ : DEnv} {c : CN} {Q : QD} : dCallDD ED good sp t de ρ c Q = t ρ c fun ds c1 => de ρ c1 fun x c2 => ∃ ks es, x = .dct (keysS ks) es ∧ ks.length ≤ 16777215 ∧ good ks ∧ sp ks ds es c2 Q (ED ρ) := propext Iff.rfl
end
end PL
set_option maxHeartbeats 4000000
namespace PL
open PySem PySem.Spec PyProof.Rows L2 PLt StX
structure DDok (p : Str) (ks : List Str) : Prop where
  nd : ks.Nodup
  ne : p ∉ ks
  len : ks.length ≤ 16777215
end PL
set_option maxHeartbeats 2000000
namespace PLs
open PySem PySem.Spec PyProof.Rows L2
section
variable {P : Program} {w : World} {A : Around} {E : Value → Shared → Prop} {s : Shared}
end
section
variable {X : Cx}
end
end PLs
namespace PL
open PySem PySem.Spec PyProof.Rows L2 PLs
def strsTP (d : D) (P : List Str → Prop) : Prop := ∃ xs, d = .tup (xs.map D.str) ∧ P xs
theorem strsTP.mk {xs : List Str} {P : List Str → Prop} (h : P xs) : strsTP (.tup (xs.map D.str)) P := ⟨xs, rfl, h⟩
def dSortSetU (t : DA) : DE := fun ρ c Q => t ρ c fun ds c1 => hd1 ds fun d => strsTP d fun xs => xs.length + 1 < 4096 ∧ Q (.lst ((sortU xs).map D.str)) c1
theorem ev_sortSetU {t : DA} {ρ : DEnv} {c : CN} {Q : QD} : dSortSetU t ρ c Q = t ρ c fun ds c1 => hd1 ds fun d => strsTP d fun xs => xs.length + 1 < 4096 ∧ Q (.lst ((sortU xs).map D.str)) c1 := propext Iff.rfl
section
variable {Y : Ctx} {e : Expr} {es : List Expr} {fa : TA} {t : DA} {p p2 pos pos2 : Pos}
end
end PL
set_option maxHeartbeats 2000000
namespace PL
open PySem PySem.Spec PyProof.Rows L2 PLt
theorem Fm.ok_names : ∀ {f : Fm} {x : Str}, Fm.ok f → x ∈ Fm.holes f → strS x ∧ nameB x = true
  | .hole y, x, h, e => by
    have : x = y := by simpa [Fm.holes] using e
    rw [this]; exact h
  | .text y, x, h, e => by simp [Fm.holes] at e
  | .brk y, x, h, e => by simp [Fm.holes] at e
  | .join a b, x, h, e => by
    simp only [Fm.holes, List.mem_append] at e
    exact e.elim (Fm.ok_names h.1) (Fm.ok_names h.2)
  | .choice a b, x, h, e => by
    simp only [Fm.holes, List.mem_append] at e
    exact e.elim (Fm.ok_names h.1) (Fm.ok_names h.2)
  | .nested i a, x, h, e => Fm.ok_names (f := a) h.2 e
  | .group a, x, h, e => Fm.ok_names (f := a) h e
  | .flat a, x, h, e => Fm.ok_names (f := a) h e
theorem nameB_len {x : Str} (h : nameB x = true) : x.length ≤ 8 := by
  simp only [nameB, Bool.and_eq_true, decide_eq_true_eq] at h
  exact h.1.2
theorem strS_app {x y : Str} (hx : strS x) (hy : strS y) (h : x.length + y.length ≤ 1000) : strS (x ++ y) :=
  ⟨by rw [str_app_len]; exact h, okStr_app hx.2.1 hy.2.1, strOk_app hx.2.2 hy.2.2⟩
theorem foldl_app (a : Array Nat) : ∀ (n : Nat) (acc : Array Nat), ((List.replicate n a).foldl (· ++ ·) acc).toList = acc.toList ++ (List.replicate n a.toList).flatten
  | 0, acc => by simp
  | n + 1, acc => by
    rw [List.replicate_succ, List.foldl_cons, foldl_app a n]
    simp [List.replicate_succ]
theorem mark_cps (n : Nat) : (Fm.mark n).cps.toList = List.replicate n 40 := by
  have c1 : (("(" : Str)).cps = #[40] := by decide +kernel
  have fl : ∀ n : Nat, (List.replicate n [40]).flatten = List.replicate n 40 := fun n => by
    induction n with
    | zero => rfl
    | succ n ih => rw [List.replicate_succ, List.flatten_cons, ih]; rfl
  unfold Fm.mark Txt.mul
  by_cases h0 : ((n : Nat) : Int) < 1
  · have : n = 0 := by omega
    subst this
    rw [if_pos h0]; rfl
  · rw [if_neg h0]
    split
    · rename_i h
      have l1 : ((("(" : Str)).length == 0) = false := by decide +kernel
      rw [l1, Bool.or_false, beq_iff_eq] at h
      have : n = 1 := by omega
      subst this
      rw [c1]; rfl
    · have e : ((n : Nat) : Int).toNat = n := by omega
      show ((List.replicate _ _).foldl (· ++ ·) #[]).toList = _
      rw [e, c1, foldl_app]
      simpa using fl n
theorem mark_len (n : Nat) : (Fm.mark n).length = n := by
  have := congrArg List.length (mark_cps n)
  simpa [PySem.Str.length] using this
theorem mark_str {n : Nat} (h : n ≤ 900) : strS (Fm.mark n) := by
  refine ⟨by rw [mark_len]; omega, ?_, ?_⟩
  · unfold okStr signs
    rw [mark_cps]
    refine List.all_eq_true.mpr fun d hd => ?_
    obtain ⟨c, hc, rfl⟩ := List.mem_map.mp hd
    rw [List.eq_of_mem_replicate hc]
    decide +kernel
  · unfold PyData.strOk
    rw [← Array.all_toList, mark_cps]
    refine List.all_eq_true.mpr fun c hc => ?_
    rw [List.eq_of_mem_replicate hc]
    decide
theorem fill_str {n : Nat} {x z : Str} (hn : n ≤ 900) (hx : strS x) (hb : nameB x = true) (hz : strS z) (hl : z.length ≤ 2) : strS (Fm.mark n ++ x ++ z ++ ")") := by
  have h1 := mark_str hn
  have h8 := nameB_len hb
  have h0 := mark_len n
  have hp : strS ")" := strSB_ok (by decide +kernel)
  have l1 : ((")" : Str)).length = 1 := by decide +kernel
  refine strS_app (strS_app (strS_app h1 hx (by omega)) hz ?_) hp ?_
  · rw [str_app_len]; omega
  · rw [str_app_len, str_app_len]; omega
theorem Fm.fillM_ok {n : Nat} {x : Str} (hn : n ≤ 900) (hx : strS x) (hb : nameB x = true) : (Fm.fillM n x).ok :=
  ⟨⟨fill_str hn hx hb (strSB_ok (by decide +kernel)) (by decide +kernel), fill_str hn hx hb (strSB_ok (by decide +kernel)) (by decide +kernel)⟩, fill_str hn hx hb (strSB_ok (by decide +kernel)) (by decide +kernel)⟩
end PL
namespace PL
open PySem PySem.Spec PyProof.Rows L2
section
variable {Y : Ctx} {x y z : Str} {a b e : Expr} {ta : TA} {t : DA} {px py pz pt pos pt2 : Pos} {kt k2 k : Nat}
def sPar3 (i j l : Nat) (t : DA) : DS := fun DD ρ c => t ρ c fun ds c1 => ∃ d e f, ds = [d, e, f] ∧ @Nx DD.nx (((ρ.set i (.fz d)).set j (.fz e)).set l (.fz f)) c1
def threeP (ds : List D) (P : D → D → D → Prop) : Prop := ∃ d e f, ds = [d, e, f] ∧ P d e f
theorem ev_threeP {d e f : D} {P : D → D → D → Prop} : threeP [d, e, f] P = P d e f := by
  apply propext; constructor
  · rintro ⟨_, _, _, h, q⟩; cases h; exact q
  · exact fun q => ⟨_, _, _, rfl, q⟩
theorem ev_par3 {i j l : Nat} {DD : DEnds} {ρ : DEnv} {c : CN} : sPar3 i j l t DD ρ c = t ρ c fun ds c1 => threeP ds fun d e f => @Nx DD.nx (((ρ.set i (.fz d)).set j (.fz e)).set l (.fz f)) c1 := propext Iff.rfl
end
end PL
set_option maxHeartbeats 2000000
namespace PL
open PySem PySem.Spec PyProof.Rows L2 PLt
namespace Fm
theorem ub_one : ∀ f : Fm, ub 1 f = (f.bo, f.fl)
  | text _ => rfl
  | brk none => rfl
  | brk (some _) => rfl
  | hole _ => rfl
  | join a b => by simp only [ub, ub_one a, ub_one b, bo, fl]
  | choice a b => by simp only [ub, ub_one a, ub_one b, bo, fl]
  | nested _ a => by simp only [ub, ub_one a, bo, fl]
  | group a => by simp only [ub, ub_one a, bo, fl]
  | flat a => by simp only [ub, ub_one a, bo, fl]
theorem ubB_one {M : Int} : ∀ {f : Fm}, f.wle M → ubB M 1 f = true
  | text _, h => decide_eq_true (show 1 ≤ M from h)
  | brk _, h => decide_eq_true (show 1 ≤ M from h)
  | hole _, _ => rfl
  | join a b, h => by
    simp only [ubB, ub_one, Bool.and_eq_true, decide_eq_true_eq]
    exact ⟨⟨⟨h.1.1, h.1.2⟩, ubB_one h.2.1⟩, ubB_one h.2.2⟩
  | choice a b, h => by
    simp only [ubB, ub_one, Bool.and_eq_true, decide_eq_true_eq]
    exact ⟨⟨⟨h.1.1, h.1.2⟩, ubB_one h.2.1⟩, ubB_one h.2.2⟩
  | nested _ a, h => ubB_one (f := a) h
  | group a, h => by
    simp only [ubB, ub_one, Bool.and_eq_true, decide_eq_true_eq]
    exact ⟨h.1, ubB_one h.2⟩
  | flat a, h => ubB_one (f := a) h
theorem uw_nl {W : Nat} (h4 : 4 ≤ W) : ∀ {f : Fm}, f.lv → uw W f ≤ (f.nl + 1) * W
  | text _, h => by have : wd _ ≤ 4 := h; simp only [uw, nl]; omega
  | brk _, h => by have : wd _ ≤ 4 := h; simp only [uw, nl]; omega
  | hole _, _ => by simp only [uw, nl]; omega
  | join a b, h => by
    have h1 := uw_nl h4 (f := a) h.1
    have h2 := uw_nl h4 (f := b) h.2
    have e : (1 + (a.nl + b.nl) + 1) * W = (a.nl + 1) * W + (b.nl + 1) * W := by rw [← Nat.add_mul]; congr 1; omega
    simp only [uw, nl]; omega
  | choice a b, h => by
    have h1 := uw_nl h4 (f := a) h.1
    have h2 := uw_nl h4 (f := b) h.2
    have e : (1 + (a.nl + b.nl) + 1) * W = (a.nl + 1) * W + (b.nl + 1) * W := by rw [← Nat.add_mul]; congr 1; omega
    simp only [uw, nl]; omega
  | nested _ a, h => by
    have h1 := uw_nl h4 (f := a) h
    have e : (1 + a.nl + 1) * W = (a.nl + 1) * W + W := by rw [← Nat.succ_mul]; congr 1; omega
    simp only [uw, nl]; omega
  | group a, h => by
    have h1 := uw_nl h4 (f := a) h
    have e : (1 + a.nl + 1) * W = (a.nl + 1) * W + W := by rw [← Nat.succ_mul]; congr 1; omega
    simp only [uw, nl]; omega
  | flat a, h => by
    have h1 := uw_nl h4 (f := a) h
    have e : (1 + a.nl + 1) * W = (a.nl + 1) * W + W := by rw [← Nat.succ_mul]; congr 1; omega
    simp only [uw, nl]; omega
end Fm
structure SmF (f : Fm) : Prop where
  ok : f.ok
  gz : f.gz 4
  p : f.parts ≤ 7
  n : f.nl ≤ 3
structure ChkF (s : Fm) : Prop where
  b : s.ubB 5000 16 = true
  p : s.up 35 ≤ 900
  d : s.ud 10 ≤ 59
  w : s.uw 7428 ≤ 40000
  m : s.uw 60 ≤ 303
  h : ∀ x ∈ s.holes, x ∈ (["a", "b", "c"] : List Str)
theorem Fm.fillM_wd (n : Nat) (x z : Str) (h : x.length ≤ 8) : (Fm.fillM n x).wd ≤ 3 * (n + 12) := by
  have h0 := mark_len n
  have l1 : ((")" : Str)).length = 1 := by decide +kernel
  have l2 : (("." : Str)).length = 1 := by decide +kernel
  have l3 : (("/" : Str)).length = 1 := by decide +kernel
  have l4 : (("-" : Str)).length = 1 := by decide +kernel
  simp only [Fm.fillM, Fm.wd, str_app_len]
  omega
end PL
set_option maxHeartbeats 2000000
namespace PL
open PySem PySem.Spec PyProof.Rows L2 PLt
structure AlikeP (f g : Fm) (n : Nat) (ls : List Str) : Prop where
  okf : f.ok ∧ f.small ∧ f.wle 5000
  okg : g.ok ∧ g.small ∧ g.wle 5000
  hn : n ≤ 607
  hl : ls.length ≤ 60
  F : (f.fill ls (Fm.fillM n)).ok ∧ (f.fill ls (Fm.fillM n)).small ∧ (f.fill ls (Fm.fillM n)).holes = [] ∧ (f.fill ls (Fm.fillM n)).wle 5000 ∧ (f.fill ls (Fm.fillM n)).wd ≤ 40000
  G : (g.fill ls (Fm.fillM n)).ok ∧ (g.fill ls (Fm.fillM n)).small ∧ (g.fill ls (Fm.fillM n)).holes = [] ∧ (g.fill ls (Fm.fillM n)).wle 5000 ∧ (g.fill ls (Fm.fillM n)).wd ≤ 40000
end PL
set_option maxHeartbeats 2000000
namespace PL
open PySem PySem.Spec PyProof.Rows L2
section
variable {P : Program} {w : World} {K : PySem.W.Frag} {mg : Str → Option Value} {base : Heap} {x qual f : Str} {params : Arguments} {body : List Stmt} {scope : Scope} {kws : List (Str × V)} {fI : Addr} {fd : FuncData} {N ps : List Str} {k : Nat} {sp : SpD}
end
section
variable {X : Cx} {CX : CXT} {k n : Nat} {f C : Addr} {fd : FuncData} {ps ks : List Str} {sp : Sp} {E : L2.St → XK} {x : Str} {p pos : Pos} {e : Expr} {es : List Expr} {kws : List Keyword} {t tk : TA} {g : List Value → List Value → List Value} {gV : List V → List V → List V}
variable (M : Mk X.K C f) (F : FnOk X.prog X.w X.K X.mg X.base CX k f fd ps sp) (hr : Room (k + 1) X.A) (hg : Gl X x) (hm : X.mg x = some (.ref C)) (hx : ∀ σ, PassesAt CX X σ (E σ)) (hdb : (x == ("__debug__" : Str)) = false)
include M F hr hg hm hx hdb
end
section
variable {Y : Ctx} {k : Nat} {C fI : Addr} {fd : FuncData} {x fn : Str} {ps ks : List Str} {e : Expr} {es : List Expr} {kws : List Keyword} {fa fk : TA} {t tk : DA} {p pos : Pos} {sp : SpD} {g : List Value → List Value → List Value} {gV : List V → List V → List V}
def dMakeL (C : Addr) (f : Str) (ED : DEnv → EDt) (sp : SpD) (t : DA) : DE := fun ρ c Q => t ρ c fun ds c1 => hd1 ds fun d => @Run sp [d] c1 (fun x c2 => Q (.ins C [f] [x]) c2) (ED ρ)
def dMakeR (C : Addr) (f : Str) (t tk : DA) : DE := fun ρ c Q => t ρ c fun ds c1 => hd1 ds fun d => d = .non ∧ tk ρ c1 fun es c2 => hd1 es fun y => ∃ l, y = .lst l ∧ Q (.ins C [f] [y]) c2
theorem ev_makeL {ED : DEnv → EDt} {ρ : DEnv} {c : CN} {Q : QD} : dMakeL C fn ED sp t ρ c Q = t ρ c fun ds c1 => hd1 ds fun d => @Run sp [d] c1 (fun x c2 => Q (.ins C [fn] [x]) c2) (ED ρ) := propext Iff.rfl
theorem ev_makeR {ρ : DEnv} {c : CN} {Q : QD} : dMakeR C fn t tk ρ c Q = t ρ c fun ds c1 => hd1 ds fun d => d = .non ∧ tk ρ c1 fun es c2 => hd1 es fun y => ∃ l, y = .lst l ∧ Q (.ins C [fn] [y]) c2 := propext Iff.rfl
end
end PL
set_option maxHeartbeats 2000000
namespace PL
open PySem PySem.Spec PyProof.Rows L2
section
variable {X : Cx} {CX : CXT} {k : Nat} {f C : Addr} {fd : FuncData} {ps : List Str} {sp : Sp} {E : L2.St → XK} {a b : Expr} {pos : Pos} {ta tb : TE}
def IxRS (X : Cx) (r : L2.St → R2) : Prop := ∀ (value slice : Expr) (pins : List (Addr × Obj)) (s : Shared) (σ : L2.St) (H : Hp) (x y : V) (v u : Value) (Q : VK), L2.Inv X pins σ H s → RelV x v → RelV y u → r σ x y H Q →
    subscripted slice false v u = operate [v, u] (getItem v u) → wpAny (model X.prog X.w) X.A (subscriptTail value slice v u) (EP X pins σ Q) X.xe s
theorem IxRS.of {r : R2} (h : IxR X r) : IxRS X fun _ => r := fun value slice pins s σ H x y v u Q I rx ry q e => h value slice pins s σ H x y v u Q I rx ry q e
theorem IxRS.or {r r' : L2.St → R2} (h : IxRS X r) (h' : IxRS X r') : IxRS X fun σ x y H Q => r σ x y H Q ∨ r' σ x y H Q := fun value slice pins s σ H x y v u Q I rx ry q e =>
  q.elim (fun q => h value slice pins s σ H x y v u Q I rx ry q e) fun q => h' value slice pins s σ H x y v u Q I rx ry q e
end
end PL
set_option maxHeartbeats 2000000
namespace PL
open PySem PySem.Spec PyProof.Rows L2
section
variable {X : Cx} {CX : CXT} {k : Nat} {f C : Addr} {fd : FuncData} {ps : List Str} {sp : Sp} {E : L2.St → XK} {a b : Expr} {pos : Pos} {ta tb : TE} {r : L2.St → R2}
def IxRO (X : Cx) (r : L2.St → R2) : Prop := ∀ (value slice : Expr) (pins : List (Addr × Obj)) (s : Shared) (σ : L2.St) (H : Hp) (x y : V) (v u : Value) (Q : VK), L2.Inv X pins σ H s → RelV x v → RelV y u → r σ x y H Q →
    subscripted slice false v u = operate [v, u] (getItem v u) → subscripted slice true v u = runValue (.builtin "lifetime.subscript" ⟨[v, u], []⟩) → wpAny (model X.prog X.w) X.A (subscriptTail value slice v u) (EP X pins σ Q) X.xe s
theorem IxRO.of {r : R2} (h : IxR X r) : IxRO X fun _ => r := fun value slice pins s σ H x y v u Q I rx ry q e _ => h value slice pins s σ H x y v u Q I rx ry q e
theorem IxRO.or {r r' : L2.St → R2} (h : IxRO X r) (h' : IxRO X r') : IxRO X fun σ x y H Q => r σ x y H Q ∨ r' σ x y H Q := fun value slice pins s σ H x y v u Q I rx ry q e e2 =>
  q.elim (fun q => h value slice pins s σ H x y v u Q I rx ry q e e2) fun q => h' value slice pins s σ H x y v u Q I rx ry q e e2
end
section
variable {Y : Ctx} {k : Nat} {C f : Addr} {fd : FuncData} {ps : List Str} {a b e : Expr} {es : List Expr} {ea eb : TE} {ta tb : DE} {fa : TA} {t : DA} {p pos : Pos} {sp : SpD}
def aGetO (C : Addr) (ED : DEnv → EDt) (sp : SpD) (ρ : DEnv) (x y : D) (c : CN) (Q : QD) : Prop := match x with
  | .ins C' ns es => C' = C ∧ @Run sp [.ins C' ns es, y] c Q (ED ρ)
  | x => aItem x y c Q
def aLenO (C : Addr) (sp : SpD) (ds : List D) (c : CN) (Q : QD) : Prop := match ds with
  | [.ins C' ns es] => C' = C ∧ @Run sp [.ins C' ns es] c (fun v c' => asI v fun n => (0 ≤ n ∧ n < 2 ^ 63) ∧ Q (.int n) c') (fun _ _ _ _ => False)
  | ds => aLen ds c Q
end
section
variable {C : Addr} {ED : DEnv → EDt} {sp : SpD} {ρ : DEnv} {c : CN} {Q : QD} {ns : List Str} {es l : List D} {y : D} {ng : Bool}
theorem ev_getO_i : aGetO C ED sp ρ (.ins C ns es) y c Q = @Run sp [.ins C ns es, y] c Q (ED ρ) := by simp [aGetO]
theorem ev_getO_l : aGetO C ED sp ρ (.lst l) y c Q = aItem (.lst l) y c Q := propext Iff.rfl
theorem ev_getO_t : aGetO C ED sp ρ (.tup l) y c Q = aItem (.tup l) y c Q := propext Iff.rfl
theorem ev_lenO_i : aLenO C sp [.ins C ns es] c Q = @Run sp [.ins C ns es] c (fun v c' => asI v fun n => (0 ≤ n ∧ n < 2 ^ 63) ∧ Q (.int n) c') (fun _ _ _ _ => False) := by simp [aLenO]
theorem ev_lenO_l : aLenO C sp [.lst l] c Q = aLen [.lst l] c Q := propext Iff.rfl
theorem ev_lenO_t : aLenO C sp [.tup l] c Q = aLen [.tup l] c Q := propext Iff.rfl
end
end PL
set_option maxHeartbeats 2000000
namespace PL
open PySem PySem.Spec PyProof.Rows L2 PLt
inductive It where
  | ch (c : Nat)
  | nl (i : Int)
inductive Sy where
  | it (i : It)
  | hf (x : Str)
  | hb (x : Str) (k : Int)
def chW (x : Str) : List It := x.cps.toList.map .ch
def rowsW (l : List LRow) : List It := l.flatMap fun r => .nl r.1 :: chW r.2
def layW : List LRow → List It
  | [] => []
  | r :: l => chW r.2 ++ rowsW l
def movI (n : Int) : It → It
  | .ch c => .ch c
  | .nl i => .nl (i + n)
def movS (n : Int) : Sy → Sy
  | .it i => .it (movI n i)
  | .hf x => .hf x
  | .hb x k => .hb x (k + n)
theorem chW_app (x y : Str) : chW (x ++ y) = chW x ++ chW y := by
  show ((x ++ y : Str).cps.toList).map It.ch = _
  rw [show (x ++ y : Str).cps = x.cps ++ y.cps from rfl, Array.toList_append, List.map_append]
  rfl
theorem chW_empty : chW "" = [] := by
  have : (("" : Str)).cps.toList = [] := by decide +kernel
  simp [chW, this]
theorem rowsW_app (a b : List LRow) : rowsW (a ++ b) = rowsW a ++ rowsW b := by simp [rowsW]
theorem rowsW_cons (r : LRow) (b : List LRow) : rowsW (r :: b) = .nl r.1 :: (chW r.2 ++ rowsW b) := by simp [rowsW]
theorem layW_join {a b : List LRow} (ha : a ≠ []) (hb : b ≠ []) : layW (joinL a b) = layW a ++ layW b := by
  obtain ⟨a', r, rfl⟩ := lay_snoc ha
  obtain ⟨q, b', rfl⟩ := lay_cons hb
  rw [joinL_snoc]
  cases a' with
  | nil => simp only [List.nil_append, layW, chW_app, List.append_assoc]; rfl
  | cons r0 a' => simp only [List.cons_append, layW, rowsW_app, rowsW_cons, chW_app, List.append_assoc, List.cons_append]; rfl
theorem chW_mov (n : Int) (x : Str) : (chW x).map (movI n) = chW x := by
  unfold chW
  rw [List.map_map]
  exact List.map_congr_left fun c _ => rfl
theorem rowsW_mov (n : Int) (l : List LRow) : rowsW (l.map fun r => (r.1 + n, r.2)) = (rowsW l).map (movI n) := by
  induction l with
  | nil => rfl
  | cons r l ih => rw [List.map_cons, rowsW_cons, rowsW_cons, List.map_cons, List.map_append, chW_mov, ih]; rfl
theorem layW_mov {n : Int} {a : List LRow} (ha : a ≠ []) : layW (movL n a) = (layW a).map (movI n) := by
  obtain ⟨r, b, rfl⟩ := lay_cons ha
  rw [movL_cons]
  simp only [layW, rowsW_mov, List.map_append, chW_mov]
def NoCh (A : List It) : Prop := ∀ c B, A ≠ .ch c :: B
theorem ch_split : ∀ {xs ys : List Nat} {A B : List It}, NoCh A → NoCh B → xs.map It.ch ++ A = ys.map It.ch ++ B → xs = ys ∧ A = B
  | [], [], A, B, _, _, h => ⟨rfl, h⟩
  | [], y :: ys, A, B, hA, _, h => absurd h (hA _ _)
  | x :: xs, [], A, B, _, hB, h => absurd h.symm (hB _ _)
  | x :: xs, y :: ys, A, B, hA, hB, h => by
    simp only [List.map_cons, List.cons_append, List.cons.injEq, It.ch.injEq] at h
    obtain ⟨e1, e2⟩ := ch_split hA hB h.2
    exact ⟨by rw [h.1, e1], e2⟩
theorem noCh_rows (l : List LRow) : NoCh (rowsW l) := fun c B h => by
  cases l with
  | nil => cases h
  | cons r l => rw [rowsW_cons] at h; cases h
theorem str_ext {x y : Str} (h : x.cps.toList = y.cps.toList) : x = y := by
  cases x; cases y
  exact congrArg Str.mk (Array.toList_inj.mp h)
theorem rowsW_inj : ∀ {a b : List LRow} {x y : Str}, chW x ++ rowsW a = chW y ++ rowsW b → x = y ∧ a = b
  | a, b, x, y, h => by
    obtain ⟨e1, e2⟩ := ch_split (noCh_rows a) (noCh_rows b) h
    refine ⟨str_ext e1, ?_⟩
    match a, b, e2 with
    | [], [], _ => rfl
    | [], r :: b, e2 => rw [rowsW_cons] at e2; cases e2
    | r :: a, [], e2 => rw [rowsW_cons] at e2; cases e2
    | r :: a, q :: b, e2 =>
      rw [rowsW_cons, rowsW_cons] at e2
      simp only [List.cons.injEq, It.nl.injEq] at e2
      obtain ⟨e3, e4⟩ := rowsW_inj e2.2
      rw [e4, Prod.ext e2.1 e3]
termination_by a => a.length
theorem layW_inj {x y : Str} {a b : List LRow} (h : layW ((0, x) :: a) = layW ((0, y) :: b)) : (0, x) :: a = ((0, y) :: b : List LRow) := by
  obtain ⟨rfl, rfl⟩ := rowsW_inj h
  rfl
namespace Fm
def sym : Fm → Bool → List Sy → Prop
  | text x, _, w => w = (chW x).map .it
  | brk _, false, w => w = [.it (.nl 0)]
  | brk (some x), true, w => w = (chW x).map .it
  | brk none, true, _ => False
  | hole x, false, w => w = [.hb x 0]
  | hole x, true, w => w = [.hf x]
  | join a b, fl, w => ∃ u v, sym a fl u ∧ sym b fl v ∧ w = u ++ v
  | choice a b, fl, w => sym a fl w ∨ sym b fl w
  | nested n a, fl, w => ∃ u, sym a fl u ∧ w = u.map (movS n)
  | flat a, _, w => sym a true w
  | group a, true, w => sym a true w
  | group a, false, w => sym a false w ∨ sym a true w
end Fm
def exS (ψ : Str → Fm) : Sy → List It → Prop
  | .it i, w => w = [i]
  | .hf x, w => ∃ l ∈ (ψ x).lays true, w = layW l
  | .hb x k, w => ∃ l ∈ (ψ x).lays false, w = (layW l).map (movI k)
def exW (ψ : Str → Fm) : List Sy → List It → Prop
  | [], w => w = []
  | s :: t, w => ∃ u v, exS ψ s u ∧ exW ψ t v ∧ w = u ++ v
theorem exW_app {ψ : Str → Fm} : ∀ {s t : List Sy} {w : List It}, exW ψ (s ++ t) w ↔ ∃ u v, exW ψ s u ∧ exW ψ t v ∧ w = u ++ v
  | [], t, w => ⟨fun h => ⟨[], w, rfl, h, rfl⟩, fun ⟨u, v, h1, h2, e⟩ => by cases (show u = [] from h1); rw [e]; exact h2⟩
  | i :: s, t, w => by
    constructor
    · rintro ⟨u, v, h1, h2, rfl⟩
      obtain ⟨u2, v2, h3, h4, rfl⟩ := exW_app.mp h2
      exact ⟨u ++ u2, v2, ⟨u, u2, h1, h3, rfl⟩, h4, by simp⟩
    · rintro ⟨u, v, ⟨u1, u2, h1, h2, rfl⟩, h3, rfl⟩
      exact ⟨u1, u2 ++ v, h1, exW_app.mpr ⟨u2, v, h2, h3, rfl⟩, by simp⟩
theorem exW_its {ψ : Str → Fm} : ∀ {s w : List It}, exW ψ (s.map .it) w ↔ w = s
  | [], w => Iff.rfl
  | i :: s, w => by
    rw [List.map_cons]
    constructor
    · rintro ⟨u, v, h1, h2, rfl⟩
      rw [exW_its.mp h2, show u = [i] from h1]; rfl
    · rintro rfl
      exact ⟨[i], s, rfl, exW_its.mpr rfl, rfl⟩
theorem movI_add (m n : Int) (l : List It) : (l.map (movI m)).map (movI n) = l.map (movI (m + n)) := by
  rw [List.map_map]
  exact List.map_congr_left fun i _ => by cases i <;> simp [movI, Int.add_assoc]
theorem movI_zero (l : List It) : l.map (movI 0) = l := by
  conv => rhs; rw [← List.map_id l]
  exact List.map_congr_left fun i _ => by cases i <;> simp [movI]
theorem exS_mov {ψ : Str → Fm} {n : Int} {s : Sy} {w : List It} (hf : ∀ x l, l ∈ (ψ x).lays true → ∃ y, l = [(0, y)]) : exS ψ (movS n s) w ↔ ∃ u, exS ψ s u ∧ w = u.map (movI n) := by
  cases s with
  | it i => exact ⟨fun h => ⟨[i], rfl, h⟩, fun ⟨u, h1, h2⟩ => by rw [h2, show u = [i] from h1]; rfl⟩
  | hf x =>
    constructor
    · rintro ⟨l, hl, rfl⟩
      obtain ⟨y, rfl⟩ := hf x l hl
      exact ⟨_, ⟨_, hl, rfl⟩, by simp [layW, rowsW, chW_mov]⟩
    · rintro ⟨u, ⟨l, hl, rfl⟩, rfl⟩
      obtain ⟨y, rfl⟩ := hf x l hl
      exact ⟨_, hl, by simp [layW, rowsW, chW_mov]⟩
  | hb x k =>
    constructor
    · rintro ⟨l, hl, rfl⟩
      exact ⟨_, ⟨l, hl, rfl⟩, (movI_add _ _ _).symm⟩
    · rintro ⟨u, ⟨l, hl, rfl⟩, rfl⟩
      exact ⟨l, hl, movI_add _ _ _⟩
theorem exW_mov {ψ : Str → Fm} {n : Int} (hf : ∀ x l, l ∈ (ψ x).lays true → ∃ y, l = [(0, y)]) : ∀ {s : List Sy} {w : List It}, exW ψ (s.map (movS n)) w ↔ ∃ u, exW ψ s u ∧ w = u.map (movI n)
  | [], w => ⟨fun h => ⟨[], rfl, h⟩, fun ⟨u, h1, h2⟩ => by rw [h2, show u = [] from h1]; rfl⟩
  | i :: s, w => by
    constructor
    · rintro ⟨u, v, h1, h2, rfl⟩
      obtain ⟨u1, h3, rfl⟩ := (exS_mov hf).mp h1
      obtain ⟨v1, h4, rfl⟩ := (exW_mov hf).mp h2
      exact ⟨u1 ++ v1, ⟨u1, v1, h3, h4, rfl⟩, by simp⟩
    · rintro ⟨u, ⟨u1, v1, h1, h2, rfl⟩, rfl⟩
      exact ⟨_, _, (exS_mov hf).mpr ⟨u1, h1, rfl⟩, (exW_mov hf).mpr ⟨v1, h2, rfl⟩, by simp⟩
theorem Fm.lays_sym {ks : List Str} {ψ : Str → Fm} : ∀ {f : Fm}, (∀ x ∈ f.holes, x ∈ ks) → ∀ {fl : Bool} {w : List It}, (∃ l ∈ (f.fill ks ψ).lays fl, layW l = w) ↔ ∃ s, f.sym fl s ∧ exW ψ s w := by
  have hf : ∀ x l, l ∈ (ψ x).lays true → ∃ y, l = [(0, y)] := fun x l h => Fm.lays_flat _ l h
  intro f
  induction f with
  | text x =>
    intro _ fl w
    simp only [Fm.fill, mem_text, Fm.sym]
    exact ⟨fun ⟨l, h1, h2⟩ => ⟨_, rfl, exW_its.mpr (by rw [← h2, h1]; simp [layW, rowsW])⟩, fun ⟨s, h1, h2⟩ => ⟨_, rfl, by rw [h1] at h2; rw [exW_its.mp h2]; simp [layW, rowsW]⟩⟩
  | brk o =>
    intro _ fl w
    cases fl with
    | false =>
      have e : layW [(0, ""), (0, "")] = [.nl 0] := by simp [layW, rowsW, chW_empty]
      simp only [Fm.fill, Fm.lays, List.mem_singleton, Fm.sym]
      exact ⟨fun ⟨l, h1, h2⟩ => ⟨_, rfl, exW_its (s := [.nl 0]) |>.mpr (by rw [← h2, h1, e])⟩, fun ⟨s, h1, h2⟩ => ⟨_, rfl, by rw [h1] at h2; rw [exW_its (s := [.nl 0]) |>.mp h2, e]⟩⟩
    | true =>
      cases o with
      | none => exact ⟨fun ⟨l, h1, _⟩ => (nomatch (show l ∈ ([] : List (List LRow)) from h1)), fun ⟨s, h1, _⟩ => h1.elim⟩
      | some x =>
        simp only [Fm.fill, Fm.lays, List.mem_singleton, Fm.sym]
        exact ⟨fun ⟨l, h1, h2⟩ => ⟨_, rfl, exW_its.mpr (by rw [← h2, h1]; simp [layW, rowsW])⟩, fun ⟨s, h1, h2⟩ => ⟨_, rfl, by rw [h1] at h2; rw [exW_its.mp h2]; simp [layW, rowsW]⟩⟩
  | hole x =>
    intro hx fl w
    rw [Fm.fill_hole (hx x (by simp [Fm.holes]))]
    cases fl with
    | false =>
      simp only [Fm.sym]
      constructor
      · rintro ⟨l, h1, rfl⟩
        exact ⟨_, rfl, _, [], ⟨l, h1, rfl⟩, rfl, by simp [movI_zero]⟩
      · rintro ⟨s, rfl, u, v, ⟨l, h1, rfl⟩, h2, rfl⟩
        cases (show v = [] from h2)
        exact ⟨l, h1, by simp [movI_zero]⟩
    | true =>
      simp only [Fm.sym]
      constructor
      · rintro ⟨l, h1, rfl⟩
        exact ⟨_, rfl, _, [], ⟨l, h1, rfl⟩, rfl, by simp⟩
      · rintro ⟨s, rfl, u, v, ⟨l, h1, rfl⟩, h2, rfl⟩
        cases (show v = [] from h2)
        exact ⟨l, h1, by simp⟩
  | join a b iha ihb =>
    intro hx fl w
    have ha := fun {w} => iha (fun x h => hx x (by simp [Fm.holes, h])) (fl := fl) (w := w)
    have hb := fun {w} => ihb (fun x h => hx x (by simp [Fm.holes, h])) (fl := fl) (w := w)
    simp only [Fm.fill, mem_join, Fm.sym]
    constructor
    · rintro ⟨l, ⟨l1, h1, l2, h2, rfl⟩, rfl⟩
      obtain ⟨s1, q1, x1⟩ := ha.mp ⟨l1, h1, rfl⟩
      obtain ⟨s2, q2, x2⟩ := hb.mp ⟨l2, h2, rfl⟩
      exact ⟨_, ⟨s1, s2, q1, q2, rfl⟩, exW_app.mpr ⟨_, _, x1, x2, layW_join (Fm.lays_ne _ _ _ h1) (Fm.lays_ne _ _ _ h2)⟩⟩
    · rintro ⟨s, ⟨s1, s2, q1, q2, rfl⟩, hw⟩
      obtain ⟨u, v, x1, x2, rfl⟩ := exW_app.mp hw
      obtain ⟨l1, h1, rfl⟩ := ha.mpr ⟨s1, q1, x1⟩
      obtain ⟨l2, h2, rfl⟩ := hb.mpr ⟨s2, q2, x2⟩
      exact ⟨_, ⟨l1, h1, l2, h2, rfl⟩, layW_join (Fm.lays_ne _ _ _ h1) (Fm.lays_ne _ _ _ h2)⟩
  | choice a b iha ihb =>
    intro hx fl w
    have ha := iha (fun x h => hx x (by simp [Fm.holes, h])) (fl := fl) (w := w)
    have hb := ihb (fun x h => hx x (by simp [Fm.holes, h])) (fl := fl) (w := w)
    simp only [Fm.fill, mem_choice, Fm.sym, or_and_right, exists_or]
    exact or_congr ha hb
  | nested n a iha =>
    intro hx fl w
    have ha := fun {w} => iha (fun x h => hx x h) (fl := fl) (w := w)
    simp only [Fm.fill, mem_nested, Fm.sym]
    constructor
    · rintro ⟨l, ⟨l1, h1, rfl⟩, rfl⟩
      obtain ⟨s1, q1, x1⟩ := ha.mp ⟨l1, h1, rfl⟩
      exact ⟨_, ⟨s1, q1, rfl⟩, (exW_mov hf).mpr ⟨_, x1, layW_mov (Fm.lays_ne _ _ _ h1)⟩⟩
    · rintro ⟨s, ⟨s1, q1, rfl⟩, hw⟩
      obtain ⟨u, x1, rfl⟩ := (exW_mov hf).mp hw
      obtain ⟨l1, h1, rfl⟩ := ha.mpr ⟨s1, q1, x1⟩
      exact ⟨_, ⟨l1, h1, rfl⟩, layW_mov (Fm.lays_ne _ _ _ h1)⟩
  | group a iha =>
    intro hx fl w
    have h1 := iha (fun x h => hx x h) (fl := true) (w := w)
    have h2 := iha (fun x h => hx x h) (fl := false) (w := w)
    cases fl with
    | true => simp only [Fm.fill, mem_groupT, Fm.sym]; exact h1
    | false =>
      simp only [Fm.fill, mem_groupF, Fm.sym, or_and_right, exists_or]
      exact or_congr h2 h1
  | flat a iha =>
    intro hx fl w
    simp only [Fm.fill, mem_flat, Fm.sym]
    exact iha (fun x h => hx x h) (fl := true) (w := w)
end PL
set_option maxHeartbeats 2000000
namespace PL
open PySem PySem.Spec PyProof.Rows L2 PLt
def SymEq (f g : Fm) : Prop := ∀ s, f.sym false s ↔ g.sym false s
theorem SymEq.lays {f g : Fm} (e : SymEq f g) {ks : List Str} {ψ : Str → Fm} (kf : ∀ x ∈ f.holes, x ∈ ks) (kg : ∀ x ∈ g.holes, x ∈ ks) : ∀ l, l ∈ (f.fill ks ψ).lays false ↔ l ∈ (g.fill ks ψ).lays false := by
  have key : ∀ {f g : Fm}, (∀ x ∈ f.holes, x ∈ ks) → (∀ x ∈ g.holes, x ∈ ks) → (∀ s, f.sym false s → g.sym false s) → ∀ l, l ∈ (f.fill ks ψ).lays false → l ∈ (g.fill ks ψ).lays false := by
    intro f g kf kg e l hl
    obtain ⟨s, h1, h2⟩ := (Fm.lays_sym kf).mp ⟨l, hl, rfl⟩
    obtain ⟨m, h3, h4⟩ := (Fm.lays_sym kg).mpr ⟨s, e s h1, h2⟩
    obtain ⟨x, r, rfl⟩ := Fm.lays_head _ _ _ hl
    obtain ⟨y, q, rfl⟩ := Fm.lays_head _ _ _ h3
    rw [layW_inj h4.symm]; exact h3
  exact fun l => ⟨key kf kg (fun s => (e s).mp) l, key kg kf (fun s => (e s).mpr) l⟩
end PL
set_option maxHeartbeats 2000000
namespace PL
open PySem PySem.Spec PyProof.Rows L2 PLt
section
variable {K : PySem.W.Frag} {x qual : Str} {params : Arguments} {body : List Stmt} {scope : Scope} {f : Addr} {fd : FuncData} {ps : List Str} {kn : Str}
end
end PL
set_option maxHeartbeats 2000000
namespace PL
open PySem PySem.Spec PyProof.Rows L2 PLt
theorem add_le_mulI {A B : Int} (h1 : 2 ≤ A) (h2 : 2 ≤ B) : A + B ≤ A * B := by
  have m1 := Int.mul_le_mul_of_nonneg_right h1 (show 0 ≤ B by omega)
  have m2 := Int.mul_le_mul_of_nonneg_left h2 (show 0 ≤ A by omega)
  omega
theorem Fm.half : ∀ f : Fm, 2 * f.bo ≤ pw2 f.sz ∧ 2 * f.fl ≤ pw2 f.sz
  | .text _ => ⟨Int.le_refl _, Int.le_refl _⟩
  | .brk none => ⟨Int.le_refl _, by show (2 * 0 : Int) ≤ 2; decide⟩
  | .brk (some _) => ⟨Int.le_refl _, Int.le_refl _⟩
  | .hole _ => ⟨Int.le_refl _, Int.le_refl _⟩
  | .join a b => by
    have h1 := Fm.half a
    have h2 := Fm.half b
    have n1 := a.ways_nn
    have n2 := b.ways_nn
    have m1 := Int.mul_le_mul h1.1 h2.1 (by omega) (pw2_pos a.sz |> Int.le_of_lt)
    have m2 := Int.mul_le_mul h1.2 h2.2 (by omega) (pw2_pos a.sz |> Int.le_of_lt)
    have p1 := Int.mul_nonneg n1.1 n2.1
    have p2 := Int.mul_nonneg n1.2 n2.2
    have e1 : 2 * a.bo * (2 * b.bo) = 4 * (a.bo * b.bo) := by rw [Int.mul_assoc, Int.mul_left_comm a.bo 2 b.bo]; omega
    have e2 : 2 * a.fl * (2 * b.fl) = 4 * (a.fl * b.fl) := by rw [Int.mul_assoc, Int.mul_left_comm a.fl 2 b.fl]; omega
    simp only [Fm.bo, Fm.fl, Fm.sz, pw2_add]
    omega
  | .choice a b => by
    have h1 := Fm.half a
    have h2 := Fm.half b
    have := add_le_mulI (two_le a.sz_pos) (two_le b.sz_pos)
    simp only [Fm.bo, Fm.fl, Fm.sz, pw2_add]
    omega
  | .nested _ a => Fm.half a
  | .group a => by
    have h1 := Fm.half a
    simp only [Fm.bo, Fm.fl, Fm.sz, pw2_succ]
    have := pw2_pos a.sz
    omega
  | .flat a => by
    have h1 := Fm.half a
    simp only [Fm.bo, Fm.fl, Fm.sz, pw2_succ]
    have := pw2_pos a.sz
    omega
theorem Fm.ub_pow : ∀ f : Fm, (0 ≤ (f.ub 4).1 ∧ 0 ≤ (f.ub 4).2) ∧ (f.ub 4).1 ≤ pw2 (2 * f.sz) ∧ (f.ub 4).2 ≤ pw2 (2 * f.sz)
  | .text _ => ⟨by simp only [Fm.ub]; decide, by simp only [Fm.ub, Fm.sz]; decide⟩
  | .brk none => ⟨by simp only [Fm.ub]; decide, by simp only [Fm.ub, Fm.sz]; decide⟩
  | .brk (some _) => ⟨by simp only [Fm.ub]; decide, by simp only [Fm.ub, Fm.sz]; decide⟩
  | .hole _ => ⟨by simp only [Fm.ub]; decide, by simp only [Fm.ub, Fm.sz]; decide⟩
  | .join a b => by
    obtain ⟨n1, h1⟩ := Fm.ub_pow a
    obtain ⟨n2, h2⟩ := Fm.ub_pow b
    have m1 := Int.mul_le_mul h1.1 h2.1 n2.1 (pw2_pos _ |> Int.le_of_lt)
    have m2 := Int.mul_le_mul h1.2 h2.2 n2.2 (pw2_pos _ |> Int.le_of_lt)
    have p1 := Int.mul_nonneg n1.1 n2.1
    have p2 := Int.mul_nonneg n1.2 n2.2
    simp only [Fm.ub, Fm.sz, Nat.mul_add, pw2_add]
    exact ⟨⟨p1, p2⟩, m1, m2⟩
  | .choice a b => by
    obtain ⟨n1, h1⟩ := Fm.ub_pow a
    obtain ⟨n2, h2⟩ := Fm.ub_pow b
    have := add_le_mulI (two_le (show 1 ≤ 2 * a.sz by have := a.sz_pos; omega)) (two_le (show 1 ≤ 2 * b.sz by have := b.sz_pos; omega))
    simp only [Fm.ub, Fm.sz, Nat.mul_add, pw2_add] at this ⊢
    omega
  | .nested _ a => Fm.ub_pow a
  | .group a => by
    obtain ⟨n1, h1⟩ := Fm.ub_pow a
    have := pw2_pos (2 * a.sz)
    simp only [Fm.ub, Fm.sz, Nat.mul_add, pw2_add, show pw2 (2 * 1) = 4 from rfl]
    omega
  | .flat a => by
    obtain ⟨n1, h1⟩ := Fm.ub_pow a
    have := pw2_pos (2 * a.sz)
    simp only [Fm.ub, Fm.sz, Nat.mul_add, pw2_add, show pw2 (2 * 1) = 4 from rfl]
    omega
theorem Fm.ubB_pow {M : Int} : ∀ {f : Fm}, pw2 (2 * f.sz) ≤ M → f.ubB M 4 = true
  | .text _, h => decide_eq_true (Int.le_trans (pw2_pos _) h)
  | .brk _, h => decide_eq_true (Int.le_trans (pw2_pos _) h)
  | .hole _, _ => rfl
  | .join a b, h => by
    obtain ⟨_, u⟩ := Fm.ub_pow (.join a b)
    have pa := pw2_mono (show 2 * a.sz ≤ 2 * (Fm.join a b).sz by simp only [Fm.sz]; omega)
    have pb := pw2_mono (show 2 * b.sz ≤ 2 * (Fm.join a b).sz by simp only [Fm.sz]; omega)
    simp only [Fm.ubB, Bool.and_eq_true, decide_eq_true_eq]
    exact ⟨⟨⟨Int.le_trans u.1 h, Int.le_trans u.2 h⟩, Fm.ubB_pow (Int.le_trans pa h)⟩, Fm.ubB_pow (Int.le_trans pb h)⟩
  | .choice a b, h => by
    obtain ⟨_, u⟩ := Fm.ub_pow (.choice a b)
    have pa := pw2_mono (show 2 * a.sz ≤ 2 * (Fm.choice a b).sz by simp only [Fm.sz]; omega)
    have pb := pw2_mono (show 2 * b.sz ≤ 2 * (Fm.choice a b).sz by simp only [Fm.sz]; omega)
    simp only [Fm.ubB, Bool.and_eq_true, decide_eq_true_eq]
    exact ⟨⟨⟨Int.le_trans u.1 h, Int.le_trans u.2 h⟩, Fm.ubB_pow (Int.le_trans pa h)⟩, Fm.ubB_pow (Int.le_trans pb h)⟩
  | .nested _ a, h => Fm.ubB_pow (f := a) h
  | .group a, h => by
    obtain ⟨_, u⟩ := Fm.ub_pow (.group a)
    have pa := pw2_mono (show 2 * a.sz ≤ 2 * (Fm.group a).sz by simp only [Fm.sz]; omega)
    simp only [Fm.ubB, Bool.and_eq_true, decide_eq_true_eq]
    exact ⟨Int.le_trans u.1 h, Fm.ubB_pow (Int.le_trans pa h)⟩
  | .flat a, h => Fm.ubB_pow (f := a) (Int.le_trans (pw2_mono (by simp only [Fm.sz]; omega)) h)
theorem Fm.wd_nl : ∀ {f : Fm}, f.lv → f.wd ≤ (f.nl + 1) * 4
  | .text _, h => by have : Fm.wd _ ≤ 4 := h; simp only [Fm.nl]; omega
  | .brk _, h => by have : Fm.wd _ ≤ 4 := h; simp only [Fm.nl]; omega
  | .hole _, h => by have : Fm.wd _ ≤ 4 := h; simp only [Fm.nl]; omega
  | .join a b, h => by
    have h1 := Fm.wd_nl (f := a) h.1
    have h2 := Fm.wd_nl (f := b) h.2
    simp only [Fm.wd, Fm.nl]; omega
  | .choice a b, h => by
    have h1 := Fm.wd_nl (f := a) h.1
    have h2 := Fm.wd_nl (f := b) h.2
    simp only [Fm.wd, Fm.nl]; omega
  | .nested _ a, h => by have h1 := Fm.wd_nl (f := a) h; simp only [Fm.wd, Fm.nl]; omega
  | .group a, h => by have h1 := Fm.wd_nl (f := a) h; simp only [Fm.wd, Fm.nl]; omega
  | .flat a, h => by have h1 := Fm.wd_nl (f := a) h; simp only [Fm.wd, Fm.nl]; omega
abbrev ks2 : List Str := ["alpha", "beta"]
structure Sk (P N : Nat) (s : Fm) : Prop where
  ok : s.ok
  lv : s.lv
  p : s.parts ≤ P
  n : s.nl ≤ N
  w : s.wle 5000
  h : ∀ x ∈ s.holes, x ∈ ks2
theorem Sk.mono {P N P' N' : Nat} {s : Fm} (h : Sk P N s) (hp : P ≤ P') (hn : N ≤ N') : Sk P' N' s := ⟨h.ok, h.lv, Nat.le_trans h.p hp, Nat.le_trans h.n hn, h.w, h.h⟩
theorem Sk.marks {s : Fm} (h : Sk 26 13 s) : s.marks ≤ 56 := by
  have := s.marks_wd
  have := Fm.wd_nl h.lv
  have := h.n
  omega
theorem fillM_sizes (n : Nat) (x : Str) : (Fm.fillM n x).bo ≤ 1 ∧ (Fm.fillM n x).fl ≤ 1 ∧ (Fm.fillM n x).wle 5000 := by
  refine ⟨?_, ?_, ?_⟩
  · simp only [Fm.fillM, Fm.bo]; decide
  · simp only [Fm.fillM, Fm.fl]; decide
  · simp only [Fm.fillM, Fm.wle, Fm.bo, Fm.fl]; decide
theorem Sk.filled {s : Fm} (h : Sk 26 13 s) {n : Nat} (hn : n ≤ 120) {ls : List Str} (hl : ∀ x ∈ s.holes, x ∈ ls) (hb : ∀ x ∈ ls, strS x ∧ nameB x = true) :
    (s.fill ls (Fm.fillM n)).ok ∧ (s.fill ls (Fm.fillM n)).small ∧ (s.fill ls (Fm.fillM n)).holes = [] ∧ (s.fill ls (Fm.fillM n)).wle 5000 ∧ (s.fill ls (Fm.fillM n)).wd ≤ 40000 := by
  have okF : (s.fill ls (Fm.fillM n)).ok := Fm.fill_ok (fun x hx => Fm.fillM_ok (by omega) (hb x hx).1 (hb x hx).2) h.ok
  have hz : (s.fill ls (Fm.fillM n)).holes = [] := List.eq_nil_iff_forall_not_mem.mpr fun x hx => by
    obtain ⟨y, _, h2⟩ := Fm.fill_holesOf hl hx
    simp [Fm.fillM, Fm.holes] at h2
  have W := Fm.fill_wle (k := 1) (fun x _ => fillM_sizes n x) hl (Fm.ubB_one h.w)
  have sz := Fm.fill_size (ks := ls) (φ := Fm.fillM n) (m := 5) (n := 2) (d := 3) (fun x _ => ⟨by simp [Fm.fillM, Fm.parts], by simp [Fm.fillM, Fm.nl], by simp [Fm.fillM, Fm.dep]⟩) (by decide) (by decide) s
  have dn := s.dep_nl
  have hp := h.p
  have hn3 := h.n
  have w1 := Fm.fill_wd (k := 3 * (n + 12)) (fun x hx => Fm.fillM_wd n x "" (nameB_len (hb x hx).2)) hl
  have w2 := Fm.uw_nl (W := 3 * (n + 12)) (by omega) h.lv
  have w3 : (s.nl + 1) * (3 * (n + 12)) ≤ 14 * (3 * (n + 12)) := Nat.mul_le_mul_right _ (by omega)
  have p5 : s.parts * 5 ≤ 26 * 5 := Nat.mul_le_mul_right _ hp
  exact ⟨okF, ⟨by omega, W.mono (by decide), by omega, by rw [hz]; exact Nat.zero_le _⟩, hz, W, by omega⟩
theorem Sk.small {s : Fm} (h : Sk 26 13 s) : s.small := Fm.small_of (Nat.le_trans h.p (by decide))
theorem Sk.alike {s t : Fm} (hs : Sk 26 13 s) (ht : Sk 26 13 t) : AlikeP s t (s.marks + t.marks + 1) (sortU (s.holes ++ t.holes)) := by
  have m1 := hs.marks
  have m2 := ht.marks
  have hb : ∀ x ∈ sortU (s.holes ++ t.holes), strS x ∧ nameB x = true := fun x hx => (List.mem_append.mp (mem_sortU.mp hx)).elim (Fm.ok_names hs.ok) (Fm.ok_names ht.ok)
  have l1 := Nat.le_trans s.holes_len hs.p
  have l2 := Nat.le_trans t.holes_len ht.p
  have l3 := length_sortU (s.holes ++ t.holes)
  rw [List.length_append] at l3
  exact ⟨⟨hs.ok, hs.small, hs.w⟩, ⟨ht.ok, ht.small, ht.w⟩, by omega, by omega, hs.filled (by omega) (fun x hx => mem_sortU.mpr (List.mem_append.mpr (.inl hx))) hb, ht.filled (by omega) (fun x hx => mem_sortU.mpr (List.mem_append.mpr (.inr hx))) hb⟩
structure SmX (f : Fm) : Prop where
  ok : f.ok
  gz : f.gz 3
  p : f.parts ≤ 5
  n : f.nl ≤ 2
  h : f.holes = []
theorem SmX.ways {f : Fm} (h : SmX f) : f.bo ≤ 4 ∧ f.fl ≤ 4 ∧ f.wle 5000 := by
  have h1 := f.half
  have h2 := pw2_mono h.gz.1
  have h3 : pw2 3 = 8 := rfl
  have := h.gz.gen.l
  exact ⟨by omega, by omega, this.mono (by rw [h3]; decide)⟩
structure MdOk (f : Fm) : Prop where
  ok : f.ok
  p : f.parts ≤ 130
  d : f.dep ≤ 30
  h : f.holes = []
  w : f.wd ≤ 168
theorem Sk.made {s : Fm} (hs : Sk 26 13 s) {ψ : Str → Fm} (hψ : ∀ x ∈ ks2, SmX (ψ x)) : MdOk (s.fill ks2 ψ) := by
  have hz : (s.fill ks2 ψ).holes = [] := List.eq_nil_iff_forall_not_mem.mpr fun x hx => by
    obtain ⟨y, h1, h2⟩ := Fm.fill_holesOf hs.h hx
    rw [(hψ y (hs.h y h1)).h] at h2; cases h2
  have sz := Fm.fill_size (ks := ks2) (φ := ψ) (m := 5) (n := 2) (d := 3) (fun x hx => ⟨(hψ x hx).p, (hψ x hx).n, by have := (ψ x).dep_nl; have := (hψ x hx).n; omega⟩) (by decide) (by decide) s
  have w1 := Fm.fill_wd (φ := ψ) (k := 12) (fun x hx => by have := Fm.wd_nl (hψ x hx).gz.2; have := (hψ x hx).n; omega) hs.h
  have w2 := Fm.uw_nl (W := 12) (by omega) hs.lv
  have dn := s.dep_nl
  have hp := hs.p
  have hn3 := hs.n
  have p5 : s.parts * 5 ≤ 26 * 5 := Nat.mul_le_mul_right _ hp
  have w3 : (s.nl + 1) * 12 ≤ 14 * 12 := Nat.mul_le_mul_right _ (by omega)
  exact ⟨Fm.fill_ok (fun x hx => (hψ x hx).ok) hs.ok, by omega, by omega, hz, by omega⟩
theorem MdOk.set {f : Fm} (h : MdOk f) (w : f.wle 5000) : f.ok ∧ f.small ∧ f.holes = [] ∧ f.wle 5000 ∧ f.wd ≤ 40000 := ⟨h.ok, ⟨Nat.le_trans h.p (by decide), w.mono (by decide), Nat.le_trans h.d (by decide), by rw [h.h]; exact Nat.zero_le _⟩, h.h, w, Nat.le_trans h.w (by decide)⟩
structure Sk6 (f : Fm) : Prop where
  ok : f.ok
  gz : f.gz 6
  p : f.parts ≤ 11
  n : f.nl ≤ 5
  h : ∀ x ∈ f.holes, x ∈ ks2
structure Sk3 (f : Fm) : Prop where
  ok : f.ok
  gz : f.gz 3
  p : f.parts ≤ 5
  n : f.nl ≤ 2
  h : ∀ x ∈ f.holes, x ∈ ks2
theorem Sk6.wle {f : Fm} (h : Sk6 f) {ψ : Str → Fm} (hψ : ∀ x ∈ ks2, SmX (ψ x)) : (f.fill ks2 ψ).wle 5000 :=
  Fm.fill_wle (k := 4) (fun x hx => (hψ x hx).ways) h.h (Fm.ubB_pow (Int.le_trans (pw2_mono (show 2 * f.sz ≤ 12 by have := h.gz.1; omega)) (by decide)))
theorem Sk3.wle {f : Fm} (h : Sk3 f) {ψ : Str → Fm} (hψ : ∀ x ∈ ks2, SmX (ψ x)) : (f.fill ks2 ψ).wle 5000 :=
  Fm.fill_wle (k := 4) (fun x hx => (hψ x hx).ways) h.h (Fm.ubB_pow (Int.le_trans (pw2_mono (show 2 * f.sz ≤ 12 by have := h.gz.1; omega)) (by decide)))
def twos (f g : Fm) : List Fm := [.join f (.text ""), .choice (.nested 0 f) f, g, .choice f (.flat f)]
theorem Sk.hole {s : Fm} (h : Sk 24 12 s) : Sk 26 13 (.join s (.hole "alpha")) := by
  have p := h.p
  have n := h.n
  have t := h.w.top
  exact ⟨⟨h.ok, strSB_ok (by decide +kernel), by decide +kernel⟩, ⟨h.lv, by show 2 ≤ 4; decide⟩, by simp only [Fm.parts]; omega, by simp only [Fm.nl]; omega, ⟨⟨by simp only [Fm.bo]; omega, by simp only [Fm.fl]; omega⟩, h.w, by show (1 : Int) ≤ 5000; decide⟩, fun x hx => by
    simp only [Fm.holes, List.mem_append, List.mem_singleton] at hx
    rcases hx with hx | rfl
    · exact h.h x hx
    · simp [ks2]⟩
end PL
set_option maxHeartbeats 2000000
namespace GQ
open PySem PySem.SeqAt
open AutoSeq1 (wpAny_loadPart')
open MeetsSeq MeetsSeq2 MeetsSeq3 SeqRoads2
section
variable {prog : Program} {w : World} {A : Around} {R : Result → Shared → Prop}
end
section
variable {prog : Program} {w : World} {A : Around} {E : Value → Shared → Prop} {s : Shared}
end
end GQ
namespace PL
open PySem PySem.Spec PyProof.Rows L2 PLt
mutual
def noq : D → Bool
  | .non => true
  | .bl _ => true
  | .int _ => true
  | .str _ => true
  | .tup l => noqs l
  | .lst l => noqs l
  | .dct _ l => noqs l
  | .ins _ _ l => noqs l
  | _ => false
def noqs : List D → Bool
  | [] => true
  | d :: l => noq d && noqs l
end
theorem noqs_all : ∀ {l : List D}, noqs l = true ↔ ∀ d ∈ l, noq d = true
  | [] => by simp [noqs]
  | d :: l => by simp [noqs, noqs_all (l := l)]
def gF {K : PySem.W.Frag} (f : Hp) : GS K := ⟨f, fun _ => False, fun _ => False⟩
mutual
theorem Rp.nopu {K : PySem.W.Frag} {G : GS K} : ∀ {d : D} {v : V}, noq d = true → Rp K G v d → Rp K (gF G.f) v d
  | .non, _, _, h => by cases h; exact .non
  | .bl _, _, _, h => by cases h; exact .bl _
  | .int _, _, _, h => by cases h; exact .int _
  | .str _, _, _, h => by cases h; exact .str _
  | .tup l, _, q, h => by cases h with | tup h1 h2 => exact .tup h1 (RpAll.nopu (by unfold noq at q; exact q) h2)
  | .lst l, _, q, h => by cases h with | lst h1 h2 => exact .lst h1 (RpAll.nopu (by unfold noq at q; exact q) h2)
  | .dct _ l, _, q, h => by cases h with | dct h1 h2 h3 => exact .dct h1 h2 (RpAll.nopu (by unfold noq at q; exact q) h3)
  | .ins _ _ l, _, q, h => by cases h with | ins h1 h2 h3 => exact .ins h1 h2 (RpAll.nopu (by unfold noq at q; exact q) h3)
  | .ty _, _, q, _ => by unfold noq at q; cases q
  | .cls _, _, q, _ => by unfold noq at q; cases q
  | .scr _, _, q, _ => by unfold noq at q; cases q
  | .exc _ _ _, _, q, _ => by unfold noq at q; cases q
  | .opq, _, q, _ => by unfold noq at q; cases q
  | .mo _, _, q, _ => by unfold noq at q; cases q
  | .set _ _, _, q, _ => by unfold noq at q; cases q
theorem RpAll.nopu {K : PySem.W.Frag} {G : GS K} : ∀ {ds : List D} {vs : List V}, noqs ds = true → RpAll K G vs ds → RpAll K (gF G.f) vs ds
  | [], _, _, h => by cases h; exact .nil
  | d :: ds, _, q, h => by
    unfold noqs at q
    rw [Bool.and_eq_true] at q
    cases h with | cons h1 h2 => exact .cons (Rp.nopu q.1 h1) (RpAll.nopu q.2 h2)
end
def OwD (EI : Addr → List Str → List D → Prop) : Nat → D → Prop
  | _, .non => True
  | _, .bl _ => True
  | _, .int _ => True
  | _, .str _ => True
  | n + 1, .tup l => ∀ d ∈ l, OwD EI n d
  | n + 1, .lst l => ∀ d ∈ l, OwD EI n d
  | _, .ins C ns es => EI C ns es
  | _, .dct ks l => ks.Nodup ∧ ∀ d ∈ l, Pl 40 d
  | _, _ => False
abbrev EIt := Addr → List Str → List D → Prop
section
variable {EI : EIt}
theorem OwD.non {n : Nat} : OwD EI n .non := by cases n <;> trivial
theorem OwD.bl {n : Nat} {b : Bool} : OwD EI n (.bl b) := by cases n <;> trivial
theorem OwD.int {n : Nat} {b : Int} : OwD EI n (.int b) := by cases n <;> trivial
theorem OwD.str {n : Nat} {b : Str} : OwD EI n (.str b) := by cases n <;> trivial
theorem OwD.ins {n : Nat} {C : Addr} {ns : List Str} {es : List D} (h : EI C ns es) : OwD EI n (.ins C ns es) := by cases n <;> exact h
theorem OwD.dct {n : Nat} {ks : List Key} {l : List D} (h : ks.Nodup) (q : ∀ d ∈ l, Pl 40 d) : OwD EI n (.dct ks l) := by cases n <;> exact ⟨h, q⟩
theorem OwD.nil {n : Nat} : OwD EI (n + 1) (.lst []) := fun d hd => nomatch hd
theorem OwD.cons {n : Nat} {d : D} {l : List D} (h : OwD EI n d) (k : OwD EI (n + 1) (.lst l)) : OwD EI (n + 1) (.lst (d :: l)) := fun e he => by
  rcases List.mem_cons.mp he with rfl | he
  · exact h
  · exact k e he
theorem OwD.tup {n : Nat} {l : List D} (k : OwD EI (n + 1) (.lst l)) : OwD EI (n + 1) (.tup l) := k
theorem OwD.pl : ∀ {n : Nat} {d : D}, Pl n d → OwD EI n d
  | _, .non, _ => .non
  | _, .bl _, _ => .bl
  | _, .int _, _ => .int
  | _, .str _, _ => .str
  | n + 1, .tup l, h => fun d hd => OwD.pl (h d hd)
  | n + 1, .lst l, h => fun d hd => OwD.pl (h d hd)
  | 0, .tup l, h => h.elim
  | 0, .lst l, h => h.elim
  | n, .ty _, h => by cases n <;> exact h.elim
  | n, .cls _, h => by cases n <;> exact h.elim
  | n, .dct _ _, h => by cases n <;> exact h.elim
  | n, .ins _ _ _, h => by cases n <;> exact h.elim
  | n, .exc _ _ _, h => by cases n <;> exact h.elim
  | n, .opq, h => by cases n <;> exact h.elim
  | n, .mo _, h => by cases n <;> exact h.elim
  | n, .set _ _, h => by cases n <;> exact h.elim
  | n, .scr _, h => by cases n <;> exact h.elim
theorem noq_pl : ∀ {n : Nat} {d : D}, Pl n d → noq d = true
  | _, .non, _ => by unfold noq; rfl
  | _, .bl _, _ => by unfold noq; rfl
  | _, .int _, _ => by unfold noq; rfl
  | _, .str _, _ => by unfold noq; rfl
  | n + 1, .tup l, h => by unfold noq; exact noqs_all.mpr fun d hd => noq_pl (h d hd)
  | n + 1, .lst l, h => by unfold noq; exact noqs_all.mpr fun d hd => noq_pl (h d hd)
  | 0, .tup l, h => h.elim
  | 0, .lst l, h => h.elim
  | n, .ty _, h => by cases n <;> exact h.elim
  | n, .cls _, h => by cases n <;> exact h.elim
  | n, .dct _ _, h => by cases n <;> exact h.elim
  | n, .ins _ _ _, h => by cases n <;> exact h.elim
  | n, .exc _ _ _, h => by cases n <;> exact h.elim
  | n, .opq, h => by cases n <;> exact h.elim
  | n, .mo _, h => by cases n <;> exact h.elim
  | n, .set _ _, h => by cases n <;> exact h.elim
  | n, .scr _, h => by cases n <;> exact h.elim
end
def DInsD (K : PySem.W.Frag) (EI : EIt) : Eqv := fun x y H => ∃ (f : Hp) (C : Addr) (ns : List Str) (es : List D), Same f H ∧ Rp K (gF f) x (.ins C ns es) ∧ Rp K (gF f) y (.ins C ns es) ∧ EI C ns es
section
variable {X : Cx} {pins : List (Addr × Obj)} {σ : L2.St} {H : Hp} {s : Shared}
end
section
variable {X : Cx} {n m : Nat} {D' D'' : Eqv} {EI : EIt}
theorem RcG.or' (h : RcG X n D') (h' : RcG X n D'') : RcG X n (fun x y H => D' x y H ∨ D'' x y H) := fun A pins s σ H x y u v sb I rx ry d => by
  rcases d with d | d
  · exact h A pins s σ H x y u v sb I rx ry d
  · exact h' A pins s σ H x y u v sb I rx ry d
theorem RcG.imp' (h : RcG X n D') (hd : ∀ x y H, D'' x y H → D' x y H) : RcG X n D'' := fun A pins s σ H x y u v sb I rx ry d => h A pins s σ H x y u v sb I rx ry (hd x y H d)
theorem RcG.mono' (h : RcG X n D') (hn : n ≤ m) : RcG X m D' := fun A pins s σ H x y u v sb => h A pins s σ H x y u v (sb.mono hn)
theorem rc_own {C f : Addr} {fd : FuncData} {ps : List Str} {sp : SpD} (F : FnOk X.prog X.w X.K X.mg X.base (L2.CX X.prog X.w) n f fd ps (spOf X.K sp)) (M : Meth X.K C "__eq__" f) (hb : Binds X.K fd ps [])
    (hEI : ∀ C' ns es, EI C' ns es → C' = C ∧ ∀ c, sp [.ins C' ns es, .ins C' ns es] c (fun v _ => v = .bl true) (fun _ _ _ _ => False)) : RcG X n (DInsD X.K EI) := by
  have F2 : FnOk X.prog X.w X.K X.mg X.base (L2.CX X.prog X.w) n f fd ps (spEq fun a b H => DInsD X.K EI (.ref a) (.ref b) H) := F.imp fun vs H Q E h => by
    obtain ⟨a, b, rfl, ⟨g, C', ns, es, hs, r1, r2, q⟩, k⟩ := h
    refine ⟨gF g, 0, [.ins C' ns es, .ins C' ns es], _, fun _ _ _ _ => False, ⟨hs, fun _ z => z.elim, fun _ z => z.elim, fun _ z => z.elim, fun _ z => z.elim, fun _ z => z.elim, fun _ _ e => nomatch e⟩, .cons r1 (.cons r2 .nil), (hEI C' ns es q).2 0, fun d v G' H' c' ev r e => ?_, fun _ _ _ _ _ _ _ _ _ z => z.elim⟩
    subst e
    cases r
    exact k H' fun b o z => ev.keep b o z fun z => z
  refine RcG.imp' (rcG_ins F2 M.at_ M.fn hb (noE (X := X))) fun x y H h => ?_
  obtain ⟨g, C', ns, es, hs, r1, r2, q⟩ := h
  obtain ⟨rfl, _⟩ := hEI C' ns es q
  have h0 : DInsD X.K EI x y H := ⟨g, C', ns, es, hs, r1, r2, q⟩
  cases r1 with
  | ins a1 a2 a3 =>
    cases r2 with
    | ins b1 b2 b3 => exact ⟨_, _, _, _, _, _, rfl, rfl, hs _ _ a1, hs _ _ b1, h0⟩
end
theorem Evo.ext {K : PySem.W.Frag} {G : GS K} {H H' : Hp} {c : CN} (ok : G.Ok H c) (e : Ext H H') : Evo G H c G H' c where
  ok := ok.to (GS.Le.refl _) (fun _ => Iff.rfl) (fun _ => Iff.rfl) (fun b o z => e _ _ (ok.same b o z)) ok.npu fun b hb => by
    obtain ⟨o, z⟩ := ok.pus b hb
    rw [z, e _ _ z]
  le := GS.Le.refl _
  keep := fun b o z _ => e _ _ z
  pus := fun b hb => by
    obtain ⟨o, z⟩ := ok.pus b hb
    exact ⟨o, e _ _ z⟩
  new := fun _ _ _ z => z
  npu := fun _ _ _ z => z
def topD : D → Bool
  | .tup _ => true
  | .lst _ => true
  | .ins _ _ _ => true
  | .dct _ _ => true
  | _ => false
end PL
set_option maxHeartbeats 2000000
namespace GQ
open PySem PySem.SeqAt
open AutoSeq1 (wpAny_loadPart')
open MeetsSeq MeetsSeq2 MeetsSeq3 SeqRoads2
section
variable {prog : Program} {w : World} {A : Around} {R : Result → Shared → Prop}
end
section
variable {prog : Program} {w : World} {A : Around} {E : Value → Shared → Prop} {s : Shared}
end
end GQ
namespace PL
open PySem PySem.Spec PyProof.Rows L2 PLt
def RnG (X : Cx) (n : Nat) (D : Eqv) : Prop :=
  ∀ (A : Around) (pins : List (Addr × Obj)) (s : Shared) (σ : L2.St) (H : Hp) (x y : V) (u v : Value), Sub X n A → L2.Inv X pins σ H s → RelV x u → RelV y v → D x y H →
    wpAny (model X.prog X.w) A (richCompare .NotEq u v) (fun r s' => r = .bool false ∧ ∃ H', L2.Inv X pins σ H' s' ∧ Ext H H') X.xe s
section
variable {X : Cx} {n m : Nat} {D' D'' : Eqv} {EI : EIt}
theorem RnG.or' (h : RnG X n D') (h' : RnG X n D'') : RnG X n (fun x y H => D' x y H ∨ D'' x y H) := fun A pins s σ H x y u v sb I rx ry d => by
  rcases d with d | d
  · exact h A pins s σ H x y u v sb I rx ry d
  · exact h' A pins s σ H x y u v sb I rx ry d
theorem RnG.imp' (h : RnG X n D') (hd : ∀ x y H, D'' x y H → D' x y H) : RnG X n D'' := fun A pins s σ H x y u v sb I rx ry d => h A pins s σ H x y u v sb I rx ry (hd x y H d)
theorem RnG.mono' (h : RnG X n D') (hn : n ≤ m) : RnG X m D' := fun A pins s σ H x y u v sb => h A pins s σ H x y u v (sb.mono hn)
theorem rnG_ins {CX : CXT} {C f : Addr} {fd : FuncData} {ps : List Str} {R : Addr → Addr → Hp → Prop} {E : XK} (F : FnOk X.prog X.w X.K X.mg X.base CX n f fd ps (spEq R))
    (hs : PySem.W.findIn X.K (.ref C) "__eq__" = some (some (.ref f))) (hf : PySem.W.isFn X.K (.ref f) = true) (hb : Binds X.K fd ps []) (hx : Passes CX X E)
    (hne : PySem.W.findIn X.K (.ref C) "__ne__" = some (some (.builtin "object.__ne__"))) (hso : PySem.W.subIn X.K (.ref C) (.type "object") = some true) : RnG X (n + 1) (DIns C R) := by
  intro A pins s σ H x y u v sb I rx ry d
  obtain ⟨a, b, dx, dy, fs, gs, rfl, rfl, ha, hb', hr⟩ := d
  cases rx
  cases ry
  obtain ⟨mA, J, _⟩ := ins_get I.hok ha
  obtain ⟨mB, J', _⟩ := ins_get I.hok hb'
  obtain ⟨od, J, _⟩ := J.look
  obtain ⟨od', J', _⟩ := J'.look
  obtain ⟨m, hF⟩ := I.fr
  have sb1 := sb.in1
  refine PySem.W.ne_K (tb := .ref C) (by have := sb.room.un; omega) hF I.ok.mod.kin J J'.type (by simp [PySem.W.notFirst]) hs hf hne hso ?_
  have hsp : spEq R [.ref a, .ref b] H (fun v H' => v = .bl true ∧ Ext H H') E := ⟨a, b, rfl, hr, fun H' e => ⟨rfl, e⟩⟩
  have e0 : Env0 X.prog X.w X.K X.mg X.base A.in1 X.stack s H := by
    have e := I.env0
    exact ⟨by rw [sb1.fr]; exact e.frames, e.mod, e.bs, e.bsz, e.funs, e.frf, e.hok, e.bare⟩
  have hl := F.len _ _ _ _ hsp
  have r2 : Vals [V.ref a, V.ref b] [Value.ref a, Value.ref b] := .cons rfl (.cons rfl .nil)
  refine wpAny_call (codeAny_mono (F.run A.in1 X.stack s H ⟨[.ref a, .ref b], []⟩ [.ref a, .ref b] [.ref a, .ref b] _ E sb1.room e0 (by
    have := hb s [.ref a, .ref b] I.kIn (by simpa using hl)
    simpa using this) r2 hsp) fun r s' hq => ?_)
  cases r with
  | error e => exact hx pins σ H s e s' I hq
  | ok fl =>
    cases fl with
    | ret w =>
      obtain ⟨z, H', I', rz, ez, ex⟩ := I.after hq
      subst ez
      cases rz
      exact ⟨true, rfl, rfl, H', I', ex⟩
    | next => exact False.elim hq
    | brk => exact False.elim hq
    | cont => exact False.elim hq
theorem spEq_own {C f : Addr} {fd : FuncData} {ps : List Str} {sp : SpD} (F : FnOk X.prog X.w X.K X.mg X.base (L2.CX X.prog X.w) n f fd ps (spOf X.K sp))
    (hEI : ∀ C' ns es, EI C' ns es → C' = C ∧ ∀ c, sp [.ins C' ns es, .ins C' ns es] c (fun v _ => v = .bl true) (fun _ _ _ _ => False)) :
    FnOk X.prog X.w X.K X.mg X.base (L2.CX X.prog X.w) n f fd ps (spEq fun a b H => DInsD X.K EI (.ref a) (.ref b) H) := F.imp fun vs H Q E h => by
  obtain ⟨a, b, rfl, ⟨g, C', ns, es, hs, r1, r2, q⟩, k⟩ := h
  refine ⟨gF g, 0, [.ins C' ns es, .ins C' ns es], _, fun _ _ _ _ => False, ⟨hs, fun _ z => z.elim, fun _ z => z.elim, fun _ z => z.elim, fun _ z => z.elim, fun _ z => z.elim, fun _ _ e => nomatch e⟩, .cons r1 (.cons r2 .nil), (hEI C' ns es q).2 0, fun d v G' H' c' ev r e => ?_, fun _ _ _ _ _ _ _ _ _ z => z.elim⟩
  subst e
  cases r
  exact k H' fun b o z => ev.keep b o z fun z => z
theorem insD_dIns {C : Addr} (hEI : ∀ C' ns es, EI C' ns es → C' = C) : ∀ x y H, DInsD X.K EI x y H → DIns C (fun a b H => DInsD X.K EI (.ref a) (.ref b) H) x y H := fun x y H h => by
  obtain ⟨g, C', ns, es, hs, r1, r2, q⟩ := h
  obtain rfl := hEI C' ns es q
  have h0 : DInsD X.K EI x y H := ⟨g, C', ns, es, hs, r1, r2, q⟩
  cases r1 with
  | ins a1 a2 a3 =>
    cases r2 with
    | ins b1 b2 b3 => exact ⟨_, _, _, _, _, _, rfl, rfl, hs _ _ a1, hs _ _ b1, h0⟩
theorem rn_own {C f : Addr} {fd : FuncData} {ps : List Str} {sp : SpD} (F : FnOk X.prog X.w X.K X.mg X.base (L2.CX X.prog X.w) n f fd ps (spOf X.K sp)) (M : Meth X.K C "__eq__" f) (O : OpsC X.K C) (hb : Binds X.K fd ps [])
    (hEI : ∀ C' ns es, EI C' ns es → C' = C ∧ ∀ c, sp [.ins C' ns es, .ins C' ns es] c (fun v _ => v = .bl true) (fun _ _ _ _ => False)) : RnG X (n + 1) (DInsD X.K EI) :=
  (rnG_ins (spEq_own F hEI) M.at_ M.fn hb (noE (X := X)) O.ne O.so).imp' (insD_dIns fun C' ns es h => (hEI C' ns es h).1)
structure OwnEq (X : Cx) (m : Nat) (EI : EIt) : Prop where
  eq : RcG X m (DInsD X.K EI)
  ne : RnG X (m + 1) (DInsD X.K EI)
theorem insD_or {K : PySem.W.Frag} {E1 E2 : EIt} : ∀ x y H, DInsD K (fun C ns es => E1 C ns es ∨ E2 C ns es) x y H → DInsD K E1 x y H ∨ DInsD K E2 x y H := fun x y H ⟨f, C, ns, es, hs, r1, r2, q⟩ =>
  q.elim (fun q => .inl ⟨f, C, ns, es, hs, r1, r2, q⟩) fun q => .inr ⟨f, C, ns, es, hs, r1, r2, q⟩
theorem OwnEq.mono {EI : EIt} (h : OwnEq X m EI) (hn : m ≤ n) : OwnEq X n EI := ⟨RcG.mono' h.eq hn, RnG.mono' h.ne (by omega)⟩
theorem OwnEq.or {E1 E2 : EIt} (h1 : OwnEq X m E1) (h2 : OwnEq X m E2) : OwnEq X m (fun C ns es => E1 C ns es ∨ E2 C ns es) :=
  ⟨RcG.imp' (RcG.or' h1.eq h2.eq) insD_or, RnG.imp' (RnG.or' h1.ne h2.ne) insD_or⟩
theorem OwnEq.of {C f : Addr} {fd : FuncData} {ps : List Str} {sp : SpD} (F : FnOk X.prog X.w X.K X.mg X.base (L2.CX X.prog X.w) n f fd ps (spOf X.K sp)) (M : Meth X.K C "__eq__" f) (O : OpsC X.K C) (hb : Binds X.K fd ps [])
    (hEI : ∀ C' ns es, EI C' ns es → C' = C ∧ ∀ c, sp [.ins C' ns es, .ins C' ns es] c (fun v _ => v = .bl true) (fun _ _ _ _ => False)) : OwnEq X n EI := ⟨rc_own F M hb hEI, rn_own F M O hb hEI⟩
end
def aEqX (EI : EIt) (n : Nat) (ng : Bool) (x y : D) (c : CN) (Q : QD) : Prop := (Pl 60 x ∧ Pl 60 y ∧ Q (.bl (ng != eqD x y)) c) ∨ (x = y ∧ topD x = true ∧ OwD EI (n + 1) x ∧ noq x = true ∧ Q (.bl (!ng)) c)
section
variable {Y : Ctx} {a b : Expr} {ea eb : TE} {ta tb : DE} {pos : Pos} {k m n : Nat} {EI : EIt}
end
section
variable {EI : EIt} {n : Nat} {ng : Bool} {x y : D} {c : CN} {Q : QD}
theorem aEqX.pl (h1 : Pl 60 x) (h2 : Pl 60 y) (q : Q (.bl (ng != eqD x y)) c) : aEqX EI n ng x y c Q := .inl ⟨h1, h2, q⟩
theorem aEqX.own (t : topD x = true) (o : OwD EI (n + 1) x) (h : noq x = true) (q : Q (.bl (!ng)) c) : aEqX EI n ng x x c Q := .inr ⟨rfl, t, o, h, q⟩
end
end PL
set_option maxHeartbeats 2000000
namespace PL
open PySem PySem.Spec PyProof.Rows L2 PLt
abbrev veB : List Value := [.type "ValueError", .type "Exception", .type "BaseException", .type "object"]
structure XCls0 (K : PySem.W.Frag) (mg : Str → Option Value) (x : Str) (C : Addr) : Prop where
  m : mg x = some (.ref C)
  xi : PySem.W.excIn K C veB "ValueError.__new__" = true
  k : PySem.W.keepIn K (.ref C) = true
  sb : PySem.W.subIn K (.ref C) (.type "BaseException") = some true
  ty : PySem.W.typeIn K (.ref C) = some (.type "type")
section
variable {X : Cx} {C : Addr} {x : Str} {p pos : Pos}
end
section
variable {Y : Ctx} {k : Nat} {C : Addr} {x : Str} {p0 pc pos : Pos}
def sRaise0 (C : Addr) (ED : DEnv → EDt) : DS := fun _ ρ c => ED ρ C [] [] c
theorem ev_raise0 {C : Addr} {ED : DEnv → EDt} {DD : DEnds} {ρ : DEnv} {c : CN} : sRaise0 C ED DD ρ c = ED ρ C [] [] c := propext Iff.rfl
end
structure CMth (K : PySem.W.Frag) (C : Addr) (m : Str) (p g : Addr) : Prop where
  rd : ClX.CRead K C (.type "type")
  cm : ClX.CMet K C (.type "type") m p g
  ci : ClX.CInst K C m p g
section
variable {X : Cx} {CX : CXT} {pins : List (Addr × Obj)} {σ : L2.St} {H : Hp} {s : Shared} {k : Nat} {C p g q : Addr} {fd : FuncData} {ps : List Str} {sp : Sp} {E : L2.St → XK} {o e : Expr} {es : List Expr} {m : Str} {pos apos : Pos} {ta : TE} {t : TA} {pl : Sem Bool}
end
section
variable {Y : Ctx} {k : Nat} {C f p g : Addr} {fd : FuncData} {m : Str} {ps : List Str} {e o : Expr} {es : List Expr} {te : TE} {de : DE} {fa : TA} {t : DA} {pos apos : Pos} {sp : SpD} {pl : Sem Bool}
def dCMeth (C : Addr) (ED : DEnv → EDt) (sp : SpD) (de : DE) (t : DA) : DE := fun ρ c Q => de ρ c fun x c1 => x = .cls C ∧ t ρ c1 fun ds c2 => @Run sp (.cls C :: ds) c2 Q (ED ρ)
end
section
variable {C : Addr} {ED : DEnv → EDt} {sp : SpD} {de : DE} {t : DA} {ρ : DEnv} {c : CN} {Q : QD}
theorem ev_cmeth : dCMeth C ED sp de t ρ c Q = de ρ c fun x c1 => x = .cls C ∧ t ρ c1 fun ds c2 => @Run sp (.cls C :: ds) c2 Q (ED ρ) := propext Iff.rfl
end
section
variable {X : Cx} {CX : CXT} {k n i : Nat} {f C : Addr} {fd : FuncData} {ps ks : List Str} {sp : Sp} {E : L2.St → XK} {x : Str} {p pos : Pos} {e : Expr} {es : List Expr} {kws : List Keyword} {t tk : TA} {g : List Value → List Value → List Value} {gV : List V → List V → List V}
end
section
variable {Y : Ctx} {k i : Nat} {C fI : Addr} {fd : FuncData} {x fn z : Str} {ps ks : List Str} {e : Expr} {es : List Expr} {kws : List Keyword} {fa fk : TA} {t tk : DA} {p pos : Pos} {sp : SpD} {g : List Value → List Value → List Value} {gV : List V → List V → List V}
def dMakeRL (i : Nat) (C : Addr) (f : Str) (t tk : DA) : DE := fun ρ c Q => ρ[i]? = some (.fz (.cls C)) ∧ dMakeR C f t tk ρ c Q
theorem ev_makeRL {ED : DEnv → EDt} {ρ : DEnv} {c : CN} {Q : QD} : dMakeRL i C fn t tk ρ c Q = (ρ[i]? = some (.fz (.cls C)) ∧ dMakeR C fn t tk ρ c Q) := propext Iff.rfl
theorem OwnEq.none {X : Cx} : OwnEq X 0 (fun _ _ _ => False) := ⟨fun A pins s σ H x y u v sb I rx ry d => by obtain ⟨_, _, _, _, _, _, _, z⟩ := d; exact z.elim, fun A pins s σ H x y u v sb I rx ry d => by obtain ⟨_, _, _, _, _, _, _, z⟩ := d; exact z.elim⟩
end
end PL
namespace PL
open PySem PySem.Spec PyProof.Rows L2
def obsRG (n : Nat) (fn : List DefP) (ex : Looks') (g : Addr → Option Obj) : AlP := obsP fn ex (He.frG g (List.range n))
def hookR (n : Nat) (fn : List DefP) (ex : Looks') : PySem.W.Hook where
  α := AlP
  obs := fun s => obsRG n fn ex s.heap.get?
  val := fun _ => valP fn
  says := fun _ h => ∃ K : PySem.W.Frag, K.In h ∧ SaysP fn ex K
  of := fun _ _ e => ⟨_, He.frG_in, e⟩
  keeps := fun _ _ _ ⟨K, hK, c⟩ k => ⟨K, PySem.W.Frag.In.keeps hK k, c⟩
theorem obsRG_eq {n : Nat} {fn : List DefP} {ex : Looks'} {g : Addr → Option Obj} {s : Shared} (h : ∀ a, g a = s.heap.get? a) : obsRG n fn ex g = (hookR n fn ex).obs s := by
  have e : g = s.heap.get? := funext h
  rw [e] <;> rfl
end PL
namespace PL
open PySem PySem.Spec PyProof.Rows L2 PLt
theorem sortL_one (l : List LRow) : sortL [l] = [l] := (sortL_of (ys := [l]) (by simp) (fun _ => Iff.rfl) (by simp)).symm
structure StF (j : Int) (p : Nat) (f : Fm) : Prop where
  l : f.lays false = [[((0 : Int), ("" : Str)), (j, ("" : Str))]]
  b : f.bo = 1 ∧ f.fl = 0 ∧ f.wle 1
  ok : f.ok
  h : f.holes = []
  w : f.wd = 2
  p : f.parts ≤ p
theorem StF.brk : StF 0 1 (.brk none) := ⟨by rw [Fm.lays], ⟨rfl, rfl, Int.le_refl _⟩, trivial, rfl, rfl, Nat.le_refl _⟩
theorem StF.nest {j s : Int} {p : Nat} {f : Fm} (h : StF j p f) (h0 : 0 ≤ s) (h1 : s ≤ 40) : StF (j + s) (p + 1) (.nested s f) :=
  ⟨by rw [Fm.lays, h.l]; simp [movL], h.b, ⟨⟨h0, h1⟩, h.ok⟩, h.h, h.w, by have := h.p; simp only [Fm.parts]; omega⟩
structure OneF (l : List LRow) (f : Fm) : Prop where
  l : f.lays false = [l]
  b : f.bo = 1
  fl : 0 ≤ f.fl ∧ f.fl ≤ 1
  w : f.wle 1
  ok : f.ok
  h : f.holes = []
theorem StF.one {j : Int} {p : Nat} {f : Fm} (h : StF j p f) : OneF [((0 : Int), ("" : Str)), (j, ("" : Str))] f := ⟨h.l, h.b.1, by rw [h.b.2.1]; decide, h.b.2.2, h.ok, h.h⟩
theorem OneF.text {x : Str} (h : strS x) : OneF [(0, x)] (.text x) := ⟨by rw [Fm.lays], rfl, ⟨(by decide : (0 : Int) ≤ 1), Int.le_refl _⟩, Int.le_refl _, h, rfl⟩
theorem OneF.join {a b : List LRow} {f g : Fm} (hf : OneF a f) (hg : OneF b g) : OneF (joinL a b) (.join f g) where
  l := by rw [Fm.lays, hf.l, hg.l]; exact sortL_one _
  b := by show f.bo * g.bo = 1; rw [hf.b, hg.b]; rfl
  fl := by
    have h1 := hf.fl
    have h2 := hg.fl
    show 0 ≤ f.fl * g.fl ∧ f.fl * g.fl ≤ 1
    rcases (show f.fl = 0 ∨ f.fl = 1 by omega) with e | e <;> rw [e] <;> omega
  w := by
    have h1 := hf.fl
    have h2 := hg.fl
    refine ⟨⟨by rw [hf.b, hg.b]; decide, ?_⟩, hf.w, hg.w⟩
    rcases (show f.fl = 0 ∨ f.fl = 1 by omega) with e | e <;> rw [e] <;> omega
  ok := ⟨hf.ok, hg.ok⟩
  h := by show f.holes ++ g.holes = []; rw [hf.h, hg.h]; rfl
theorem LayOk.head {l : List LRow} (h : LayOk l) : ∃ x r, l = (0, x) :: r := by
  cases l with
  | nil => exact absurd rfl h.ne
  | cons q r =>
    have := h.first q rfl
    obtain ⟨i, x⟩ := q
    cases this
    exact ⟨x, r, rfl⟩
def cst (l : List LRow) : Nat := (l.map fun r => 4 + (r.1.toNat + 39) / 40).sum
structure LayQ (l : List LRow) : Prop where
  ok : LayOk l
  n : l.length ≤ 11
  ch : chL l ≤ 100
  i : ∀ r ∈ l, r.1 ≤ 1000
  c : cst (l.drop 1) ≤ 170
structure DocQ (p d w : Nat) (f : Fm) : Prop where
  p : f.parts ≤ p
  d : f.dep ≤ d
  w : f.wd ≤ w
structure ManyF (n : Nat) (f : Fm) : Prop where
  b : f.bo = n
  fl : 0 ≤ f.fl ∧ f.fl ≤ n
  w : f.wle n
  h : f.holes = []
  nd : (f.lays false).Nodup
  pw : (f.lays false).Pairwise fun a b => leL a b = true
theorem OneF.many {l : List LRow} {f : Fm} (h : OneF l f) : ManyF 1 f := ⟨h.b, h.fl, h.w, h.h, by rw [h.l]; simp, by rw [h.l]; simp⟩
theorem ManyF.choice {n : Nat} {f g : Fm} {l : List LRow} (h : ManyF n f) (k : OneF l g) : ManyF (n + 1) (.choice f g) where
  b := by show f.bo + g.bo = _; rw [h.b, k.b]; omega
  fl := by have h1 := h.fl; have h2 := k.fl; show 0 ≤ f.fl + g.fl ∧ f.fl + g.fl ≤ _; omega
  w := by
    have h1 := h.fl
    have h2 := k.fl
    have h3 := h.b
    have h4 := k.b
    exact ⟨⟨by omega, by omega⟩, h.w.mono (by omega), k.w.mono (by omega)⟩
  h := by show f.holes ++ g.holes = []; rw [h.h, k.h]; rfl
  nd := by rw [Fm.lays]; exact nodup_sortL _
  pw := by rw [Fm.lays]; exact pw_sortL _
structure SetQ (ls : List (List LRow)) : Prop where
  ne : ls ≠ []
  n : ls.length ≤ 150
  q : ∀ l ∈ ls, LayQ l
  nd : ls.Nodup
  pw : ls.Pairwise fun a b => leL a b = true
theorem SetQ.of {ls : List (List LRow)} (ne : ls ≠ []) (n : ls.length ≤ 150) (q : ∀ l ∈ ls, LayQ l) : SetQ (sortL ls) :=
  ⟨fun e => (by
    obtain ⟨x, hx⟩ := List.exists_mem_of_ne_nil _ ne
    have := mem_sortL.mpr hx
    rw [e] at this; cases this), Nat.le_trans (length_sortL ls) n, fun l hl => q l (mem_sortL.mp hl), nodup_sortL _, pw_sortL _⟩
def Fm.un : Fm → Nat
  | .join a b => un a + un b
  | .choice a b => un a + un b
  | .nested _ a => un a + 1
  | .group a => un a + 1
  | .flat a => un a + 1
  | _ => 0
def LayB (n u : Nat) (l : List LRow) : Prop := l.length ≤ n + 1 ∧ ∀ r ∈ l, r.1 ≤ 40 * (u : Int)
theorem LayB.mono {n u n' u' : Nat} {l : List LRow} (h : LayB n u l) (hn : n ≤ n') (hu : u ≤ u') : LayB n' u' l := ⟨by have := h.1; omega, fun r hr => by have := h.2 r hr; omega⟩
theorem cst_le {u : Nat} : ∀ {l : List LRow}, (∀ r ∈ l, r.1 ≤ 40 * (u : Int)) → cst l ≤ l.length * (4 + u)
  | [], _ => by simp [cst]
  | r :: l, h => by
    have h1 := cst_le (l := l) fun q hq => h q (List.mem_cons_of_mem _ hq)
    have h2 := h r List.mem_cons_self
    have h5 : cst (r :: l) = 4 + (r.1.toNat + 39) / 40 + cst l := by simp [cst]
    rw [List.length_cons, Nat.succ_mul]
    omega
end PL
namespace PL
open PySem PySem.Spec PyProof.Rows L2 PLt
theorem ltR_mov (n : Int) (r q : LRow) : ltK (rowK (r.1 + n, r.2)) (rowK (q.1 + n, q.2)) = ltK (rowK r) (rowK q) := by
  have h1 : decide (r.1 + n < q.1 + n) = decide (r.1 < q.1) := decide_eq_decide.mpr (by omega)
  have h2 : decide (r.1 + n = q.1 + n) = decide (r.1 = q.1) := decide_eq_decide.mpr (by omega)
  simp only [rowK, ltK, ltKs, eqK, h1, h2]
theorem eqR_mov (n : Int) (r q : LRow) : eqK (rowK (r.1 + n, r.2)) (rowK (q.1 + n, q.2)) = eqK (rowK r) (rowK q) := by
  have h2 : decide (r.1 + n = q.1 + n) = decide (r.1 = q.1) := decide_eq_decide.mpr (by omega)
  simp only [rowK, eqK, eqKs, h2]
theorem ltRs_mov (n : Int) : ∀ a b : List LRow, ltKs ((a.map fun r => (r.1 + n, r.2)).map rowK) ((b.map fun r => (r.1 + n, r.2)).map rowK) = ltKs (a.map rowK) (b.map rowK)
  | [], [] => by simp [ltKs]
  | [], _ :: _ => by simp [ltKs]
  | _ :: _, [] => by simp [ltKs]
  | r :: a, q :: b => by
    simp only [List.map_cons, ltKs]
    rw [ltR_mov, eqR_mov, ltRs_mov n a b]
theorem ltL_mov {n : Int} {a b : List LRow} (ha : a ≠ []) (hb : b ≠ []) : ltK (layK (movL n a)) (layK (movL n b)) = ltK (layK a) (layK b) := by
  obtain ⟨r, a, rfl⟩ := lay_cons ha
  obtain ⟨q, b, rfl⟩ := lay_cons hb
  rw [movL_cons, movL_cons]
  simp only [layK, ltK, List.map_cons, ltKs]
  rw [ltRs_mov]
theorem leL_mov {n : Int} {a b : List LRow} (ha : a ≠ []) (hb : b ≠ []) : leL (movL n a) (movL n b) = leL a b := by
  unfold leL lekK
  rw [ltL_mov hb ha]
theorem movL_inj {n : Int} {a b : List LRow} (ha : a ≠ []) (hb : b ≠ []) (h : movL n a = movL n b) : a = b := by
  have h1 : leL a b = true := by rw [← leL_mov (n := n) ha hb, h]; have := leL_total (movL n b) (movL n b); simpa using this
  have h2 : leL b a = true := by rw [← leL_mov (n := n) hb ha, h]; have := leL_total (movL n b) (movL n b); simpa using this
  exact leL_anti h1 h2
def Asc (ls : List (List LRow)) : Prop := ls.Nodup ∧ ls.Pairwise fun a b => leL a b = true
theorem asc_sortL (ls : List (List LRow)) : Asc (sortL ls) := ⟨nodup_sortL _, pw_sortL _⟩
theorem asc_mov {n : Int} {ls : List (List LRow)} (hn : ∀ l ∈ ls, l ≠ []) (h : Asc ls) : Asc (ls.map (movL n)) := by
  refine ⟨?_, ?_⟩
  · exact List.pairwise_map.mpr (h.1.imp_of_mem fun {a b} ha hb ne e => ne (movL_inj (hn a ha) (hn b hb) e))
  · exact List.pairwise_map.mpr (h.2.imp_of_mem fun {a b} ha hb e => by rw [leL_mov (hn a ha) (hn b hb)]; exact e)
theorem asc_one (l : List LRow) : Asc [l] := ⟨by simp, by simp⟩
theorem asc_nil : Asc [] := ⟨by simp, by simp⟩
theorem Fm.lays_asc : ∀ (f : Fm) (fl : Bool), Asc (f.lays fl)
  | .text x, fl => by rw [Fm.lays]; exact asc_one _
  | .brk o, false => by rw [Fm.lays]; exact asc_one _
  | .brk (some x), true => by rw [Fm.lays]; exact asc_one _
  | .brk none, true => by rw [Fm.lays]; exact asc_nil
  | .hole _, fl => by rw [Fm.lays]; exact asc_nil
  | .join a b, fl => by rw [Fm.lays]; exact asc_sortL _
  | .choice a b, fl => by rw [Fm.lays]; exact asc_sortL _
  | .nested n a, fl => by rw [Fm.lays]; exact asc_mov (Fm.lays_ne a fl) (Fm.lays_asc a fl)
  | .group a, true => by rw [Fm.lays]; exact Fm.lays_asc a true
  | .group a, false => by rw [Fm.lays]; exact asc_sortL _
  | .flat a, fl => by rw [Fm.lays]; exact Fm.lays_asc a true
theorem Asc.set {ls : List (List LRow)} (h : Asc ls) (ne : ls ≠ []) (n : ls.length ≤ 150) (q : ∀ l ∈ ls, LayQ l) : SetQ ls := ⟨ne, n, q, h.1, h.2⟩
structure DrL (k : Nat) (l : List LRow) : Prop where
  n : l.length = k + 1
  hd : ∃ x r, l = (0, x) :: r
  rows : ∀ r ∈ l, (0 ≤ r.1 ∧ r.1 ≤ 120) ∧ strS r.2 ∧ r.2.length ≤ 4
theorem DrL.one {x : Str} (h : strS x) (hx : x.length ≤ 4) : DrL 0 [(0, x)] := ⟨rfl, ⟨x, [], rfl⟩, fun r hr => by rw [List.mem_singleton.mp hr]; exact ⟨⟨(by decide : (0 : Int) ≤ 0), (by decide : (0 : Int) ≤ 120)⟩, h, hx⟩⟩
theorem DrL.snoc {k : Nat} {l : List LRow} (h : DrL k l) {i : Int} {x : Str} (h0 : 0 ≤ i) (h1 : i ≤ 120) (hx : strS x) (hl : x.length ≤ 4) : DrL (k + 1) (l ++ [(i, x)]) where
  n := by rw [List.length_append, h.n]; rfl
  hd := by obtain ⟨y, r, rfl⟩ := h.hd; exact ⟨y, r ++ [(i, x)], rfl⟩
  rows := fun r hr => by
    rcases List.mem_append.mp hr with hr | hr
    · exact h.rows r hr
    · rw [List.mem_singleton.mp hr]; exact ⟨⟨h0, h1⟩, hx, hl⟩
theorem DrL.ok {k : Nat} {l : List LRow} (h : DrL k l) : LayOk l where
  ne := fun e => by have := h.n; rw [e] at this; simp at this
  first := fun r hr => by
    obtain ⟨x, q, rfl⟩ := h.hd
    cases hr; rfl
  rows := fun r hr => ⟨(h.rows r hr).1.1, (h.rows r hr).2.1⟩
theorem chL_le {b : Nat} : ∀ {l : List LRow}, (∀ r ∈ l, r.2.length ≤ b) → chL l ≤ b * l.length
  | [], _ => by simp [chL]
  | r :: l, h => by
    rw [chL_cons, List.length_cons]
    have := chL_le (l := l) fun q hq => h q (List.mem_cons_of_mem _ hq)
    have := h r List.mem_cons_self
    rw [Nat.mul_succ]; omega
theorem DrL.q {k : Nat} {l : List LRow} (h : DrL k l) (hk : k ≤ 10) : LayQ l := by
  have hn := h.n
  have c := chL_le (b := 4) (l := l) fun r hr => (h.rows r hr).2.2
  refine ⟨h.ok, by omega, by omega, fun r hr => by have := (h.rows r hr).1; omega, ?_⟩
  have := cst_le (u := 3) (l := l.drop 1) fun r hr => by have := (h.rows r (List.mem_of_mem_drop hr)).1; omega
  rw [List.length_drop] at this
  omega
end PL
namespace PL
open PySem PySem.Spec PyProof.Rows L2 PLt
mutual
def noL : D → Bool
  | .non => true
  | .bl _ => true
  | .int _ => true
  | .str _ => true
  | .tup l => noLs l
  | _ => false
def noLs : List D → Bool
  | [] => true
  | d :: l => noL d && noLs l
end
def flD : D → Bool
  | .non => true
  | .bl _ => true
  | .int _ => true
  | .str _ => true
  | _ => false
def noLst : Option HO → Option HO
  | some (.lst _) => none
  | o => o
def CN.bare (c : CN) : CN := ⟨c.n, fun _ => none⟩
def CN.on (c : CN) (m : Addr → Option MO) : CN := ⟨c.n, m⟩
def gNoL {K : PySem.W.Frag} (G : GS K) : GS K := ⟨fun b => noLst (G.f b), G.pp, G.pp⟩
theorem noLst_keep {o : Option HO} {u : HO} (h : o = some u) (hu : ∀ xs, u ≠ .lst xs) : noLst o = some u := by
  subst h
  cases u <;> first | rfl | exact absurd rfl (hu _)
theorem rd_noL {f : Hp} {a : Addr} {xs : List V} (h : Rd f a (.tup xs)) : Rd (fun b => noLst (f b)) a (.tup xs) := by
  rcases h with h | ⟨o, h⟩
  · exact .inl (noLst_keep h fun _ e => by cases e)
  · exact .inr ⟨o, noLst_keep h fun _ e => by cases e⟩
theorem sqT_noL {K : PySem.W.Frag} {f : Hp} {a : Addr} {xs : List V} (h : SqT K f a xs) : SqT K (fun b => noLst (f b)) a xs := h.elim (fun h => .inl (rd_noL h)) .inr
mutual
theorem Rp.noL {K : PySem.W.Frag} {G : GS K} : ∀ {d : D} {v : V}, PL.noL d = true → Rp K G v d → Rp K (gNoL G) v d
  | .non, _, _, h => by cases h; exact .non
  | .bl _, _, _, h => by cases h; exact .bl _
  | .int _, _, _, h => by cases h; exact .int _
  | .str _, _, _, h => by cases h; exact .str _
  | .tup l, _, q, h => by cases h with | tup h1 h2 => exact .tup (sqT_noL h1) (RpAll.noL (by unfold PL.noL at q; exact q) h2)
  | .lst _, _, q, _ => by unfold PL.noL at q; cases q
  | .dct _ _, _, q, _ => by unfold PL.noL at q; cases q
  | .ins _ _ _, _, q, _ => by unfold PL.noL at q; cases q
  | .ty _, _, q, _ => by unfold PL.noL at q; cases q
  | .cls _, _, q, _ => by unfold PL.noL at q; cases q
  | .scr _, _, q, _ => by unfold PL.noL at q; cases q
  | .exc _ _ _, _, q, _ => by unfold PL.noL at q; cases q
  | .opq, _, q, _ => by unfold PL.noL at q; cases q
  | .mo _, _, q, _ => by unfold PL.noL at q; cases q
  | .set _ _, _, q, _ => by unfold PL.noL at q; cases q
theorem RpAll.noL {K : PySem.W.Frag} {G : GS K} : ∀ {ds : List D} {vs : List V}, noLs ds = true → RpAll K G vs ds → RpAll K (gNoL G) vs ds
  | [], _, _, h => by cases h; exact .nil
  | d :: ds, _, q, h => by
    unfold noLs at q
    rw [Bool.and_eq_true] at q
    cases h with | cons h1 h2 => exact .cons (Rp.noL q.1 h1) (RpAll.noL q.2 h2)
end
theorem Rp.flat {K : PySem.W.Frag} {G G' : GS K} {d : D} {v : V} (q : flD d = true) (h : Rp K G v d) : Rp K G' v d := by
  cases d <;> first | (cases q; done) | (cases h; constructor)
theorem RpAll.flat {K : PySem.W.Frag} {G G' : GS K} : ∀ {ds : List D} {vs : List V}, ds.all flD = true → RpAll K G vs ds → RpAll K G' vs ds
  | [], _, _, h => by cases h; exact .nil
  | d :: ds, _, q, h => by
    rw [List.all_cons, Bool.and_eq_true] at q
    cases h with | cons h1 h2 => exact .cons (Rp.flat q.1 h1) (RpAll.flat q.2 h2)
section
variable {K : PySem.W.Frag} {G G' : GS K} {H H' : Hp} {c c' : CN} {x : Option Addr}
end
theorem RpE.mono {K : PySem.W.Frag} {G G' : GS K} {dx : Option Addr} {ns : List Str} {ds : List D} (h : RpE K G dx ns ds) (le : G.Le G') : RpE K G' dx ns ds := by
  rcases h with h | ⟨d, fs, h1, h2, h3, h4⟩
  · exact .inl h
  · exact .inr ⟨d, fs, h1, le.f _ _ h2, h3, h4.mono le⟩
section
variable {Y : Ctx} {k : Nat} {f : Addr} {fd : FuncData} {ps : List Str} {sp : SpD} {dvs : List V} {dds : List D} {x y : Str} {p pos pos' cpos : Pos} {e : Expr} {es : List Expr} {fa : TA} {t : DA}
def sNewCall (i : Nat) (ED : DEnv → EDt) (sp : SpD) (dds : List D) (t : DA) : DS := fun DD ρ c => t ρ c fun ds c1 => noLs (ds ++ dds) = true ∧ @Run sp (ds ++ dds) c1.bare (fun d c2 => ∃ l, d = .lst l ∧ l.all flD = true ∧ @Nx DD.nx (ρ.set i (.ol l)) (c2.on c1.m)) (fun C ns es c2 => ED ρ C ns es (c2.on c1.m))
def dOcopy (i : Nat) : DE := fun ρ c Q => olP ρ[i]? fun l => Q (.lst l) c
theorem ev_ocopy {i : Nat} {ρ : DEnv} {c : CN} {Q : QD} : dOcopy i ρ c Q = olP ρ[i]? fun l => Q (.lst l) c := propext Iff.rfl
theorem ev_newCall {i : Nat} {ED : DEnv → EDt} {DD : DEnds} {ρ : DEnv} {c : CN} : sNewCall i ED sp dds t DD ρ c = t ρ c fun ds c1 => noLs (ds ++ dds) = true ∧ @Run sp (ds ++ dds) c1.bare (fun d c2 => ∃ l, d = .lst l ∧ l.all flD = true ∧ @Nx DD.nx (ρ.set i (.ol l)) (c2.on c1.m)) (fun C ns es c2 => ED ρ C ns es (c2.on c1.m)) := propext Iff.rfl
end
end PL
namespace PL
open PySem PySem.Spec PyProof.Rows L2 PLt
section
variable {K : PySem.W.Frag} {mg : Str → Option Value} {x : Str} {st : Stmt} {dvs : List V} {kw : List (Str × V)} {f : Addr} {fd : FuncData} {ps : List Str}
end
inductive O11 where
  | ok (d : D) | lay (p : D) | steps (v : D)
def intD : D → Int
  | .int i => i
  | _ => 0
structure SmL (d : D) : Prop where
  n : (rowsD d).length ≤ 200
  c : chL (rowsD d) ≤ 2000
  i : ∀ r ∈ rowsD d, r.1 ≤ 2000
def SmI (d : D) : Prop := intD d ≤ 2000
structure Own (n : Nat) (d : D) : Prop where
  o : OwD (fun _ _ _ => False) n d
  q : noq d = true
theorem Own.pl {n : Nat} {d : D} (h : Pl n d) : Own n d := ⟨.pl h, noq_pl h⟩
theorem Own.str {n : Nat} (x : Str) : Own n (.str x) := ⟨.str, by unfold noq; rfl⟩
theorem Own.int {n : Nat} (x : Int) : Own n (.int x) := ⟨.int, by unfold noq; rfl⟩
theorem Own.lst {n : Nat} {l : List D} (h : ∀ d ∈ l, Own n d) : Own (n + 1) (.lst l) := ⟨fun d hd => (h d hd).o, by unfold noq; exact noqs_all.mpr fun d hd => (h d hd).q⟩
theorem Own.tup {n : Nat} {l : List D} (h : ∀ d ∈ l, Own n d) : Own (n + 1) (.tup l) := ⟨fun d hd => (h d hd).o, by unfold noq; exact noqs_all.mpr fun d hd => (h d hd).q⟩
theorem Own.encL {n : Nat} (l : List LRow) : Own (n + 2) (encL l) := .tup fun d hd => by
  obtain ⟨r, _, rfl⟩ := List.mem_map.mp hd
  exact .tup fun d hd => by
    simp only [List.mem_cons, List.not_mem_nil, or_false] at hd
    rcases hd with rfl | rfl
    · exact .int _
    · exact .str _
theorem Own.mono {n m : Nat} {d : D} (h : Own n d) (hn : n ≤ m) : Own m d := by
  refine ⟨?_, h.q⟩
  have key : ∀ (n : Nat) (d : D), OwD (fun _ _ _ => False) n d → ∀ m, n ≤ m → OwD (fun _ _ _ => False) m d := by
    intro n
    induction n with
    | zero => intro d h m _; cases d <;> first | exact h.elim | (cases m <;> trivial)
    | succ n ih =>
      intro d h m hm
      obtain ⟨m, rfl⟩ : ∃ j, m = j + 1 := ⟨m - 1, by omega⟩
      cases d <;> first | exact h.elim | trivial | exact fun x hx => ih x (h x hx) m (by omega)
  exact key n d h.o m hn
theorem Own.two {n : Nat} {x : Str} {d : D} (h : Own n d) : Own (n + 1) (.lst [.str x, d]) := .lst fun e he => by
  simp only [List.mem_cons, List.not_mem_nil, or_false] at he
  rcases he with rfl | rfl
  · exact .str _
  · exact h
theorem aEqX.same {n : Nat} {ng : Bool} {x : D} {c : CN} {Q : QD} (h : Own (n + 1) x) (t : topD x = true) (q : Q (.bl (!ng)) c) : aEqX (fun _ _ _ => False) n ng x x c Q := aEqX.own t h.o h.q q
structure Gd11 (d : D) : Prop where
  p : Pl 3 d
  l : SmL d
  i : SmI d
theorem DrL.gd {k : Nat} {l : List LRow} (h : DrL k l) (hk : k ≤ 10) : Gd11 (encL l) := by
  have hn := h.n
  have c := chL_le (b := 4) (l := l) fun r hr => (h.rows r hr).2.2
  refine ⟨h.ok.pl, ⟨?_, ?_, ?_⟩, by show (0 : Int) ≤ 2000; decide⟩
  · rw [rowsD_encL]; omega
  · rw [rowsD_encL]; omega
  · rw [rowsD_encL]; exact fun r hr => by have := (h.rows r hr).1; omega
end PL
namespace GF
open PySem PySem.Spec PyProof.Rows
def Dead (k : Resume → Sem PySem.Fin) : Prop := ∀ r, ∃ w, k r = .unsupported w
def Clean (fs : List Frame) : Prop := ∀ F ∈ fs, ∀ g k l c p, F ≠ .gen g k l c p
def StClean : GenState → Prop
  | .suspended _ _ _ _ fs _ => Clean fs
  | _ => True
def DeadSt : GenState → Prop
  | .suspended k _ _ _ _ _ => Dead k
  | _ => False
def Sh (x y : GenState) : Prop := (x = y ∧ StClean y) ∨ (DeadSt y ∧ y.seen = x.seen ∧ y.bare = x.bare ∧ ∃ k l c p fs cl, x = .suspended k l c p fs cl)
structure Sim (s z : Shared) : Prop where
  heap : s.heap = z.heap
  drawn : s.drawn = z.drawn
  toks : s.toks = z.toks
  os : s.os = z.os
  gsz : s.gens.size = z.gens.size
  gen : ∀ (i : Nat) (x y : GenState), s.gens[i]? = some x → z.gens[i]? = some y → Sh x y
def Kp (s z s' z' : Shared) : Prop := ∀ (i : Nat) (y : GenState), z.gens[i]? = some y → DeadSt y → z'.gens[i]? = some y ∧ s'.gens[i]? = s.gens[i]?
theorem Kp.refl (s z : Shared) : Kp s z s z := fun _ _ h _ => ⟨h, rfl⟩
theorem Kp.trans {s z s1 z1 s2 z2 : Shared} (a : Kp s z s1 z1) (b : Kp s1 z1 s2 z2) : Kp s z s2 z2 := fun i y h d => by
  obtain ⟨h1, h2⟩ := a i y h d
  obtain ⟨h3, h4⟩ := b i y h1 d
  exact ⟨h3, h4.trans h2⟩
def EClean : End → Prop
  | .ret _ => True
  | .susp _ _ _ _ _ _ fs => Clean fs
theorem EClean.st {e : End} (h : EClean e) : StClean e.genState := by
  cases e with
  | ret r => trivial
  | susp v g l k c p fs => exact h
theorem clean_nil : Clean [] := fun F h => by cases h
theorem clean_app {a b : List Frame} (x : Clean a) (y : Clean b) : Clean (a ++ b) := fun F h => (List.mem_append.mp h).elim (x F) (y F)
theorem clean_ret {k h g l c p kp} : Clean [.ret k h g l c p kp] := fun F hF => by
  rw [List.mem_singleton.mp hF]; intro _ _ _ _ _ z; cases z
theorem clean_split : ∀ {fs : List Frame}, Clean fs → splitAtGen fs = none
  | [], _ => rfl
  | .gen g k l c p :: fs, h => absurd rfl (h _ List.mem_cons_self g k l c p)
  | .ret k h' g l c p kp :: fs, h => by
    show (splitAtGen fs).map _ = none
    rw [clean_split fun F hF => h F (List.mem_cons_of_mem _ hF)]; rfl
theorem clean_tail {F : Frame} {fs : List Frame} (h : Clean (F :: fs)) : Clean fs := fun G hG => h G (List.mem_cons_of_mem _ hG)
theorem Sim.at {s z : Shared} (S : Sim s z) {i : Nat} {y : GenState} (h : z.gens[i]? = some y) : ∃ x, s.gens[i]? = some x ∧ Sh x y := by
  have hi : i < z.gens.size := (Array.getElem?_eq_some_iff.mp h).1
  have hs : i < s.gens.size := by rw [S.gsz]; exact hi
  exact ⟨s.gens[i], Array.getElem?_eq_getElem hs, S.gen i _ y (Array.getElem?_eq_getElem hs) h⟩
theorem setg {s : Shared} {g i : Nat} {x : GenState} : (s.setGen g x).gens[i]? = if g = i then (if g < s.gens.size then some x else none) else s.gens[i]? := by
  show (s.gens.setIfInBounds g x)[i]? = _
  rw [Array.getElem?_setIfInBounds]
theorem Sim.set {s z : Shared} (S : Sim s z) (g : Nat) {x : GenState} (hx : StClean x) : Sim (s.setGen g x) (z.setGen g x) := by
  refine ⟨S.heap, S.drawn, S.toks, S.os, by simp [Shared.setGen, S.gsz], fun i a b ha hb => ?_⟩
  rw [setg] at ha hb
  by_cases e : g = i
  · rw [if_pos e] at ha hb
    split at ha
    · split at hb
      · cases ha; cases hb; exact .inl ⟨rfl, hx⟩
      · cases hb
    · cases ha
  · rw [if_neg e] at ha hb
    exact S.gen i a b ha hb
theorem Kp.set {s z : Shared} {g : Nat} {x y : GenState} (hz : z.gens[g]? = some y) (nd : ¬ DeadSt y) : Kp s z (s.setGen g x) (z.setGen g x) := fun i u h d => by
  have ne : g ≠ i := fun e => by
    subst e
    rw [hz] at h; cases h
    exact nd d
  rw [setg, setg, if_neg ne, if_neg ne]
  exact ⟨h, rfl⟩
theorem no_dead {M : Model} {Γ : PySem.Ctx} {p : Pos} {w : String} {fs : List Frame} {s s' : Shared} {e : End} : ¬ Runs M Γ p (.unsupported w) fs s e s' := by
  intro h
  generalize ht : (Sem.unsupported w : Sem PySem.Fin) = t at h
  induction h with
  | segRet _ _ ih _ => exact ih ht
  | segGen _ _ ih _ => exact ih ht
  | segSuspOut _ _ ih => exact ih ht
  | segSuspGen _ _ _ _ ih _ => exact ih ht
  | _ => cases ht
theorem frame {M : Model} {Γ : PySem.Ctx} {p : Pos} {t : Sem PySem.Fin} {fs : List Frame} {z z' : Shared} {e : End} (h : Runs M Γ p t fs z e z') :
    Clean fs → ∀ s, Sim s z → ∃ s', Runs M Γ p t fs s e s' ∧ Sim s' z' ∧ Kp s z s' z' ∧ EClean e := by
  induction h with
  | done => intro _ s S; exact ⟨s, .done, S, Kp.refl _ _, trivial⟩
  | raise => intro _ s S; exact ⟨s, .raise, S, Kp.refl _ _, trivial⟩
  | again hq _ ih => intro hc s S; obtain ⟨s', r, S', K', E'⟩ := ih hc s S; exact ⟨s', .again hq r, S', K', E'⟩
  | rule _ ih => intro hc s S; obtain ⟨s', r, S', K', E'⟩ := ih hc s S; exact ⟨s', .rule r, S', K', E'⟩
  | «at» _ ih => intro hc s S; obtain ⟨s', r, S', K', E'⟩ := ih hc s S; exact ⟨s', .at r, S', K', E'⟩
  | load ho _ ih => intro hc s S; obtain ⟨s', r, S', K', E'⟩ := ih hc s S; exact ⟨s', .load (by rw [S.heap]; exact ho) r, S', K', E'⟩
  | @update Γ p k s0 e s1 a part f hs _ ih =>
    intro hc s S
    obtain ⟨s', r, S', K', E'⟩ := ih hc { s with heap := s.heap.update a f } ⟨by rw [← S.heap], S.drawn, S.toks, S.os, S.gsz, S.gen⟩
    exact ⟨s', .update (by rw [S.heap]; exact hs) r, S', K', E'⟩
  | loadIfAlive _ ih => intro hc s S; obtain ⟨s', r, S', K', E'⟩ := ih hc s S; exact ⟨s', .loadIfAlive (by rw [S.heap]; exact r), S', K', E'⟩
  | point _ ih => intro hc s S; obtain ⟨s', r, S', K', E'⟩ := ih hc s S; exact ⟨s', .point r, S', K', E'⟩
  | @alloc Γ p k s0 e s1 o _ ih =>
    intro hc s S
    obtain ⟨s', r, S', K', E'⟩ := ih hc { s with heap := s.heap.push o } ⟨by rw [← S.heap], S.drawn, S.toks, S.os, S.gsz, S.gen⟩
    exact ⟨s', .alloc (by rw [← S.heap] at r; exact r), S', K', E'⟩
  | @fresh Γ p k s0 e s1 _ ih =>
    intro hc s S
    obtain ⟨s', r, S', K', E'⟩ := ih hc { s with toks := s.toks + 1 } ⟨S.heap, S.drawn, by rw [← S.toks], S.os, S.gsz, S.gen⟩
    exact ⟨s', .fresh (by rw [S.toks] at r ⊢; exact r), S', K', E'⟩
  | ask _ ih => intro hc s S; obtain ⟨s', r, S', K', E'⟩ := ih hc s S; exact ⟨s', .ask r, S', K', E'⟩
  | @choose n Γ p k s0 e s1 src hn _ ih =>
    intro hc s S
    obtain ⟨s', r, S', K', E'⟩ := ih hc { s with drawn := s.drawn.bump src } ⟨S.heap, by rw [← S.drawn], S.toks, S.os, S.gsz, S.gen⟩
    exact ⟨s', .choose hn (by rw [S.drawn] at r ⊢; exact r), S', K', E'⟩
  | @os Γ p k s0 e s1 q l _ ih =>
    intro hc s S
    obtain ⟨s', r, S', K', E'⟩ := ih hc { s with os := (Os.step s.os q).1 } ⟨S.heap, S.drawn, S.toks, by rw [← S.os], S.gsz, S.gen⟩
    exact ⟨s', .os (by rw [S.os] at r ⊢; exact r), S', K', E'⟩
  | handled _ ih => intro hc s S; obtain ⟨s', r, S', K', E'⟩ := ih hc s S; exact ⟨s', .handled r, S', K', E'⟩
  | genState hg _ ih =>
    intro hc s S
    obtain ⟨x, hx, q⟩ := S.at hg
    obtain ⟨s', r, S', K', E'⟩ := ih hc s S
    refine ⟨s', .genState hx ?_, S', K', E'⟩
    rcases q with ⟨rfl, _⟩ | ⟨_, e, _⟩
    · exact r
    · rw [← e]; exact r
  | stack _ ih => intro hc s S; obtain ⟨s', r, S', K', E'⟩ := ih hc s S; exact ⟨s', .stack r, S', K', E'⟩
  | thread _ ih => intro hc s S; obtain ⟨s', r, S', K', E'⟩ := ih hc s S; exact ⟨s', .thread r, S', K', E'⟩
  | @newGen Γ p k s0 e s1 c _ ih =>
    intro hc s S
    obtain ⟨s', r, S', K', E'⟩ := ih hc { s with gens := s.gens.push (.fresh c) } ⟨S.heap, S.drawn, S.toks, S.os, by simp [S.gsz], fun i x y hx hy => by
      have hx : (s.gens.push (.fresh c))[i]? = some x := hx
      have hy : (s0.gens.push (.fresh c))[i]? = some y := hy
      rw [Array.getElem?_push] at hx hy
      rw [S.gsz] at hx
      split at hx
      · rename_i e1
        rw [if_pos e1] at hy
        cases hx; cases hy
        exact .inl ⟨rfl, trivial⟩
      · rename_i e1
        rw [if_neg e1] at hy
        exact S.gen i x y hx hy⟩
    refine ⟨s', .newGen (by rw [S.gsz]; exact r), S', fun i y hy d => ?_, E'⟩
    have hi : i < s0.gens.size := (Array.getElem?_eq_some_iff.mp hy).1
    have h1 : (s0.gens.push (.fresh c))[i]? = some y := by rw [Array.getElem?_push, if_neg (by omega)]; exact hy
    obtain ⟨q1, q2⟩ := K' i y h1 d
    refine ⟨q1, q2.trans ?_⟩
    show (s.gens.push (.fresh c))[i]? = _
    rw [Array.getElem?_push, if_neg (by rw [S.gsz]; omega)]
  | call _ _ ih1 ih2 =>
    intro hc s S
    obtain ⟨s1, r1, S1, K1, _⟩ := ih1 clean_nil s S
    obtain ⟨s2, r2, S2, K2, E2⟩ := ih2 hc s1 S1
    exact ⟨s2, .call r1 r2, S2, K1.trans K2, E2⟩
  | callSusp _ ih =>
    intro hc s S
    obtain ⟨s1, r1, S1, K1, E1⟩ := ih clean_nil s S
    exact ⟨s1, .callSusp r1, S1, K1, clean_app E1 clean_ret⟩
  | yield => intro _ s S; exact ⟨s, .yield, S, Kp.refl _ _, clean_nil⟩
  | @resumeFresh Γ p g l k z0 c e₁ z1 e z2 hg _ hqu _ ih1 ih2 =>
    intro hc s S
    obtain ⟨x, hx, q⟩ := S.at hg
    rcases q with ⟨rfl, _⟩ | ⟨d, _⟩
    · obtain ⟨s1, r1, S1, K1, E1⟩ := ih1 clean_nil _ (S.set g (x := .running) trivial)
      have k0 : Kp s z0 (s.setGen g .running) (z0.setGen g .running) := Kp.set hg id
      have hg1 : ∀ i y, z0.gens[i]? = some y → DeadSt y → g ≠ i := fun i y h d e => by subst e; rw [hg] at h; cases h; exact d
      obtain ⟨s2, r2, S2, K2, E2⟩ := ih2 hc _ (S1.set g E1.st)
      refine ⟨s2, .resumeFresh hx r1 hqu r2, S2, fun i y h d => ?_, E2⟩
      have ne := hg1 i y h d
      obtain ⟨a1, a2⟩ := k0 i y h d
      obtain ⟨a3, a4⟩ := K1 i y a1 d
      obtain ⟨a5, a6⟩ := K2 i y (by rw [setg, if_neg ne]; exact a3) d
      refine ⟨a5, a6.trans ?_⟩
      rw [setg, if_neg ne]
      exact a4.trans a2
    · exact d.elim
  | @resumeSuspended Γ p g r l k z0 k₀ l₀ c₀ p₀ fs cl e₁ z1 e z2 hg hr hqu _ ih1 ih2 =>
    intro hc s S
    obtain ⟨x, hx, q⟩ := S.at hg
    by_cases hd : Dead k₀
    · obtain ⟨w, e⟩ := hd r
      rw [e] at hr
      exact (no_dead hr).elim
    rcases q with ⟨rfl, cl⟩ | ⟨d, _⟩
    · obtain ⟨s1, r1, S1, K1, E1⟩ := ih1 cl _ (S.set g (x := .running) trivial)
      have k0 : Kp s z0 (s.setGen g .running) (z0.setGen g .running) := Kp.set hg hd
      have hg1 : ∀ i y, z0.gens[i]? = some y → DeadSt y → g ≠ i := fun i y h d e => by subst e; rw [hg] at h; cases h; exact hd d
      obtain ⟨s2, r2, S2, K2, E2⟩ := ih2 hc _ (S1.set g E1.st)
      refine ⟨s2, .resumeSuspended hx r1 hqu r2, S2, fun i y h d => ?_, E2⟩
      have ne := hg1 i y h d
      obtain ⟨a1, a2⟩ := k0 i y h d
      obtain ⟨a3, a4⟩ := K1 i y a1 d
      obtain ⟨a5, a6⟩ := K2 i y (by rw [setg, if_neg ne]; exact a3) d
      refine ⟨a5, a6.trans ?_⟩
      rw [setg, if_neg ne]
      exact a4.trans a2
    · exact (hd d).elim
  | resumeJustStarted hg hv _ ih =>
    intro hc s S
    obtain ⟨x, hx, q⟩ := S.at hg
    rcases q with ⟨rfl, _⟩ | ⟨d, _⟩
    · obtain ⟨s', r, S', K', E'⟩ := ih hc s S
      exact ⟨s', .resumeJustStarted hx hv r, S', K', E'⟩
    · exact d.elim
  | @resumeThrowFresh g Γ p k e z1 x l z0 c hg _ ih =>
    intro hc s S
    obtain ⟨x, hx, q⟩ := S.at hg
    rcases q with ⟨rfl, _⟩ | ⟨d, _⟩
    · obtain ⟨s', r, S', K', E'⟩ := ih hc _ (S.set g (x := .finished) trivial)
      exact ⟨s', .resumeThrowFresh hx r, S', (Kp.set hg id).trans K', E'⟩
    · exact d.elim
  | resumeRunning hg _ ih =>
    intro hc s S
    obtain ⟨x, hx, q⟩ := S.at hg
    rcases q with ⟨rfl, _⟩ | ⟨d, _⟩
    · obtain ⟨s', r, S', K', E'⟩ := ih hc s S
      exact ⟨s', .resumeRunning hx r, S', K', E'⟩
    · exact d.elim
  | resumeFinished hg _ ih =>
    intro hc s S
    obtain ⟨x, hx, q⟩ := S.at hg
    rcases q with ⟨rfl, _⟩ | ⟨d, _⟩
    · obtain ⟨s', r, S', K', E'⟩ := ih hc s S
      exact ⟨s', .resumeFinished hx r, S', K', E'⟩
    · exact d.elim
  | segRet _ _ ih1 ih2 =>
    intro hc s S
    obtain ⟨s1, r1, S1, K1, _⟩ := ih1 clean_nil s S
    obtain ⟨s2, r2, S2, K2, E2⟩ := ih2 (clean_tail hc) s1 S1
    exact ⟨s2, .segRet r1 r2, S2, K1.trans K2, E2⟩
  | segGen _ _ _ _ => intro hc; exact absurd rfl (hc _ List.mem_cons_self _ _ _ _ _)
  | segSuspOut hs _ ih =>
    intro hc s S
    obtain ⟨s1, r1, S1, K1, E1⟩ := ih clean_nil s S
    exact ⟨s1, .segSuspOut hs r1, S1, K1, clean_app E1 hc⟩
  | segSuspGen hs _ _ _ _ _ => intro hc; rw [clean_split hc] at hs; cases hs
theorem Sim.bare {s z : Shared} (S : Sim s z) (h : AllBare z.gens) : AllBare s.gens := fun x hx => by
  obtain ⟨i, hi, rfl⟩ := Array.mem_iff_getElem.mp hx
  have hz : i < z.gens.size := by rw [← S.gsz]; exact hi
  have q := S.gen i _ _ (Array.getElem?_eq_getElem hi) (Array.getElem?_eq_getElem hz)
  have b := h _ (Array.getElem_mem hz)
  rcases q with ⟨e, _⟩ | ⟨_, _, e, _⟩
  · rw [e]; exact b
  · rw [← e]; exact b
def Asleep : GenState → Prop
  | .suspended _ _ _ _ _ _ => True
  | _ => False
def GKeep (s s' : Shared) : Prop := ∀ (i : Nat) (x : GenState), s.gens[i]? = some x → Asleep x → s'.gens[i]? = some x
theorem GKeep.refl (s : Shared) : GKeep s s := fun _ _ h _ => h
theorem GKeep.trans {s s1 s2 : Shared} (a : GKeep s s1) (b : GKeep s1 s2) : GKeep s s2 := fun i x h z => b i x (a i x h z) z
theorem GKeep.of_eq {s s' : Shared} (h : s'.gens = s.gens) : GKeep s s' := fun i x e _ => by rw [h]; exact e
end GF
namespace GF
open PySem PySem.Spec PyProof.Rows L2
variable {X : Cx} {pins : List (Addr × Obj)} {σ : L2.St} {H : Hp} {s z : Shared}
end GF
set_option maxHeartbeats 1000000
namespace GF
open PySem PySem.Spec PyProof.Rows L2 GenW
def SX (M : Model) (A : Around) (Φ : End → Shared → Prop) (c : Code) (t : Sem PySem.Fin) (fs : List Frame) (s : Shared) : Prop :=
  ∀ Γ p, Γ.code = c → Γ.Woken A → ∃ e s', Runs M Γ p t fs s e s' ∧ Φ e s'
section
variable {M : Model} {A : Around} {Φ : End → Shared → Prop} {c : Code} {fs : List Frame} {s : Shared}
theorem SX.imp {Ψ : End → Shared → Prop} {t : Sem PySem.Fin} (h : SX M A Φ c t fs s) (hi : ∀ e s', Φ e s' → Ψ e s') : SX M A Ψ c t fs s := fun Γ p hc hw => by
  obtain ⟨e, s', r, q⟩ := h Γ p hc hw
  exact ⟨e, s', r, hi e s' q⟩
end
section
variable {P : Program} {w : World} {A : Around} {Φ : End → Shared → Prop} {s : Shared} {c : Code} {fs : List Frame} {env : Env} {K : Flow → Sem PySem.Fin} {J : Value → Sem PySem.Fin} {gd : Bool → Bool} {lv : List Value → List Value}
end
def Hd (fp : List Addr) (s s' : Shared) : Prop := ∀ b ∈ fp, ∀ o, s.heap.get? b = some o → s'.heap.get? b = some o
def Rl (It L : Addr) (s s' : Shared) : Prop := ∃ (h : Heap) (tk : Nat), s' = { s with heap := h, toks := tk } ∧ ∀ b o, b ≠ It → b ≠ L → s.heap.get? b = some o → h.get? b = some o
theorem Rl.refl {It L : Addr} (s : Shared) : Rl It L s s := ⟨s.heap, s.toks, rfl, fun _ _ _ _ e => e⟩
theorem Rl.step {It L : Addr} {s s' : Shared} (r : Rl It L s s') {h' : Heap} {tk : Nat} (k : ∀ b o, b ≠ It → b ≠ L → s'.heap.get? b = some o → h'.get? b = some o) : Rl It L s { s' with heap := h', toks := tk } := by
  obtain ⟨h, t, rfl, q⟩ := r
  exact ⟨h', tk, rfl, fun b o n1 n2 e => k b o n1 n2 (q b o n1 n2 e)⟩
def Ph (M : Model) (A : Around) (It Lc L : Addr) (items : Array Value) : Nat → Shared → End → Shared → Prop
  | 0, s₀, e, s' => e = .ret (.ok (.ret .none)) ∧ Rl It L s₀ s'
  | m + 1, s₀, e, s' => ∃ v l k c p fs, e = .susp v false l k c p fs ∧ fs.any Frame.guarded = false ∧ items[items.size - (m + 1)]? = some v ∧ Rl It L s₀ s' ∧ (∀ b ∈ [It, Lc, L], ∃ o, s'.heap.get? b = some o ∧ ∀ v, o.data ≠ .cell v) ∧
      ∀ s'', Hd [It, Lc, L] s' s'' → SX M A (Ph M A It Lc L items m s'') c (k (.send .none)) fs s''
structure LSt (It Lc L : Addr) (items : Array Value) (j : Nat) (h : Heap) : Prop where
  it : h.IsListIter It Lc j
  lst : h.IsList Lc items
  ns : ∃ m, h.Ns L m
theorem LSt.ne {It Lc L : Addr} {items : Array Value} {j : Nat} {h : Heap} (S : LSt It Lc L items j h) : It ≠ L ∧ Lc ≠ L ∧ Lc ≠ It := by
  obtain ⟨⟨o, e, c, d⟩, ⟨o2, e2, c2, n2, d2⟩, m, ⟨o3, es, ep, e3, d3, _⟩⟩ := S
  refine ⟨?_, ?_, ?_⟩
  · rintro rfl; rw [e] at e3; cases e3; rw [d] at d3; cases d3
  · rintro rfl; rw [e2] at e3; cases e3; rw [d2] at d3; cases d3
  · rintro rfl; rw [e] at e2; cases e2; rw [d] at d2; cases d2
theorem LSt.at {It Lc L : Addr} {items : Array Value} {j : Nat} {h h' : Heap} (S : LSt It Lc L items j h) (k : ∀ b ∈ [It, Lc, L], ∀ o, h.get? b = some o → h'.get? b = some o) : LSt It Lc L items j h' := by
  obtain ⟨⟨o, e, c, d⟩, ⟨o2, e2, c2⟩, m, ⟨o3, es, ep, e3, r⟩⟩ := S
  exact ⟨⟨o, k It (by simp) o e, c, d⟩, ⟨o2, k Lc (by simp) o2 e2, c2⟩, m, ⟨o3, es, ep, k L (by simp) o3 e3, r⟩⟩
theorem LSt.objs {It Lc L : Addr} {items : Array Value} {j : Nat} {h : Heap} (S : LSt It Lc L items j h) : ∀ b ∈ [It, Lc, L], ∃ o, h.get? b = some o ∧ ∀ v, o.data ≠ .cell v := by
  obtain ⟨⟨o, e, c, d⟩, ⟨o2, e2, c2, n2, d2⟩, m, ⟨o3, es, ep, e3, d3, _⟩⟩ := S
  intro b hb
  simp only [List.mem_cons, List.not_mem_nil, or_false] at hb
  rcases hb with rfl | rfl | rfl
  · exact ⟨o, e, fun v z => by rw [d] at z; cases z⟩
  · exact ⟨o2, e2, fun v z => by rw [d2] at z; cases z⟩
  · exact ⟨o3, e3, fun v z => by rw [d3] at z; cases z⟩
section
variable {P : Program} {w : World} {A : Around} {c : Code} {fs : List Frame} {env : Env} {K : Flow → Sem PySem.Fin} {J : Value → Sem PySem.Fin} {gd : Bool → Bool} {lv : List Value → List Value} {x : Str} {px py yp ep : Pos} {It Lc : Addr} {items : Array Value} {pc : Pos}
end
end GF
set_option maxHeartbeats 1000000
namespace GF
open PySem PySem.Spec PyProof.Rows L2 GenW
def PinOk (X : Cx) (H : Hp) (b : Addr) : Prop := H b = none ∧ b ≠ X.env.locals ∧ b ∉ X.fs
def FpA (X : Cx) (pins : List (Addr × Obj)) (H : Hp) (fp fc : List Addr) : Prop := (∀ b ∈ fp, PinOk X H b) ∧ ∀ b ∈ fc, FpOk X pins H b
def ItemP (P : Program) (w : World) (A : Around) (tg : Expr) (it : Addr) (X : Cx) (pins : List (Addr × Obj)) (σ : L2.St) (yld : V → Hp → Prop) (tn : List Addr → List Addr → Shared → Prop) (E : Value → Shared → Prop) (r : Option Value) (s1 : Shared) : Prop :=
  ∃ u, r = some u ∧ wpAny (model P w) A (letOwnedTupleGo tg (.ref it) u) (fun _ s2 => ∃ x H' fp' fc', Inv X pins σ H' s2 ∧ RelV x u ∧ yld x H' ∧ tn fp' fc' s2 ∧ FpA X pins H' fp' fc') E s1
def DoneP (X : Cx) (pins : List (Addr × Obj)) (σ : L2.St) (H : Hp) (r : Option Value) (s1 : Shared) : Prop := r = none ∧ Inv X pins σ H s1
structure TurnS (P : Program) (w : World) (K : PySem.W.Frag) (base : Heap) (tg : Expr) (stk : List Env) (A : Around) (J : It) (it : Addr) (tn : Nat → List Addr → List Addr → Shared → Prop) : Prop where
  obj : ∀ i fp fc s, tn i fp fc s → ∀ b ∈ fp, ∃ o, s.heap.get? b = some o ∧ ∀ v, o.data ≠ .cell v
  sub : ∀ i fp fc s, tn i fp fc s → ∀ b ∈ fc, b ∈ fp
  keep0 : ∀ fp fc s s', tn 0 fp fc s → (∀ b o, s.heap.get? b = some o → s'.heap.get? b = some o) → (∀ b o v, s'.heap.get? b = some o → o.data = .cell v → ∃ o', s.heap.get? b = some o') → s'.gens = s.gens → s'.os = s.os → tn 0 fp fc s'
  keep : ∀ i fp fc s s', tn (i + 1) fp fc s → Hd fp s s' → GKeep s s' → tn (i + 1) fp fc s'
  item : ∀ (X : Cx), X.prog = P → X.w = w → X.K = K → X.base = base → X.calm = true → X.stack = stk → X.A = A → ∀ (i : Nat) (fp fc : List Addr) (pins : List (Addr × Obj)) (s : Shared) (σ : L2.St) (H : Hp) (E : Value → Shared → Prop), Inv X pins σ H s → FpA X pins H fp fc → tn i fp fc s → J.go i H →
    wpAny (model P w) A (pyNext (.ref it)) (ItemP P w A tg it X pins σ (J.yld i H) (tn (i + 1)) E) E s
  done : ∀ (X : Cx), X.prog = P → X.w = w → X.K = K → X.base = base → X.calm = true → X.stack = stk → X.A = A → ∀ (i : Nat) (fp fc : List Addr) (pins : List (Addr × Obj)) (s : Shared) (σ : L2.St) (H : Hp) (E : Value → Shared → Prop), Inv X pins σ H s → FpA X pins H fp fc → tn i fp fc s → J.stop i H →
    wpAny (model P w) A (pyNext (.ref it)) (DoneP X pins σ H) E s
  self : ∀ (A' : Around) (s : Shared) (fp fc : List Addr) (Q : Value → Shared → Prop) (E : Value → Shared → Prop), tn 0 fp fc s → Q (.ref it) s → wpAny (model P w) A' (pyIter (.ref it)) Q E s
section
variable {P : Program} {w : World} {A : Around} {E : Value → Shared → Prop} {s : Shared}
end
section
variable {P : Program} {w : World} {K : PySem.W.Frag} {mg : Str → Option Value} {base : Heap} {N : List Str} {qual : Str} {scope : Scope} {f : Addr} {cd : Value}
structure Fresh (P : Program) (w : World) (K : PySem.W.Frag) (mg : Str → Option Value) (base : Heap) (N : List Str) (qual : Str) (scope : Scope) (f : Addr) (cd : Value) (outer : List Env) (body : List Stmt) (vs : List V) (sC s1 : Shared) (a g : Nat) (s : Shared) : Prop where
  inv : ∃ Hc Ac, Inv (gcxOf P w K mg base N qual scope f cd Ac outer sC Hc (fun _ _ _ => False) []) [] (start N vs) Hc s1
  kp : ∀ b o, s1.heap.get? b = some o → s.heap.get? b = some o
  cells : ∀ b o v, s.heap.get? b = some o → o.data = .cell v → ∃ o', sC.heap.get? b = some o'
  nocell : ∀ x c, (envOfC qual scope sC.heap.objs.size f cd).cells.lookup x ≠ some c
  ks : ∀ b o, sC.heap.get? b = some o → s1.heap.get? b = some o
  gen : s.heap.IsGen a g
  st : s.gens[g]? = some (.fresh (.func body (envOfC qual scope sC.heap.objs.size f cd)))
  os : s.os = sC.os
  la : sC.heap.objs.size < a
section
variable {outer : List Env} {body : List Stmt} {vs : List V} {sC s1 : Shared} {a g : Nat} {X : Cx} {pins : List (Addr × Obj)} {σ : L2.St} {H H1 : Hp} {s sB : Shared} {A : Around} {Lc : Addr} {xs : List V} {σg : L2.St}
structure Mid (X : Cx) (pins : List (Addr × Obj)) (H : Hp) (ch : List Addr) (L It Lc : Addr) (s sM : Shared) : Prop where
  un : Un (frs X.stack) ch H H s.heap sM.heap
  hok : HOk X.prog X.w H sM.heap
  lc : PinOk X H Lc
  it : FpOk X pins H It
  new : ∀ b o, s.heap.get? b = some o → b ∉ ch → b ≠ L ∧ b ≠ It
  os : sM.os = s.os
  bare : AllBare sM.gens
  gsz : s.gens.size ≤ sM.gens.size
theorem Mid.back {ch : List Addr} {L It : Addr} {sM s2 s3 : Shared} (M : Mid X pins H ch L It Lc s sM) (I : Inv X pins σ H s) (R : Rl It L sM s2) (hch : ∀ b ∈ ch, FpOk X pins H b) (hL : FpOk X pins H L) (os : s3.os = s2.os) (bare : AllBare s3.gens)
    (k : ∀ b o, s2.heap.get? b = some o → s3.heap.get? b = some o) : Inv X pins σ H s3 := by
  obtain ⟨h, tk, rfl, q⟩ := R
  have kk : ∀ b o, b ≠ It → b ≠ L → sM.heap.get? b = some o → s3.heap.get? b = some o := fun b o n1 n2 e => k b o (q b o n1 n2 e)
  have trk : ∀ c u, H c = some u → c ≠ It ∧ c ≠ L := fun c u e => ⟨fun z => (by rw [z, M.it.1] at e; cases e), fun z => (by rw [z, hL.1] at e; cases e)⟩
  refine I.call' (ch := ch) (os.trans M.os) ⟨fun b o e n hb hx => ?_, fun b o e n hb hx => ?_, fun _ _ _ n _ => n, fun b o e hx => ?_, fun _ _ z => z, fun _ _ _ z => z, fun _ ps z => ⟨#[], by rw [z]; simp⟩⟩ (fun b u e => ?_) bare fun b hb => ?_
  · obtain ⟨n1, n2⟩ := M.new b o e hx
    exact kk b o n2 n1 (M.un.keep b o e n hb hx)
  · obtain ⟨n1, n2⟩ := M.new b o e hx
    obtain ⟨sl, z⟩ := M.un.slot b o e n hb hx
    exact ⟨sl, kk b _ n2 n1 z⟩
  · obtain ⟨n1, n2⟩ := M.new b o e hx
    obtain ⟨o', z⟩ := M.un.there b o e hx
    exact ⟨o', kk b _ n2 n1 z⟩
  · refine (M.hok b u e).stay (fun c v hc z => ?_) (fun _ z => z) fun _ _ z => z
    rcases hc with hc | hc
    · subst hc
      obtain ⟨n1, n2⟩ := trk c u e
      exact kk c v n1 n2 z
    · obtain ⟨n1, n2⟩ := trk c _ hc
      exact kk c v n1 n2 z
  · obtain ⟨f1, f2, f3, f4, f5, f6⟩ := hch b hb
    exact ⟨f4, f2, f5, f6⟩
theorem isGen_at {h h' : Heap} (G : h.IsGen a g) (k : ∀ o, h.get? a = some o → h'.get? a = some o) : h'.IsGen a g := by
  obtain ⟨o, nm, qn, e, r⟩ := G
  exact ⟨o, nm, qn, k o e, r⟩
end
end
end GF
set_option maxHeartbeats 1000000
namespace GF
open PySem PySem.Spec PyProof.Rows L2 GenW
section
variable {X : Cx} {pins : List (Addr × Obj)} {σ : L2.St} {H : Hp} {s : Shared} {E : Value → Shared → Prop}
end
structure PIS (X : Cx) (tg iter : Expr) (wi : TI) : Prop where
  run : ∀ (pins : List (Addr × Obj)) (s : Shared) (σ : L2.St) (H : Hp) (R : It → Hp → Prop), L2.Inv X pins σ H s → wi σ H R →
    wpAny (model X.prog X.w) X.A (eval iter X.env) (fun v s1 => wpAny (model X.prog X.w) X.A (pyIter v) (fun itv s2 => ∃ it fp fc tn J H', itv = .ref it ∧ L2.Inv X pins σ H' s2 ∧ TurnS X.prog X.w X.K X.base tg X.stack X.A J it tn ∧ tn 0 fp fc s2 ∧ FpA X pins H' fp fc ∧ R J H') X.xe s1) X.xe s
section
variable {X : Cx}
end
end GF
set_option maxHeartbeats 1000000
namespace GF
open PySem PySem.Spec PyProof.Rows L2 GenW
section
variable {P : Program} {w : World} {K : PySem.W.Frag} {mg : Str → Option Value} {base : Heap} {N ps : List Str} {x qual : Str} {params : Arguments} {scope : Scope} {body : List Stmt} {dvs : List V} {kws : List (Str × V)} {f : Addr} {fd : FuncData}
end
section
variable {X : Cx} {k : Nat} {f C : Addr} {fd : FuncData} {N : List Str} {m qual x : Str} {params : Arguments} {scope : Scope} {px py yp ep fpos pos apos : Pos} {o iterE tg : Expr} {ta te : TE}
end
end GF
namespace PL
open PySem PySem.Spec PyProof.Rows L2 PLt
structure PDIS (Y : Ctx) (tg iter : Expr) (wi : TI) (ti : DI) : Prop where
  p : GF.PIS Y.X tg iter wi
  s : SimI Y wi ti
section
variable {Y : Ctx} {iter tg elt : Expr} {ifs : List Expr} {wi : TI} {ti : DI} {gg : TG} {g : DG} {eA : TT} {tA : DT} {ee : TE} {te : DE} {scope : Scope} {own : List (Str × Nat)} {pos : Pos}
end
def dWalk (C : Addr) (fn : Str) (td : DE) : DI := fun ρ c Q => td ρ c fun d c1 => ∃ L, d = .ins C [fn] [.lst L] ∧ Q L c1
section
variable {Y : Ctx} {k : Nat} {f C fI : Addr} {fd : FuncData} {N : List Str} {m qual x xc fn : Str} {params : Arguments} {scope : Scope} {px py yp ep fpos pos apos : Pos} {o iterE tg : Expr} {ta : TE} {td : DE}
theorem ev_walk {C : Addr} {fn : Str} {td : DE} {ρ : DEnv} {c : CN} {Q : List D → CN → Prop} : dWalk C fn td ρ c Q = td ρ c fun d c1 => ∃ L, d = .ins C [fn] [.lst L] ∧ Q L c1 := propext Iff.rfl
end
end PL
namespace PL
open PySem PySem.Spec PyProof.Rows L2 PLt
theorem OwD.monoE {EI : EIt} : ∀ (n : Nat) (d : D), OwD EI n d → ∀ m, n ≤ m → OwD EI m d := by
  intro n
  induction n with
  | zero => intro d h m _; cases d <;> first | exact h.elim | (cases m <;> first | trivial | exact h)
  | succ n ih =>
    intro d h m hm
    obtain ⟨m, rfl⟩ : ∃ j, m = j + 1 := ⟨m - 1, by omega⟩
    cases d <;> first | exact h.elim | trivial | exact h | exact fun x hx => ih x (h x hx) m (by omega)
structure OwnE (EI : EIt) (n : Nat) (d : D) : Prop where
  o : OwD EI n d
  q : noq d = true
section
variable {EI : EIt} {n m : Nat} {d : D}
theorem OwnE.pl (h : Pl n d) : OwnE EI n d := ⟨.pl h, noq_pl h⟩
theorem OwnE.mono (h : OwnE EI n d) (hn : n ≤ m) : OwnE EI m d := ⟨h.o.monoE n d m hn, h.q⟩
theorem OwnE.lst {l : List D} (h : ∀ d ∈ l, OwnE EI n d) : OwnE EI (n + 1) (.lst l) := ⟨fun d hd => (h d hd).o, by unfold noq; exact noqs_all.mpr fun d hd => (h d hd).q⟩
theorem OwnE.tup {l : List D} (h : ∀ d ∈ l, OwnE EI n d) : OwnE EI (n + 1) (.tup l) := ⟨fun d hd => (h d hd).o, by unfold noq; exact noqs_all.mpr fun d hd => (h d hd).q⟩
theorem OwnE.ins {C : Addr} {ns : List Str} {es : List D} (h : EI C ns es) (q : ∀ e ∈ es, noq e = true) : OwnE EI n (.ins C ns es) := ⟨.ins h, by unfold noq; exact noqs_all.mpr q⟩
theorem OwnE.str {x : Str} : OwnE EI n (.str x) := ⟨.str, by unfold noq; rfl⟩
theorem OwnE.two {x : Str} (h : OwnE EI n d) : OwnE EI (n + 1) (.lst [.str x, d]) := .lst fun e he => by
  simp only [List.mem_cons, List.not_mem_nil, or_false] at he
  rcases he with rfl | rfl
  · exact .str
  · exact h
end
namespace Fm
structure D22 (f : Fm) : Prop where
  ok : f.ok
  sm : f.small
  wd : f.wd ≤ 40000
end Fm
inductive O22 where
  | ok (b : Bool) | doc (d : D) | holes (l : List Str) | set (d : D) | lay (p : D) | large | none
end PL
namespace GO
open Lean Elab Tactic Meta PySem PySem.Calls PyProof.Rows PySem.W
def NoFill (K : Frag) (nm : String) (t : Value) : Prop := ∀ (M : Model) (h : Heap), K.In h → Looks M h (fillsNumberSlot t nm) false
structure YesFill (K : Frag) (C : Addr) (nm : String) (t : Value) : Prop where
  fl : ∀ (M : Model) (h : Heap), K.In h → Looks M h (fillsNumberSlot t nm) true
  sub : subIn K t (.ref C) = some false
  py : ∃ b, ∀ (M : Model) (h : Heap), K.In h → Looks M h (numberSlotInPython t nm) b
  ro : ∃ r, findIn K t (dunderR nm) = some r
section
variable {prog : Program} {w : World} {A : Around} {E : Value → Shared → Prop} {s : Shared} {K : Frag} {x C L f : Addr} {h₀ : Heap} {m : Str → Option Value} {ox : Obj} {od : Option Obj} {nm : String} {b t : Value} {Q : Value → Shared → Prop}
def Second (K : Frag) (C : Addr) (nm : String) (t : Value) : Prop := t = .ref C ∨ ((Value.ref C == t) = false ∧ (NoFill K nm t ∨ YesFill K C nm t))
end
end GO
set_option maxHeartbeats 2000000
namespace GO
open Lean Elab Tactic Meta PySem PySem.Calls PyProof.Rows PySem.W
end GO
namespace PL
open PySem PySem.Spec PyProof.Rows L2
structure OpX (K : PySem.W.Frag) (C : Addr) (nm : String) (Cs : List Addr) : Prop where
  rn : PySem.W.findIn K (.ref C) (dunderR nm) = some none
  ty : ∀ T ∈ kinds7, GO.Second K C nm (.type T)
  cl : ∀ B ∈ Cs, GO.Second K C nm (.ref B)
section
variable {X : Cx} {CX : CXT} {k : Nat} {f C : Addr} {fd : FuncData} {ps : List Str} {sp : Sp} {E : L2.St → XK} {op : Operator}
end
section
variable {Y : Ctx} {k : Nat} {C f : Addr} {fd : FuncData} {ps : List Str} {a b : Expr} {ea eb : TE} {ta tb : DE} {pos : Pos} {sp : SpD} {IC : Addr → Prop} {nm : String}
def aBinX (C : Addr) (IC : Addr → Prop) (ED : DEnv → EDt) (sp : SpD) (r0 : RD2) (ρ : DEnv) (x y : D) (c : CN) (Q : QD) : Prop := match x with
  | .ins C' ns es => C' = C ∧ ((kind y).isSome = true ∨ ∃ B, isIns y = some B ∧ IC B) ∧ @Run sp [.ins C' ns es, y] c Q (ED ρ)
  | x => r0 x y c Q
end
section
variable {C : Addr} {IC : Addr → Prop} {ED : DEnv → EDt} {sp : SpD} {r0 : RD2} {ρ : DEnv} {c : CN} {Q : QD} {ns : List Str} {es l : List D} {y : D} {i : Int} {s : Str}
theorem ev_binX_i : aBinX C IC ED sp r0 ρ (.ins C ns es) y c Q = (((kind y).isSome = true ∨ ∃ B, isIns y = some B ∧ IC B) ∧ @Run sp [.ins C ns es, y] c Q (ED ρ)) := by simp [aBinX]
theorem ev_binX_n : aBinX C IC ED sp r0 ρ (.int i) y c Q = r0 (.int i) y c Q := propext Iff.rfl
theorem ev_binX_s : aBinX C IC ED sp r0 ρ (.str s) y c Q = r0 (.str s) y c Q := propext Iff.rfl
theorem ev_binX_t : aBinX C IC ED sp r0 ρ (.tup l) y c Q = r0 (.tup l) y c Q := propext Iff.rfl
theorem ev_binX_l : aBinX C IC ED sp r0 ρ (.lst l) y c Q = r0 (.lst l) y c Q := propext Iff.rfl
end
end PL
namespace PL
open PySem PySem.Spec PyProof.Rows L2
def truD : D → Option Bool
  | .non => some false
  | .bl b => some b
  | .lst l => some !l.isEmpty
  | .tup l => some !l.isEmpty
  | _ => none
section
variable {Y : Ctx} {a b : Expr} {ea eb : TE} {ta tb : DE} {rest : List Expr} {pos : Pos}
def truP (x : D) (P : Bool → Prop) : Prop := ∃ k, truD x = some k ∧ P k
def dOrT (ta tb : DE) : DE := fun ρ c Q => ta ρ c fun x c1 => truP x fun k => if k = true then Q x c1 else tb ρ c1 Q
end
section
variable {ta tb : DE} {ρ : DEnv} {c : CN} {Q : QD} {P : Bool → Prop} {b : Bool} {x : D} {l : List D}
theorem ev_orT : dOrT ta tb ρ c Q = ta ρ c fun x c1 => truP x fun k => @Br k (Q x c1) (tb ρ c1 Q) := propext Iff.rfl
theorem ev_tru_n : truP .non P = P false := by simp [truP, truD]
theorem ev_tru_b : truP (.bl b) P = P b := by simp [truP, truD]
theorem ev_tru_l0 : truP (.lst []) P = P false := by simp [truP, truD]
theorem ev_tru_lc : truP (.lst (x :: l)) P = P true := by simp [truP, truD]
theorem ev_tru_t0 : truP (.tup []) P = P false := by simp [truP, truD]
theorem ev_tru_tc : truP (.tup (x :: l)) P = P true := by simp [truP, truD]
end
end PL
set_option maxHeartbeats 2000000
namespace PLt
open PySem PySem.Spec PyProof.Rows L2 PLs
section
variable {X : Cx}
end
end PLt
namespace PL
open PySem PySem.Spec PyProof.Rows L2 PLt PLs
def extI (mx : Bool) : List Int → Option Int
  | [] => none
  | n :: ns => match extI mx ns with
    | none => some n
    | some m => some (if mx = true then (if m ≤ n then n else m) else (if n ≤ m then n else m))
def intP (d : D) (P : List Int → Prop) : Prop := ∃ l ns, d = .lst l ∧ intsD l = some ns ∧ P ns
def dExtD (mx : Bool) (t tk : DA) : DE := fun ρ c Q => t ρ c fun ds c1 => tk ρ c1 fun es c2 => hd1 ds fun d => hd1 es fun e => intP d fun ns => match extI mx ns with
  | none => Q e c2
  | some m => Q (.int m) c2
section
variable {Y : Ctx} {e : Expr} {fa fk : TA} {t tk : DA} {p pos : Pos} {kws : List Keyword} {k : Nat} {mx : Bool}
end
section
variable {mx : Bool} {t tk : DA} {ρ : DEnv} {c : CN} {Q : QD} {l : List D} {ns : List Int} {P : List Int → Prop}
theorem ev_extD : dExtD mx t tk ρ c Q = t ρ c fun ds c1 => tk ρ c1 fun es c2 => hd1 ds fun d => hd1 es fun e => intP d fun ns => match extI mx ns with
  | none => Q e c2
  | some m => Q (.int m) c2 := propext Iff.rfl
theorem intP.mk {d : D} (h : d = .lst (ns.map .int)) (q : P ns) : intP d P := ⟨_, ns, h, by
  clear h q
  induction ns with
  | nil => rfl
  | cons n ns ih => simp [intsD, ih], q⟩
end
end PL
set_option maxHeartbeats 2000000
namespace GF
open PySem PySem.Spec PyProof.Rows L2
section
variable {X : Cx}
end
end GF
namespace PL
open PySem PySem.Spec PyProof.Rows L2 PLt
section
variable {Y : Ctx} {elt tg iter : Expr} {ifs : List Expr} {scope : Scope} {own : List (Str × Nat)} {pos spos : Pos} {wi : TI} {gg : TG} {eA : TT} {ee : TE} {ti : DI} {g : DG} {tA : DT} {te : DE}
end
end PL
set_option maxHeartbeats 2000000
namespace GF
open PySem PySem.Spec PyProof.Rows L2 GenW PLt PLs PpSet
section
variable {X : Cx}
end
end GF
namespace PL
open PySem PySem.Spec PyProof.Rows L2 PLt PLs
def Sc1B (g : DG) (tt : DT) (te : DE) (vs : List Nat) (ρ : DEnv) (L : List D) (c1 : CN) (Q : List KD → CN → Prop) : Prop := ∃ I : Nat → List KD → CN → Prop, I 0 [] c1 ∧
  (∀ k x acc c, L[k]? = some x → I k acc c → g x (wipeD ρ vs) c fun ρ2 c2 => tt ρ2 c2 fun b c3 => if b = true then te ρ2 c3 fun z c8 => ∃ l, z = kdD (.t l) ∧ dpts l ≤ 3 ∧ acc.length + 1 ≤ 9000 ∧ I (k + 1) (acc ++ [.t l]) c8 else I (k + 1) acc c3) ∧
  ∀ acc c, I L.length acc c → Q acc c
def dSortSc1 (ti : DI) (g : DG) (tt : DT) (te : DE) (vs : List Nat) : DE := fun ρ c Q => ti ρ c fun L c1 => Sc1B g tt te vs ρ L c1 fun acc c2 => RowsK acc ∧ Q (.lst ((sortK acc).map kdD)) c2
section
variable {Y : Ctx} {iter tg elt : Expr} {ifs : List Expr} {wi : TI} {ti : DI} {gg : TG} {g : DG} {eA : TT} {tA : DT} {ee : TE} {te : DE} {scope : Scope} {own : List (Str × Nat)} {p pos pos2 : Pos} {k : Nat}
end
section
variable {ti : DI} {g : DG} {tt : DT} {te : DE} {vs : List Nat} {ρ : DEnv} {c : CN} {L : List D} {Q : QD} {R : List KD → CN → Prop}
theorem ev_sortSc1 : dSortSc1 ti g tt te vs ρ c Q = ti ρ c fun L c1 => Sc1B g tt te vs ρ L c1 fun acc c2 => RowsK acc ∧ Q (.lst ((sortK acc).map kdD)) c2 := propext Iff.rfl
end
end PL
set_option maxHeartbeats 2000000
namespace PLt
open PySem PySem.Spec PyProof.Rows L2 PLs
open PySem.SeqAt (EqAt RcLt firstLt)
section
variable {P : Program} {w : World} {A : Around} {E : Value → Shared → Prop} {s : Shared} {l : Addr} {L : List (Addr × List KD)}
end
end PLt
namespace PL
open PySem PySem.Spec PyProof.Rows L2 PLt PLs
def sortA (l : List KD) : List KD := l.mergeSort lekK
def dSortL (t : DA) : DE := fun ρ c Q => t ρ c fun ds c1 => hd1 ds fun d => keysP d fun ks => RowsK ks ∧ ks.length ≤ 9000 ∧ Q (.lst ((sortA ks).map kdD)) c1
section
variable {Y : Ctx} {e : Expr} {fa : TA} {t : DA} {p pos : Pos} {k : Nat}
end
section
variable {t : DA} {ρ : DEnv} {c : CN} {Q : QD}
theorem ev_sortL : dSortL t ρ c Q = t ρ c fun ds c1 => hd1 ds fun d => keysP d fun ks => RowsK ks ∧ ks.length ≤ 9000 ∧ Q (.lst ((sortA ks).map kdD)) c1 := propext Iff.rfl
end
end PL
set_option maxHeartbeats 2000000
namespace PLs
open PySem PySem.Spec PyProof.Rows L2
section
variable {P : Program} {w : World} {H : Hp} {h : Heap} {a : Addr} {l : List Int}
variable {A : Around} {E : Value → Shared → Prop} {s : Shared}
end
structure GotI (xs : List Int) (i : Nat) (l : List Int) : Prop where
  len : l.length ≤ i
  mem : ∀ x, x ∈ l ↔ x ∈ xs.take i
  nd : l.Nodup
theorem GotI.next {xs : List Int} {i : Nat} {l l' : List Int} {x : Int} (g : GotI xs i l) (hx : xs[i]? = some x) (e1 : x ∈ l → l' = l) (e2 : x ∉ l → l'.Perm (x :: l)) : GotI xs (i + 1) l' := by
  have tk : ∀ y, y ∈ xs.take (i + 1) ↔ (y ∈ xs.take i ∨ y = x) := fun y => by rw [List.take_succ, hx]; simp
  by_cases c : x ∈ l
  · rw [e1 c]
    refine ⟨Nat.le_succ_of_le g.len, fun y => ?_, g.nd⟩
    rw [tk, ← g.mem]
    exact ⟨.inl, fun z => z.elim id fun e => e ▸ c⟩
  · have p := e2 c
    refine ⟨by rw [p.length_eq]; exact Nat.succ_le_succ g.len, fun y => ?_, p.nodup_iff.mpr (List.nodup_cons.mpr ⟨c, g.nd⟩)⟩
    rw [tk, ← g.mem, p.mem_iff, List.mem_cons]
    exact ⟨fun z => z.elim .inr .inl, fun z => z.elim .inr .inl⟩
section
variable {P : Program} {w : World} {A : Around} {E : Value → Shared → Prop} {s : Shared}
end
section
variable {X : Cx}
end
end PLs
namespace PL
open PySem PySem.Spec PyProof.Rows L2 PLt PLs
def dedI : List Int → List Int
  | [] => []
  | x :: l => if x ∈ dedI l then dedI l else x :: dedI l
def sortI (l : List Int) : List Int := (dedI l).mergeSort fun a b => decide (a ≤ b)
def dSortSetI (t : DA) : DE := fun ρ c Q => t ρ c fun ds c1 => hd1 ds fun d => intP d fun ns => ns.length + 1 < 4096 ∧ Q (.lst ((sortI ns).map D.int)) c1
section
variable {Y : Ctx} {e : Expr} {fa : TA} {t : DA} {p p2 pos pos2 : Pos}
end
section
variable {t : DA} {ρ : DEnv} {c : CN} {Q : QD}
theorem ev_sortSetI : dSortSetI t ρ c Q = t ρ c fun ds c1 => hd1 ds fun d => intP d fun ns => ns.length + 1 < 4096 ∧ Q (.lst ((sortI ns).map D.int)) c1 := propext Iff.rfl
end
end PL
set_option maxHeartbeats 2000000
namespace PL
open PySem PySem.Spec PyProof.Rows L2 PLt PLs
def dOeq (i : Nat) (tb : DE) : DE := fun ρ c Q => olP ρ[i]? fun l => tb ρ c fun y c1 => Pl 60 (.lst l) ∧ Pl 60 y ∧ Q (.bl (eqD (.lst l) y)) c1
section
variable {Y : Ctx} {b : Expr} {eb : TE} {tb : DE} {x : Str} {p : Pos} {k : Nat}
theorem ev_oeq {i : Nat} {ρ : DEnv} {c : CN} {Q : QD} : dOeq i tb ρ c Q = olP ρ[i]? fun l => tb ρ c fun y c1 => Pl 60 (.lst l) ∧ Pl 60 y ∧ Q (.bl (eqD (.lst l) y)) c1 := propext Iff.rfl
end
end PL
set_option maxHeartbeats 2000000
namespace PL
open PySem PySem.Spec PyProof.Rows L2 PLt PLs
inductive Sh where
  | one (f : Int) | many (n f m l : Int)
  deriving DecidableEq
namespace Sh
def key : Sh → List KD
  | one f => [.i 1, .i f]
  | many n f m l => [.i n, .i f, .i m, .i l]
def lines : Sh → Int
  | one _ => 1
  | many n _ _ _ => n
def ok : Sh → Prop
  | one f => 0 ≤ f
  | many n f m l => 2 ≤ n ∧ 0 ≤ f ∧ 0 ≤ m ∧ 0 ≤ l
def aft : Sh → Sh → Int
  | many _ f _ _, one g => f - g + 1
  | many _ _ m _, many _ _ _ l => m - l + 1
  | one _, _ => 0
def turns (sh : Sh) (os : List Sh) : List Int := match sh with
  | one _ => [0, 1]
  | many .. => sortI (0 :: (os.map (aft sh)).filter fun a => decide (0 < a))
end Sh
end PL
namespace PL
open PySem PySem.Spec PyProof.Rows L2 PLt PLs
structure LayN (l : List LRow) : Prop where
  ne : l ≠ []
  nn : ∀ r ∈ l, 0 ≤ r.1
theorem LayOk.toN {l : List LRow} (h : LayOk l) : LayN l := ⟨h.ne, fun r hr => (h.rows r hr).1⟩
end PL
set_option maxHeartbeats 2000000
namespace PL
open PySem PySem.Spec PyProof.Rows L2 PLt PLs
end PL
set_option maxHeartbeats 2000000
namespace PL
open PySem PySem.Spec PyProof.Rows L2 PLt PLs
abbrev BL := Int × Int
def undom (ps : List BL) (p : BL) : Prop := ∀ q ∈ ps, q ≠ p → q.1 ≤ p.1 → q.2 ≤ p.2 → False
instance (ps : List BL) (p : BL) : Decidable (undom ps p) := inferInstanceAs (Decidable (∀ q ∈ ps, q ≠ p → q.1 ≤ p.1 → q.2 ≤ p.2 → False))
structure ScanI (seen acc : List BL) : Prop where
  sub : ∀ p ∈ acc, p ∈ seen
  low : ∀ p ∈ seen, ∃ q ∈ acc, q.1 ≤ p.1 ∧ q.2 ≤ p.2
  pw : acc.Pairwise fun p q => p.1 < q.1 ∧ q.2 < p.2
structure FrontOf (ps out : List BL) : Prop where
  mem : ∀ p, p ∈ out ↔ p ∈ ps ∧ undom ps p
  pw : out.Pairwise fun p q => p.1 < q.1 ∧ q.2 < p.2
theorem ScanI.front {ps out : List BL} (h : ScanI ps out) : FrontOf ps out := by
  refine ⟨fun p => ⟨fun hp => ⟨h.sub p hp, fun q hq ne h1 h2 => ?_⟩, fun ⟨hp, hu⟩ => ?_⟩, h.pw⟩
  · obtain ⟨r, hr, r1, r2⟩ := h.low q hq
    have : r = p := by
      by_cases e : r = p
      · exact e
      · exfalso
        have tri : ∀ {l : List BL}, l.Pairwise (fun p q => p.1 < q.1 ∧ q.2 < p.2) → r ∈ l → p ∈ l → r ≠ p → (r.1 < p.1 ∧ p.2 < r.2) ∨ (p.1 < r.1 ∧ r.2 < p.2) := fun {l} hl hr hp ne => by
          induction l with
          | nil => cases hr
          | cons a l ih =>
            have hl := List.pairwise_cons.mp hl
            rcases List.mem_cons.mp hr with e1 | hr
            · rcases List.mem_cons.mp hp with e2 | hp
              · exact absurd (e1.trans e2.symm) ne
              · rw [e1]; exact .inl (hl.1 p hp)
            · rcases List.mem_cons.mp hp with e2 | hp
              · rw [e2]; exact .inr (hl.1 r hr)
              · exact ih hl.2 hr hp
        rcases tri h.pw hr hp e with t | t <;> omega
    subst this
    exact ne (Prod.ext (by omega) (by omega))
  · obtain ⟨q, hq, h1, h2⟩ := h.low p hp
    by_cases e : q = p
    · rw [← e]; exact hq
    · exact (hu q (h.sub q hq) e h1 h2).elim
end PL
set_option maxHeartbeats 2000000
namespace PL
open PySem PySem.Spec PyProof.Rows L2 PLt PLs
mutual
def noLT : D → Bool
  | .non => true
  | .bl _ => true
  | .int _ => true
  | .str _ => true
  | .tup l => noLTs l
  | .ins _ _ l => noLTs l
  | _ => false
def noLTs : List D → Bool
  | [] => true
  | d :: l => noLT d && noLTs l
end
mutual
def flT : D → Bool
  | .non => true
  | .bl _ => true
  | .int _ => true
  | .str _ => true
  | .tup l => flTs l
  | _ => false
def flTs : List D → Bool
  | [] => true
  | d :: l => flT d && flTs l
end
mutual
theorem Rp.noLT {K : PySem.W.Frag} {G : GS K} : ∀ {d : D} {v : V}, PL.noLT d = true → Rp K G v d → Rp K (gNoL G) v d
  | .non, _, _, h => by cases h; exact .non
  | .bl _, _, _, h => by cases h; exact .bl _
  | .int _, _, _, h => by cases h; exact .int _
  | .str _, _, _, h => by cases h; exact .str _
  | .tup l, _, q, h => by cases h with | tup h1 h2 => exact .tup (sqT_noL h1) (RpAll.noLT (by unfold PL.noLT at q; exact q) h2)
  | .ins _ _ l, _, q, h => by cases h with | ins h1 h2 h3 => exact .ins (noLst_keep h1 fun _ e => by cases e) h2 (RpAll.noLT (by unfold PL.noLT at q; exact q) h3)
  | .lst _, _, q, _ => by unfold PL.noLT at q; cases q
  | .dct _ _, _, q, _ => by unfold PL.noLT at q; cases q
  | .ty _, _, q, _ => by unfold PL.noLT at q; cases q
  | .cls _, _, q, _ => by unfold PL.noLT at q; cases q
  | .scr _, _, q, _ => by unfold PL.noLT at q; cases q
  | .exc _ _ _, _, q, _ => by unfold PL.noLT at q; cases q
  | .opq, _, q, _ => by unfold PL.noLT at q; cases q
  | .mo _, _, q, _ => by unfold PL.noLT at q; cases q
  | .set _ _, _, q, _ => by unfold PL.noLT at q; cases q
theorem RpAll.noLT {K : PySem.W.Frag} {G : GS K} : ∀ {ds : List D} {vs : List V}, noLTs ds = true → RpAll K G vs ds → RpAll K (gNoL G) vs ds
  | [], _, _, h => by cases h; exact .nil
  | d :: ds, _, q, h => by
    unfold noLTs at q
    rw [Bool.and_eq_true] at q
    cases h with | cons h1 h2 => exact .cons (Rp.noLT q.1 h1) (RpAll.noLT q.2 h2)
end
mutual
theorem Rp.flatT {K : PySem.W.Frag} {G G' : GS K} (hk : ∀ b o, G.f b = some o → (∀ xs, o ≠ .lst xs) → G'.f b = some o) : ∀ {d : D} {v : V}, flT d = true → Rp K G v d → Rp K G' v d
  | .non, _, _, h => by cases h; exact .non
  | .bl _, _, _, h => by cases h; exact .bl _
  | .int _, _, _, h => by cases h; exact .int _
  | .str _, _, _, h => by cases h; exact .str _
  | .tup l, _, q, h => by
    cases h with
    | tup h1 h2 =>
      refine .tup ?_ (RpAll.flatT hk (by unfold flT at q; exact q) h2)
      rcases h1 with (h | ⟨o, h⟩) | h
      · exact .inl (.inl (hk _ _ h fun _ e => by cases e))
      · exact .inl (.inr ⟨o, hk _ _ h fun _ e => by cases e⟩)
      · exact .inr h
  | .lst _, _, q, _ => by unfold flT at q; cases q
  | .ins _ _ _, _, q, _ => by unfold flT at q; cases q
  | .dct _ _, _, q, _ => by unfold flT at q; cases q
  | .ty _, _, q, _ => by unfold flT at q; cases q
  | .cls _, _, q, _ => by unfold flT at q; cases q
  | .scr _, _, q, _ => by unfold flT at q; cases q
  | .exc _ _ _, _, q, _ => by unfold flT at q; cases q
  | .opq, _, q, _ => by unfold flT at q; cases q
  | .mo _, _, q, _ => by unfold flT at q; cases q
  | .set _ _, _, q, _ => by unfold flT at q; cases q
theorem RpAll.flatT {K : PySem.W.Frag} {G G' : GS K} (hk : ∀ b o, G.f b = some o → (∀ xs, o ≠ .lst xs) → G'.f b = some o) : ∀ {ds : List D} {vs : List V}, flTs ds = true → RpAll K G vs ds → RpAll K G' vs ds
  | [], _, _, h => by cases h; exact .nil
  | d :: ds, _, q, h => by
    unfold flTs at q
    rw [Bool.and_eq_true] at q
    cases h with | cons h1 h2 => exact .cons (Rp.flatT hk q.1 h1) (RpAll.flatT hk q.2 h2)
end
section
variable {Y : Ctx} {k : Nat} {f : Addr} {fd : FuncData} {ps : List Str} {sp : SpD} {dvs : List V} {dds : List D} {x y : Str} {p pos pos' cpos : Pos} {e : Expr} {es : List Expr} {fa : TA} {t : DA}
def sNewCallT (i : Nat) (ED : DEnv → EDt) (sp : SpD) (dds : List D) (t : DA) : DS := fun DD ρ c => t ρ c fun ds c1 => noLTs (ds ++ dds) = true ∧ @Run sp (ds ++ dds) c1.bare (fun d c2 => ∃ l, d = .lst l ∧ flTs l = true ∧ @Nx DD.nx (ρ.set i (.ol l)) (c2.on c1.m)) (fun C ns es c2 => ED ρ C ns es (c2.on c1.m))
theorem ev_newCallT {i : Nat} {ED : DEnv → EDt} {DD : DEnds} {ρ : DEnv} {c : CN} : sNewCallT i ED sp dds t DD ρ c = t ρ c fun ds c1 => noLTs (ds ++ dds) = true ∧ @Run sp (ds ++ dds) c1.bare (fun d c2 => ∃ l, d = .lst l ∧ flTs l = true ∧ @Nx DD.nx (ρ.set i (.ol l)) (c2.on c1.m)) (fun C ns es c2 => ED ρ C ns es (c2.on c1.m)) := propext Iff.rfl
end
def dOne (i : Nat) (tb : DE) : DE := fun ρ c Q => olP ρ[i]? fun l => tb ρ c fun y c1 => Pl 60 (.lst l) ∧ Pl 60 y ∧ Q (.bl (!eqD (.lst l) y)) c1
def dOisa (i : Nat) : DE := fun ρ c Q => olP ρ[i]? fun l => Q (.bl true) c
section
variable {Y : Ctx} {b : Expr} {eb : TE} {tb : DE} {x : Str} {p : Pos} {k : Nat}
theorem ev_one {i : Nat} {ρ : DEnv} {c : CN} {Q : QD} : dOne i tb ρ c Q = olP ρ[i]? fun l => tb ρ c fun y c1 => Pl 60 (.lst l) ∧ Pl 60 y ∧ Q (.bl (!eqD (.lst l) y)) c1 := propext Iff.rfl
theorem ev_oisa {i : Nat} {ρ : DEnv} {c : CN} {Q : QD} : dOisa i ρ c Q = olP ρ[i]? fun l => Q (.bl true) c := propext Iff.rfl
end
end PL
set_option maxHeartbeats 2000000
namespace PL
open PySem PySem.Spec PyProof.Rows L2 PLt PLs
theorem nodup_le {α : Type} [DecidableEq α] : ∀ {l m : List α}, l.Nodup → (∀ x ∈ l, x ∈ m) → l.length ≤ m.length
  | [], m, _, _ => Nat.zero_le _
  | x :: l, m, nd, h => by
    have nd := List.nodup_cons.mp nd
    have hx := h x List.mem_cons_self
    have := nodup_le (l := l) (m := m.erase x) nd.2 fun y hy => by
      have ne : y ≠ x := fun e => nd.1 (e ▸ hy)
      exact (List.mem_erase_of_ne ne).mpr (h y (List.mem_cons_of_mem _ hy))
    rw [List.length_erase_of_mem hx] at this
    have pos := List.length_pos_of_mem hx
    rw [List.length_cons]; omega
def LinF (f : Fm) (xs : List Str) : Prop := ∀ l, l ∈ f.lays false ↔ ∃ x ∈ xs, l = [(0, x)]
theorem LinF.text (x : Str) : LinF (.text x) [x] := fun l => by simp [mem_text]
theorem LinF.choice {f g : Fm} {xs ys : List Str} (h : LinF f xs) (k : LinF g ys) : LinF (.choice f g) (xs ++ ys) := fun l => by
  rw [mem_choice, h l, k l]
  constructor
  · rintro (⟨x, hx, e⟩ | ⟨x, hx, e⟩)
    · exact ⟨x, List.mem_append_left _ hx, e⟩
    · exact ⟨x, List.mem_append_right _ hx, e⟩
  · rintro ⟨x, hx, e⟩
    exact (List.mem_append.mp hx).imp (fun h => ⟨x, h, e⟩) fun h => ⟨x, h, e⟩
theorem LinF.join {f g : Fm} {xs ys : List Str} (h : LinF f xs) (k : LinF g ys) : LinF (.join f g) (xs.flatMap fun x => ys.map (x ++ ·)) := fun l => by
  rw [mem_join]
  constructor
  · rintro ⟨a, ha, b, hb, rfl⟩
    obtain ⟨x, hx, rfl⟩ := (h a).mp ha
    obtain ⟨y, hy, rfl⟩ := (k b).mp hb
    exact ⟨x ++ y, List.mem_flatMap.mpr ⟨x, hx, List.mem_map.mpr ⟨y, hy, rfl⟩⟩, rfl⟩
  · rintro ⟨z, hz, rfl⟩
    obtain ⟨x, hx, hz⟩ := List.mem_flatMap.mp hz
    obtain ⟨y, hy, rfl⟩ := List.mem_map.mp hz
    exact ⟨_, (h _).mpr ⟨x, hx, rfl⟩, _, (k _).mpr ⟨y, hy, rfl⟩, rfl⟩
theorem LinF.count {f : Fm} {xs : List Str} (h : LinF f xs) (nd : xs.Nodup) : xs.length ≤ (f.lays false).length := by
  have := nodup_le (l := xs.map fun x => ([(0, x)] : List LRow)) (m := f.lays false) (List.Pairwise.map _ (fun a b ne e => ne (by simpa using e)) nd) fun l hl => by
    obtain ⟨x, hx, rfl⟩ := List.mem_map.mp hl
    exact (h _).mpr ⟨x, hx, rfl⟩
  rwa [List.length_map] at this
end PL
set_option maxHeartbeats 2000000
namespace PL
open PySem PySem.Spec PyProof.Rows L2 PLt PLs
end PL
set_option maxHeartbeats 2000000
namespace PL
open PySem PySem.Spec PyProof.Rows L2 PLt PLs
end PL
set_option maxHeartbeats 2000000
namespace PL
open PySem PySem.Spec PyProof.Rows L2 PLt PLs
def moA (x : D) (P : Addr → Prop) : Prop := ∃ a, x = .mo a ∧ P a
theorem ev_moA {a : Addr} {P : Addr → Prop} : moA (.mo a) P = P a := by
  apply propext; constructor
  · rintro ⟨b, e, h⟩; cases e; exact h
  · exact fun h => ⟨a, rfl, h⟩
def mI (C : Addr) (o : Option MO) [P : List Str → List D → Prop] : Prop := ∃ ns es, o = some (.ins C ns es) ∧ P ns es
theorem ev_mI {C : Addr} {ns : List Str} {es : List D} {P : List Str → List D → Prop} : @mI C (some (.ins C ns es)) P = P ns es := by
  apply propext; constructor
  · rintro ⟨_, _, e, h⟩; cases e; exact h
  · exact fun h => ⟨_, _, rfl, h⟩
def mL (o : Option MO) [P : List D → Prop] : Prop := ∃ l, o = some (.lst l) ∧ P l
theorem ev_mL {l : List D} {P : List D → Prop} : @mL (some (.lst l)) P = P l := by
  apply propext; constructor
  · rintro ⟨_, e, h⟩; cases e; exact h
  · exact fun h => ⟨_, rfl, h⟩
def mT (o : Option MO) [P : List (List Int) → List D → Prop] : Prop := ∃ ks l, o = some (.tab ks l) ∧ P ks l
theorem ev_mT {ks : List (List Int)} {l : List D} {P : List (List Int) → List D → Prop} : @mT (some (.tab ks l)) P = P ks l := by
  apply propext; constructor
  · rintro ⟨_, _, e, h⟩; cases e; exact h
  · exact fun h => ⟨_, _, rfl, h⟩
def fdP (f : Str) (ns : List Str) (es : List D) [P : D → Prop] : Prop := ∃ d, fldD f ns es = some d ∧ P d
theorem ev_fdT {f : Str} {ns : List Str} {d : D} {es : List D} {P : D → Prop} : @fdP f (f :: ns) (d :: es) P = P d := by
  apply propext; constructor
  · rintro ⟨_, e, h⟩; simp only [fldD, if_true] at e; cases e; exact h
  · exact fun h => ⟨_, by simp only [fldD, if_true], h⟩
theorem ev_fdF {f g : Str} {ns : List Str} {d : D} {es : List D} {P : D → Prop} (h : (f == g) = false) : @fdP f (g :: ns) (d :: es) P = @fdP f ns es P := by
  have h : ¬ f = g := by simpa using h
  unfold fdP
  simp only [fldD, if_neg h]
def putN (f : Str) : List Str → List Str
  | [] => [f]
  | g :: r => if g = f then g :: r else g :: putN f r
def putD (f : Str) (v : D) : List Str → List D → List D
  | g :: r, d :: ds => if g = f then v :: ds else d :: putD f v r ds
  | _, _ => [v]
theorem putN_nil {f : Str} : putN f [] = [f] := rfl
theorem putD_nil {f : Str} {v : D} : putD f v [] [] = [v] := rfl
theorem putN_T {f : Str} {r : List Str} : putN f (f :: r) = f :: r := by simp [putN]
theorem putD_T {f : Str} {v d : D} {r : List Str} {ds : List D} : putD f v (f :: r) (d :: ds) = v :: ds := by simp [putD]
theorem putN_F {f g : Str} {r : List Str} (h : (g == f) = false) : putN f (g :: r) = g :: putN f r := by
  have h : ¬ g = f := by simpa using h
  simp [putN, h]
theorem putD_F {f g : Str} {v d : D} {r : List Str} {ds : List D} (h : (g == f) = false) : putD f v (g :: r) (d :: ds) = d :: putD f v r ds := by
  have h : ¬ g = f := by simpa using h
  simp [putD, h]
theorem putF_N {f : Str} {y : V} : ∀ {fs : List (Str × V)}, (putF f y fs).map (·.1) = putN f (fs.map (·.1))
  | [] => rfl
  | (g, x) :: r => by
    unfold putF
    rw [List.map_cons, putN]
    by_cases h : g = f
    · rw [if_pos h, if_pos h]; rfl
    · rw [if_neg h, if_neg h, List.map_cons, putF_N]
theorem putF_D {K : PySem.W.Frag} {G : GS K} {f : Str} {y : V} {d : D} (ry : Rp K G y d) : ∀ {fs : List (Str × V)} {es : List D}, RpAll K G (fs.map (·.2)) es → RpAll K G ((putF f y fs).map (·.2)) (putD f d (fs.map (·.1)) es)
  | [], es, r => by cases r; exact .cons ry .nil
  | (g, x) :: r, es, h => by
    cases h with
    | @cons _ _ e es r1 r2 =>
      unfold putF
      rw [List.map_cons, putD]
      by_cases hg : g = f
      · rw [if_pos hg, if_pos hg]; exact .cons ry r2
      · rw [if_neg hg, if_neg hg]; exact .cons r1 (putF_D ry r2)
theorem put_self {c : CN} {a : Addr} {o : MO} : (c.put a o).m a = some o := if_pos rfl
theorem ev_mIp {C a : Addr} {c : CN} {ns : List Str} {es : List D} {P : List Str → List D → Prop} : @mI C ((c.put a (.ins C ns es)).m a) P = P ns es := by rw [put_self, ev_mI]
theorem ev_mLp {a : Addr} {c : CN} {l : List D} {P : List D → Prop} : @mL ((c.put a (.lst l)).m a) P = P l := by rw [put_self, ev_mL]
theorem ev_mTp {a : Addr} {c : CN} {ks : List (List Int)} {l : List D} {P : List (List Int) → List D → Prop} : @mT ((c.put a (.tab ks l)).m a) P = P ks l := by rw [put_self, ev_mT]
theorem put_ne {c : CN} {a b : Addr} {o : MO} (h : b ≠ a) : (c.put a o).m b = c.m b := if_neg h
theorem put_put {c : CN} {a : Addr} {o o' : MO} : (c.put a o).put a o' = c.put a o' := by
  unfold CN.put
  simp only [CN.mk.injEq, true_and]
  funext b
  by_cases h : b = a
  · rw [if_pos h, if_pos h]
  · rw [if_neg h, if_neg h, if_neg h]
theorem put_n {c : CN} {a : Addr} {o : MO} : (c.put a o).n = c.n := rfl
theorem at_m {c : CN} {n : Nat} : (c.at n).m = c.m := rfl
theorem at_n {c : CN} {n : Nat} : (c.at n).n = n := rfl
section
variable {Y : Ctx} {k : Nat} {C f fI : Addr} {fd : FuncData} {x fn m : Str} {ps : List Str} {e o value a b : Expr} {es : List Expr} {te tv ta tb : TE} {de dv da db : DE} {fa : TA} {t : DA} {p pos pos' apos tpos cpos : Pos} {sp : SpD} {dvs : List V} {dds : List D} {ds : List Value} {pl : Sem Bool}
theorem Evo.at_mo {K : PySem.W.Frag} {G G' : GS K} {H H' : Hp} {c c' : CN} (e : Evo G H c G' H' c') {a : Addr} {C : Addr} {ns : List Str} {es : List D} (h : c'.m a = some (.ins C ns es)) : ∃ dx fs, H' a = some (.ins C dx fs) ∧ fs.map (·.1) = ns ∧ RpAll K G' (fs.map (·.2)) es := by
  obtain ⟨_, u, hu, dx, fs, rfl, h2, h3⟩ := e.ok.mo a _ h
  exact ⟨dx, fs, hu, h2, h3⟩
def dFldM (C : Addr) (f : Str) (t : DE) : DE := fun ρ c Q => t ρ c fun x c1 => moA x fun a => @mI C (c1.m a) fun ns es => @fdP f ns es fun d => Q d c1
theorem pd_fldM (cl : Cls Y.X.K C) (no : NoAttr Y.X.K C fn) (he : PD Y e te de) (hb : attributeBase e fn Y.X.env (eval e Y.X.env) = eval e Y.X.env := by rfl) : PD Y (.Attribute e fn pos) (tFld Y.X.K te fn) (dFldM C fn de) :=
  ⟨pe_fld he.p hb, fun G H c ρ σ Qd Q R q kk => he.s G H c ρ σ _ _ R q fun x v G1 H1 c1 ev r ⟨a, ex, ns, es, hm, d, hf, q⟩ => by
    subst ex
    cases r with
    | mo =>
      obtain ⟨dx, fs, hu, h2, h3⟩ := ev.at_mo hm
      obtain ⟨u, hl, ru⟩ := fldD_rp h2 h3 hf
      exact ⟨a, C, dx, fs, u, rfl, hu, cl, no, hl, kk d u G1 H1 c1 ev ru q⟩⟩
def sFldM (C : Addr) (f : Str) (de dv : DE) : DS := fun DD ρ c => dv ρ c fun d c1 => de ρ c1 fun x c2 => moA x fun a => @mI C (c2.m a) fun ns es => ns.length < 1000 ∧ @Nx DD.nx ρ (c2.put a (.ins C (putN f ns) (putD f d ns es)))
theorem pds_fldM (cl : Cls Y.X.K C) (no : NoAttr Y.X.K C fn) (ho : PD Y o te de) (hv : PD Y value tv dv) (hs : swapsWith value (some (.Attribute o fn pos')) pos.line Y.X.env = pure false := by rfl) : PDS Y (.Assign [.Attribute o fn pos'] value pos) (sFld Y.X.K te tv fn) (sFldM C fn de dv) :=
  ⟨ps_fld ho.p hv.p hs, fun P G H c ρ σ DD EE K R q => hv.s G H c ρ σ _ _ R.r q fun d y G1 H1 c1 e1 ry q => ho.s G1 H1 c1 ρ σ _ _ (R.r.evo' e1) q fun x v G2 H2 c2 e2 rx ⟨a, ex, ns, es, hm, hl, q⟩ => by
    subst ex
    cases rx with
    | mo =>
      obtain ⟨dx, fs, hu, h2, h3⟩ := e2.at_mo hm
      subst h2
      refine ⟨a, C, dx, fs, rfl, hu, cl, no, by simpa using hl, ?_⟩
      have ep : Evo G2 H2 c2 G2 (upd H2 a (.ins C dx (putF fn y fs))) (c2.put a (.ins C (putN fn (fs.map fun z => z.1)) (putD fn d (fs.map fun z => z.1) es))) := Evo.putM e2.ok hm ⟨dx, putF fn y fs, rfl, putF_N, putF_D (ry.mono e2.le) h3⟩
      exact K.nx _ _ _ _ _ ((R.evo (e1.trans e2)).evo ep) q⟩
def sFldAugM (C : Addr) (f : Str) (rd : RD2) (de dv : DE) : DS := fun DD ρ c => de ρ c fun x c1 => moA x fun a => @mI C (c1.m a) fun ns es => @fdP f ns es fun d0 => dv ρ c1 fun d1 c2 => rd d0 d1 c2 fun z c3 => @mI C (c3.m a) fun ns' es' => ns'.length < 1000 ∧ @Nx DD.nx ρ (c3.put a (.ins C (putN f ns') (putD f z ns' es')))
theorem pds_fldAugM {op : Operator} {r : R2} {rd : RD2} (cl : Cls Y.X.K C) (no : NoAttr Y.X.K C fn) (hop : OpR Y.X (inplaceOp op) r) (br : Br2 Y.X.K r rd) (ho : PD Y o te de) (hv : PD Y value tv dv) : PDS Y (.AugAssign (.Attribute o fn tpos) op value pos) (sFldAug Y.X.K te tv r fn) (sFldAugM C fn rd de dv) :=
  ⟨ps_fldaug ho.p hv.p fun pins s σ H x y u v Q I rx ry q => hop pins s σ H x y u v Q I rx ry q, fun P G H c ρ σ DD EE K R q => ho.s G H c ρ σ _ _ R.r q fun x v G1 H1 c1 e1 rx ⟨a, ex, ns, es, hm, d0, hf, q⟩ => by
    subst ex
    cases rx with
    | mo =>
      obtain ⟨dx, fs, hu, h2, h3⟩ := e1.at_mo hm
      obtain ⟨u, hl, ru⟩ := fldD_rp h2 h3 hf
      refine ⟨a, C, dx, fs, u, rfl, hu, cl, no, hl, ?_⟩
      refine hv.s G1 H1 c1 ρ σ _ _ (R.r.evo' e1) q fun d1 y G2 H2 c2 e2 ry q => ?_
      refine br G2 H2 c2 u y d0 d1 _ _ e2.ok (ru.mono e2.le) ry q fun z w G3 H3 c3 e3 rw ⟨ns', es', hm', hl', q⟩ => ?_
      obtain ⟨dx', fs', hu', h2', h3'⟩ := e3.at_mo hm'
      subst h2'
      refine ⟨dx', fs', hu', by simpa using hl', ?_⟩
      have ep : Evo G3 H3 c3 G3 (upd H3 a (.ins C dx' (putF fn w fs'))) (c3.put a (.ins C (putN fn (fs'.map fun z => z.1)) (putD fn z (fs'.map fun z => z.1) es'))) := Evo.putM e3.ok hm' ⟨dx', putF fn w fs', rfl, putF_N, putF_D rw h3'⟩
      exact K.nx _ _ _ _ _ ((R.evo ((e1.trans e2).trans e3)).evo ep) q⟩
def dMethM (C : Addr) (m : Str) (ED : DEnv → EDt) (sp : SpD) (dds : List D) (de : DE) (t : DA) : DE := fun ρ c Q => de ρ c fun x c1 => moA x fun a => @mI C (c1.m a) fun ns es => ns.contains m = false ∧ t ρ c1 fun ds c2 => @Run sp (.mo a :: (ds ++ dds)) c2 Q (ED ρ)
theorem methM_sim (g : Y.Good k) (hd : ∀ G, RpAll Y.X.K G dvs dds) (he : SimE Y te de) (ha : SimA Y fa t) : SimE Y (tMethE C m (spOf Y.X.K sp) dvs Y.E te fa) (dMethM C m Y.ED sp dds de t) := fun G H c ρ σ Qd Q R q kk =>
  he G H c ρ σ _ _ R q fun x v G1 H1 c1 ev r ⟨a, ex, ns, es, hm, hn, q⟩ => by
    subst ex
    cases r with
    | mo =>
      obtain ⟨dx, fs, hu, h2, h3⟩ := ev.at_mo hm
      refine ⟨a, dx, fs, rfl, hu, lookup_nf (by rw [h2]; exact hn), ?_⟩
      refine ha G1 H1 c1 ρ σ _ _ (R.evo' ev) q fun ds vs G2 H2 c2 e2 rr q => ?_
      exact ⟨G2, c2, .mo a :: (ds ++ dds), Qd, Y.ED ρ, e2.ok, .cons .mo (rr.append (hd _)), q, fun d v G' H' c' e' r' q' => kk d v G' H' c' ((ev.trans e2).trans e') r' q',
        fun C ns es dx G' H' c' e' r' q' => g.err ρ σ G H c R C ns es dx G' H' c' ((ev.trans e2).trans e') r' q'⟩
theorem pd_methM (g : Y.Good k) (F : FnOk Y.X.prog Y.X.w Y.X.K Y.X.mg Y.X.base (L2.CX Y.X.prog Y.X.w) k f fd ps (spOf Y.X.K sp)) (cm : CalM Y.X.K C m f fd ps dvs) (hdd : ∀ G, RpAll Y.X.K G dvs dds) (he : PD Y o te de) (ha : PDA Y (e :: es) fa t)
    (hst : starEach (e :: es) Y.X.env = (false, eval e Y.X.env) :: starEach es Y.X.env := by rfl) (hpl : (backTo pos (starEach es Y.X.env)).any (·.1) = false := by rfl)
    (ht : eval (.Call (.Attribute o m apos) (e :: es) [] pos) Y.X.env = (do
      let ov ← eval o Y.X.env
      standAt apos.atName
      let (f, first) ← holding [ov] (getMethod ov m pl)
      callWith pos f first (backTo pos (starEach (e :: es) Y.X.env)) (backToKw pos (keywordEach [] Y.X.env))) := by rfl) :
    PD Y (.Call (.Attribute o m apos) (e :: es) [] pos) (tMethE C m (spOf Y.X.K sp) dvs Y.E te fa) (dMethM C m Y.ED sp dds de t) := by
  obtain ⟨ds, h1, h2⟩ := cm.b
  exact ⟨pe_methE he.p cm.c cm.m F g.room h2 h1 g.pass ha.p hst hpl ht, methM_sim g hdd he.s ha.s⟩
theorem pd_methM0 (g : Y.Good k) (F : FnOk Y.X.prog Y.X.w Y.X.K Y.X.mg Y.X.base (L2.CX Y.X.prog Y.X.w) k f fd ps (spOf Y.X.K sp)) (cm : CalM Y.X.K C m f fd ps dvs) (hdd : ∀ G, RpAll Y.X.K G dvs dds) (he : PD Y o te de)
    (ht : eval (.Call (.Attribute o m apos) [] [] pos) Y.X.env = (do
      let ov ← eval o Y.X.env
      standAt apos.atName
      let (f, first) ← holding [ov] (getMethod ov m pl)
      callWith pos f first (backTo pos (starEach [] Y.X.env)) (backToKw pos (keywordEach [] Y.X.env))) := by rfl) :
    PD Y (.Call (.Attribute o m apos) [] [] pos) (tMethE C m (spOf Y.X.K sp) dvs Y.E te tNil) (dMethM C m Y.ED sp dds de dNil) := by
  obtain ⟨ds, h1, h2⟩ := cm.b
  exact ⟨pe_meth0E he.p cm.c cm.m F g.room h2 h1 g.pass ht, methM_sim g hdd he.s pda_nil.s⟩
def dMakeM (C : Addr) (sp : SpD) (t : DA) : DE := fun ρ c Q => t ρ c fun ds c1 => ∀ a, c1.m a = none → @Run sp (.mo a :: ds) (c1.put a (.ins C [] [])) (fun d c2 => d = .non ∧ Q (.mo a) c2) (fun _ _ _ _ => False)
theorem makeM_sim {sp' : Sp} (hsp : sp' = spOf Y.X.K sp) (ha : SimA Y fa t) : SimE Y (tMake C sp' [] (fun _ _ _ => False) fa) (dMakeM C sp t) := by
  subst hsp
  intro G H c ρ σ Qd Q R q kk
  refine ha G H c ρ σ _ _ R q fun ds vs G1 H1 c1 ev rr q a dx na nd ne => ?_
  have e1 := Evo.laidU ev.ok (.own a) nd
  have na' : upd H1 dx (.own a) a = none := by rw [upd_ne (Ne.symm ne)]; exact na
  obtain ⟨e2, nm⟩ := Evo.newM e1.ok (o := .ins C [] []) (u := .ins C dx []) na' ⟨dx, [], rfl, rfl, .nil⟩
  have e12 := (ev.trans e1).trans e2
  refine ⟨_, _, .mo a :: ds, _, _, e2.ok, .cons .mo (by rw [List.append_nil]; exact rr.mono (e1.le.trans e2.le)), q a nm, fun d v G' H' c' e' r' ⟨hd, q'⟩ => ?_, fun _ _ _ _ _ _ _ _ _ z => z⟩
  subst hd
  cases r'
  exact ⟨rfl, kk (.mo a) (.ref a) G' H' c' (e12.trans e') .mo q'⟩
theorem pd_makeM (g : Y.Good (k + 1)) (T : Mk Y.X.K C fI) (hm : Y.X.mg x = some (.ref C)) (F : FnOk Y.X.prog Y.X.w Y.X.K Y.X.mg Y.X.base (L2.CX Y.X.prog Y.X.w) k fI fd ps (spOf Y.X.K sp)) (hb : Binds Y.X.K fd ps []) (ha : PDA Y (e :: es) fa t)
    (hg : Gl Y.X x := by rfl) (hdb : (x == ("__debug__" : Str)) = false := by decide) (he : starEach (e :: es) Y.X.env = (false, eval e Y.X.env) :: starEach es Y.X.env := by rfl) (hpl : (backTo pos (starEach es Y.X.env)).any (·.1) = false := by rfl) :
    PD Y (.Call (.Name x p) (e :: es) [] pos) (tMake C (spOf Y.X.K sp) [] (fun _ _ _ => False) fa) (dMakeM C sp t) :=
  ⟨pe_make T F g.room hg hm hb .nil noE ha.p hdb he hpl, makeM_sim rfl ha.s⟩
end
section
variable {C : Addr} {f m : Str} {de dv : DE} {t : DA} {DD : DEnds} {ρ : DEnv} {c : CN} {Q : QD} {rd : RD2} {ED : DEnv → EDt} {sp : SpD} {dds : List D}
theorem ev_fldM : dFldM C f de ρ c Q = de ρ c fun x c1 => moA x fun a => @mI C (c1.m a) fun ns es => @fdP f ns es fun d => Q d c1 := propext Iff.rfl
theorem ev_sfldM : sFldM C f de dv DD ρ c = dv ρ c fun d c1 => de ρ c1 fun x c2 => moA x fun a => @mI C (c2.m a) fun ns es => ns.length < 1000 ∧ @Nx DD.nx ρ (c2.put a (.ins C (putN f ns) (putD f d ns es))) := propext Iff.rfl
theorem ev_sfldAugM : sFldAugM C f rd de dv DD ρ c = de ρ c fun x c1 => moA x fun a => @mI C (c1.m a) fun ns es => @fdP f ns es fun d0 => dv ρ c1 fun d1 c2 => rd d0 d1 c2 fun z c3 => @mI C (c3.m a) fun ns' es' => ns'.length < 1000 ∧ @Nx DD.nx ρ (c3.put a (.ins C (putN f ns') (putD f z ns' es'))) := propext Iff.rfl
theorem ev_methM : dMethM C m ED sp dds de t ρ c Q = de ρ c fun x c1 => moA x fun a => @mI C (c1.m a) fun ns es => ns.contains m = false ∧ t ρ c1 fun ds c2 => @Run sp (.mo a :: (ds ++ dds)) c2 Q (ED ρ) := propext Iff.rfl
theorem ev_makeM : dMakeM C sp t ρ c Q = t ρ c fun ds c1 => ∀ a, c1.m a = none → @Run sp (.mo a :: ds) (c1.put a (.ins C [] [])) (fun d c2 => d = .non ∧ Q (.mo a) c2) (fun _ _ _ _ => False) := propext Iff.rfl
end
end PL
set_option maxHeartbeats 2000000
namespace PL
open PySem PySem.Spec PyProof.Rows L2 PLt PLs
section
variable {Y : Ctx} {o e b : Expr} {te eb : TE} {de db : DE} {fa : TA} {t : DA} {apos cpos pos p : Pos} {t0 : DE}
theorem Evo.at_lst {K : PySem.W.Frag} {G G' : GS K} {H H' : Hp} {c c' : CN} (e : Evo G H c G' H' c') {a : Addr} {l : List D} (h : c'.m a = some (.lst l)) : ∃ xs, H' a = some (.lst xs) ∧ RpAll K G' xs l := by
  obtain ⟨_, u, hu, xs, rfl, h2⟩ := e.ok.mo a _ h
  exact ⟨xs, hu, h2⟩
def dNewLM : DE := fun _ c Q => ∀ b, c.m b = none → Q (.mo b) (c.put b (.lst []))
theorem pd_newLM : PD Y (.List [] pos) (tLst tNil) dNewLM := by
  refine ⟨pe_lst pa_nil, fun G H c ρ σ Qd Q R q kk => ⟨Nat.zero_le _, fun p np => ?_⟩⟩
  obtain ⟨ev, nm⟩ := Evo.newM R.ok (o := .lst []) (u := .lst []) np ⟨[], rfl, .nil⟩
  exact kk _ _ _ _ _ ev .mo (q p nm)
def sAppM (de : DE) (t : DA) : DS := fun DD ρ c => de ρ c fun x c1 => moA x fun a => @mL (c1.m a) fun _ => t ρ c1 fun ds c2 => hd1 ds fun d => @mL (c2.m a) fun l => l.length < 16777216 ∧ @Nx DD.nx ρ (c2.put a (.lst (l ++ [d])))
theorem pds_appM (ho : PD Y o te de) (ha : PDA Y [e] fa t)
    (hfew : ((backTo cpos (starEach [e] Y.X.env)).all (fun x => !x.1) && (backToKw cpos (keywordEach [] Y.X.env)).all (fun x => x.1.isSome)
      && decide ([e].length + ([] : List Keyword).length + (if ([] : List Keyword).isEmpty then 0 else 1) < 30)) = true := by rfl)
    (hline : (apos.endLine == cpos.line) = true := by rfl) (hs : starEach [e] Y.X.env = (false, eval e Y.X.env) :: starEach [] Y.X.env := by rfl) (hplain : (backTo cpos (starEach [] Y.X.env)).any (·.1) = false := by rfl)
    (hbase : attributeBase o "append" Y.X.env (eval o Y.X.env) = eval o Y.X.env := by rfl) (hsw : swapsWith (.Call (.Attribute o "append" apos) [e] [] cpos) none pos.line Y.X.env = pure false := by rfl) :
    PDS Y (.Expr (.Call (.Attribute o "append" apos) [e] [] cpos) pos) (tDrop (tBM Y.X.K "list" rAppend te fa)) (sAppM de t) := by
  refine ⟨ps_expr (pe_bm PySem.F.plainAttrs_list PySem.F.slot_list_append PySem.F.type_list_append mt_append ho.p ha.p hbase hfew hline hs hplain) hsw, ?_⟩
  intro P G H c ρ σ DD EE K R q
  refine ho.s G H c ρ σ _ _ R.r q fun x v G1 H1 c1 e1 rx ⟨a, ex, l1, hm1, q⟩ => ?_
  subst ex
  cases rx with
  | mo =>
    obtain ⟨xs1, hu1, _⟩ := e1.at_lst hm1
    refine .inl ⟨rfl, _, SqL.of hu1⟩ |> fun z => ⟨z, ?_⟩
    refine ha.s G1 H1 c1 ρ σ _ _ (R.r.evo' e1) q fun ds vs G2 H2 c2 e2 rr ⟨d, ed, l, hm, hl, q⟩ => ?_
    subst ed
    cases rr with
    | cons r1 rr =>
      cases rr
      obtain ⟨xs, hu, h5⟩ := e2.at_lst hm
      have ep : Evo G2 H2 c2 G2 (upd H2 a (.lst (xs ++ [_]))) (c2.put a (.lst (l ++ [d]))) := Evo.putM e2.ok hm ⟨_, rfl, h5.append (.cons r1 .nil)⟩
      exact ⟨a, xs, _, rfl, rfl, hu, by rw [h5.length, sizeLine_eq]; exact hl, K.nx _ _ _ _ _ ((R.evo (e1.trans e2)).evo ep) q⟩
def dPopM (de : DE) : DE := fun ρ c Q => de ρ c fun x c1 => moA x fun a => @mL (c1.m a) fun l => ∃ l' d, l = l' ++ [d] ∧ Q d (c1.put a (.lst l'))
theorem RpAll.unsnoc {K : PySem.W.Frag} {G : GS K} {xs : List V} {l : List D} {d : D} (h : RpAll K G xs (l ++ [d])) : ∃ ys v, xs = ys ++ [v] ∧ RpAll K G ys l ∧ Rp K G v d := by
  have hl := h.length
  simp only [List.length_append, List.length_cons, List.length_nil] at hl
  have h1 := h.take l.length
  rw [List.take_left] at h1
  have h2 := h.drop l.length
  rw [List.drop_left] at h2
  have e : xs = xs.take l.length ++ xs.drop l.length := (List.take_append_drop _ _).symm
  generalize xs.drop l.length = zs at *
  cases h2 with
  | cons r1 r2 =>
    cases r2
    exact ⟨_, _, e, h1, r1⟩
theorem pd_popM (ho : PD Y o te de) (hbase : attributeBase o "pop" Y.X.env (eval o Y.X.env) = eval o Y.X.env := by rfl) (hline : (apos.endLine == cpos.line) = true := by rfl) :
    PD Y (.Call (.Attribute o "pop" apos) [] [] cpos) (tBM0 Y.X.K "list" rPop te) (dPopM de) := by
  refine ⟨pe_bm0 PySem.F.plainAttrs_list PySem.F.slot_list_pop PySem.F.type_list_pop mt_pop ho.p hbase hline, fun G H c ρ σ Qd Q R q kk => ho.s G H c ρ σ _ _ R q fun x v G1 H1 c1 e1 rx ⟨a, ex, l, hm, l', d, el, q⟩ => ?_⟩
  subst ex el
  cases rx with
  | mo =>
    obtain ⟨xs, hu, h5⟩ := e1.at_lst hm
    obtain ⟨ys, y, rfl, h6, r⟩ := h5.unsnoc
    refine ⟨.inl ⟨rfl, _, SqL.of hu⟩, a, ys ++ [y], y, rfl, rfl, hu, by simp, ?_⟩
    rw [List.dropLast_concat]
    have ep : Evo G1 H1 c1 G1 (upd H1 a (.lst ys)) (c1.put a (.lst l')) := Evo.putM e1.ok hm ⟨_, rfl, h6⟩
    exact kk d y _ _ _ (e1.trans ep) r q
def dIxM (de db : DE) : DE := fun ρ c Q => de ρ c fun x c1 => db ρ c1 fun y c2 => moA x fun a => asI y fun k => @mL (c2.m a) fun l => @atP (L2.atI l k) fun d => Q d c2
theorem pd_ixM (ho : PD Y o te de) (hb : PD Y b eb db) (hs : PlainIx b := by exact fun _ _ => rfl) : PD Y (.Subscript o b pos) (tOp (rIx Y.X.K) te eb) (dIxM de db) := by
  refine ⟨pe_ix ix_seq ho.p hb.p hs, fun G H c ρ σ Qd Q R q k => ?_⟩
  refine two R ho.s hb.s q fun x y u v G2 H2 c2 ev rx ry q => ?_
  obtain ⟨a, ex, j, ey, l, hm, d, hd, q⟩ := q
  subst ex ey
  cases rx with
  | mo =>
    cases ry
    obtain ⟨xs, hu, h5⟩ := ev.at_lst hm
    obtain ⟨w, hw, rw⟩ := h5.atI hd
    exact .inl ⟨a, xs, j, w, rfl, rfl, SqL.of hu, hw, k d w G2 H2 c2 ev rw q⟩
def dLenM (de : DE) : DE := fun ρ c Q => de ρ c fun x c1 => moA x fun a => @mL (c1.m a) fun l => Q (.int (l.length : Nat)) c1
end
section
variable {de db : DE} {t : DA} {DD : DEnds} {ρ : DEnv} {c : CN} {Q : QD}
theorem ev_newLM : dNewLM ρ c Q = ∀ b, c.m b = none → Q (.mo b) (c.put b (.lst [])) := propext Iff.rfl
theorem ev_sappM : sAppM de t DD ρ c = de ρ c fun x c1 => moA x fun a => @mL (c1.m a) fun _ => t ρ c1 fun ds c2 => hd1 ds fun d => @mL (c2.m a) fun l => l.length < 16777216 ∧ @Nx DD.nx ρ (c2.put a (.lst (l ++ [d]))) := propext Iff.rfl
theorem ev_popM : dPopM de ρ c Q = de ρ c fun x c1 => moA x fun a => @mL (c1.m a) fun l => ∃ l' d, l = l' ++ [d] ∧ Q d (c1.put a (.lst l')) := propext Iff.rfl
theorem ev_ixM : dIxM de db ρ c Q = de ρ c fun x c1 => db ρ c1 fun y c2 => moA x fun a => asI y fun k => @mL (c2.m a) fun l => @atP (L2.atI l k) fun d => Q d c2 := propext Iff.rfl
theorem ev_lenM : dLenM de ρ c Q = de ρ c fun x c1 => moA x fun a => @mL (c1.m a) fun l => Q (.int (l.length : Nat)) c1 := propext Iff.rfl
end
end PL
set_option maxHeartbeats 2000000
namespace PLt
open PySem PySem.Spec PyProof.Rows L2
abbrev TabL := List (List Int × Addr × V)
def valT (L : TabL) (k : List Int) : Option V := (L.find? fun p => decide (p.1 = k)).map (·.2.2)
def putL (L : TabL) (k : List Int) (b : Addr) (v : V) : TabL := if (valT L k).isSome = true then L.map (fun p => if p.1 = k then (p.1, p.2.1, v) else p) else L ++ [(k, b, v)]
theorem TabR.val {L : TabL} {xs : List (List Int × Addr × Value)} (r : TabR L xs) (k : List Int) : RelO (valT L k) ((atKey xs k).map (·.2)) := by
  induction r with
  | nil => exact True.intro
  | @cons p q ps qs h t ih =>
    obtain ⟨h1, _, h2⟩ := h
    unfold valT atKey at *
    by_cases e : p.1 = k
    · have e' : q.1 = k := h1.symm.trans e
      simp only [List.find?_cons, e, e', decide_true, Option.map_some]
      exact h2
    · have e' : ¬ q.1 = k := fun z => e (h1.trans z)
      simp only [List.find?_cons, e, e', decide_false]
      exact ih
theorem TabR.put {L : TabL} {xs : List (List Int × Addr × Value)} (r : TabR L xs) (k : List Int) (b : Addr) {v : V} {u : Value} (rv : RelV v u) : TabR (putL L k b v) (storedH xs k b u) := by
  have e : (valT L k).isSome = (atKey xs k).isSome := by rw [(r.val k).isSome_eq, Option.isSome_map]
  unfold putL storedH
  rw [e]
  by_cases q : (atKey xs k).isSome = true
  · rw [if_pos q, if_pos q]
    clear e q
    induction r with
    | nil => exact .nil
    | @cons p q ps qs h t ih =>
      rw [List.map_cons, List.map_cons]
      refine .cons ?_ ih
      obtain ⟨h1, h2, h3⟩ := h
      unfold putAt
      by_cases e : p.1 = k
      · rw [if_pos e, if_pos (h1.symm.trans e)]; exact ⟨h1, h2, rv⟩
      · rw [if_neg e, if_neg (fun z => e (h1.trans z))]; exact ⟨h1, h2, h3⟩
  · rw [if_neg q, if_neg q]; exact Paired.snoc r ⟨rfl, rfl, rv⟩
section
variable {X : Cx} {pins : List (Addr × Obj)} {σ : L2.St} {H : Hp} {s : Shared} {a b : Addr} {L : TabL} {k : List Int} {v : V} {u r : Value} {A : Around} {E : Value → Shared → Prop}
end
def TK (K : W.Frag) (H : Hp) (x y : V) (P : Addr → Addr → TabL → List Int → Prop) : Prop := ∃ a b L k, x = .ref a ∧ y = .ref b ∧ H a = some (TabO a L) ∧ (∀ q ∈ L, KeyN K H q.1 q.2.1) ∧ KeyN K H k b ∧ P a b L k
def sTPut (K : W.Frag) (td ty tv : TE) : TS := fun D σ H => tv σ H fun v H1 => td σ H1 fun x H2 => ty σ H2 fun y H3 => TK K H3 x y fun a b L k => L.length < sizeLine ∧ D.nx σ (upd H3 a (TabO a (putL L k b v)))
section
variable {X : Cx} {o i e value : Expr} {pos pos' tpos : Pos} {td ty tv : TE}
end
end PLt
set_option maxHeartbeats 2000000
namespace PL
open PySem PySem.Spec PyProof.Rows L2 PLt PLs
def tabGet : List (List Int) → List D → List Int → Option D
  | k :: ks, d :: ds, q => if k = q then some d else tabGet ks ds q
  | _, _, _ => none
def tabRep : List (List Int) → List D → List Int → D → List D
  | k :: ks, e :: es, q, d => (if k = q then d else e) :: tabRep ks es q d
  | _, es, _, _ => es
def tabPutK (ks : List (List Int)) (q : List Int) : List (List Int) := if q ∈ ks then ks else ks ++ [q]
def tabPutD (ks : List (List Int)) (ds : List D) (q : List Int) (d : D) : List D := if q ∈ ks then tabRep ks ds q d else ds ++ [d]
section
variable {K : PySem.W.Frag} {G : GS K}
end
def numD : D → Option Int
  | .int n => some n
  | .bl b => some (if b then 1 else 0)
  | _ => none
def numsL : List D → Option (List Int)
  | [] => some []
  | d :: l => (numD d).bind fun n => (numsL l).map (n :: ·)
def numsP (y : D) (P : List Int → Prop) : Prop := ∃ l ns, y = .tup l ∧ numsL l = some ns ∧ P ns
theorem ev_nums4 {a : Int} {b : Bool} {c d : Int} {P : List Int → Prop} : numsP (.tup [.int a, .bl b, .int c, .int d]) P = P [a, if b = true then 1 else 0, c, d] := by
  apply propext; constructor
  · rintro ⟨_, _, e, h, q⟩
    cases e
    simp only [numsL, numD, Option.bind_some, Option.map_some, Option.some.injEq] at h
    subst h; exact q
  · exact fun h => ⟨_, _, rfl, rfl, h⟩
section
variable {Y : Ctx} {o i value : Expr} {te ti tv : TE} {de di dv : DE} {pos pos' : Pos} {k : Nat}
def dNewT : DE := fun _ c Q => ∀ b, c.m b = none → Q (.mo b) (c.put b (.tab [] []))
def dTGet (de di : DE) : DE := fun ρ c Q => de ρ c fun x c1 => di ρ c1 fun y c2 => moA x fun a => @mT (c2.m a) fun ks l => numsP y fun k => @atP (tabGet ks l k) fun d => Q d c2
def dTNotIn (di de : DE) : DE := fun ρ c Q => di ρ c fun y c1 => de ρ c1 fun x c2 => moA x fun a => @mT (c2.m a) fun ks _ => numsP y fun k => Q (.bl (!decide (k ∈ ks))) c2
def sTPut (de di dv : DE) : DS := fun DD ρ c => dv ρ c fun d c1 => de ρ c1 fun x c2 => di ρ c2 fun y c3 => moA x fun a => @mT (c3.m a) fun ks l => numsP y fun k => ks.length < 16777216 ∧ @Nx DD.nx ρ (c3.put a (.tab (tabPutK ks k) (tabPutD ks l k d)))
end
section
variable {de di dv : DE} {DD : DEnds} {ρ : DEnv} {c : CN} {Q : QD}
theorem ev_newT : dNewT ρ c Q = ∀ b, c.m b = none → Q (.mo b) (c.put b (.tab [] [])) := propext Iff.rfl
theorem ev_tget : dTGet de di ρ c Q = de ρ c fun x c1 => di ρ c1 fun y c2 => moA x fun a => @mT (c2.m a) fun ks l => numsP y fun k => @atP (tabGet ks l k) fun d => Q d c2 := propext Iff.rfl
theorem ev_tnotin : dTNotIn di de ρ c Q = di ρ c fun y c1 => de ρ c1 fun x c2 => moA x fun a => @mT (c2.m a) fun ks _ => numsP y fun k => Q (.bl (!decide (k ∈ ks))) c2 := propext Iff.rfl
theorem ev_tput : sTPut de di dv DD ρ c = dv ρ c fun d c1 => de ρ c1 fun x c2 => di ρ c2 fun y c3 => moA x fun a => @mT (c3.m a) fun ks l => numsP y fun k => ks.length < 16777216 ∧ @Nx DD.nx ρ (c3.put a (.tab (tabPutK ks k) (tabPutD ks l k d))) := propext Iff.rfl
end
end PL
set_option maxHeartbeats 2000000
namespace PL
open PySem PySem.Spec PyProof.Rows L2 PLt PLs
def itemsD : List Key → List D → List D
  | k :: ks, d :: ds => .tup [kD k, d] :: itemsD ks ds
  | _, _ => []
section
variable {Y : Ctx} {e : Expr} {ee : TE} {te : DE} {apos cpos tpos : Pos} {elts : List Expr} {kk : Nat}
def diItems (te : DE) : DI := fun ρ c Q => te ρ c fun x c1 => dctP x fun ks ds => Q (itemsD ks ds) c1
theorem ev_items {ρ : DEnv} {c : CN} {Q : List D → CN → Prop} : diItems te ρ c Q = te ρ c fun x c1 => dctP x fun ks ds => Q (itemsD ks ds) c1 := propext Iff.rfl
end
section
variable {Y : Ctx} {e : Expr} {ee : TE} {te : DE} {fa : TA} {t : DA} {x : Str} {p pos pos' cpos p0 : Pos}
def sNewDC (i : Nat) (t : DA) : DS := fun DD ρ c => t ρ c fun ds c1 => hd1 ds fun d => dctP d fun ks es => @Nx DD.nx (ρ.set i (.od ks es)) c1
theorem ev_newDC {i : Nat} {DD : DEnds} {ρ : DEnv} {c : CN} : sNewDC i t DD ρ c = t ρ c fun ds c1 => hd1 ds fun d => dctP d fun ks es => @Nx DD.nx (ρ.set i (.od ks es)) c1 := propext Iff.rfl
end
end PL
set_option maxHeartbeats 2000000
namespace PLt
open PySem PySem.Spec PyProof.Rows L2
section
variable {X : Cx} {pins : List (Addr × Obj)} {σ : L2.St} {H : Hp} {s : Shared}
end
end PLt
namespace PL
open PySem PySem.Spec PyProof.Rows L2 PLt PLs
section
variable {Y : Ctx} {a b e : Expr} {ea eb : TE} {da db : DE} {fa : TA} {t : DA} {k : Nat} {p pos : Pos}
def dMin1 (t : DA) : DE := fun ρ c Q => t ρ c fun ds c1 => hd1 ds fun d => keysP d fun ks => RowsK ks ∧ ks ≠ [] ∧ ∀ k ∈ ks, (∀ j ∈ ks, ltK j k = false) → Q (kdD k) c1
theorem ev_min1 {ρ : DEnv} {c : CN} {Q : QD} : dMin1 t ρ c Q = t ρ c fun ds c1 => hd1 ds fun d => keysP d fun ks => RowsK ks ∧ ks ≠ [] ∧ ∀ k ∈ ks, (∀ j ∈ ks, ltK j k = false) → Q (kdD k) c1 := propext Iff.rfl
end
end PL
set_option maxHeartbeats 2000000
namespace PL
open PySem PySem.Spec PyProof.Rows L2 PLt PLs
section
variable {Y : Ctx} {P G G1 : GS Y.X.K} {H H1 : Hp} {c c1 : CN} {ρ : DEnv} {σ : L2.St}
end
def DcB (g : DG) (tt : DT) (tk tv : DE) (vs : List Nat) (ρ : DEnv) (L : List D) (c1 : CN) (Q : List Key → List D → CN → Prop) : Prop := ∃ I : Nat → List Key → List D → CN → Prop, I 0 [] [] c1 ∧
  (∀ k x ks ds c, L[k]? = some x → I k ks ds c → g x (wipeD ρ vs) c fun ρ2 c2 => tt ρ2 c2 fun b c3 => if b = true then tk ρ2 c3 fun y c4 => tv ρ2 c4 fun z c5 => keyP y fun kk => ks.length < 16777216 ∧ ks.Nodup ∧ I (k + 1) (dputK ks kk) (dputD ks ds kk z) c5 else I (k + 1) ks ds c3) ∧
  ∀ ks ds c, I L.length ks ds c → Q ks ds c
def dDc (ti : DI) (g : DG) (tt : DT) (tk tv : DE) (vs : List Nat) : DE := fun ρ c Q => ti ρ c fun L c1 => DcB g tt tk tv vs ρ L c1 fun ks ds c2 => Q (.dct ks ds) c2
section
variable {Y : Ctx} {iter tg kx vx : Expr} {ifs : List Expr} {wi : TI} {ti : DI} {gg : TG} {g : DG} {vs : List Nat} {eA : TT} {tA : DT} {ek ev : TE} {tk tv : DE} {scope : Scope} {own : List (Str × Nat)} {pos : Pos}
theorem ev_dc {ρ : DEnv} {c : CN} {Q : QD} : dDc ti g tA tk tv vs ρ c Q = ti ρ c fun L c1 => DcB g tA tk tv vs ρ L c1 fun ks ds c2 => Q (.dct ks ds) c2 := propext Iff.rfl
end
end PL
set_option maxHeartbeats 2000000
namespace PL
open PySem PySem.Spec PyProof.Rows L2 PLt PLs
abbrev Trip := Int × Int × List LRow
def tripK (t : Trip) : List KD := [.i t.1, .i t.2.1, layK t.2.2]
def tripD (t : Trip) : D := .tup [.int t.1, .int t.2.1, encL t.2.2]
def ltT (a b : Trip) : Bool := ltKs (tripK a) (tripK b)
theorem ltT_K (a b : Trip) : ltT a b = ltK (.t (tripK a)) (.t (tripK b)) := by rw [ltK]; rfl
theorem leT_trans {a b c : Trip} (h1 : ltT b a = false) (h2 : ltT c b = false) : ltT c a = false := by
  rw [ltT_K] at *
  exact ltK_neg h1 h2
theorem leT_refl (a : Trip) : ltT a a = false := by rw [ltT_K]; exact ltK_irr _
theorem ltT_le {a b : Trip} (h : ltT a b = true) : ltT b a = false := by rw [ltT_K] at *; exact ltK_asym h
abbrev Ways := List (Int × Trip)
def keysE (E : Ways) : List Key := E.map fun p => .inl p.1
def valsE (E : Ways) : List D := E.map fun p => tripD p.2
def waysD (E : Ways) : D := .dct (keysE E) (valsE E)
def getE (E : Ways) (e : Int) : Option Trip := (E.find? fun p => decide (p.1 = e)).map (·.2)
def putE (E : Ways) (e : Int) (t : Trip) : Ways := if e ∈ E.map (·.1) then E.map (fun p => if p.1 = e then (p.1, t) else p) else E ++ [(e, t)]
structure Mn (T : Int → Trip → Prop) (E : Ways) : Prop where
  nd : (E.map (·.1)).Nodup
  low : ∀ p ∈ E, T p.1 p.2 ∧ ∀ t, T p.1 t → ltT t p.2 = false
  all : ∀ e t, T e t → ∃ p ∈ E, p.1 = e
theorem Mn.ext {T T' : Int → Trip → Prop} {E : Ways} (h : Mn T E) (h1 : ∀ e t, T e t → T' e t) (h2 : ∀ e t, T' e t → ∃ t0, T e t0 ∧ ltT t t0 = false) : Mn T' E where
  nd := h.nd
  low := fun p hp => ⟨h1 _ _ (h.low p hp).1, fun t ht => by
    obtain ⟨t0, h3, h4⟩ := h2 _ _ ht
    exact leT_trans ((h.low p hp).2 t0 h3) h4⟩
  all := fun e t ht => let ⟨t0, h3, _⟩ := h2 e t ht; h.all e t0 h3
theorem Mn.one {T : Int → Trip → Prop} {e : Int} {t : Trip} (h : ∀ e' t', T e' t' ↔ e' = e ∧ t' = t) : Mn T [(e, t)] where
  nd := by simp
  low := fun p hp => by
    rw [List.mem_singleton.mp hp]
    exact ⟨(h _ _).mpr ⟨rfl, rfl⟩, fun t' ht => by rw [((h _ _).mp ht).2]; exact leT_refl t⟩
  all := fun e' t' ht => ⟨(e, t), by simp, ((h _ _).mp ht).1.symm⟩
theorem Mn.none {T : Int → Trip → Prop} (h : ∀ e t, ¬ T e t) : Mn T [] where
  nd := by simp
  low := fun p hp => nomatch hp
  all := fun e t ht => absurd ht (h e t)
theorem getE_mem {E : Ways} {e : Int} {t : Trip} (h : getE E e = some t) : (e, t) ∈ E := by
  unfold getE at h
  obtain ⟨p, hp, rfl⟩ := Option.map_eq_some_iff.mp h
  have h1 := List.find?_some hp
  have h2 := List.mem_of_find?_eq_some hp
  have e1 : p.1 = e := by simpa using h1
  subst e1
  exact h2
theorem getE_none {E : Ways} {e : Int} : getE E e = .none ↔ e ∉ E.map (·.1) := by
  unfold getE
  rw [Option.map_eq_none_iff, List.find?_eq_none]
  constructor
  · intro h hm
    obtain ⟨p, hp, rfl⟩ := List.mem_map.mp hm
    exact h p hp (by simp)
  · intro h p hp z
    have z : p.1 = e := by simpa using z
    exact h (z ▸ List.mem_map_of_mem hp)
theorem mem_uniq {E : Ways} (nd : (E.map (·.1)).Nodup) {e : Int} {t u : Trip} (h1 : (e, t) ∈ E) (h2 : (e, u) ∈ E) : t = u := by
  induction E with
  | nil => cases h1
  | cons p E ih =>
    rw [List.map_cons, List.nodup_cons] at nd
    rcases List.mem_cons.mp h1 with e1 | h1
    · rcases List.mem_cons.mp h2 with e2 | h2
      · rw [← e1] at e2; exact (Prod.ext_iff.mp e2).2.symm
      · exact absurd (List.mem_map_of_mem (f := (·.1)) h2) (by rw [← e1] at nd; exact nd.1)
    · rcases List.mem_cons.mp h2 with e2 | h2
      · exact absurd (List.mem_map_of_mem (f := (·.1)) h1) (by rw [← e2] at nd; exact nd.1)
      · exact ih nd.2 h1 h2
theorem map_put_fst {e : Int} {t : Trip} : ∀ E : Ways, (E.map (fun p => if p.1 = e then (p.1, t) else p)).map (·.1) = E.map (·.1)
  | [] => rfl
  | p :: E => by
    rw [List.map_cons, List.map_cons, List.map_cons, map_put_fst E]
    split <;> rfl
def stepE (E : Ways) (e : Int) (t : Trip) : Ways := match getE E e with
  | .none => putE E e t
  | some t0 => if ltT t t0 = true then putE E e t else E
theorem Mn.step {T : Int → Trip → Prop} {E : Ways} (h : Mn T E) (e : Int) (t : Trip) : Mn (fun e' t' => T e' t' ∨ (e' = e ∧ t' = t)) (stepE E e t) := by
  unfold stepE
  cases hg : getE E e with
  | none =>
    have hn := getE_none.mp hg
    have hT : ∀ t', ¬ T e t' := fun t' ht => by
      obtain ⟨p, hp, rfl⟩ := h.all e t' ht
      exact hn (List.mem_map_of_mem hp)
    show Mn _ (putE E e t)
    unfold putE
    rw [if_neg hn]
    refine ⟨?_, fun p hp => ?_, fun e' t' ht => ?_⟩
    · rw [List.map_append, List.nodup_append]
      exact ⟨h.nd, by simp, fun a ha b hb z => by rw [z, List.mem_singleton.mp hb] at ha; exact hn ha⟩
    · rcases List.mem_append.mp hp with hp | hp
      · obtain ⟨l1, l2⟩ := h.low p hp
        refine ⟨.inl l1, fun t' ht => ?_⟩
        rcases ht with ht | ⟨z, _⟩
        · exact l2 t' ht
        · exact absurd (List.mem_map_of_mem (f := (·.1)) hp) (by rw [z]; exact hn)
      · rw [List.mem_singleton.mp hp]
        refine ⟨.inr ⟨rfl, rfl⟩, fun t' ht => ?_⟩
        rcases ht with ht | ⟨_, rfl⟩
        · exact absurd ht (hT t')
        · exact leT_refl _
    · rcases ht with ht | ⟨rfl, rfl⟩
      · obtain ⟨p, hp, z⟩ := h.all e' t' ht
        exact ⟨p, List.mem_append_left _ hp, z⟩
      · exact ⟨(e', t'), List.mem_append_right _ (by simp), rfl⟩
  | some t0 =>
    have hm := getE_mem hg
    obtain ⟨l1, l2⟩ := h.low _ hm
    show Mn _ (if ltT t t0 = true then putE E e t else E)
    by_cases c : ltT t t0 = true
    · rw [if_pos c]
      have hi : e ∈ E.map (·.1) := List.mem_map_of_mem (f := (·.1)) hm
      unfold putE
      rw [if_pos hi]
      refine ⟨by rw [map_put_fst]; exact h.nd, fun p hp => ?_, fun e' t' ht => ?_⟩
      · obtain ⟨q, hq, rfl⟩ := List.mem_map.mp hp
        by_cases z : q.1 = e
        · rw [if_pos z]
          refine ⟨.inr ⟨z, rfl⟩, fun t' ht => ?_⟩
          rcases ht with ht | ⟨_, rfl⟩
          · rw [z] at ht; exact leT_trans (ltT_le c) (l2 t' ht)
          · exact leT_refl _
        · rw [if_neg z]
          obtain ⟨k1, k2⟩ := h.low q hq
          refine ⟨.inl k1, fun t' ht => ?_⟩
          rcases ht with ht | ⟨w, _⟩
          · exact k2 t' ht
          · exact absurd w z
      · have : ∃ p ∈ E, p.1 = e' := by
          rcases ht with ht | ⟨rfl, _⟩
          · exact h.all e' t' ht
          · exact ⟨_, hm, rfl⟩
        obtain ⟨p, hp, rfl⟩ := this
        refine ⟨_, List.mem_map_of_mem hp, ?_⟩
        split <;> rfl
    · have c : ltT t t0 = false := by simpa using c
      rw [if_neg (by rw [c]; decide)]
      refine ⟨h.nd, fun p hp => ?_, fun e' t' ht => ?_⟩
      · obtain ⟨k1, k2⟩ := h.low p hp
        refine ⟨.inl k1, fun t' ht => ?_⟩
        rcases ht with ht | ⟨w, rfl⟩
        · exact k2 t' ht
        · have : p.2 = t0 := mem_uniq h.nd (e := e) (by rw [← w]; exact hp) hm
          rw [this]; exact c
      · rcases ht with ht | ⟨rfl, _⟩
        · exact h.all e' t' ht
        · exact ⟨_, hm, rfl⟩
theorem Mn.union {T1 T2 : Int → Trip → Prop} {E1 E2 E : Ways} (h2 : Mn T2 E2) (h : Mn (fun e t => T1 e t ∨ (e, t) ∈ E2) E) : Mn (fun e t => T1 e t ∨ T2 e t) E := by
  refine h.ext (fun e t ht => ht.imp id fun z => (h2.low _ z).1) fun e t ht => ?_
  rcases ht with ht | ht
  · exact ⟨t, .inl ht, leT_refl t⟩
  · obtain ⟨p, hp, rfl⟩ := h2.all e t ht
    exact ⟨p.2, .inr hp, (h2.low p hp).2 t ht⟩
def ov (W e : Int) : Int := if e - W ≤ 0 then 0 else e - W
def endsC (co i : Int) : List LRow → List Int
  | [] => []
  | r :: m => (co + (r.2.length : Nat)) :: m.map fun q => i + (q.1 + (q.2.length : Nat))
def endC (co i : Int) (l : List LRow) : Int := (endsC co i l).getLastD co
def excC (W co i : Int) (l : List LRow) : Int := ((endsC co i l).dropLast.map (ov W)).sum
def tripOf (W co i : Int) (l : List LRow) : Trip := (excC W co i l, (l.length : Nat), l)
def TF (f : Fm) (fl : Bool) (W co i : Int) : Int → Trip → Prop := fun e t => ∃ l ∈ f.lays fl, e = endC co i l ∧ t = tripOf W co i l
theorem endsC_ne {co i : Int} {l : List LRow} (h : l ≠ []) : endsC co i l ≠ [] := by
  cases l with
  | nil => exact absurd rfl h
  | cons r m => simp [endsC]
end PL
set_option maxHeartbeats 2000000
namespace PL
open PySem PySem.Spec PyProof.Rows L2 PLt PLs
def TrOk (W co i : Int) (e : Int) (t : Trip) : Prop := ∃ l x q, l = (0, x) :: q ∧ e = endC co i l ∧ t = tripOf W co i l
theorem TF.tr {f : Fm} (ok : f.ok) {fl : Bool} {W co i e : Int} {t : Trip} (h : TF f fl W co i e t) : TrOk W co i e t := by
  obtain ⟨l, hl, rfl, rfl⟩ := h
  obtain ⟨_, _, x, q, z⟩ := Fm.lays_row f ok fl l hl
  exact ⟨l, x, q, z, rfl, rfl⟩
theorem Mn.fold {T : Int → Trip → Prop} : ∀ {E2 E1 : Ways}, Mn T E1 → Mn (fun e t => T e t ∨ (e, t) ∈ E2) (E2.foldl (fun E p => stepE E p.1 p.2) E1)
  | [], E1, h => h.ext (fun e t z => .inl z) fun e t z => ⟨t, z.elim id (fun w => nomatch w), leT_refl t⟩
  | p :: E2, E1, h => by
    rw [List.foldl_cons]
    refine (Mn.fold (E2 := E2) (h.step p.1 p.2)).ext (fun e t z => ?_) fun e t z => ⟨t, ?_, leT_refl t⟩
    · rcases z with (z | ⟨rfl, rfl⟩) | z
      · exact .inl z
      · exact .inr List.mem_cons_self
      · exact .inr (List.mem_cons_of_mem _ z)
    · rcases z with z | z
      · exact .inl (.inl z)
      · rcases List.mem_cons.mp z with z | z
        · exact .inl (.inr ⟨by rw [← z], by rw [← z]⟩)
        · exact .inr z
def betterE (E1 E2 : Ways) : Ways := E2.foldl (fun E p => stepE E p.1 p.2) E1
theorem Mn.better {T1 T2 : Int → Trip → Prop} {E1 E2 : Ways} (h1 : Mn T1 E1) (h2 : Mn T2 E2) : Mn (fun e t => T1 e t ∨ T2 e t) (betterE E1 E2) := Mn.union (E1 := E1) h2 (Mn.fold h1)
end PL
set_option maxHeartbeats 2000000
namespace PL
open PySem PySem.Spec PyProof.Rows L2 PLt PLs
def RowD (Fs : List Fm) : Fm → D → Prop
  | .text x, d => d = (Fm.text x).enc
  | .brk o, d => d = (Fm.brk o).enc
  | .hole _, _ => False
  | .join a b, d => ∃ j k : Nat, d = .tup [.str "join", .int j, .int k] ∧ Fs[j]? = some a ∧ Fs[k]? = some b
  | .choice a b, d => ∃ j k : Nat, d = .tup [.str "choice", .int j, .int k] ∧ Fs[j]? = some a ∧ Fs[k]? = some b
  | .nested n a, d => ∃ j : Nat, d = .tup [.str "nested", .int n, .int j] ∧ Fs[j]? = some a
  | .group a, d => ∃ j : Nat, d = .tup [.str "group", .int j] ∧ Fs[j]? = some a
  | .flat a, d => ∃ j : Nat, d = .tup [.str "flattened", .int j] ∧ Fs[j]? = some a
theorem getElem?_app {α : Type} {l m : List α} {j : Nat} {x : α} (h : l[j]? = some x) : (l ++ m)[j]? = some x := by
  rw [List.getElem?_append_left (List.getElem?_eq_some_iff.mp h).1]; exact h
theorem RowD.mono {Fs Gs : List Fm} : ∀ {f : Fm} {d : D}, RowD Fs f d → RowD (Fs ++ Gs) f d
  | .text _, _, h => h
  | .brk _, _, h => h
  | .hole _, _, h => h
  | .join a b, d, ⟨j, k, e, h1, h2⟩ => ⟨j, k, e, getElem?_app h1, getElem?_app h2⟩
  | .choice a b, d, ⟨j, k, e, h1, h2⟩ => ⟨j, k, e, getElem?_app h1, getElem?_app h2⟩
  | .nested n a, d, ⟨j, e, h1⟩ => ⟨j, e, getElem?_app h1⟩
  | .group a, d, ⟨j, e, h1⟩ => ⟨j, e, getElem?_app h1⟩
  | .flat a, d, ⟨j, e, h1⟩ => ⟨j, e, getElem?_app h1⟩
structure Rw (R : List D) (Fs : List Fm) : Prop where
  len : R.length = Fs.length
  row : ∀ (j : Nat) (f : Fm), Fs[j]? = some f → ∃ d : D, R[j]? = some d ∧ RowD Fs f d
theorem Rw.nil : Rw [] [] := ⟨rfl, fun j f h => by simp at h⟩
theorem Rw.snoc {R : List D} {Fs : List Fm} (h : Rw R Fs) {f : Fm} {d : D} (hr : RowD Fs f d) : Rw (R ++ [d]) (Fs ++ [f]) where
  len := by rw [List.length_append, List.length_append, h.len]; rfl
  row := fun j g hg => by
    by_cases e : j < Fs.length
    · rw [List.getElem?_append_left e] at hg
      obtain ⟨d', h1, h2⟩ := h.row j g hg
      exact ⟨d', getElem?_app h1, h2.mono⟩
    · have : j = Fs.length := by have := (List.getElem?_eq_some_iff.mp hg).1; simp at this; omega
      subst this
      rw [List.getElem?_append_right (Nat.le_refl _)] at hg
      simp at hg
      subst hg
      refine ⟨d, ?_, hr.mono⟩
      rw [List.getElem?_append_right (by rw [h.len]; exact Nat.le_refl _), h.len]; simp
theorem Rw.last {Fs : List Fm} {f : Fm} : (Fs ++ [f])[Fs.length]? = some f := by simp
def Fm.ind : Fm → Int
  | .join a b => a.ind + b.ind
  | .choice a b => a.ind + b.ind
  | .nested n a => n + a.ind
  | .group a => a.ind
  | .flat a => a.ind
  | _ => 0
theorem Fm.ind_nn : ∀ {f : Fm}, f.ok → 0 ≤ f.ind
  | .text _, _ => Int.le_refl _
  | .brk none, _ => Int.le_refl _
  | .brk (some _), _ => Int.le_refl _
  | .hole _, _ => Int.le_refl _
  | .join a b, h => by have := Fm.ind_nn (f := a) h.1; have := Fm.ind_nn (f := b) h.2; simp only [Fm.ind]; omega
  | .choice a b, h => by have := Fm.ind_nn (f := a) h.1; have := Fm.ind_nn (f := b) h.2; simp only [Fm.ind]; omega
  | .nested n a, h => by have := Fm.ind_nn (f := a) h.2; have := h.1; simp only [Fm.ind]; omega
  | .group a, h => Fm.ind_nn (f := a) h
  | .flat a, h => Fm.ind_nn (f := a) h
theorem mem_joinL {x y : List LRow} (hx : x ≠ []) (hy : y ≠ []) {r : LRow} (h : r ∈ joinL x y) : (∃ q ∈ x, r.1 = q.1) ∨ ∃ q ∈ y, r.1 = q.1 := by
  obtain ⟨a, s, rfl⟩ := lay_snoc hx
  obtain ⟨q, b, rfl⟩ := lay_cons hy
  rw [joinL_snoc] at h
  rcases List.mem_append.mp h with h | h
  · exact .inl ⟨r, List.mem_append_left _ h, rfl⟩
  · rcases List.mem_cons.mp h with rfl | h
    · exact .inl ⟨s, by simp, rfl⟩
    · exact .inr ⟨r, List.mem_cons_of_mem _ h, rfl⟩
def Fm.ix : Fm → Int
  | .join a b => max a.ix b.ix
  | .choice a b => max a.ix b.ix
  | .nested n a => n + a.ix
  | .group a => a.ix
  | .flat a => a.ix
  | _ => 0
theorem Fm.ix_nn : ∀ {f : Fm}, f.ok → 0 ≤ f.ix
  | .text _, _ => Int.le_refl _
  | .brk none, _ => Int.le_refl _
  | .brk (some _), _ => Int.le_refl _
  | .hole _, _ => Int.le_refl _
  | .join a b, h => by have := Fm.ix_nn (f := a) h.1; simp only [Fm.ix]; omega
  | .choice a b, h => by have := Fm.ix_nn (f := a) h.1; simp only [Fm.ix]; omega
  | .nested n a, h => by have := Fm.ix_nn (f := a) h.2; have := h.1; simp only [Fm.ix]; omega
  | .group a, h => Fm.ix_nn (f := a) h
  | .flat a, h => Fm.ix_nn (f := a) h
theorem Fm.ix_ind : ∀ {f : Fm}, f.ok → f.ix ≤ f.ind
  | .text _, _ => Int.le_refl _
  | .brk none, _ => Int.le_refl _
  | .brk (some _), _ => Int.le_refl _
  | .hole _, _ => Int.le_refl _
  | .join a b, h => by have := Fm.ix_ind (f := a) h.1; have := Fm.ix_ind (f := b) h.2; have := Fm.ind_nn (f := a) h.1; have := Fm.ind_nn (f := b) h.2; simp only [Fm.ix, Fm.ind]; omega
  | .choice a b, h => by have := Fm.ix_ind (f := a) h.1; have := Fm.ix_ind (f := b) h.2; have := Fm.ind_nn (f := a) h.1; have := Fm.ind_nn (f := b) h.2; simp only [Fm.ix, Fm.ind]; omega
  | .nested n a, h => by have := Fm.ix_ind (f := a) h.2; simp only [Fm.ix, Fm.ind]; omega
  | .group a, h => Fm.ix_ind (f := a) h
  | .flat a, h => Fm.ix_ind (f := a) h
theorem Fm.mc_le_wd : ∀ {f : Fm}, f.mc ≤ f.wd
  | .text _ => by simp only [Fm.mc, Fm.wd]; omega
  | .brk none => by simp only [Fm.mc, Fm.wd]; omega
  | .brk (some _) => by simp only [Fm.mc, Fm.wd]; omega
  | .hole _ => by simp only [Fm.mc, Fm.wd]; omega
  | .join a b => by have := Fm.mc_le_wd (f := a); have := Fm.mc_le_wd (f := b); simp only [Fm.mc, Fm.wd]; omega
  | .choice a b => by have := Fm.mc_le_wd (f := a); have := Fm.mc_le_wd (f := b); simp only [Fm.mc, Fm.wd]; omega
  | .nested n a => Fm.mc_le_wd (f := a)
  | .group a => Fm.mc_le_wd (f := a)
  | .flat a => Fm.mc_le_wd (f := a)
theorem Fm.lays_ix : ∀ (f : Fm), f.ok → ∀ (fl : Bool) (l : List LRow), l ∈ f.lays fl → ∀ r ∈ l, r.1 ≤ f.ix
  | .text x, ok, fl, l, h, r, hr => by
    rw [mem_text] at h; subst h; rw [List.mem_singleton.mp hr]; exact Int.le_refl _
  | .brk none, ok, false, l, h, r, hr => by
    simp [Fm.lays] at h; subst h; simp at hr; rw [hr]; exact Int.le_refl _
  | .brk (some x), ok, false, l, h, r, hr => by
    simp [Fm.lays] at h; subst h; simp at hr; rw [hr]; exact Int.le_refl _
  | .brk (some x), ok, true, l, h, r, hr => by
    simp [Fm.lays] at h; subst h; rw [List.mem_singleton.mp hr]; exact Int.le_refl _
  | .brk none, ok, true, l, h, r, hr => by simp [Fm.lays] at h
  | .hole _, ok, fl, l, h, r, hr => by simp [Fm.lays] at h
  | .join a b, ok, fl, l, h, r, hr => by
    obtain ⟨x, hx, y, hy, rfl⟩ := mem_join.mp h
    simp only [Fm.ix]
    rcases mem_joinL (Fm.lays_ne a fl x hx) (Fm.lays_ne b fl y hy) hr with ⟨q, hq, e⟩ | ⟨q, hq, e⟩
    · have := Fm.lays_ix a ok.1 fl x hx q hq; omega
    · have := Fm.lays_ix b ok.2 fl y hy q hq; omega
  | .choice a b, ok, fl, l, h, r, hr => by
    simp only [Fm.ix]
    rcases mem_choice.mp h with h | h
    · have := Fm.lays_ix a ok.1 fl l h r hr; omega
    · have := Fm.lays_ix b ok.2 fl l h r hr; omega
  | .nested n a, ok, fl, l, h, r, hr => by
    rw [Fm.lays] at h
    obtain ⟨x, hx, rfl⟩ := List.mem_map.mp h
    have n0 := ok.1
    have := Fm.lays_ix a ok.2 fl x hx
    obtain ⟨q, y, rfl⟩ := lay_cons (Fm.lays_ne a fl x hx)
    rw [movL_cons] at hr
    simp only [Fm.ix]
    rcases List.mem_cons.mp hr with rfl | hr
    · have := this r List.mem_cons_self; omega
    · obtain ⟨s, hs, rfl⟩ := List.mem_map.mp hr
      have := this s (List.mem_cons_of_mem _ hs)
      show s.1 + n ≤ _
      omega
  | .flat a, ok, fl, l, h, r, hr => by rw [Fm.lays] at h; exact Fm.lays_ix a ok true l h r hr
  | .group a, ok, true, l, h, r, hr => by rw [Fm.lays] at h; exact Fm.lays_ix a ok true l h r hr
  | .group a, ok, false, l, h, r, hr => by
    rcases mem_groupF.mp h with h | h
    · exact Fm.lays_ix a ok false l h r hr
    · exact Fm.lays_ix a ok true l h r hr
theorem endC_le {f : Fm} (ok : f.ok) {fl : Bool} {l : List LRow} (h : l ∈ f.lays fl) {co i : Int} (h0 : 0 ≤ co) (h1 : 0 ≤ i) : 0 ≤ endC co i l ∧ (endC co i l ≤ co + (f.mc : Nat) ∨ endC co i l ≤ i + f.ix + (f.mc : Nat)) := by
  have ne := Fm.lays_ne f fl l h
  have w := (Fm.lays_row f ok fl l h).1
  have rows := (Fm.lays_row f ok fl l h).2.1
  have inds := Fm.lays_ix f ok fl l h
  have key : ∀ e ∈ endsC co i l, 0 ≤ e ∧ (e ≤ co + (f.mc : Nat) ∨ e ≤ i + f.ix + (f.mc : Nat)) := by
    cases l with
    | nil => exact absurd rfl ne
    | cons r m =>
      intro e he
      rw [endsC] at he
      rw [chL_cons] at w
      rcases List.mem_cons.mp he with rfl | he
      · exact ⟨by omega, .inl (by omega)⟩
      · obtain ⟨q, hq, rfl⟩ := List.mem_map.mp he
        have q0 := (rows q (List.mem_cons_of_mem _ hq)).1
        have q1 := inds q (List.mem_cons_of_mem _ hq)
        have q2 := chL_mem hq
        exact ⟨by omega, .inr (by omega)⟩
  have ne' := endsC_ne (co := co) (i := i) ne
  have : endC co i l ∈ endsC co i l := by
    unfold endC
    rw [List.getLastD_eq_getLast?, List.getLast?_eq_getLast ne']
    exact List.getLast_mem ne'
  exact key _ this
structure Bx (CM IM : Nat) (f : Fm) (co i : Int) : Prop where
  c0 : 0 ≤ co
  i0 : 0 ≤ i
  cw : co + (f.mc : Nat) ≤ CM
  iw : i + f.ix + (f.mc : Nat) ≤ CM
  im : i + f.ix ≤ IM
theorem Bx.of {CM IM : Nat} {f : Fm} {co i : Int} (ok : f.ok) (c0 : 0 ≤ co) (i0 : 0 ≤ i) (cw : co + (f.wd : Nat) ≤ CM) (iw : i + f.ind + (f.wd : Nat) ≤ CM) (im : i + f.ind ≤ IM) : Bx CM IM f co i := by
  have := Fm.ix_ind ok; have := f.mc_le_wd
  exact ⟨c0, i0, by omega, by omega, by omega⟩
theorem Bx.ends {CM IM : Nat} {f : Fm} {co i : Int} (h : Bx CM IM f co i) (ok : f.ok) {fl : Bool} {W e : Int} {t : Trip} (ht : TF f fl W co i e t) : 0 ≤ e ∧ e ≤ CM := by
  obtain ⟨l, hl, rfl, _⟩ := ht
  have := endC_le ok hl h.c0 h.i0
  have := h.cw; have := h.iw
  omega
theorem Bx.nest {CM IM : Nat} {a : Fm} {n co i : Int} (h : Bx CM IM (.nested n a) co i) (ok : (Fm.nested n a).ok) (fl : Bool) : Bx CM IM a co (if fl = true then i else i + n) := by
  have n0 := ok.1
  obtain ⟨h1, h2, h3, h4, h5⟩ := h
  simp only [Fm.mc, Fm.ix] at *
  cases fl
  · exact ⟨h1, by simp; omega, by omega, by simp; omega, by simp; omega⟩
  · exact ⟨h1, by simp; omega, by omega, by simp; omega, by simp; omega⟩
theorem Bx.grp {CM IM : Nat} {a : Fm} {co i : Int} (h : Bx CM IM (.group a) co i) : Bx CM IM a co i := ⟨h.c0, h.i0, h.cw, h.iw, h.im⟩
theorem Bx.flt {CM IM : Nat} {a : Fm} {co i : Int} (h : Bx CM IM (.flat a) co i) : Bx CM IM a co i := ⟨h.c0, h.i0, h.cw, h.iw, h.im⟩
structure TB where
  t : Addr
  r : Addr
  k : Addr
  W : Int
  top : Int
  R : List D
  Fs : List Fm
  CM : Nat
  IM : Nat
def bI (b : Bool) : Int := if b = true then 1 else 0
structure TabOk (tb : TB) (ks : List (List Int)) (ds : List D) : Prop where
  nd : ks.Nodup
  len : ks.length = ds.length
  box : ∀ q ∈ ks, ∃ (r : Nat) (b : Bool) (co i : Nat), q = [(r : Int), bI b, (co : Int), (i : Int)] ∧ r < tb.R.length ∧ co ≤ tb.CM ∧ i ≤ tb.IM
  val : ∀ (r : Nat) (b : Bool) (co i : Int) (d : D), tabGet ks ds [(r : Int), bI b, co, i] = some d → ∃ f E, tb.Fs[r]? = some f ∧ d = waysD E ∧ Mn (TF f b tb.W co i) E
theorem TabOk.nil (tb : TB) : TabOk tb [] [] := ⟨List.nodup_nil, rfl, fun q h => (nomatch h), fun r b co i d h => by simp [tabGet] at h⟩
theorem tabGet_rep : ∀ {ks : List (List Int)} {ds : List D} {q p : List Int} {d : D}, q ∈ ks → ks.length = ds.length → tabGet ks (tabRep ks ds q d) p = if p = q then some d else tabGet ks ds p
  | [], _, _, _, _, h, _ => nomatch h
  | _ :: _, [], _, _, _, _, h => by simp at h
  | k :: ks, e :: ds, q, p, d, h, hl => by
    rw [tabRep, tabGet, tabGet]
    by_cases e1 : k = p
    · rw [if_pos e1, if_pos e1]
      by_cases e2 : k = q
      · rw [if_pos e2, if_pos (e1.symm.trans e2)]
      · rw [if_neg e2, if_neg (fun z => e2 (e1.trans z))]
    · rw [if_neg e1, if_neg e1]
      by_cases e3 : q ∈ ks
      · exact tabGet_rep e3 (by simpa using hl)
      · have e4 : q = k := (List.mem_cons.mp h).resolve_right e3
        rw [if_neg (fun z => e1 (e4 ▸ z.symm))]
        have : ∀ {ks : List (List Int)} {ds : List D}, q ∉ ks → tabRep ks ds q d = ds := by
          intro ks
          induction ks with
          | nil => intro ds _; cases ds <;> rfl
          | cons k ks ih =>
            intro ds hq
            cases ds with
            | nil => rfl
            | cons x ds =>
              rw [tabRep, if_neg (fun z : k = q => hq (z ▸ List.mem_cons_self)), ih fun z => hq (List.mem_cons_of_mem _ z)]
        rw [this e3]
theorem tabGet_snoc : ∀ {ks : List (List Int)} {ds : List D} {q p : List Int} {d : D}, q ∉ ks → ks.length = ds.length → tabGet (ks ++ [q]) (ds ++ [d]) p = if p = q then some d else tabGet ks ds p
  | [], [], q, p, d, _, _ => by
    simp only [List.nil_append, tabGet]
    by_cases e : q = p
    · rw [if_pos e, if_pos e.symm]
    · rw [if_neg e, if_neg fun z => e z.symm]
  | [], _ :: _, _, _, _, _, h => by simp at h
  | _ :: _, [], _, _, _, _, h => by simp at h
  | k :: ks, e :: ds, q, p, d, h, hl => by
    rw [List.cons_append, List.cons_append, tabGet, tabGet]
    by_cases e1 : k = p
    · rw [if_pos e1, if_pos e1, if_neg fun z => h (by rw [← z, ← e1]; exact List.mem_cons_self)]
    · rw [if_neg e1, if_neg e1]
      exact tabGet_snoc (fun z => h (List.mem_cons_of_mem _ z)) (by simpa using hl)
theorem tabGet_put {ks : List (List Int)} {ds : List D} {q p : List Int} {d : D} (hl : ks.length = ds.length) : tabGet (tabPutK ks q) (tabPutD ks ds q d) p = if p = q then some d else tabGet ks ds p := by
  unfold tabPutK tabPutD
  by_cases h : q ∈ ks
  · rw [if_pos h, if_pos h]; exact tabGet_rep h hl
  · rw [if_neg h, if_neg h]; exact tabGet_snoc h hl
theorem tabRep_len : ∀ {ks : List (List Int)} {ds : List D} {q : List Int} {d : D}, (tabRep ks ds q d).length = ds.length
  | [], ds, _, _ => by cases ds <;> rfl
  | _ :: _, [], _, _ => rfl
  | k :: ks, e :: ds, q, d => by rw [tabRep, List.length_cons, tabRep_len, List.length_cons]
theorem bI_inj {a b : Bool} (h : bI a = bI b) : a = b := by cases a <;> cases b <;> simp [bI] at h <;> rfl
theorem TabOk.put {tb : TB} {ks : List (List Int)} {ds : List D} (h : TabOk tb ks ds) {r : Nat} {b : Bool} {co i : Int} {f : Fm} {E : Ways} (hf : tb.Fs[r]? = some f) (hr : r < tb.R.length) (bx : Bx tb.CM tb.IM f co i) (ok : f.ok) (m : Mn (TF f b tb.W co i) E) :
    TabOk tb (tabPutK ks [(r : Int), bI b, co, i]) (tabPutD ks ds [(r : Int), bI b, co, i] (waysD E)) where
  nd := by
    unfold tabPutK
    split
    · exact h.nd
    · rename_i g
      rw [List.nodup_append]
      exact ⟨h.nd, by simp, fun a ha b hb z => by rw [z, List.mem_singleton.mp hb] at ha; exact g ha⟩
  len := by
    unfold tabPutK tabPutD
    split
    · rw [tabRep_len]; exact h.len
    · rw [List.length_append, List.length_append, h.len]; rfl
  box := fun q hq => by
    unfold tabPutK at hq
    have this : q = [(r : Int), bI b, co, i] → ∃ (r : Nat) (b : Bool) (co i : Nat), q = [(r : Int), bI b, (co : Int), (i : Int)] ∧ r < tb.R.length ∧ co ≤ tb.CM ∧ i ≤ tb.IM := fun e => by
      have i0 := Fm.ix_nn ok
      obtain ⟨h1, h2, h3, h4, h5⟩ := bx
      refine ⟨r, b, co.toNat, i.toNat, ?_, hr, by omega, by omega⟩
      rw [e, Int.toNat_of_nonneg h1, Int.toNat_of_nonneg h2]
    split at hq
    · exact h.box q hq
    · rcases List.mem_append.mp hq with hq | hq
      · exact h.box q hq
      · exact this (List.mem_singleton.mp hq)
  val := fun r' b' co' i' d hd => by
    rw [tabGet_put h.len] at hd
    split at hd
    · rename_i e
      simp only [List.cons.injEq, and_true] at e
      obtain ⟨e1, e2, rfl, rfl⟩ := e
      have e1 : r' = r := by omega
      have e2 := bI_inj e2
      subst e1 e2
      cases hd
      exact ⟨f, E, hf, rfl, m⟩
    · exact h.val r' b' co' i' d hd
theorem TabOk.few {tb : TB} {ks : List (List Int)} {ds : List D} (h : TabOk tb ks ds) : ks.length ≤ tb.R.length * (2 * ((tb.CM + 1) * (tb.IM + 1))) := by
  have := nodup_le (m := (List.range tb.R.length).flatMap fun (r : Nat) => [false, true].flatMap fun b => (List.range (tb.CM + 1)).flatMap fun (co : Nat) => (List.range (tb.IM + 1)).map fun (i : Nat) => [(r : Int), bI b, (co : Int), (i : Int)]) h.nd fun q hq => by
    obtain ⟨r, b, co, i, rfl, h1, h2, h3⟩ := h.box q hq
    refine List.mem_flatMap.mpr ⟨r, List.mem_range.mpr h1, List.mem_flatMap.mpr ⟨b, by cases b <;> simp, List.mem_flatMap.mpr ⟨co, List.mem_range.mpr (by omega), List.mem_map.mpr ⟨i, List.mem_range.mpr (by omega), rfl⟩⟩⟩⟩
  refine Nat.le_trans this (Nat.le_of_eq ?_)
  have e1 : ∀ (n m : Nat) (g : Nat → List (List Int)), (∀ x, (g x).length = m) → ((List.range n).flatMap g).length = n * m := fun n m g hg => by
    rw [List.length_flatMap]
    have : (List.range n).map (fun a => (g a).length) = List.replicate n m := by
      rw [List.eq_replicate_iff]
      exact ⟨by simp, fun b hb => by obtain ⟨x, _, rfl⟩ := List.mem_map.mp hb; exact hg x⟩
    rw [this, List.sum_replicate_nat]
  rw [e1 _ (2 * ((tb.CM + 1) * (tb.IM + 1))) _ fun r => ?_]
  simp only [List.flatMap_cons, List.flatMap_nil, List.append_nil, List.length_append]
  rw [e1 _ (tb.IM + 1) _ fun co => by simp, e1 _ (tb.IM + 1) _ fun co => by simp]
  omega
structure Only (k : Addr) (c c' : CN) : Prop where
  n : c'.n = c.n
  m : ∀ x, x ≠ k → c'.m x = c.m x
theorem Only.refl {k : Addr} {c : CN} : Only k c c := ⟨rfl, fun _ _ => rfl⟩
theorem Only.trans {k : Addr} {c d e : CN} (h : Only k c d) (g : Only k d e) : Only k c e := ⟨g.n.trans h.n, fun x hx => (g.m x hx).trans (h.m x hx)⟩
theorem Only.put {k : Addr} {c : CN} {o : MO} : Only k c (c.put k o) := ⟨rfl, fun x hx => put_ne hx⟩
structure TbI (C : Addr) (tb : TB) (c : CN) : Prop where
  ti : c.m tb.t = some (.ins C ["rows", "limit", "top", "known"] [.mo tb.r, .int tb.W, .int tb.top, .mo tb.k])
  ri : c.m tb.r = some (.lst tb.R)
  ki : ∃ ks ds, c.m tb.k = some (.tab ks ds) ∧ TabOk tb ks ds
  rw : Rw tb.R tb.Fs
  ok : ∀ f ∈ tb.Fs, f.ok ∧ f.wd ≤ 40000
  room : tb.R.length * (2 * ((tb.CM + 1) * (tb.IM + 1))) ≤ 16777215
theorem TbI.tk {C : Addr} {tb : TB} {c : CN} (h : TbI C tb c) : tb.t ≠ tb.k := fun e => by
  obtain ⟨ks, ds, h1, _⟩ := h.ki
  have := h.ti
  rw [e, h1] at this
  cases this
theorem TbI.rk {C : Addr} {tb : TB} {c : CN} (h : TbI C tb c) : tb.r ≠ tb.k := fun e => by
  obtain ⟨ks, ds, h1, _⟩ := h.ki
  have := h.ri
  rw [e, h1] at this
  cases this
theorem TbI.put {C : Addr} {tb : TB} {c : CN} (h : TbI C tb c) {ks : List (List Int)} {ds : List D} (ok : TabOk tb ks ds) : TbI C tb (c.put tb.k (.tab ks ds)) where
  ti := by rw [put_ne h.tk]; exact h.ti
  ri := by rw [put_ne h.rk]; exact h.ri
  ki := ⟨ks, ds, put_self, ok⟩
  rw := h.rw
  ok := h.ok
  room := h.room
end PL
set_option maxHeartbeats 2000000
namespace PLt
open PySem PySem.Spec PyProof.Rows L2
section
variable {X : Cx} {pins : List (Addr × Obj)} {σ : L2.St} {H : Hp} {s : Shared}
end
end PLt
namespace PL
open PySem PySem.Spec PyProof.Rows L2 PLt PLs
def minP (ds : List D) (P : Int → Prop) : Prop := ∃ l ns m, ds = [.lst l] ∧ intsD l = some ns ∧ m ∈ ns ∧ (∀ y, y ∈ ns → m ≤ y) ∧ P m
def aMinL (ds : List D) (c : CN) (Q : QD) : Prop := minP ds fun m => Q (.int m) c
theorem intsD_ints : ∀ ns : List Int, intsD (ns.map .int) = some ns
  | [] => rfl
  | n :: ns => by simp [intsD, intsD_ints ns]
theorem minP.mk {ns : List Int} {P : Int → Prop} {m : Int} (hm : m ∈ ns) (hle : ∀ y, y ∈ ns → m ≤ y) (q : P m) : minP [.lst (ns.map .int)] P := ⟨_, ns, m, rfl, intsD_ints ns, hm, hle, q⟩
theorem ev_minL {ds : List D} {c : CN} {Q : QD} : aMinL ds c Q = minP ds fun m => Q (.int m) c := propext Iff.rfl
end PL
set_option maxHeartbeats 2000000
namespace PLt
open PySem PySem.Spec PyProof.Rows L2
def gtP (a b c d : Int) : Bool := decide (c < a) || (decide (a = c) && decide (d < b))
section
variable {X : Cx} {pins : List (Addr × Obj)} {σ : L2.St} {H : Hp} {s : Shared}
end
end PLt
namespace PL
open PySem PySem.Spec PyProof.Rows L2 PLt PLs
def aGtK : RD2 := fun x y c Q => ∃ p q r t : Int, x = .tup [.int p, .int q] ∧ y = .tup [.int r, .int t] ∧ Q (.bl (gtP p q r t)) c
section
variable {Y : Ctx} {a b e : Expr} {ea eb : TE} {da db : DE} {fa : TA} {t : DA} {k : Nat} {p pos : Pos}
theorem ev_gtK {ρ : DEnv} {c : CN} {Q : QD} : dOp aGtK da db ρ c Q = da ρ c fun x c1 => db ρ c1 fun y c2 => aGtK x y c2 Q := propext Iff.rfl
theorem ev_gtKK {p q r t : Int} {c : CN} {Q : QD} : aGtK (.tup [.int p, .int q]) (.tup [.int r, .int t]) c Q = Q (.bl (gtP p q r t)) c := propext ⟨fun ⟨_, _, _, _, e1, e2, h⟩ => by cases e1; cases e2; exact h, fun h => ⟨_, _, _, _, rfl, rfl, h⟩⟩
end
end PL
set_option maxHeartbeats 2000000
namespace PL
open PySem PySem.Spec PyProof.Rows L2 PLt PLs
end PL
set_option maxHeartbeats 2000000
namespace PL
open PySem PySem.Spec PyProof.Rows L2
section
variable {X : Cx} {x n : Str} {c : Value} {i : Nat} {body suite : List Stmt} {b₀ : Stmt} {np pos pos' : Pos} {tb : WX → TS} {ts : TS} {Wout : WX}
end
def sTryP (K : PySem.W.Frag) (cl : Addr) (sb : (DEnv → EDt) → DS) (ss : DS) (ED : DEnv → EDt) : DS := fun DD ρ c =>
  sb (fun ρ1 C ns es c1 => ∃ b, PySem.W.exmOne K (.ref C) (.ref cl) = some b ∧ @Br b (ss DD ρ1 c1) (ED ρ1 C ns es c1)) DD ρ c
section
variable {Y : Ctx} {k i : Nat} {x n : Str} {cl : Addr} {body suite : List Stmt} {b₀ : Stmt} {np pos pos' : Pos} {tb : (L2.St → XK) → TS} {ts : TS} {sb : (DEnv → EDt) → DS} {ss : DS}
end
theorem ev_tryP {K : PySem.W.Frag} {cl : Addr} {sb : (DEnv → EDt) → DS} {ss : DS} {ED : DEnv → EDt} {DD : DEnds} {ρ : DEnv} {c : CN} : sTryP K cl sb ss ED DD ρ c = sb (fun ρ1 C ns es c1 => ∃ b, PySem.W.exmOne K (.ref C) (.ref cl) = some b ∧ @Br b (ss DD ρ1 c1) (ED ρ1 C ns es c1)) DD ρ c := propext Iff.rfl
end PL
set_option maxHeartbeats 2000000
namespace PL
open PySem PySem.Spec PyProof.Rows L2 PLt PLs
def aRev (x : D) (c : CN) (Q : QD) : Prop := ∃ l, x = .lst l ∧ Q (.lst l.reverse) c
def dRev (t : DE) : DE := fun ρ c Q => t ρ c fun x c1 => aRev x c1 Q
section
variable {Y : Ctx} {e : Expr} {te : TE} {de : DE} {k : Nat} {p1 p2 p3 pos : Pos}
theorem ev_rev {ρ : DEnv} {c : CN} {Q : QD} : dRev de ρ c Q = de ρ c fun x c1 => aRev x c1 Q := propext Iff.rfl
theorem ev_revL {l : List D} {c : CN} {Q : QD} : aRev (.lst l) c Q = Q (.lst l.reverse) c := propext ⟨fun ⟨_, e, h⟩ => by cases e; exact h, fun h => ⟨l, rfl, h⟩⟩
end
end PL
set_option maxHeartbeats 2000000
namespace PL
open PySem PySem.Spec PyProof.Rows L2 PLt PLs
abbrev nR : LRow := (0, "")
theorem nR_app (r : LRow) : ((r.1, r.2 ++ nR.2) : LRow) = r := by
  have e : r.2 ++ ("" : Str) = r.2 := Str.append_empty _
  show (r.1, r.2 ++ ("" : Str)) = r
  rw [e]
theorem cat_line {l : List LRow} (h : l ≠ []) : joinL l [nR, nR] = l ++ [nR] := by
  obtain ⟨a, r, rfl⟩ := lay_snoc h
  rw [joinL_snoc, nR_app]
  simp
theorem cat_next {a : List LRow} {x : Str} {q : List LRow} : joinL (a ++ [nR]) ((0, x) :: q) = a ++ ((0, x) :: q) := by
  rw [joinL_snoc]
  have e : ("" : Str) ++ x = x := Str.empty_append _
  show a ++ (0, ("" : Str) ++ x) :: q = _
  rw [e]
end PL
set_option maxHeartbeats 2000000
namespace PL
open PySem PySem.Spec PyProof.Rows L2 PLt PLs
end PL
set_option maxHeartbeats 2000000
namespace PLt
open PySem PySem.Spec PyProof.Rows L2
section
variable {prog : Program} {w : World} {A : Around} {E : Value → Shared → Prop} {s : Shared}
end
section
variable {X : Cx} {pins : List (Addr × Obj)} {σ : L2.St} {H : Hp} {s : Shared}
end
end PLt
namespace PL
open PySem PySem.Spec PyProof.Rows L2 PLt PLs
section
variable {Y : Ctx} {a b o i e : Expr} {ea eb te ti to : TE} {ta tb de di dv : DE} {fa : TA} {t : DA} {apos pos pos' p : Pos} {k : Nat}
def dNewCatM (ta tb : DE) : DE := fun ρ c Q => ta ρ c fun x c1 => tb ρ c1 fun y c2 => twoL x y fun l m => l.length + m.length ≤ 16777216 ∧ ∀ b, c2.m b = none → Q (.mo b) (c2.put b (.lst (l ++ m)))
theorem ev_newCatM {ρ : DEnv} {c : CN} {Q : QD} : dNewCatM ta tb ρ c Q = ta ρ c fun x c1 => tb ρ c1 fun y c2 => twoL x y fun l m => l.length + m.length ≤ 16777216 ∧ ∀ b, c2.m b = none → Q (.mo b) (c2.put b (.lst (l ++ m))) := propext Iff.rfl
def sSetM (de di dv : DE) : DS := fun DD ρ c => dv ρ c fun d c1 => de ρ c1 fun x c2 => di ρ c2 fun y c3 => moA x fun a => asI y fun k => @mL (c3.m a) fun l => ∃ j, ixN l.length k = some j ∧ @Nx DD.nx ρ (c3.put a (.lst (l.set j d)))
theorem ev_ssetM {DD : DEnds} {ρ : DEnv} {c : CN} : sSetM de di dv DD ρ c = dv ρ c fun d c1 => de ρ c1 fun x c2 => di ρ c2 fun y c3 => moA x fun a => asI y fun k => @mL (c3.m a) fun l => ∃ j, ixN l.length k = some j ∧ @Nx DD.nx ρ (c3.put a (.lst (l.set j d))) := propext Iff.rfl
theorem RpAll.setAt {K : PySem.W.Frag} {G : GS K} {v : V} {d : D} (r : Rp K G v d) : ∀ {xs : List V} {l : List D} (j : Nat), RpAll K G xs l → RpAll K G (xs.set j v) (l.set j d)
  | _, _, _, .nil => .nil
  | _, _, 0, .cons _ h => .cons r h
  | _, _, j + 1, .cons r1 h => .cons r1 (RpAll.setAt r j h)
theorem pds_setM (ho : PD Y o to de) (hi : PD Y i ti di) (hv : PD Y e te dv) (hs : swapsWithSole [.Subscript o i p] e pos.line Y.X.env = pure false := by rfl) (hw : swappedStores [.Subscript o i p] e Y.X.env = pure none := by rfl)
    (h1 : (assignEach [.Subscript o i p] Y.X.env).map (·.2) = [assign (.Subscript o i p) Y.X.env] := by rfl)
    (ha : ∀ v, assign (.Subscript o i p) Y.X.env v = (do
      let ov ← holding [v] (eval o Y.X.env)
      let iv ← holding [v, ov] (eval i Y.X.env)
      standAt p
      holding [v, ov, iv] (setItem ov iv v)
      release [v, ov, iv] []) := by intros; rfl) :
    PDS Y (.Assign [.Subscript o i p] e pos) (tAsg te (gSub to ti rSetL)) (sSetM de di dv) := by
  refine ⟨ps_asg hv.p (pg_sub ho.p hi.p set_list ha) hs hw h1, fun P G H c ρ σ DD EE K R q => ?_⟩
  refine hv.s G H c ρ σ _ _ R.r q fun d v G1 H1 c1 e1 r1 q => ?_
  refine ho.s G1 H1 c1 ρ σ _ _ (R.r.evo' e1) q fun x vx G2 H2 c2 e2 r2 q => ?_
  refine hi.s G2 H2 c2 ρ σ _ _ ((R.r.evo' e1).evo' e2) q fun y vy G3 H3 c3 e3 r3 ⟨a, ex, k, ey, l, hm, j, hj, qq⟩ => ?_
  subst ex ey
  cases r2
  cases r3
  obtain ⟨xs, hu, h5⟩ := e3.at_lst hm
  have ep : Evo G3 H3 c3 G3 (upd H3 a (.lst (xs.set j v))) (c3.put a (.lst (l.set j d))) := Evo.putM e3.ok hm ⟨_, rfl, RpAll.setAt (r1.mono (e2.trans e3).le) j h5⟩
  exact ⟨a, xs, k, j, rfl, rfl, hu, by rw [h5.length]; exact hj, K.nx _ _ _ _ _ ((R.evo ((e1.trans e2).trans e3)).evo ep) qq⟩
def tup2P (ds : List D) (P : List KD → List KD → Prop) : Prop := ∃ p q, ds = [kdD (.t p), kdD (.t q)] ∧ P p q
def dMin2K (t : DA) : DE := fun ρ c Q => t ρ c fun ds c1 => tup2P ds fun p q => RowsK [.t p, .t q] ∧ ∀ k ∈ [KD.t p, KD.t q], (∀ j ∈ [KD.t p, KD.t q], ltK j k = false) → Q (kdD k) c1
theorem ev_min2K {ρ : DEnv} {c : CN} {Q : QD} : dMin2K t ρ c Q = t ρ c fun ds c1 => tup2P ds fun p q => RowsK [.t p, .t q] ∧ ∀ k ∈ [KD.t p, KD.t q], (∀ j ∈ [KD.t p, KD.t q], ltK j k = false) → Q (kdD k) c1 := propext Iff.rfl
def joinP (x y : D) (P : Str → Prop) : Prop := ∃ s ys, x = .str s ∧ y = .lst (ys.map .str) ∧ (ys.map (·.length)).sum + ys.length * s.length ≤ 16777216 ∧ P (Txt.join s ys)
theorem joinP.mk {s : Str} {ys : List Str} {P : Str → Prop} (h : (ys.map (·.length)).sum + ys.length * s.length ≤ 16777216) (q : P (Txt.join s ys)) : joinP (.str s) (.lst (ys.map .str)) P := ⟨s, ys, rfl, rfl, h, q⟩
def dJoin (to te : DE) : DE := fun ρ c Q => to ρ c fun x c1 => te ρ c1 fun y c2 => joinP x y fun s => Q (.str s) c2
theorem ev_join {to te : DE} {ρ : DEnv} {c : CN} {Q : QD} : dJoin to te ρ c Q = to ρ c fun x c1 => te ρ c1 fun y c2 => joinP x y fun s => Q (.str s) c2 := propext Iff.rfl
end
end PL
set_option maxHeartbeats 2000000
namespace PL
open PySem PySem.Spec PyProof.Rows L2 PLt PLs
def hcat (y : Str) : List LRow → List LRow
  | [] => []
  | r :: q => (0, y ++ r.2) :: q
def LayP : Str → List Str → List (Option Str) → List LRow → Prop
  | w, [], _, l => l = [(0, w)]
  | w, v :: ws, o :: fs, l => ∃ m, LayP v ws fs m ∧ (l = (0, w) :: m ∨ ∃ x, o = some x ∧ l = hcat (w ++ x) m)
  | _, _ :: _, [], _ => False
def FlatP : Str → List Str → List (Option Str) → List LRow → Prop
  | w, [], _, l => l = [(0, w)]
  | w, v :: ws, o :: fs, l => ∃ m x, FlatP v ws fs m ∧ o = some x ∧ l = hcat (w ++ x) m
  | _, _ :: _, [], _ => False
theorem hcat_hd {y : Str} {m : List LRow} (h : m ≠ []) : ∃ x q, hcat y m = (0, x) :: q := by
  obtain ⟨r, q, rfl⟩ := lay_cons h
  exact ⟨_, _, rfl⟩
theorem layP_hd : ∀ {ws : List Str} {w : Str} {fs : List (Option Str)} {l : List LRow}, LayP w ws fs l → ∃ x q, l = (0, x) :: q
  | [], w, fs, l, h => ⟨w, [], h⟩
  | v :: ws, w, o :: fs, l, ⟨m, hm, h⟩ => by
    obtain ⟨x0, q0, e0⟩ := layP_hd hm
    rcases h with rfl | ⟨x, _, rfl⟩
    · exact ⟨_, _, rfl⟩
    · exact hcat_hd (by rw [e0]; simp)
  | v :: ws, w, [], l, h => h.elim
theorem layP_ne {ws : List Str} {w : Str} {fs : List (Option Str)} {l : List LRow} (h : LayP w ws fs l) : l ≠ [] := by
  obtain ⟨x, q, rfl⟩ := layP_hd h
  simp
theorem flatP_lay : ∀ {ws : List Str} {w : Str} {fs : List (Option Str)} {l : List LRow}, FlatP w ws fs l → LayP w ws fs l
  | [], w, fs, l, h => h
  | v :: ws, w, o :: fs, l, ⟨m, x, hm, e, h⟩ => ⟨m, flatP_lay hm, .inr ⟨x, e, h⟩⟩
  | v :: ws, w, [], l, h => h.elim
theorem joinP_one {y : Str} {m : List LRow} (h : m ≠ []) : joinL [(0, y)] m = hcat y m := by
  obtain ⟨r, q, rfl⟩ := lay_cons h
  exact joinL_snoc [] q (0, y) r
theorem joinL_cons2 {r : LRow} {a b : List LRow} (ha : a ≠ []) (hb : b ≠ []) : joinL (r :: a) b = r :: joinL a b := by
  obtain ⟨c, x, rfl⟩ := lay_snoc ha
  obtain ⟨y, d, rfl⟩ := lay_cons hb
  rw [← List.cons_append, joinL_snoc, joinL_snoc]
  rfl
theorem joinL_ne2 {a b : List LRow} : joinL a b ≠ [] := by simp [joinL]
theorem hcat_joinL {y : Str} {a b : List LRow} (ha : a ≠ []) (hb : b ≠ []) : hcat y (joinL a b) = joinL (hcat y a) b := by
  obtain ⟨r, c, rfl⟩ := lay_cons ha
  obtain ⟨q, d, rfl⟩ := lay_cons hb
  rcases List.eq_nil_or_concat c with rfl | ⟨c, x, rfl⟩
  · rw [show joinL [r] (q :: d) = (r.1, r.2 ++ q.2) :: d from joinL_snoc [] d r q]
    show (0, y ++ (r.2 ++ q.2)) :: d = _
    rw [show joinL (hcat y [r]) (q :: d) = (0, (y ++ r.2) ++ q.2) :: d from joinL_snoc [] d (0, y ++ r.2) q, Str.append_assoc]
  · rw [joinL_cons2 (by simp) (by simp)]
    show _ = joinL ((0, y ++ r.2) :: c.concat x) (q :: d)
    rw [joinL_cons2 (by simp) (by simp)]
    rfl
theorem hcat_app {y : Str} {a b : List LRow} (ha : a ≠ []) : hcat y (a ++ b) = hcat y a ++ b := by
  obtain ⟨r, c, rfl⟩ := lay_cons ha
  rfl
def Glue (o : Option Str) (a m l : List LRow) : Prop := l = a ++ m ∨ ∃ x, o = some x ∧ l = joinL (joinL a [(0, x)]) m
theorem layP_app {v : Str} {us : List Str} {o : Option Str} {gs : List (Option Str)} : ∀ {ws : List Str} {w : Str} {fs : List (Option Str)} {l : List LRow}, fs.length = ws.length →
    (LayP w (ws ++ v :: us) (fs ++ o :: gs) l ↔ ∃ a, LayP w ws fs a ∧ ∃ m, LayP v us gs m ∧ Glue o a m l)
  | [], w, [], l, _ => by
    constructor
    · rintro ⟨m, hm, rfl | ⟨x, e, rfl⟩⟩
      · exact ⟨[(0, w)], rfl, m, hm, .inl rfl⟩
      · refine ⟨[(0, w)], rfl, m, hm, .inr ⟨x, e, ?_⟩⟩
        rw [joinP_one (by simp)]
        exact (joinP_one (layP_ne hm)).symm
    · rintro ⟨a, rfl, m, hm, rfl | ⟨x, e, rfl⟩⟩
      · exact ⟨m, hm, .inl rfl⟩
      · refine ⟨m, hm, .inr ⟨x, e, ?_⟩⟩
        rw [joinP_one (by simp)]
        exact joinP_one (layP_ne hm)
  | z :: ws, w, p :: fs, l, h => by
    have ih : ∀ {l}, _ := fun {l} => layP_app (v := v) (us := us) (o := o) (gs := gs) (ws := ws) (w := z) (fs := fs) (l := l) (by simpa using h)
    constructor
    · rintro ⟨k, hk, hl⟩
      obtain ⟨a, ha, m, hm, g⟩ := ih.mp hk
      have na := layP_ne ha
      have nm := layP_ne hm
      rcases hl with rfl | ⟨y, ey, rfl⟩
      · refine ⟨(0, w) :: a, ⟨a, ha, .inl rfl⟩, m, hm, ?_⟩
        rcases g with rfl | ⟨x, e, rfl⟩
        · exact .inl rfl
        · refine .inr ⟨x, e, ?_⟩
          rw [joinL_cons2 na (by simp), joinL_cons2 joinL_ne2 nm]
      · refine ⟨hcat (w ++ y) a, ⟨a, ha, .inr ⟨y, ey, rfl⟩⟩, m, hm, ?_⟩
        rcases g with rfl | ⟨x, e, rfl⟩
        · exact .inl (hcat_app na)
        · refine .inr ⟨x, e, ?_⟩
          rw [hcat_joinL joinL_ne2 nm, hcat_joinL na (by simp)]
    · rintro ⟨b, ⟨a, ha, hb⟩, m, hm, g⟩
      have na := layP_ne ha
      have nm := layP_ne hm
      rcases hb with rfl | ⟨y, ey, rfl⟩
      · rcases g with rfl | ⟨x, e, rfl⟩
        · exact ⟨a ++ m, ih.mpr ⟨a, ha, m, hm, .inl rfl⟩, .inl rfl⟩
        · refine ⟨joinL (joinL a [(0, x)]) m, ih.mpr ⟨a, ha, m, hm, .inr ⟨x, e, rfl⟩⟩, .inl ?_⟩
          rw [joinL_cons2 na (by simp), joinL_cons2 joinL_ne2 nm]
      · rcases g with rfl | ⟨x, e, rfl⟩
        · exact ⟨a ++ m, ih.mpr ⟨a, ha, m, hm, .inl rfl⟩, .inr ⟨y, ey, (hcat_app na).symm⟩⟩
        · refine ⟨joinL (joinL a [(0, x)]) m, ih.mpr ⟨a, ha, m, hm, .inr ⟨x, e, rfl⟩⟩, .inr ⟨y, ey, ?_⟩⟩
          rw [hcat_joinL joinL_ne2 nm, hcat_joinL na (by simp)]
theorem flatP_app {v : Str} {us : List Str} {o : Option Str} {gs : List (Option Str)} : ∀ {ws : List Str} {w : Str} {fs : List (Option Str)} {l : List LRow}, fs.length = ws.length →
    (FlatP w (ws ++ v :: us) (fs ++ o :: gs) l ↔ ∃ a, FlatP w ws fs a ∧ ∃ m, FlatP v us gs m ∧ ∃ x, o = some x ∧ l = joinL (joinL a [(0, x)]) m)
  | [], w, [], l, _ => by
    constructor
    · rintro ⟨m, x, hm, e, rfl⟩
      refine ⟨[(0, w)], rfl, m, hm, x, e, ?_⟩
      rw [joinP_one (by simp)]
      exact (joinP_one (layP_ne (flatP_lay hm))).symm
    · rintro ⟨a, rfl, m, hm, x, e, rfl⟩
      refine ⟨m, x, hm, e, ?_⟩
      rw [joinP_one (by simp)]
      exact joinP_one (layP_ne (flatP_lay hm))
  | z :: ws, w, p :: fs, l, h => by
    have ih : ∀ {l}, _ := fun {l} => flatP_app (v := v) (us := us) (o := o) (gs := gs) (ws := ws) (w := z) (fs := fs) (l := l) (by simpa using h)
    constructor
    · rintro ⟨k, y, hk, ey, rfl⟩
      obtain ⟨a, ha, m, hm, x, e, rfl⟩ := ih.mp hk
      have na := layP_ne (flatP_lay ha)
      have nm := layP_ne (flatP_lay hm)
      refine ⟨hcat (w ++ y) a, ⟨a, y, ha, ey, rfl⟩, m, hm, x, e, ?_⟩
      rw [hcat_joinL joinL_ne2 nm, hcat_joinL na (by simp)]
    · rintro ⟨b, ⟨a, y, ha, ey, rfl⟩, m, hm, x, e, rfl⟩
      have na := layP_ne (flatP_lay ha)
      have nm := layP_ne (flatP_lay hm)
      refine ⟨joinL (joinL a [(0, x)]) m, y, ih.mpr ⟨a, ha, m, hm, x, e, rfl⟩, ey, ?_⟩
      rw [hcat_joinL joinL_ne2 nm, hcat_joinL na (by simp)]
structure IsB (w : Str) (ws : List Str) (fs : List (Option Str)) (f : Fm) : Prop where
  ok : f.ok
  hl : f.holes = []
  pt : f.parts ≤ 1 + 5 * ws.length
  dp : f.dep ≤ 2 + 2 * ws.length
  wd : f.wd ≤ 11 + 15 * ws.length
  ind : f.ind = 0
  bo : f.bo ≤ 2 ^ ws.length
  fl : f.fl ≤ 1
  wl : f.wle (2 ^ 28)
  mem : ∀ l, l ∈ f.lays false ↔ LayP w ws fs l
  flat : ∀ l, l ∈ f.lays true ↔ FlatP w ws fs l
theorem IsB.one {w : Str} (h : strS w) (hl : w.length ≤ 9) : IsB w [] [] (.text w) := ⟨h, rfl, Nat.le_refl 1, by simp [Fm.dep], by simp only [Fm.wd, List.length_nil]; omega, rfl, by show (1 : Int) ≤ 2 ^ 0; decide, by show (1 : Int) ≤ 1; decide, by show (1 : Int) ≤ 2 ^ 28; decide, fun l => by simp [Fm.lays, LayP], fun l => by simp [Fm.lays, FlatP]⟩
structure GapB (o : Option Str) (g : Fm) : Prop where
  ok : g.ok
  hl : g.holes = []
  pt : g.parts = 2
  dp : g.dep = 2
  wd : g.wd ≤ 4
  ind : g.ind = 0
  bo : 0 ≤ g.bo ∧ g.bo ≤ 2
  fl : 0 ≤ g.fl ∧ g.fl ≤ 1
  wl : g.wle (2 ^ 28)
  mem : ∀ z, z ∈ g.lays false ↔ z = [nR, nR] ∨ ∃ x, o = some x ∧ z = [(0, x)]
  flat : ∀ z, z ∈ g.lays true ↔ ∃ x, o = some x ∧ z = [(0, x)]
theorem lays_join {a b : Fm} {fl : Bool} {l : List LRow} : l ∈ (Fm.join a b).lays fl ↔ ∃ u ∈ a.lays fl, ∃ v ∈ b.lays fl, l = joinL u v := by
  rw [Fm.lays, mem_sortL, List.mem_flatMap]
  constructor
  · rintro ⟨u, hu, h⟩
    obtain ⟨v, hv, rfl⟩ := List.mem_map.mp h
    exact ⟨u, hu, v, hv, rfl⟩
  · rintro ⟨u, hu, v, hv, rfl⟩
    exact ⟨u, hu, List.mem_map.mpr ⟨v, hv, rfl⟩⟩
theorem glue_l {o : Option Str} {g : Fm} (G : GapB o g) {a m l : List LRow} (ha : a ≠ []) (hm : ∃ x q, m = (0, x) :: q) : (∃ z ∈ g.lays false, l = joinL (joinL a z) m) ↔ Glue o a m l := by
  obtain ⟨x0, q0, rfl⟩ := hm
  constructor
  · rintro ⟨z, hz, rfl⟩
    rcases (G.mem z).mp hz with rfl | ⟨x, e, rfl⟩
    · exact .inl (by rw [cat_line ha, cat_next])
    · exact .inr ⟨x, e, rfl⟩
  · rintro (rfl | ⟨x, e, rfl⟩)
    · exact ⟨_, (G.mem _).mpr (.inl rfl), by rw [cat_line ha, cat_next]⟩
    · exact ⟨_, (G.mem _).mpr (.inr ⟨x, e, rfl⟩), rfl⟩
theorem joinL_assoc2 {a b c : List LRow} (ha : a ≠ []) (hb : b ≠ []) (hc : c ≠ []) : joinL a (joinL b c) = joinL (joinL a b) c := by
  obtain ⟨a, r, rfl⟩ := lay_snoc ha
  obtain ⟨q, d, rfl⟩ := lay_cons hc
  rcases List.eq_nil_or_concat b with rfl | ⟨b, x, rfl⟩
  · exact absurd rfl hb
  rw [List.concat_eq_append]
  rw [joinL_snoc b d x q]
  cases b with
  | nil =>
    rw [List.nil_append, List.nil_append, joinL_snoc, joinL_snoc a [] r x, joinL_snoc a d]
    simp only [Str.append_assoc]
  | cons y b =>
    rw [List.cons_append, List.cons_append, joinL_snoc, joinL_snoc]
    rw [show a ++ (r.1, r.2 ++ y.2) :: (b ++ [x]) = (a ++ (r.1, r.2 ++ y.2) :: b) ++ [x] by simp, joinL_snoc]
    simp
theorem p2le {a : Nat} : ∀ {b : Nat}, a ≤ b → (2 : Int) ^ a ≤ 2 ^ b ∧ (1 : Int) ≤ 2 ^ a
  | 0, h => by
    obtain rfl : a = 0 := by omega
    decide
  | b + 1, h => by
    by_cases e : a = b + 1
    · subst e
      have := (p2le (Nat.le_refl b)).2
      refine ⟨Int.le_refl _, ?_⟩
      rw [Int.pow_succ]; omega
    · obtain ⟨h1, h2⟩ := p2le (a := a) (b := b) (by omega)
      rw [Int.pow_succ]
      exact ⟨by omega, h2⟩
theorem IsB.sizes {w v : Str} {ws us : List Str} {fs gs : List (Option Str)} {o : Option Str} {A B g : Fm} (hA : IsB w ws fs A) (hB : IsB v us gs B) (G : GapB o g) (hn : (ws ++ v :: us).length ≤ 28) :
    A.bo * g.bo * B.bo ≤ 2 ^ (ws ++ v :: us).length ∧ A.fl * g.fl * B.fl ≤ 1 ∧ A.bo * g.bo ≤ 2 ^ 28 ∧ A.fl * g.fl ≤ 2 ^ 28 ∧ g.bo * B.bo ≤ 2 ^ 28 ∧ g.fl * B.fl ≤ 2 ^ 28 ∧ (2 : Int) ^ (ws ++ v :: us).length ≤ 2 ^ 28 := by
  rw [List.length_append, List.length_cons] at hn ⊢
  have nA := Fm.ways_nn A
  have nB := Fm.ways_nn B
  have a1 := hA.bo
  have b1 := hB.bo
  have a2 := hA.fl
  have b2 := hB.fl
  obtain ⟨g1, g2⟩ := G.bo
  obtain ⟨g3, g4⟩ := G.fl
  have p0 := (p2le (Nat.le_refl ws.length)).2
  have q0 := (p2le (Nat.le_refl us.length)).2
  have p27 := (p2le (a := ws.length) (b := 27) (by omega)).1
  have q27 := (p2le (a := us.length) (b := 27) (by omega)).1
  have e28 : (2 : Int) ^ 28 = 2 ^ 27 * 2 := by decide
  have x1 : A.bo * g.bo ≤ 2 ^ ws.length * 2 := Int.mul_le_mul a1 g2 g1 (by omega)
  have x2 : g.bo * B.bo ≤ 2 * 2 ^ us.length := Int.mul_le_mul g2 b1 nB.1 (by decide)
  have y1 : A.fl * g.fl ≤ 1 * 1 := Int.mul_le_mul a2 g4 g3 (by decide)
  have y2 : g.fl * B.fl ≤ 1 * 1 := Int.mul_le_mul g4 b2 nB.2 (by decide)
  have y3 : A.fl * g.fl * B.fl ≤ 1 * 1 := Int.mul_le_mul (by omega) b2 nB.2 (by decide)
  have x3 : A.bo * g.bo * B.bo ≤ (2 ^ ws.length * 2) * 2 ^ us.length := Int.mul_le_mul x1 b1 nB.1 (by omega)
  have e : (2 : Int) ^ (ws.length + (us.length + 1)) = (2 ^ ws.length * 2) * 2 ^ us.length := by
    rw [Int.pow_add, Int.pow_succ, Int.mul_assoc, Int.mul_comm 2]
  have z : (2 : Int) ^ (ws.length + (us.length + 1)) ≤ 2 ^ 28 := (p2le (by omega)).1
  refine ⟨by rw [e]; exact x3, by omega, by omega, by omega, by omega, by omega, z⟩
theorem IsB.left {w v : Str} {ws us : List Str} {fs gs : List (Option Str)} {o : Option Str} {A B g : Fm} (hA : IsB w ws fs A) (hB : IsB v us gs B) (G : GapB o g) (hf : fs.length = ws.length) (hn : (ws ++ v :: us).length ≤ 28) :
    IsB w (ws ++ v :: us) (fs ++ o :: gs) (.join (.join A g) B) := by
  obtain ⟨s1, s2, s3, s4, s5, s6, s7⟩ := hA.sizes hB G hn
  have p1 := hA.pt; have p2 := hB.pt; have p3 := G.pt
  have d1 := hA.dp; have d2 := hB.dp; have d3 := G.dp
  have w1 := hA.wd; have w2 := hB.wd; have w3 := G.wd
  refine ⟨⟨⟨hA.ok, G.ok⟩, hB.ok⟩, by simp [Fm.holes, hA.hl, hB.hl, G.hl], ?_, ?_, ?_, by simp only [Fm.ind, hA.ind, hB.ind, G.ind]; decide, s1, s2, ⟨⟨Int.le_trans s1 s7, Int.le_trans s2 (by decide)⟩, ⟨⟨s3, s4⟩, hA.wl, G.wl⟩, hB.wl⟩, fun l => ?_, fun l => ?_⟩
  · rw [List.length_append, List.length_cons]; simp only [Fm.parts]; omega
  · rw [List.length_append, List.length_cons]; simp only [Fm.dep]; omega
  · rw [List.length_append, List.length_cons]; simp only [Fm.wd]; omega
  · rw [layP_app hf, lays_join]
    constructor
    · rintro ⟨u, hu, b, hb, rfl⟩
      obtain ⟨a, ha, z, hz, rfl⟩ := lays_join.mp hu
      have ha := (hA.mem a).mp ha
      have hb := (hB.mem b).mp hb
      exact ⟨a, ha, b, hb, (glue_l G (layP_ne ha) (layP_hd hb)).mp ⟨z, hz, rfl⟩⟩
    · rintro ⟨a, ha, b, hb, hg⟩
      obtain ⟨z, hz, e⟩ := (glue_l G (layP_ne ha) (layP_hd hb)).mpr hg
      exact ⟨_, lays_join.mpr ⟨a, (hA.mem a).mpr ha, z, hz, rfl⟩, b, (hB.mem b).mpr hb, e⟩
  · rw [flatP_app hf, lays_join]
    constructor
    · rintro ⟨u, hu, b, hb, rfl⟩
      obtain ⟨a, ha, z, hz, rfl⟩ := lays_join.mp hu
      obtain ⟨x, e, rfl⟩ := (G.flat z).mp hz
      exact ⟨a, (hA.flat a).mp ha, b, (hB.flat b).mp hb, x, e, rfl⟩
    · rintro ⟨a, ha, b, hb, x, e, rfl⟩
      exact ⟨_, lays_join.mpr ⟨a, (hA.flat a).mpr ha, [(0, x)], (G.flat _).mpr ⟨x, e, rfl⟩, rfl⟩, b, (hB.flat b).mpr hb, rfl⟩
theorem gap_ne {o : Option Str} {g : Fm} (G : GapB o g) {fl : Bool} {z : List LRow} (h : z ∈ g.lays fl) : z ≠ [] := by
  cases fl with
  | false => rcases (G.mem z).mp h with rfl | ⟨x, _, rfl⟩ <;> simp
  | true => obtain ⟨x, _, rfl⟩ := (G.flat z).mp h; simp
theorem IsB.right {w v : Str} {ws us : List Str} {fs gs : List (Option Str)} {o : Option Str} {A B g : Fm} (hA : IsB w ws fs A) (hB : IsB v us gs B) (G : GapB o g) (hf : fs.length = ws.length) (hn : (ws ++ v :: us).length ≤ 28) :
    IsB w (ws ++ v :: us) (fs ++ o :: gs) (.join A (.join g B)) := by
  obtain ⟨s1, s2, s3, s4, s5, s6, s7⟩ := hA.sizes hB G hn
  have L := hA.left hB G hf hn
  rw [Int.mul_assoc] at s1 s2
  have p1 := hA.pt; have p2 := hB.pt; have p3 := G.pt
  have d1 := hA.dp; have d2 := hB.dp; have d3 := G.dp
  have w1 := hA.wd; have w2 := hB.wd; have w3 := G.wd
  have same : ∀ fl l, l ∈ (Fm.join A (.join g B)).lays fl ↔ l ∈ (Fm.join (.join A g) B).lays fl := fun fl l => by
    rw [lays_join, lays_join]
    have na : ∀ {x}, x ∈ A.lays fl → x ≠ [] := fun h => Fm.lays_ne A fl _ h
    have nb : ∀ {x}, x ∈ B.lays fl → x ≠ [] := fun h => Fm.lays_ne B fl _ h
    constructor
    · rintro ⟨a, ha, u, hu, rfl⟩
      obtain ⟨z, hz, b, hb, rfl⟩ := lays_join.mp hu
      exact ⟨_, lays_join.mpr ⟨a, ha, z, hz, rfl⟩, b, hb, joinL_assoc2 (na ha) (gap_ne G hz) (nb hb)⟩
    · rintro ⟨u, hu, b, hb, rfl⟩
      obtain ⟨a, ha, z, hz, rfl⟩ := lays_join.mp hu
      exact ⟨a, ha, _, lays_join.mpr ⟨z, hz, b, hb, rfl⟩, (joinL_assoc2 (na ha) (gap_ne G hz) (nb hb)).symm⟩
  refine ⟨⟨hA.ok, G.ok, hB.ok⟩, by simp [Fm.holes, hA.hl, hB.hl, G.hl], ?_, ?_, ?_, by simp only [Fm.ind, hA.ind, hB.ind, G.ind]; decide, s1, s2, ⟨⟨Int.le_trans s1 s7, Int.le_trans s2 (by decide)⟩, hA.wl, ⟨s5, s6⟩, G.wl, hB.wl⟩, fun l => (same false l).trans (L.mem l), fun l => (same true l).trans (L.flat l)⟩
  · rw [List.length_append, List.length_cons]; simp only [Fm.parts]; omega
  · rw [List.length_append, List.length_cons]; simp only [Fm.dep]; omega
  · rw [List.length_append, List.length_cons]; simp only [Fm.wd]; omega
end PL
set_option maxHeartbeats 2000000
namespace PL
open PySem PySem.Spec PyProof.Rows L2 PLt PLs
def flatT (W co : Int) (z : Str) : Trip := (ov W (co + (z.length : Nat)), 1, [(0, z)])
theorem IsB.sm {f : Fm} {w : Str} {ws : List Str} {fs : List (Option Str)} (B : IsB w ws fs f) (hn : ws.length ≤ 28) : f.small := by
  have := B.pt; have := B.dp
  exact ⟨by omega, B.wl.mono (by decide), by omega, by rw [B.hl]; decide⟩
end PL
set_option maxHeartbeats 2000000
namespace PLt
open PySem PySem.Spec PyProof.Rows L2
section
variable {X : Cx} {o : Expr} {to : TE}
def RepOk (x z : Str) : Prop := x.length + (x.length + 1) * z.length ≤ 16777216
def tRepC (y z : Str) (to : TE) : TE := fun σ H Q => to σ H fun x H1 => ∃ s, x = .str s ∧ RepOk s z ∧ Q (.str (Txt.replace s y z)) H1
theorem pet_rep {y z : Str} {j0 j1 : Nat} {c0 c1 apos pos : Pos} (ho : PET X o to) (hyz : (y == z) = false) (hs : starEach [.Constant (.str y) j0 c0, .Constant (.str z) j1 c1] X.env = [(false, eval (.Constant (.str y) j0 c0) X.env), (false, eval (.Constant (.str z) j1 c1) X.env)] := by rfl)
    (hbase : attributeBase o "replace" X.env (eval o X.env) = eval o X.env := by rfl) (hline : (apos.endLine == pos.line) = true := by rfl) :
    PET X (.Call (.Attribute o "replace" apos) [.Constant (.str y) j0 c0, .Constant (.str z) j1 c1] [] pos) (tRepC y z to) := by
  intro pins s σ H Q h0 I h
  refine PySem.Call_method2 hbase hs hline (wpAny_mono (PySem.wpAny_toks (ho pins s σ H _ h0 I h)) (fun v s1 q => ?_) fun _ _ z => z.2)
  obtain ⟨hk, x, H1, I1, r1, s', ex, hb, q1⟩ := q
  subst ex
  obtain ⟨t, rfl⟩ := _root_.id r1
  refine ⟨"str", _, F.plainAttrs_str, F.slot_str_replace, F.type_str_replace, typeIs_str _ _ _, (fun _ e => nomatch e), Calls.callWith_builtin rfl (Calls.evalArgs_plain (Calls.spliced_cons (Calls.Constant_str (Calls.spliced_cons (Calls.Constant_str (Calls.spliced_nil ?_))))))⟩
  refine SC.replace (show s1.toks ≠ 0 by omega) (show s1.toks + 1 ≠ 0 by omega) (show s1.toks ≠ s1.toks + 1 by omega) hyz hb fun t' k => ?_
  exact ⟨.str _, H1, I1.tok _, ⟨_, rfl⟩, q1⟩
theorem pet_of (h : PE X o to) : PET X o to := fun pins s σ H Q _ I q => h.run pins s σ H Q I q
theorem pe_addT {c : Str} {e : Expr} {te : TE} {j : Nat} {cp pos : Pos} {r : R2} (hop : OpR X (binaryOp .Add) r) (he : PET X e te) : PE X (.BinOp (.Constant (.str c) j cp) .Add e pos) (tOp r (tC (.str c)) te) := by
  refine ⟨fun pins s σ H Q I h => ?_⟩
  refine wpAny_BinOp (Calls.Constant_str ?_)
  refine thn (he pins { s with toks := s.toks + 1 } σ H _ (by show 1 ≤ s.toks + 1; omega) (I.tok _) h) fun u s2 ⟨y, H2, I2, r2, q2⟩ => ?_
  exact hop pins s2 σ H2 (.str c) y (.str c s.toks) u Q I2 ⟨s.toks, rfl⟩ r2 q2
end
def rNeL (K : W.Frag) : R2 := fun x y H Q => ∃ a b xs, x = .ref a ∧ y = .ref b ∧ SqL K H a xs ∧ SqL K H b [] ∧ Q (.bl (!(xs.length == 0))) H
theorem op_neL {X : Cx} (hu : X.A.units < cLine) : OpR X (compareOp .NotEq) (rNeL X.K) := by
  intro pins s σ H x y v u Q I rx ry h
  obtain ⟨a, b, xs, rfl, rfl, h1, h2, q⟩ := h
  cases (show v = Value.ref a from rx)
  cases (show u = Value.ref b from ry)
  obtain ⟨i1, r1, p1, _⟩ := I.list h1
  obtain ⟨i2, r2, p2, _⟩ := I.list h2
  cases r2
  show wpAny _ _ (richCompare .NotEq (.ref a) (.ref b)) _ _ s
  have hl := r1.length
  cases xs with
  | nil =>
    cases r1
    exact SeqAt.RcNeAt.lists (e := fun _ => true) p1.isList p2.isList rfl hu (fun j h1 h2 => absurd h2 (by simp)) X.prog X.w _ _ ⟨.bl _, H, I, rfl, q⟩
  | cons z xs =>
    refine SeqAt.RcNeAt.lists_lengths p1.isList p2.isList ?_ hu X.prog X.w _ _ ⟨.bl _, H, I, rfl, q⟩
    cases r1
    simp
end PLt
namespace PL
open PySem PySem.Spec PyProof.Rows L2 PLt PLs
section
variable {Y : Ctx} {o e b : Expr} {te eb : TE} {de db : DE} {fa : TA} {t : DA} {pos p : Pos} {k : Nat} {t0 : DE}
def dQuote (c y1 z1 y2 z2 : Str) (de : DE) : DE := fun ρ cn Q => de ρ cn fun x c1 => strP x fun s => RepOk s z1 ∧ RepOk (Txt.replace s y1 z1) z2 ∧ c.length + (Txt.replace (Txt.replace s y1 z1) y2 z2).length ≤ 16777216 ∧ Q (.str (c ++ Txt.replace (Txt.replace s y1 z1) y2 z2)) c1
theorem ev_quote {c y1 z1 y2 z2 : Str} {ρ : DEnv} {cn : CN} {Q : QD} : dQuote c y1 z1 y2 z2 de ρ cn Q = de ρ cn fun x c1 => strP x fun s => RepOk s z1 ∧ RepOk (Txt.replace s y1 z1) z2 ∧ c.length + (Txt.replace (Txt.replace s y1 z1) y2 z2).length ≤ 16777216 ∧ Q (.str (c ++ Txt.replace (Txt.replace s y1 z1) y2 z2)) c1 := propext Iff.rfl
theorem pd_quote {c y1 z1 y2 z2 : Str} {j j0 j1 j2 j3 : Nat} {cp c0 c1 c2 c3 ap1 ap2 q1 q2 : Pos} (ho : PD Y o te de) (h1 : (y1 == z1) = false := by decide +kernel) (h2 : (y2 == z2) = false := by decide +kernel)
    (hs1 : starEach [.Constant (.str y1) j0 c0, .Constant (.str z1) j1 c1] Y.X.env = [(false, eval (.Constant (.str y1) j0 c0) Y.X.env), (false, eval (.Constant (.str z1) j1 c1) Y.X.env)] := by rfl)
    (hs2 : starEach [.Constant (.str y2) j2 c2, .Constant (.str z2) j3 c3] Y.X.env = [(false, eval (.Constant (.str y2) j2 c2) Y.X.env), (false, eval (.Constant (.str z2) j3 c3) Y.X.env)] := by rfl)
    (hb1 : attributeBase o "replace" Y.X.env (eval o Y.X.env) = eval o Y.X.env := by rfl) (hl1 : (ap1.endLine == q1.line) = true := by rfl)
    (hb2 : attributeBase (.Call (.Attribute o "replace" ap1) [.Constant (.str y1) j0 c0, .Constant (.str z1) j1 c1] [] q1) "replace" Y.X.env (eval (.Call (.Attribute o "replace" ap1) [.Constant (.str y1) j0 c0, .Constant (.str z1) j1 c1] [] q1) Y.X.env) = eval (.Call (.Attribute o "replace" ap1) [.Constant (.str y1) j0 c0, .Constant (.str z1) j1 c1] [] q1) Y.X.env := by rfl)
    (hl2 : (ap2.endLine == q2.line) = true := by rfl) :
    PD Y (.BinOp (.Constant (.str c) j cp) .Add (.Call (.Attribute (.Call (.Attribute o "replace" ap1) [.Constant (.str y1) j0 c0, .Constant (.str z1) j1 c1] [] q1) "replace" ap2) [.Constant (.str y2) j2 c2, .Constant (.str z2) j3 c3] [] q2) pos)
      (tOp (rSum2 Y.X.K) (tC (.str c)) (tRepC y2 z2 (tRepC y1 z1 te))) (dQuote c y1 z1 y2 z2 de) := by
  refine ⟨pe_addT op_sum2 (pet_rep (pet_rep (pet_of ho.p) h1 hs1 hb1 hl1) h2 hs2 hb2 hl2), fun G H cn ρ σ Qd Q R q kk => ?_⟩
  refine ho.s G H cn ρ σ _ _ R q fun x v G1 H1 c1 e1 r1 q => ?_
  obtain ⟨s, ex, g1, g2, g3, q⟩ := q
  subst ex
  cases r1
  exact ⟨s, rfl, g1, _, rfl, g2, .inl (.inr (.inl ⟨_, _, rfl, rfl, by rw [sizeLine_eq]; exact g3, kk _ _ _ _ _ e1 (.str _) q⟩))⟩
def dNeM (de : DE) : DE := fun ρ c Q => de ρ c fun x c1 => moA x fun a => @mL (c1.m a) fun l => Q (.bl (!(l.length == 0))) c1
theorem ev_neM {ρ : DEnv} {c : CN} {Q : QD} : dNeM de ρ c Q = de ρ c fun x c1 => moA x fun a => @mL (c1.m a) fun l => Q (.bl (!(l.length == 0))) c1 := propext Iff.rfl
theorem pdc_neM (g : Y.Good k) (he : PD Y e te de) : PDC Y .NotEq e (.List [] p) (tOp (rNeL Y.X.K) te (tLst tNil)) (dNeM de) := by
  refine ⟨⟨fun pins s σ H Q I h => bin he.p (pe_lst pa_nil) I h fun v u s2 x y H2 I2 r1 r2 q => op_neL (by have := g.room.units; omega) pins s2 σ H2 x y v u Q I2 r1 r2 q⟩, fun G H c ρ σ Qd Q R q kk => ?_⟩
  refine he.s G H c ρ σ _ _ R q fun x v G1 H1 c1 e1 r1 ⟨a, ex, l, hm, q⟩ => ?_
  subst ex
  cases r1
  obtain ⟨xs, hu, h5⟩ := e1.at_lst hm
  refine ⟨Nat.zero_le _, fun b nb => ?_⟩
  have hab : a ≠ b := fun z => by rw [z] at hu; rw [hu] at nb; cases nb
  have ev := Evo.laid e1.ok (.lst []) nb
  refine ⟨a, b, xs, rfl, rfl, SqL.of (by rw [upd_ne hab]; exact hu), SqL.of upd_same, ?_⟩
  rw [h5.length]
  exact kk _ _ _ _ _ (e1.trans ev) (.bl _) q
def fmtP (x : D) (P : Str → Prop) : Prop := (∃ s, x = .str s ∧ s.length ≤ 16777216 ∧ P s) ∨ ∃ i : Int, x = .int i ∧ i.natAbs.log2 < 1920 ∧ P (toString i)
def dFmt (de : DE) : DE := fun ρ c Q => de ρ c fun x c1 => fmtP x fun s => Q (.str s) c1
theorem ev_fmt {ρ : DEnv} {c : CN} {Q : QD} : dFmt de ρ c Q = de ρ c fun x c1 => fmtP x fun s => Q (.str s) c1 := propext Iff.rfl
theorem ev_fmtS {s : Str} {P : Str → Prop} : fmtP (.str s) P = (s.length ≤ 16777216 ∧ P s) := by
  apply propext; constructor
  · rintro (⟨_, e, h⟩ | ⟨_, e, _⟩)
    · cases e; exact h
    · cases e
  · exact fun h => .inl ⟨_, rfl, h⟩
theorem ev_fmtI {i : Int} {P : Str → Prop} : fmtP (.int i) P = (i.natAbs.log2 < 1920 ∧ P (toString i)) := by
  apply propext; constructor
  · rintro (⟨_, e, _⟩ | ⟨_, e, h⟩)
    · cases e
    · cases e; exact h
  · exact fun h => .inr ⟨_, rfl, h⟩
theorem pd_fmt (he : PD Y e te de) : PD Y (.FormattedValue e (-1) none pos) (tFmt te) (dFmt de) := by
  refine ⟨pe_fmt he.p, fun G H c ρ σ Qd Q R q kk => ?_⟩
  refine he.s G H c ρ σ _ _ R q fun x v G1 H1 c1 e1 r1 q => ?_
  rcases q with ⟨s, rfl, hl, q⟩ | ⟨i, rfl, hl, q⟩
  · cases r1
    exact .inl ⟨s, rfl, by rw [sizeLine_eq]; exact hl, kk _ _ _ _ _ e1 (.str _) q⟩
  · cases r1
    exact .inr ⟨i, rfl, hl, kk _ _ _ _ _ e1 (.str _) q⟩
def dJs : List DE → Str → DEnv → CN → (Str → CN → Prop) → Prop
  | [], acc, _, c, Q => Q acc c
  | t :: ts, acc, ρ, c, Q => t ρ c fun x c1 => strP x fun y => (acc ++ y).length ≤ 16777216 ∧ dJs ts (acc ++ y) ρ c1 Q
structure PDJ (Y : Ctx) (es : List Expr) (ts : List TE) (ds : List DE) : Prop where
  p : PJ Y.X es ts
  s : ∀ acc G H c ρ σ (Qd : Str → CN → Prop) (Q : Str → Hp → Prop), Rel Y G H c ρ σ → dJs ds acc ρ c Qd → (∀ s G' H' c', Evo G H c G' H' c' → Qd s c' → Q s H') → tJs ts acc σ H Q
theorem pdj_nil : PDJ Y [] [] [] := ⟨.nil, fun acc G H c ρ σ Qd Q R q kk => kk _ _ _ _ (Evo.refl R.ok) q⟩
theorem pdj_cons {es : List Expr} {ts : List TE} {ds : List DE} (he : PD Y e te de) (h : PDJ Y es ts ds) : PDJ Y (e :: es) (te :: ts) (de :: ds) := by
  refine ⟨.cons he.p h.p, fun acc G H c ρ σ Qd Q R q kk => ?_⟩
  refine he.s G H c ρ σ _ _ R q fun x v G1 H1 c1 e1 r1 q => ?_
  obtain ⟨y, ex, hl, q⟩ := q
  subst ex
  cases r1
  exact ⟨y, rfl, by rw [sizeLine_eq]; exact hl, h.s _ G1 H1 c1 ρ σ _ _ (R.evo' e1) q fun s G2 H2 c2 e2 q2 => kk s G2 H2 c2 (e1.trans e2) q2⟩
def dJoined (ds : List DE) : DE := fun ρ c Q => dJs ds Str.empty ρ c fun s c1 => Q (.str s) c1
theorem pd_joined {v1 v2 : Expr} {es : List Expr} {ts : List TE} {ds : List DE} (h : PDJ Y (v1 :: v2 :: es) ts ds) : PD Y (.JoinedStr (v1 :: v2 :: es) pos) (fun σ H Q => tJs ts Str.empty σ H fun out H1 => Q (.str out) H1) (dJoined ds) :=
  ⟨pe_joined h.p, fun G H c ρ σ Qd Q R q kk => h.s _ G H c ρ σ _ _ R q fun s G1 H1 c1 e1 q1 => kk _ _ _ _ _ e1 (.str _) q1⟩
theorem ev_joined {ds : List DE} {ρ : DEnv} {c : CN} {Q : QD} : dJoined ds ρ c Q = dJs ds Str.empty ρ c fun s c1 => Q (.str s) c1 := propext Iff.rfl
theorem ev_jsN {acc : Str} {ρ : DEnv} {c : CN} {Q : Str → CN → Prop} : dJs [] acc ρ c Q = Q acc c := propext Iff.rfl
theorem ev_jsC {t : DE} {ts : List DE} {acc : Str} {ρ : DEnv} {c : CN} {Q : Str → CN → Prop} : dJs (t :: ts) acc ρ c Q = t ρ c fun x c1 => strP x fun y => (acc ++ y).length ≤ 16777216 ∧ dJs ts (acc ++ y) ρ c1 Q := propext Iff.rfl
def strIP (ds : List D) (P : Int → Prop) : Prop := ∃ i, ds = [.int i] ∧ P i
theorem ev_strIP {i : Int} {P : Int → Prop} : strIP [.int i] P = P i := by
  apply propext; constructor
  · rintro ⟨_, e, h⟩; cases e; exact h
  · exact fun h => ⟨_, rfl, h⟩
def aStrI (ds : List D) (c : CN) (Q : QD) : Prop := strIP ds fun i => i.natAbs.log2 < 1920 ∧ Q (.str (toString i)) c
theorem ev_strI {ds : List D} {c : CN} {Q : QD} : aStrI ds c Q = strIP ds fun i => i.natAbs.log2 < 1920 ∧ Q (.str (toString i)) c := propext Iff.rfl
def aIntS (ds : List D) (c : CN) (Q : QD) : Prop := ∃ s n, ds = [.str s] ∧ intText? s = some n ∧ s.length ≤ 640 ∧ Q (.int n) c
theorem br_intS {K : PySem.W.Frag} : BrN K (fun xs H Q => ∃ a n, xs = [.str a] ∧ PySem.intText? a = some n ∧ a.length ≤ 640 ∧ Q (.int n) H) aIntS := fun G H c xs ds Qd Q ok r q k => by
  obtain ⟨s, n, rfl, hn, hl, q⟩ := q
  cases r with
  | cons r rr =>
    cases rr; cases r
    exact ⟨s, n, rfl, hn, hl, k _ _ G H c (Evo.refl ok) (.int _) q⟩
end
end PL
set_option maxHeartbeats 2000000
namespace PL
open PySem PySem.Spec PyProof.Rows L2 PLt PLs
def sOf (l : List Nat) : Str := ⟨l.toArray⟩
theorem sOf_app (a b : List Nat) : sOf a ++ sOf b = sOf (a ++ b) := by
  apply Str.ext'
  show a.toArray ++ b.toArray = (a ++ b).toArray
  simp
theorem sOf_list (s : Str) : sOf s.cps.toList = s := by
  apply Str.ext'
  show s.cps.toList.toArray = s.cps
  simp
theorem sOf_cps (l : List Nat) : (sOf l).cps.toList = l := by simp [sOf]
theorem sOf_len (l : List Nat) : (sOf l).length = l.length := by simp [sOf, Str.length]
theorem strLen (s : Str) : s.cps.toList.length = s.length := by simp [Str.length]
def subs (c : Nat) (z : List Nat) (k : Nat) : List Nat := if k = c then z else [k]
theorem subs_free (c : Nat) (z : List Nat) : ∀ l : List Nat, c ∉ l → l.flatMap (subs c z) = l
  | [], _ => rfl
  | k :: r, h => by
    have hk : ¬ k = c := fun e => h (by rw [e]; exact List.mem_cons_self)
    rw [List.flatMap_cons, subs_free c z r fun m => h (List.mem_cons_of_mem _ m), subs, if_neg hk]
    rfl
theorem rep_join (c : Nat) (z : Str) : ∀ parts : List Str, (∀ p ∈ parts, c ∉ p.cps.toList) → (Str.join ⟨#[c]⟩ parts).cps.toList.flatMap (subs c z.cps.toList) = (Str.join z parts).cps.toList
  | [], _ => rfl
  | [p], h => subs_free c _ _ (h p (List.mem_singleton.mpr rfl))
  | p :: q :: r, h => by
    have ih := rep_join c z (q :: r) fun a ha => h a (List.mem_cons_of_mem _ ha)
    show (p ++ ⟨#[c]⟩ ++ Str.join ⟨#[c]⟩ (q :: r)).cps.toList.flatMap _ = (p ++ z ++ Str.join z (q :: r)).cps.toList
    simp only [Str.cps_append, Array.toList_append, List.flatMap_append]
    rw [ih, subs_free c _ _ (h p List.mem_cons_self)]
    show p.cps.toList ++ [c].flatMap _ ++ _ = _
    simp [subs]
theorem rep_one (x z : Str) (c : Nat) : (Txt.replace x ⟨#[c]⟩ z).cps.toList = x.cps.toList.flatMap (subs c z.cps.toList) := by
  rw [StrLaws.replace_one, ← rep_join c z _ (StrLaws.split_free x c), StrLaws.join_split]
def esc : List Nat → List Nat
  | [] => []
  | k :: r => if k = 34 ∨ k = 92 then 92 :: k :: esc r else k :: esc r
theorem esc_rep : ∀ l : List Nat, (l.flatMap (subs 92 [92, 92])).flatMap (subs 34 [92, 34]) = esc l
  | [] => rfl
  | k :: r => by
    rw [List.flatMap_cons, List.flatMap_append, esc_rep r, esc]
    by_cases h : k = 92
    · subst h; simp [subs]
    · by_cases h2 : k = 34
      · subst h2; simp [subs]
      · rw [if_neg (by omega)]
        simp [subs, h, h2]
theorem rep_esc (x : Str) : Txt.replace (Txt.replace x "\\" "\\\\") "\"" "\\\"" = sOf (esc x.cps.toList) := by
  have h1 : (Txt.replace x "\\" "\\\\").cps.toList = x.cps.toList.flatMap (subs 92 [92, 92]) := rep_one x "\\\\" 92
  have h2 : (Txt.replace (Txt.replace x "\\" "\\\\") "\"" "\\\"").cps.toList = (Txt.replace x "\\" "\\\\").cps.toList.flatMap (subs 34 [92, 34]) := rep_one _ "\\\"" 34
  rw [h1, esc_rep] at h2
  rw [← h2, sOf_list]
theorem esc_len : ∀ l : List Nat, (esc l).length ≤ 2 * l.length
  | [] => by simp [esc]
  | k :: r => by
    have := esc_len r
    rw [esc]
    split <;> simp <;> omega
def wq (x : Str) : List Nat := 34 :: (esc x.cps.toList ++ [34])
def digs (n : Int) : List Nat := (toString n : Str).cps.toList
namespace Fm
def wr : Fm → List Nat
  | text x => wq x
  | brk none => [33]
  | brk (some x) => 95 :: wq x
  | hole x => x.cps.toList
  | nested n f => 60 :: (digs n ++ 32 :: (wr f ++ [62]))
  | group f => 91 :: (wr f ++ [93])
  | flat f => 123 :: (wr f ++ [125])
  | join f g => 40 :: (wr f ++ 32 :: 43 :: 32 :: (wr g ++ [41]))
  | choice f g => 40 :: (wr f ++ 32 :: 124 :: 32 :: (wr g ++ [41]))
end Fm
inductive Fr where
  | par (ch : Bool) (g : Fm) | nest (n : Int) | grp | flt | par2 (ch : Bool) (f : Fm)
def sgn (ch : Bool) : Nat := match ch with
  | false => 43
  | true => 124
def tl : List Fr → List Nat
  | [] => []
  | .par ch g :: F => 32 :: sgn ch :: 32 :: (g.wr ++ 41 :: tl F)
  | .nest _ :: F => 62 :: tl F
  | .grp :: F => 93 :: tl F
  | .flt :: F => 125 :: tl F
  | .par2 _ _ :: F => 41 :: tl F
def Fr.ok : Fr → Prop
  | .par _ g => g.ok
  | .nest n => 0 ≤ n ∧ n ≤ 40
  | .grp => True
  | .flt => True
  | .par2 _ f => f.ok
def hdS : List Nat → Str
  | [] => ""
  | x :: _ => ⟨#[x]⟩
structure Rest (s : Str) (p : Nat) (r : List Nat) : Prop where
  d : s.cps.toList.drop p = r
  l : p + r.length = s.length
theorem Rest.next {s : Str} {p x : Nat} {r : List Nat} (h : Rest s p (x :: r)) : Rest s (p + 1) r := by
  have h1 := h.d; have h2 := h.l
  refine ⟨?_, by simp only [List.length_cons] at h2; omega⟩
  rw [← List.drop_drop, h1]; rfl
theorem Rest.all (s : Str) : Rest s 0 s.cps.toList := ⟨rfl, by rw [strLen]; omega⟩
theorem Rest.cut {s : Str} {p : Nat} {r : List Nat} (h : Rest s p r) : cutS s (some (p : Nat)) (some ((p : Nat) + 1)) = hdS r := by
  have h1 := h.d; have h2 := h.l
  have i1 : ∀ d, HT.sIx s.length d (some ((p : Nat) : Int)) = p := fun d => by
    show (if ((p : Nat) : Int) < 0 then (((p : Nat) : Int) + s.length).toNat else min ((p : Nat) : Int).toNat s.length) = p
    rw [if_neg (by omega)]
    omega
  have i2 : ∀ d, HT.sIx s.length d (some (((p : Nat) : Int) + 1)) = min (p + 1) s.length := fun d => by
    show (if ((p : Nat) : Int) + 1 < 0 then (((p : Nat) : Int) + 1 + s.length).toNat else min (((p : Nat) : Int) + 1).toNat s.length) = min (p + 1) s.length
    rw [if_neg (by omega)]
    omega
  unfold cutS
  rw [i1, i2, h1]
  cases r with
  | nil =>
    simp at h2
    rw [show min (p + 1) s.length - p = 0 by omega]; rfl
  | cons x r =>
    simp only [List.length_cons] at h2
    rw [show min (p + 1) s.length - p = 1 by omega]; rfl
def digB (n : Int) : Bool := match digs n with
  | [d] => decide (intText? ⟨#[d]⟩ = some n) && decide (48 ≤ d ∧ d ≤ 57)
  | [d, e] => decide (intText? (⟨#[d]⟩ ++ ⟨#[e]⟩) = some n) && ((decide (49 ≤ d ∧ d ≤ 51) && decide (48 ≤ e ∧ e ≤ 57)) || (decide (d = 52) && decide (e = 48)))
  | _ => false
theorem digs_of {n : Int} (h0 : 0 ≤ n) (h : n ≤ 40) : (∃ d, digs n = [d] ∧ intText? ⟨#[d]⟩ = some n ∧ 48 ≤ d ∧ d ≤ 57) ∨ ∃ d e, digs n = [d, e] ∧ intText? (⟨#[d]⟩ ++ ⟨#[e]⟩) = some n ∧ ((49 ≤ d ∧ d ≤ 51 ∧ 48 ≤ e ∧ e ≤ 57) ∨ (d = 52 ∧ e = 48)) := by
  have key : ∀ m : Fin 41, digB ((m.val : Nat) : Int) = true := by decide +kernel
  have := key ⟨n.toNat, by omega⟩
  rw [show ((n.toNat : Nat) : Int) = n by omega] at this
  unfold digB at this
  split at this
  · rename_i d e
    simp only [Bool.and_eq_true, decide_eq_true_eq] at this
    exact .inl ⟨d, e, this.1, this.2⟩
  · rename_i d e eq
    simp only [Bool.and_eq_true, Bool.or_eq_true, decide_eq_true_eq] at this
    refine .inr ⟨d, e, eq, this.1, ?_⟩
    rcases this.2 with ⟨h1, h2⟩ | ⟨h1, h2⟩
    · exact .inl ⟨h1.1, h1.2, h2.1, h2.2⟩
    · exact .inr ⟨h1, h2⟩
  · cases this
end PL
set_option maxHeartbeats 2000000
namespace PL
open PySem PySem.Spec PyProof.Rows L2 PLt PLs
def aEqS (ng : Bool) (x y : D) (c : CN) (Q : QD) : Prop := ∃ i j, x = .str i ∧ y = .str j ∧ Q (.bl (ng != (i == j))) c
theorem dec_strV {i j : Str} : decide (V.str i = V.str j) = (i == j) := dec_str
theorem br_eqS {K : PySem.W.Frag} : Br2 K rEq (aEqS false) := fun G H c x y d e Qd Q ok r1 r2 ⟨i, j, e1, e2, q⟩ k => by
  subst e1 e2
  cases r1
  cases r2
  refine ⟨rfl, ?_⟩
  rw [dec_strV]
  rw [Bool.false_bne] at q
  exact k _ _ G H c (Evo.refl ok) (.bl _) q
theorem br_neS {K : PySem.W.Frag} : Br2 K rNe (aEqS true) := fun G H c x y d e Qd Q ok r1 r2 ⟨i, j, e1, e2, q⟩ k => by
  subst e1 e2
  cases r1
  cases r2
  refine ⟨rfl, ?_⟩
  rw [dec_strV]
  rw [Bool.true_bne] at q
  exact k _ _ G H c (Evo.refl ok) (.bl _) q
section
variable {Y : Ctx} {a b : Expr} {ea eb : TE} {ta tb : DE}
theorem pdc_eqS (ha : PD Y a ea ta) (hb : PD Y b eb tb) : PDC Y .Eq a b (tOp rEq ea eb) (dOp (aEqS false) ta tb) := pdc_op op_eq br_eqS ha hb
theorem pdc_neS (ha : PD Y a ea ta) (hb : PD Y b eb tb) : PDC Y .NotEq a b (tOp rNe ea eb) (dOp (aEqS true) ta tb) := pdc_op op_ne br_neS ha hb
end
theorem ev_eqS {ng : Bool} {i j : Str} {c : CN} {Q : QD} : aEqS ng (.str i) (.str j) c Q = Q (.bl (ng != (i == j))) c := by
  apply propext; constructor
  · rintro ⟨_, _, e1, e2, q⟩; cases e1; cases e2; exact q
  · exact fun q => ⟨i, j, rfl, rfl, q⟩
theorem ev_addS {i j : Str} {c : CN} {Q : QD} : aAddS (.str i) (.str j) c Q = (i.length + j.length ≤ 16777216 ∧ Q (.str (i ++ j)) c) := by
  apply propext; constructor
  · rintro ⟨_, _, e1, e2, h, q⟩; cases e1; cases e2; rw [sizeLine_eq] at h; exact ⟨h, q⟩
  · exact fun ⟨h, q⟩ => ⟨i, j, rfl, rfl, by rw [sizeLine_eq]; exact h, q⟩
def trsS (x : Str) : Option Bool := if x.length ≤ 1000000 then some ((x.length : Int) != 0) else none
def trsD : D → Option Bool
  | .non => some false
  | .str x => trsS x
  | _ => none
section
variable {Y : Ctx} {a b : Expr} {ea eb : TE} {ta tb : DE} {rest : List Expr} {pos : Pos}
def trsP (x : D) (P : Bool → Prop) : Prop := ∃ k, trsD x = some k ∧ P k
def dOrS (ta tb : DE) : DE := fun ρ c Q => ta ρ c fun x c1 => trsP x fun k => if k = true then Q x c1 else tb ρ c1 Q
end
theorem ev_orS {ta tb : DE} {ρ : DEnv} {c : CN} {Q : QD} : dOrS ta tb ρ c Q = ta ρ c fun x c1 => trsP x fun k => @Br k (Q x c1) (tb ρ c1 Q) := propext Iff.rfl
theorem ev_trs_n {P : Bool → Prop} : trsP .non P = P false := by simp [trsP, trsD]
theorem one_ne {x : Nat} : ((⟨#[x]⟩ : Str) == Str.ofString "") = false := by
  have : ¬ (⟨#[x]⟩ : Str) = Str.ofString "" := fun e => by
    have h := congrArg Str.length e
    have h2 : (⟨#[x]⟩ : Str).length = 1 := rfl
    rw [h2] at h
    have h3 : (Str.ofString "").length = 0 := by decide
    omega
  simpa using this
theorem one_eq {x y : Nat} : ((⟨#[x]⟩ : Str) == ⟨#[y]⟩) = decide (x = y) := by
  rw [Bool.eq_iff_iff]
  simp
end PL
set_option maxHeartbeats 4000000
namespace PySem
namespace PLX
open HandSPX Calls W
section
variable {M : Model} {A : Around} {E : Value → Shared → Prop} {h : Heap} {g : Array GenState} {d : Drawn} {t : Nat} {os : OsState}
variable {nm q : Str} {C N : Addr} {bs bm bmB : List Value} {hdct : Bool} {sn : List Str} {sub : List Value} {ab : Bool} {col : Option Bool} {dd : Option Addr} {k0 k1 k2 k3 k5 : Option Value} {B newId initId : String} {kw : List (Str × Value)}
end
section
variable {prog : Program} {w : World} {A : Around} {E : Value → Shared → Prop} {R : Result → Shared → Prop} {h : Heap} {g : Array GenState} {d : Drawn} {t : Nat} {os : OsState}
variable {nm q : Str} {C N : Addr} {bs bm bmB : List Value} {hdct : Bool} {sn : List Str} {sub : List Value} {ab : Bool} {col : Option Bool} {dd : Option Addr} {k0 k1 k2 k3 k5 : Option Value} {B newId initId : String} {kw : List (Str × Value)}
end
end PLX
end PySem
namespace PL
open PySem PySem.Spec PyProof.Rows L2 PLt PLs
section
variable {X : Cx} {CX : CXT} {k n : Nat} {fI C : Addr} {fd : FuncData} {ps ks : List Str} {sp : Sp} {x : Str} {p pos : Pos} {e : Expr} {es : List Expr} {kws : List Keyword} {t tk : TA} {g : List Value → List Value → List Value} {gV : List V → List V → List V}
variable (T : OexC X.K C) (iC : PySem.W.findIn X.K (.ref C) "__init__" = some (some (.ref fI))) (tI : PySem.W.typeIn X.K (.ref fI) = some (.type "function"))
    (F1 : FnOk X.prog X.w X.K X.mg X.base CX k fI fd ps sp) (hr : Room (k + 1) X.A) (hg : Gl X x) (hm : X.mg x = some (.ref C)) (hx : Passes CX X (fun _ _ _ => False)) (hn4 : n ≤ 1000) (hdb : (x == ("__debug__" : Str)) = false)
include T iC tI F1 hr hg hm hx hn4 hdb
end
end PL
set_option maxHeartbeats 2000000
namespace PL
open PySem PySem.Spec PyProof.Rows L2 PLt PLs
section
variable {Y : Ctx} {k : Nat} {C fI : Addr} {fd : FuncData} {x f p0 : Str} {ps ks : List Str} {e : Expr} {es : List Expr} {kws : List Keyword} {fa fk : TA} {t tk : DA} {p pos : Pos} {g : List Value → List Value → List Value} {gV : List V → List V → List V}
def dExcV (C : Addr) (f : Str) (t : DA) : DE := fun ρ c Q => t ρ c fun ds c1 => hd1 ds fun d => Q (.exc C [f] [d]) c1
def dExcV0 (C : Addr) (f : Str) : DE := fun _ c Q => Q (.exc C [f] [.non]) c
def dExcP (C : Addr) : DE := fun _ c Q => Q (.exc C [] []) c
end
section
variable {C : Addr} {f : Str} {t : DA} {ρ : DEnv} {c : CN} {Q : QD}
theorem ev_excV : dExcV C f t ρ c Q = t ρ c fun ds c1 => hd1 ds fun d => Q (.exc C [f] [d]) c1 := propext Iff.rfl
theorem ev_excV0 : dExcV0 C f ρ c Q = Q (.exc C [f] [.non]) c := propext Iff.rfl
theorem ev_excPl : dExcP C ρ c Q = Q (.exc C [] []) c := propext Iff.rfl
end
def aIsX (K : PySem.W.Frag) (ds : List D) (c : CN) (Q : QD) : Prop := ∃ C ns es T b, ds = [.exc C ns es, .ty T] ∧ ExcC K C ∧ PySem.W.kitOne K (.ref C) (.type T) = some b ∧ Q (.bl b) c
theorem ev_isX {K : PySem.W.Frag} {C : Addr} {ns : List Str} {es : List D} {T : String} {c : CN} {Q : QD} : aIsX K [.exc C ns es, .ty T] c Q = ∃ b, ExcC K C ∧ PySem.W.kitOne K (.ref C) (.type T) = some b ∧ Q (.bl b) c := by
  apply propext; constructor
  · rintro ⟨_, _, _, _, b, e, h1, h2, q⟩; cases e; exact ⟨b, h1, h2, q⟩
  · rintro ⟨b, h1, h2, q⟩; exact ⟨_, _, _, _, b, rfl, h1, h2, q⟩
section
variable {X : Cx} {x : Str} {p pos : Pos}
end
section
variable {Y : Ctx} {C : Addr} {x y z : Str} {p1 p2 p3 pos pos2 : Pos}
def dIsVE (b : Bool) : DE := fun _ c Q => Q (.bl b) c
theorem ev_isVE {b : Bool} {ρ : DEnv} {c : CN} {Q : QD} : dIsVE b ρ c Q = Q (.bl b) c := propext Iff.rfl
end
end PL
set_option maxHeartbeats 2000000
namespace PL
open PySem PySem.Spec PyProof.Rows L2 PLt PLs
def tabA (tbl : List (Str × Int)) (ab : List Str) (y r : D) (P : D → Prop) : Prop := ∃ z, y = .str z ∧ ((∃ i, (z, i) ∈ tbl ∧ P (.int i)) ∨ (z ∈ ab ∧ P r))
def dKGetA (tbl : List (Str × Int)) (ab : List Str) (te tf : DE) : DE := fun ρ c Q => te ρ c fun y c1 => tf ρ c1 fun r c2 => tabA tbl ab y r fun d => Q d c2
theorem ev_kgetA {tbl : List (Str × Int)} {ab : List Str} {te tf : DE} {ρ : DEnv} {c : CN} {Q : QD} : dKGetA tbl ab te tf ρ c Q = te ρ c fun y c1 => tf ρ c1 fun r c2 => tabA tbl ab y r fun d => Q d c2 := propext Iff.rfl
end PL
namespace PL
open PySem PySem.Spec PyProof.Rows L2
structure Rm (j : Nat) (A : Around) : Prop where
  none : A.handled = none
  low : A.depth + j + 5 < recursionLimit
  few : A.units + 5 * j + 200 < cLine
theorem Rm.mono {i j : Nat} {A : Around} (r : Rm j A) (h : i ≤ j) : Rm i A := ⟨r.none, by have := r.low; omega, by have := r.few; omega⟩
theorem Rm.in {j : Nat} {A : Around} (r : Rm (j + 1) A) (env : Env) : Rm j (A.deeper env) :=
  ⟨r.none, by have := r.low; show A.depth + 1 + j + 5 < _; omega, by have := r.few; show A.units + 3 + 5 * j + 200 < _; omega⟩
theorem Rm.room {j k : Nat} {A : Around} (r : Rm j A) (h : 16 * k ≤ 5 * j) : Room k A := ⟨r.none, by have := r.low; omega, by have := r.few; omega⟩
theorem Rm.of {j k : Nat} {A : Around} (r : Room k A) (h : j ≤ 3 * k) : Rm j A := ⟨r.hd, by have := r.dp; omega, by have := r.un; omega⟩
structure FnAt (P : Program) (w : World) (K : PySem.W.Frag) (mg : Str → Option Value) (base : Heap) (CX : CXT) (A : Around) (f : Addr) (fd : FuncData) (ps : List Str) (sp : Sp) : Prop where
  len : ∀ vs H Q E, sp vs H Q E → vs.length = ps.length
  run : ∀ (outer : List Env) (s : Shared) (H : Hp) (args : Args) (us : List Value) (vs : List V) (Q : VK) (E : XK), Env0 P w K mg base A outer s H → BindsTo s fd args (ps.zip us) → Vals vs us → sp vs H Q E →
    codeAny (model P w) A (.call (.ref f) args) (CR CX outer P w H s Q E) s
structure FnR (P : Program) (w : World) (K : PySem.W.Frag) (mg : Str → Option Value) (base : Heap) (CX : CXT) (j : Nat) (f : Addr) (fd : FuncData) (ps : List Str) (sp : Sp) : Prop where
  len : ∀ vs H Q E, sp vs H Q E → vs.length = ps.length
  on : ∀ A : Around, Rm j A → FnAt P w K mg base CX A f fd ps sp
section
variable {P : Program} {w : World} {K : PySem.W.Frag} {mg : Str → Option Value} {base : Heap} {CX : CXT} {j k : Nat} {f : Addr} {fd : FuncData} {ps : List Str} {sp : Sp}
theorem FnR.mono {i : Nat} (F : FnR P w K mg base CX i f fd ps sp) (h : i ≤ j) : FnR P w K mg base CX j f fd ps sp := ⟨F.len, fun A r => F.on A (r.mono h)⟩
theorem FnR.ok (F : FnR P w K mg base CX j f fd ps sp) (h : j ≤ 3 * k) : FnOk P w K mg base CX k f fd ps sp :=
  ⟨F.len, fun A outer s H args us vs Q E hr => (F.on A (Rm.of hr h)).run outer s H args us vs Q E⟩
theorem FnR.no (h : ∀ vs H Q E, sp vs H Q E → False) : FnR P w K mg base CX j f fd ps sp :=
  ⟨fun vs H Q E q => (h _ _ _ _ q).elim, fun A _ => ⟨fun vs H Q E q => (h _ _ _ _ q).elim, fun _ _ _ _ _ _ _ _ _ _ _ q => (h _ _ _ _ q).elim⟩⟩
end
section
variable {P : Program} {w : World} {K : PySem.W.Frag} {mg : Str → Option Value} {base : Heap} {CX : CXT} {f : Addr} {name qual : Str} {params : Arguments} {body : List Stmt} {scope : Scope} {dV kV doc pm cdv ct oc : Value} {an od : Option Addr}
    {osl : Array (Option Value)} {N ps : List Str} {sp : Sp} {A : Around}
theorem fn_at (lk : K.lookup f = some ⟨oc, od, .func (PySem.W.fnOf name qual params body scope dV kV doc pm an cdv ct), osl⟩) (hcd : PySem.W.codeIn K cdv qual = true) (S : FnScope N ps scope)
    (len : ∀ vs H Q E, sp vs H Q E → vs.length = ps.length) (hn : A.handled = none) (hlow : A.depth < recursionLimit)
    (hbody : ∀ (outer : List Env) (s : Shared) (H : Hp) (vs : List V) (Q : VK) (E : XK), sp vs H Q E →
      ∃ t, PSs (cxOf CX P w K mg base N qual scope f cdv A outer s H E) body t ∧ t { nx := fun _ H' => Q .non H', rt := Q } (start N vs) H) :
    FnAt P w K mg base CX A f (PySem.W.fnOf name qual params body scope dV kV doc pm an cdv ct) ps sp := by
  refine ⟨len, fun outer s H args us vs Q E here bound like goal => ?_⟩
  have same := len _ _ _ _ goal
  have inside : K.In s.heap := here.mod.kin.keeps fun b o e => (here.bs b o e).1
  have free : s.heap.NoLimit := here.mod.nolimit.keeps fun b o e => (here.bs b o e).1
  have names : ∀ y ∈ ps.zip us, scope.names.lookup y.1 = some .local ∨ (scope.names.lookup y.1 = some .cell ∧ ((cellsFrom (s.heap.objs.size + 1) scope.names []).lookup y.1).isSome = true) := by
    rintro ⟨n, v⟩ hy
    exact (S.par n (List.of_mem_zip hy).1).imp id fun q => ⟨q, PySem.W.cellsFrom_some _ _ _ (.inl q)⟩
  refine codeAny_call_function hlow (inside _ _ lk) rfl S.co S.gen rfl (PySem.W.codeRec_of inside hcd) (bound _ _ _ _ ?_)
  refine wpAny_newFunctionEnv_cells S.kind names fun env he s1 x => ?_
  subst he
  refine ⟨free.keeps x.toInCall.keep, codeAny_func ?_⟩
  obtain ⟨t, reads, holds⟩ := hbody outer s H vs Q E goal
  refine wpAny_mono (reads.run [] s1 (start N vs) H _ (inv_start S hn here same like x) holds) (fun fl s' ends => ?_) fun e s' ends => ends
  cases fl with
  | ret u => obtain ⟨v, σ', H', J, rv, q⟩ := ends; exact ⟨v, H', J.os, J.bare, J.base, J.hok, rv, q⟩
  | next => obtain ⟨σ', H', J, q⟩ := ends; exact ⟨V.non, H', J.os, J.bare, J.base, J.hok, rfl, q⟩
  | brk => obtain ⟨_, _, _, q⟩ := ends; exact q.elim
  | cont => obtain ⟨_, _, _, q⟩ := ends; exact q.elim
end
section
variable {P : Program} {w : World} {K : PySem.W.Frag} {mg : Str → Option Value} {base : Heap} {x qual : Str} {params : Arguments} {body : List Stmt} {scope : Scope} {dvs : List V} {kws : List (Str × V)} {f : Addr} {fd : FuncData}
theorem okR {N ps : List Str} {j k : Nat} {sp : SpD} (F : FunD K x qual params body scope dvs kws f fd) (S : FnScope N ps scope) (hk : 16 * k ≤ 5 * j) (len : ∀ ds c Q E, sp ds c Q E → ds.length = ps.length)
    (hbody : ∀ (cdv : Value) (A : Around) (outer : List Env) (s : Shared) (H : Hp) (E : XK) (G0 : GS K) (c0 : CN) (ED : EDt), Rm j (cxOf (L2.CX P w) P w K mg base N qual scope f cdv A outer s H E).A → Ctx.Good ⟨cxOf (L2.CX P w) P w K mg base N qual scope f cdv A outer s H E, G0, H, c0, fun _ => E, fun _ => ED, G0⟩ k →
      ∃ ts t, PDSs ⟨cxOf (L2.CX P w) P w K mg base N qual scope f cdv A outer s H E, G0, H, c0, fun _ => E, fun _ => ED, G0⟩ body ts t ∧ ∀ ds Qd, sp ds c0 Qd ED → t { nx := fun _ c => Qd .non c, rt := Qd } (startD N ds) c0) :
    FnR P w K mg base (L2.CX P w) (j + 1) f fd ps (spOf K sp) := by
  have len2 : ∀ vs H Q E, spOf K sp vs H Q E → vs.length = ps.length := fun vs H Q E h => by
    obtain ⟨G, c, ds, Qd, ED, _, r, h, _⟩ := h
    rw [r.length]; exact len _ _ _ _ h
  obtain ⟨oc, od, dV, kV, doc, pm, an, cdv, ct, osl, rfl, lk, hcd, _, _⟩ := F.ex
  refine ⟨len2, fun A rm => fn_at lk hcd S len2 rm.none (by have := rm.low; omega) fun outer s H vs Q E h => ?_⟩
  obtain ⟨G, c, ds, Qd, ED, ok, r, h, hQ, hE⟩ := h
  have rm2 : Rm j (cxOf (L2.CX P w) P w K mg base N qual scope f cdv A outer s H E).A := rm.in _
  obtain ⟨ts, t, hb, ht⟩ := hbody cdv A outer s H E G c ED rm2 ⟨takes_of rfl rfl rfl rfl, fun ρ σ G1 H1 c1 R C ns es dx G' H' c' ev r q => hE C ns es dx G' H' c' (R.evo.trans ev) r q, rm2.room hk, rfl⟩
  refine ⟨ts, hb.p, hb.s G G H c (startD N ds) _ { nx := fun _ c => Qd .non c, rt := Qd } _ ?_ ⟨rel_start (Y := ⟨cxOf (L2.CX P w) P w K mg base N qual scope f cdv A outer s H E, G, H, c, fun _ => E, fun _ => ED, G⟩) ok r (GS.Le.refl _), GS.Le.refl _⟩ (ht ds Qd h)⟩
  exact ⟨fun G' H' c' ρ σ R q => hQ _ _ G' H' c' R.r.evo .non q, fun G' H' c' d v e r q => hQ d v G' H' c' e r q, fun _ _ _ _ _ _ z => z.elim, fun _ _ _ _ _ _ z => z.elim⟩
end
section
variable {X : Cx} {CX : CXT} {f : Addr} {fd : FuncData} {ps : List Str} {sp : Sp} {dvs : List V} {ds : List Value} {E : L2.St → XK} {x : Str} {p pos : Pos} {e : Expr} {es : List Expr} {t : TA}
theorem at_posR {pins : List (Addr × Obj)} {σ : L2.St} {H : Hp} {s : Shared} {Q : VK} {us : List Value} {vs : List V} (F : FnAt X.prog X.w X.K X.mg X.base CX X.A f fd ps sp) (hb : Binds X.K fd ps ds) (hd : Vals dvs ds) (hx : PassesAt CX X σ (E σ))
    (I : L2.Inv X pins σ H s) (r : Vals vs us) (h : sp (vs ++ dvs) H Q (E σ)) : wpAny (model X.prog X.w) X.A (call (.ref f) us) (EP X pins σ Q) X.xe s := by
  have r2 : Vals (vs ++ dvs) (us ++ ds) := r.append hd
  have hl : (us ++ ds).length = ps.length := r2.length.symm.trans (F.len _ _ _ _ h)
  refine wpAny_call (codeAny_mono (F.run X.stack s H _ (us ++ ds) (vs ++ dvs) Q (E σ) I.env0 (hb s us I.kIn hl) r2 h) fun rr s' hq => ?_)
  cases rr with
  | error e => exact hx pins H s e s' I hq
  | ok fl =>
    cases fl with
    | ret u => exact I.after hq
    | _ => exact hq.elim
theorem pe_callR (F : FnAt X.prog X.w X.K X.mg X.base CX X.A f fd ps sp) (hg : Gl X x) (hm : X.mg x = some (.ref f)) (hk : PySem.W.keepIn X.K (.ref f) = true) (hx : ∀ σ, PassesAt CX X σ (E σ)) (hdb : (x == ("__debug__" : Str)) = false)
    (hb : Binds X.K fd ps ds) (hd : Vals dvs ds) (ha : PA X (e :: es) t) (he : starEach (e :: es) X.env = (false, eval e X.env) :: starEach es X.env) (hpl : (backTo pos (starEach es X.env)).any (·.1) = false) : PE X (.Call (.Name x p) (e :: es) [] pos) (tCallE sp dvs E t) :=
  ⟨fun pins s σ H Q I h => wpAny_Call_Name_kw (ld_glob I hg hm (PySem.W.callWith_K (h₀ := X.base) I.ok.mod.kin hk (thn (ha.run pos pins s σ H _ I h) fun us s1 ⟨vs, H1, I1, r, q⟩ => ⟨I1.kIn, at_posR F hb hd (hx σ) I1 r q⟩) he hpl) hdb)⟩
end
section
variable {X : Cx} {CX : CXT} {f C : Addr} {fd : FuncData} {ps : List Str} {sp : Sp} {dvs : List V} {ds : List Value} {E : L2.St → XK} {x m : Str} {p pos apos : Pos} {e o : Expr} {es : List Expr} {ta : TE} {t : TA}
end
section
variable {Y : Ctx} {k : Nat} {f C : Addr} {fd : FuncData} {ps : List Str} {sp : SpD} {dvs : List V} {dds : List D} {ds : List Value} {x m : Str} {p pos apos : Pos} {e o : Expr} {es : List Expr} {fa : TA} {te : TE} {de : DE} {t : DA} {pl : Sem Bool}
theorem pd_callR (g : Y.Good k) (F : FnAt Y.X.prog Y.X.w Y.X.K Y.X.mg Y.X.base (L2.CX Y.X.prog Y.X.w) Y.X.A f fd ps (spOf Y.X.K sp)) (hm : Y.X.mg x = some (.ref f)) (hk : PySem.W.keepIn Y.X.K (.ref f) = true) (hb : Binds Y.X.K fd ps ds) (hd : Vals dvs ds) (hdd : ∀ G, RpAll Y.X.K G dvs dds)
    (ha : PDA Y (e :: es) fa t) (hg : Gl Y.X x := by rfl) (hdb : (x == ("__debug__" : Str)) = false := by decide) (he : starEach (e :: es) Y.X.env = (false, eval e Y.X.env) :: starEach es Y.X.env := by rfl) (hpl : (backTo pos (starEach es Y.X.env)).any (·.1) = false := by rfl) :
    PD Y (.Call (.Name x p) (e :: es) [] pos) (tCallE (spOf Y.X.K sp) dvs Y.E fa) (dCall Y.ED sp dds t) :=
  ⟨pe_callR F hg hm hk g.pass hdb hb hd ha.p he hpl, call_sim g hdd ha.s⟩
end
end PL
namespace PL
open PySem PySem.Spec PyProof.Rows L2 PLt
structure LayR (l : List LRow) : Prop where
  ok : LayOk l
  n : l.length ≤ 17
  ch : chL l ≤ 48
  i : ∀ r ∈ l, r.1 ≤ 12
structure DocR (f : Fm) : Prop where
  p : f.parts ≤ 81
  d : f.dep ≤ 36
  w : f.wd ≤ 114
  m : f.mc ≤ 48
  x : f.ix ≤ 12
structure SetR (ls : List (List LRow)) : Prop where
  ne : ls ≠ []
  n : ls.length ≤ 122
  q : ∀ l ∈ ls, LayR l
  nd : ls.Nodup
  pw : ls.Pairwise fun a b => leL a b = true
structure DocB (f : Fm) : Prop where
  ok : f.ok
  h : f.holes = []
  p : f.parts ≤ 10003
  d : f.dep ≤ 160
  w : f.wd ≤ 13908
  m : f.mc ≤ 48
  x : f.ix ≤ 12
  wl : f.wle 5000
  few : (f.lays false).length ≤ 122
  lay : ∀ l ∈ f.lays false, LayR l
  ne : f.lays false ≠ []
theorem DocB.sm {f : Fm} (h : DocB f) : f.small := ⟨by have := h.p; omega, h.wl.mono (by decide), by have := h.d; omega, by rw [h.h]; decide⟩
theorem DocB.d22 {f : Fm} (h : DocB f) : f.D22 := ⟨h.ok, h.sm, by have := h.w; omega⟩
theorem DocB.set {f : Fm} (h : DocB f) : SetR (f.lays false) := ⟨h.ne, h.few, h.lay, (Fm.lays_asc f false).1, (Fm.lays_asc f false).2⟩
theorem DocB.bx {f : Fm} (h : DocB f) : Bx 60 12 f 0 0 := ⟨Int.le_refl _, Int.le_refl _, by have := h.m; omega, by have := h.m; have := h.x; omega, by have := h.x; omega⟩
theorem DocB.room {f : Fm} (h : DocB f) : f.parts * (2 * ((60 + 1) * (12 + 1))) ≤ 16777215 := by
  have := Nat.mul_le_mul_right (2 * ((60 + 1) * (12 + 1))) h.p
  omega
end PL
namespace PL
open PySem PySem.Spec PyProof.Rows L2 PLt
end PL
set_option maxHeartbeats 2000000
namespace PL
open PySem PySem.Spec PyProof.Rows L2 PLt PLs
section
variable {prog : Program} {w : World} {K : Type} [DecidableEq K] {knd : KeyKind prog w K} {A : Around} {E : Value → Shared → Prop} {s : Shared}
end
section
variable {prog : Program} {w : World} {K : Type} [DecidableEq K] {knd : KeyKind prog w K} {A : Around} {E : Value → Shared → Prop} {s : Shared}
end
end PL
set_option maxHeartbeats 2000000
namespace PL
open PySem PySem.Spec PyProof.Rows L2 PLt PLs
section
variable {Y : Ctx} {tg e : Expr} {ee : TE} {te : DE}
def diKeys (te : DE) : DI := fun ρ c Q => te ρ c fun x c1 => dctP x fun ks _ => Q (ks.map kD) c1
theorem ev_dkeys {ρ : DEnv} {c : CN} {Q : List D → CN → Prop} : diKeys te ρ c Q = te ρ c fun x c1 => dctP x fun ks _ => Q (ks.map kD) c1 := propext Iff.rfl
end
section
variable {Y : Ctx} {e : Expr} {fa : TA} {t : DA} {cpos p0 : Pos}
def dDictC (t : DA) : DE := fun ρ c Q => t ρ c fun ds c1 => hd1 ds fun d => dctP d fun ks es => Q (.dct ks es) c1
theorem ev_dictC {ρ : DEnv} {c : CN} {Q : QD} : dDictC t ρ c Q = t ρ c fun ds c1 => hd1 ds fun d => dctP d fun ks es => Q (.dct ks es) c1 := propext Iff.rfl
end
section
variable {X : Cx} {e k v : Expr} {td tk tv : TE} {pos : Pos}
end
section
variable {Y : Ctx} {e k v : Expr} {ee ek ev : TE} {te tk tv : DE} {pos : Pos}
def dDStar (te tk tv : DE) : DE := fun ρ c Q => te ρ c fun x c1 => dctP x fun ks ds => ks.length < 16777216 ∧ ks.Nodup ∧ tk ρ c1 fun y c2 => tv ρ c2 fun z c3 => keyP y fun k => Q (.dct (dputK ks k) (dputD ks ds k z)) c3
theorem Evo.back {K : PySem.W.Frag} {G G1 : GS K} {H H1 : Hp} {c c1 : CN} (e : Evo G H c G1 H1 c1) {b : Addr} (h : H1 b = none) : H b = none := by
  cases hb : H b with
  | none => rfl
  | some o =>
    by_cases p : G.pu b
    · obtain ⟨o', e'⟩ := e.pus b p
      rw [h] at e'; cases e'
    · have := e.keep b o hb p
      rw [h] at this; cases this
theorem ev_dstar {ρ : DEnv} {c : CN} {Q : QD} : dDStar te tk tv ρ c Q = te ρ c fun x c1 => dctP x fun ks ds => ks.length < 16777216 ∧ ks.Nodup ∧ tk ρ c1 fun y c2 => tv ρ c2 fun z c3 => keyP y fun k => Q (.dct (dputK ks k) (dputD ks ds k z)) c3 := propext Iff.rfl
end
section
variable {Y : Ctx} {k : Nat} {C f gA p : Addr} {fd : FuncData} {fn m : Str} {ps ks : List Str} {e o : Expr} {kws : List Keyword} {te : TE} {de : DE} {fk : TA} {tk : DA} {pos apos : Pos} {sp : SpD} {idx : List Nat} {pl : Sem Bool}
def dPropM (C : Addr) (sp : SpD) (t : DE) : DE := fun ρ c Q => t ρ c fun x c1 => moA x fun a => @mI C (c1.m a) fun _ _ => @Run sp [.mo a] c1 Q (fun _ _ _ _ => False)
theorem ev_propM {ρ : DEnv} {c : CN} {Q : QD} : dPropM C sp de ρ c Q = de ρ c fun x c1 => moA x fun a => @mI C (c1.m a) fun _ _ => @Run sp [.mo a] c1 Q (fun _ _ _ _ => False) := propext Iff.rfl
structure CalMKp (K : PySem.W.Frag) (C : Addr) (m : Str) (f : Addr) (fd : FuncData) (ps : List Str) (ks : List Str) (idx : List Nat) : Prop where
  c : Cls K C
  m : Meth K C m f
  b : ∃ g, KBn K fd ps 1 ks g (fun vs zs => pickL idx (vs ++ zs))
def dMethMK (C : Addr) (m : Str) (ED : DEnv → EDt) (n : Nat) (idx : List Nat) (sp : SpD) (de : DE) (t : DA) : DE := fun ρ c Q => de ρ c fun x c1 => moA x fun a => @mI C (c1.m a) fun ns _ => ns.contains m = false ∧ t ρ c1 fun ds c2 => ds.length = n ∧ @Run sp (pickL idx (.mo a :: ds)) c2 Q (ED ρ)
theorem ev_methMK {ED : DEnv → EDt} {n : Nat} {ρ : DEnv} {c : CN} {Q : QD} : dMethMK C m ED n idx sp de tk ρ c Q = de ρ c fun x c1 => moA x fun a => @mI C (c1.m a) fun ns _ => ns.contains m = false ∧ tk ρ c1 fun ds c2 => ds.length = n ∧ @Run sp (pickL idx (.mo a :: ds)) c2 Q (ED ρ) := propext Iff.rfl
end
section
variable {X : Cx}
end
section
variable {Y : Ctx} {iter tg kx vx : Expr} {ifs : List Expr} {wi : TI} {ti : DI} {gg : TG} {g : DG} {eA : TT} {tA : DT} {ek ev : TE} {tk tv : DE} {scope : Scope} {own : List (Str × Nat)} {pos spos : Pos}
end
end PL
namespace PL
open PySem PySem.Spec PyProof.Rows L2
end PL
set_option maxHeartbeats 1000000
namespace GF
open PySem PySem.Spec PyProof.Rows L2 GenW
structure Chg (ch : List Addr) (gs : List Nat) (s s' : Shared) : Prop where
  os : s'.os = s.os
  hp : ∀ b o, b ∉ ch → s.heap.get? b = some o → s'.heap.get? b = some o
  gn : ∀ (i : Nat) (x : GenState), i ∉ gs → s.gens[i]? = some x → s'.gens[i]? = some x
  bare : AllBare s.gens → AllBare s'.gens
  gsz : s.gens.size ≤ s'.gens.size
theorem Chg.refl {ch : List Addr} {gs : List Nat} (s : Shared) : Chg ch gs s s := ⟨rfl, fun _ _ _ e => e, fun _ _ _ e => e, id, Nat.le_refl _⟩
theorem Chg.trans {ch : List Addr} {gs : List Nat} {a b c : Shared} (x : Chg ch gs a b) (y : Chg ch gs b c) : Chg ch gs a c :=
  ⟨y.os.trans x.os, fun d o n e => y.hp d o n (x.hp d o n e), fun i v n e => y.gn i v n (x.gn i v n e), fun h => y.bare (x.bare h), Nat.le_trans x.gsz y.gsz⟩
theorem Chg.mono {ch ch' : List Addr} {gs gs' : List Nat} {s s' : Shared} (x : Chg ch gs s s') (h : ∀ b ∈ ch, b ∈ ch') (g : ∀ i ∈ gs, i ∈ gs') : Chg ch' gs' s s' :=
  ⟨x.os, fun d o n e => x.hp d o (fun z => n (h d z)) e, fun i v n e => x.gn i v (fun z => n (g i z)) e, x.bare, x.gsz⟩
theorem Chg.heap {ch : List Addr} {gs : List Nat} {s : Shared} {h : Heap} {tk : Nat} (k : ∀ b o, b ∉ ch → s.heap.get? b = some o → h.get? b = some o) : Chg ch gs s { s with heap := h, toks := tk } := ⟨rfl, k, fun _ _ _ e => e, id, Nat.le_refl _⟩
theorem Chg.gen {ch : List Addr} {gs : List Nat} {s : Shared} {g : Nat} {x : GenState} (hg : g ∈ gs) (hb : x.bare = true) : Chg ch gs s (s.setGen g x) :=
  ⟨rfl, fun _ _ _ e => e, fun i y n e => by rw [setg, if_neg (fun z : g = i => n (z ▸ hg))]; exact e, fun h => allBare_setGen h hb, Nat.le_of_eq (setGen_size s g x).symm⟩
section
variable {P : Program} {w : World} {A : Around} {E : Value → Shared → Prop} {s : Shared}
def ZipR (h : Heap) (z TI TO : Addr) : Prop := ∃ (v : Value) (b : Bool), h.get? z = some { cls := .type "zip", dict := none, data := .fields #[v, .bool b, .bool false, .ref TI, .ref TO], slots := #[] } ∧ (v = .none ∨ ∃ n t, v = .int n t)
theorem free_ok {z TI TO : Addr} {Q : Bool → Shared → Prop} (h : ZipR s.heap z TI TO)
    (q : ∀ (b : Bool) h', ZipR h' z TI TO → Heap.SameBut z s.heap h' → (b = true → ∃ v b', h'.get? z = some { cls := .type "zip", dict := none, data := .fields #[v, .bool b', .bool false, .ref TI, .ref TO], slots := #[] }) → Q b { s with heap := h' }) :
    wpAny (model P w) A (Builtin.SmallTypes.ownedTupleIsFree (.ref z)) Q E s := by
  obtain ⟨v, b, hz, hv⟩ := h
  unfold Builtin.SmallTypes.ownedTupleIsFree
  refine wpAny_bind (wpAny_field hz rfl (x := v) rfl ?_)
  rcases hv with rfl | ⟨n, t, rfl⟩
  · exact wpAny_pure (q true s.heap ⟨_, _, hz, .inl rfl⟩ (Heap.SameBut.refl _ _) fun _ => ⟨_, _, hz⟩)
  · dsimp only
    refine wpAny_bind (m := loadIfAlive _) ?_
    intro Γ p hΓ
    show Sem.wp _ _ (.loadIfAlive _ _) _ _ _ _
    rw [Sem.wp_loadIfAlive]
    show Sem.wp _ _ (pure _) _ _ _ _
    refine (show wpAny (model P w) A (pure (s.heap.get? n.toNat)) _ E s from wpAny_pure ?_) Γ p hΓ
    cases hg : s.heap.get? n.toNat with
    | none =>
      rw [if_pos (by rfl)]
      exact wpAny_pure (q true s.heap ⟨_, _, hz, .inr ⟨n, t, rfl⟩⟩ (Heap.SameBut.refl _ _) fun _ => ⟨_, _, hz⟩)
    | some o =>
      rw [if_neg (by simp)]
      refine wpAny_bind (wpAny_field hz rfl (x := .bool b) rfl ?_)
      cases b with
      | true =>
        rw [if_neg (by decide)]
        exact wpAny_pure (q false s.heap ⟨_, _, hz, .inr ⟨n, t, rfl⟩⟩ (Heap.SameBut.refl _ _) fun z => nomatch z)
      | false =>
        rw [if_pos (by decide)]
        refine wpAny_bind (wpAny_setField_rec hz (by simp) fun h₁ hz₁ hs₁ => ?_)
        exact wpAny_pure (q false h₁ ⟨_, true, hz₁, .inr ⟨n, t, rfl⟩⟩ hs₁ fun z => nomatch z)
structure ZApart (z TI TO : Addr) (ch1 ch2 : List Addr) : Prop where
  TIz : TI ≠ z
  TOz : TO ≠ z
  TITO : TI ≠ TO
  z1 : z ∉ ch1
  z2 : z ∉ ch2
  TI1 : TI ∉ ch1
  TI2 : TI ∉ ch2
  TO1 : TO ∉ ch1
  TO2 : TO ∉ ch2
structure WX where
  v : Value
  It : Addr
  Lc : Addr
  items : Array Value
structure Stop (P : Program) (w : World) (A : Around) (it : Addr) (ch : List Addr) (g : Nat) (P1 : Shared → Prop) : Prop where
  nx : ∀ (s : Shared) (E : Value → Shared → Prop) (Q : Value → Shared → Prop), P1 s → (∀ s' e, Chg ch [g] s s' → (∃ o, s'.heap.get? e = some o ∧ o.cls = .type "StopIteration") → E (.ref e) s') → wpAny (model P w) A (Builtin.SmallTypes.nextOf (.ref it)) Q E s
end
section
variable {X : Cx} {pins : List (Addr × Obj)} {σ : L2.St} {H : Hp} {s s' : Shared} {E : Value → Shared → Prop}
theorem inv_chg {ch : List Addr} {gs : List Nat} (I : L2.Inv X pins σ H s) (C : Chg ch gs s s') (hch : ∀ b ∈ ch, FpOk X pins H b) : L2.Inv X pins σ H s' := by
  refine I.call' (ch := ch) C.os ⟨fun b o e n hb hx => C.hp b o hx e, fun b o e n hb hx => ⟨o.slots, C.hp b o hx e⟩, fun _ _ _ n _ => n, fun b o e hx => ⟨o, C.hp b o hx e⟩, fun _ _ z => z, fun _ _ _ z => z, fun _ ps z => ⟨#[], by rw [z]; simp⟩⟩ (fun b u e => ?_) (C.bare I.bare) fun b hb => ?_
  · have trk : ∀ c u, H c = some u → c ∉ ch := fun c u e hb => by have := (hch c hb).1; rw [this] at e; cases e
    refine (I.hok b u e).stay (fun c v hc z => ?_) (fun _ z => z) fun _ _ z => z
    rcases hc with hc | hc
    · subst hc; exact C.hp c v (trk c u e) z
    · exact C.hp c v (trk c _ hc) z
  · obtain ⟨f1, f2, f3, f4, f5, f6⟩ := hch b hb
    exact ⟨f4, f2, f5, f6⟩
end
abbrev iterL (p p2 apos pos : Pos) (fn : Str) : Expr := .Call (.Name "list" p) [.Attribute (.Name "self" p2) fn apos] [] pos
def W0 (body : List Stmt) (env : Env) (a g o : Nat) (s : Shared) : Prop := s.heap.IsGen a g ∧ s.gens[g]? = some (.fresh (.func body env)) ∧ ∃ m, s.heap.Ns env.locals m ∧ m "self" = some (.ref o)
def W1 (P : Program) (w : World) (A : Around) (a g L : Nat) (It Lc : Addr) (items : Array Value) (i : Nat) (s : Shared) : Prop :=
  s.heap.IsGen a g ∧ (∀ b ∈ [It, Lc, L], ∃ o, s.heap.get? b = some o ∧ ∀ v, o.data ≠ .cell v) ∧ ∃ k l c p fs, s.gens[g]? = some (.suspended k l c p fs false) ∧
    ∀ s'', Hd [It, Lc, L] s s'' → SX (model P w) A.in1 (Ph (model P w) A.in1 It Lc L items (items.size - i) s'') c (k (.send .none)) fs s''
structure WEnv (env : Env) (x : Str) : Prop where
  k : env.scope.kind = .function
  gl : env.globals = mainGlobals
  bl : env.builtins = builtinsNs
  se : env.kindOf "self" = some .local
  li : env.kindOf "list" = some .globalImplicit
  x : env.kindOf x = some .local
  co : env.scope.isCoroutine = false
  i : interactive env = false
section
variable {P : Program} {w : World} {A : Around} {E : Value → Shared → Prop} {s s' : Shared} {a g L o : Nat} {It Lc : Addr} {items : Array Value} {i : Nat}
theorem W0.at {body : List Stmt} {env : Env} (W : W0 body env a g o s) (ha : ∀ o', s.heap.get? a = some o' → s'.heap.get? a = some o') (hL : ∀ o', s.heap.get? env.locals = some o' → s'.heap.get? env.locals = some o') (hg : ∀ y, s.gens[g]? = some y → s'.gens[g]? = some y) : W0 body env a g o s' := by
  obtain ⟨h1, h2, m, ⟨o3, es, ep, e3, r⟩, hm⟩ := W
  exact ⟨isGen_at h1 ha, hg _ h2, m, ⟨o3, es, ep, hL _ e3, r⟩, hm⟩
theorem W1.at (W : W1 P w A a g L It Lc items i s) (ha : ∀ b ∈ [a, It, Lc, L], ∀ o', s.heap.get? b = some o' → s'.heap.get? b = some o') (hg : ∀ y, s.gens[g]? = some y → s'.gens[g]? = some y) : W1 P w A a g L It Lc items i s' := by
  obtain ⟨h1, h2, k, l, c, p, fs, h3, h4⟩ := W
  refine ⟨isGen_at h1 (ha a (by simp)), fun b hb => ?_, k, l, c, p, fs, hg _ h3, fun s'' hd => h4 s'' fun b hb o' e => hd b hb o' (ha b (List.mem_cons_of_mem _ hb) o' e)⟩
  obtain ⟨o', e, d⟩ := h2 b hb
  exact ⟨o', ha b (List.mem_cons_of_mem _ hb) o' e, d⟩
end
section
variable {X : Cx} {pins : List (Addr × Obj)} {σ : L2.St} {H : Hp} {s : Shared} {E : Value → Shared → Prop} {A : Around} {a g : Nat} {env : Env} {x fn : Str} {p p2 apos pos px py yp ep fpos : Pos} {o C dx R : Addr} {xs : List V}
end
structure WText (env : Env) (x fn : Str) (p p2 apos pos : Pos) : Prop where
  V : WEnv env x
  b : attributeBase (.Name "self" p2) fn env (eval (.Name "self" p2) env) = eval (.Name "self" p2) env
  s : starEach [.Attribute (.Name "self" p2) fn apos] env = (false, eval (.Attribute (.Name "self" p2) fn apos) env) :: starEach [] env
  pl : (backTo pos (starEach [] env)).any (·.1) = false
  fold : ∀ v, foldedSetIterable (iterL p p2 apos pos fn) env v = pure v
def All0 (bad : List Addr) (s : Shared) : Prop := ∀ b ∈ bad, ∃ o, s.heap.get? b = some o
def SideA (body : List Stmt) (env : Env) (a g o : Nat) (bad : List Addr) (X : Cx) (pins : List (Addr × Obj)) (σ : L2.St) (H : Hp) (s : Shared) : Prop := W0 body env a g o s ∧ Inv X pins σ H s ∧ All0 bad s
def SideB (P : Program) (w : World) (A : Around) (a g L : Addr) (xs : List V) (i : Nat) (bad : List Addr) (X : Cx) (pins : List (Addr × Obj)) (σ : L2.St) (H : Hp) (x : WX) (s : Shared) : Prop :=
  Vals xs x.items.toList ∧ x.items[i]? = some x.v ∧ W1 P w A a g L x.It x.Lc x.items (i + 1) s ∧ Inv X pins σ H s ∧ FpOk X pins H x.It ∧ PinOk X H x.Lc ∧ x.It ≠ x.Lc ∧ ∀ b ∈ bad, b ≠ x.It ∧ b ≠ x.Lc
section
variable {P : Program} {w : World} {A : Around} {E : Value → Shared → Prop} {s s' : Shared} {body : List Stmt} {env : Env} {a g o L : Nat} {bad ch : List Addr} {gs : List Nat} {X : Cx} {pins : List (Addr × Obj)} {σ : L2.St} {H : Hp} {xs : List V} {x : WX} {i : Nat}
theorem SideA.chg (h : SideA body env a g o bad X pins σ H s) (C : Chg ch gs s s') (ha : a ∉ ch) (hL : env.locals ∉ ch) (hg : g ∉ gs) (hch : ∀ b ∈ ch, FpOk X pins H b) (hx : ∀ b ∈ ch, ∃ o, s'.heap.get? b = some o) : SideA body env a g o bad X pins σ H s' := by
  obtain ⟨w0, I, al⟩ := h
  refine ⟨w0.at (fun o e => C.hp _ o ha e) (fun o e => C.hp _ o hL e) (fun y e => C.gn _ y hg e), inv_chg I C hch, fun b hb => ?_⟩
  by_cases h : b ∈ ch
  · exact hx b h
  · obtain ⟨o, e⟩ := al b hb
    exact ⟨o, C.hp b o h e⟩
def SideC (P : Program) (w : World) (A : Around) (a g L It Lc : Addr) (items : Array Value) (i : Nat) (bad : List Addr) (X : Cx) (pins : List (Addr × Obj)) (σ : L2.St) (H : Hp) (s : Shared) : Prop := W1 P w A a g L It Lc items i s ∧ Inv X pins σ H s ∧ All0 bad s
theorem SideC.chg {It Lc : Addr} {items : Array Value} (h : SideC P w A a g L It Lc items i bad X pins σ H s) (C : Chg ch gs s s') (ha : a ∉ ch) (hL : L ∉ ch) (hI : It ∉ ch) (hC : Lc ∉ ch) (hg : g ∉ gs) (hch : ∀ b ∈ ch, FpOk X pins H b) (hx : ∀ b ∈ ch, ∃ o, s'.heap.get? b = some o) : SideC P w A a g L It Lc items i bad X pins σ H s' := by
  obtain ⟨w1, I, al⟩ := h
  refine ⟨w1.at (fun b hb' o e => C.hp b o (fun z => ?_) e) (fun y e => C.gn _ y hg e), inv_chg I C hch, fun b hb => ?_⟩
  · simp only [List.mem_cons, List.not_mem_nil, or_false] at hb'
    rcases hb' with rfl | rfl | rfl | rfl
    · exact ha z
    · exact hI z
    · exact hC z
    · exact hL z
  · by_cases h : b ∈ ch
    · exact hx b h
    · obtain ⟨o, e⟩ := al b hb
      exact ⟨o, C.hp b o h e⟩
theorem SideB.chg (h : SideB P w A a g L xs i bad X pins σ H x s) (C : Chg ch gs s s') (hs : ∀ b ∈ ch, b ∈ bad) (ha : a ∉ ch) (hL : L ∉ ch) (hg : g ∉ gs) (hch : ∀ b ∈ ch, FpOk X pins H b) : SideB P w A a g L xs i bad X pins σ H x s' := by
  obtain ⟨r, hv, w1, I, f1, f2, ne, hb⟩ := h
  refine ⟨r, hv, w1.at (fun b hb' o e => C.hp b o (fun z => ?_) e) (fun y e => C.gn _ y hg e), inv_chg I C hch, f1, f2, ne, hb⟩
  simp only [List.mem_cons, List.not_mem_nil, or_false] at hb'
  rcases hb' with rfl | rfl | rfl | rfl
  · exact ha z
  · exact (hb _ (hs _ z)).1 rfl
  · exact (hb _ (hs _ z)).2 rfl
  · exact hL z
end
section
variable {P : Program} {w : World} {K : PySem.W.Frag} {base : Heap} {A : Around} {tg : Expr} {stk : List Env} {body : List Stmt} {z TI TO : Addr} {e1 e2 : Env} {a1 g1 o1 a2 g2 o2 : Nat} {xs ys : List V} {x fn : Str} {p p2 apos pos px py yp ep fpos : Pos}
end
end GF
set_option maxHeartbeats 1000000
namespace GF
open PySem PySem.Spec PyProof.Rows L2 GenW
section
variable {prog : Program} {w : World} {A : Around} {E : Value → Shared → Prop} {s : Shared}
end
section
variable {P : Program} {w : World} {K : PySem.W.Frag} {mg : Str → Option Value} {base : Heap} {N : List Str} {x qual : Str} {params : Arguments} {scope : Scope} {body : List Stmt} {f : Addr} {fd : FuncData}
end
section
variable {X : Cx} {k : Nat} {f C : Addr} {fd : FuncData} {N : List Str} {m qual x fn : Str} {params : Arguments} {scope : Scope} {body : List Stmt} {p p2 px py yp ep fpos pos apos apos1 pos1 apos2 pos2 pz posz pn1 pn2 : Pos} {n1 n2 : Str} {i1 i2 : Nat} {tg : Expr}
end
end GF
namespace PL
open PySem PySem.Spec PyProof.Rows L2 PLt
def zip2P (C : Addr) (fn : Str) (d1 d2 : D) (P : List D → Prop) : Prop := ∃ L M, d1 = .ins C [fn] [.lst L] ∧ d2 = .ins C [fn] [.lst M] ∧ L.length ≤ M.length ∧ P (zipD L M)
def dZip2 (C : Addr) (fn : Str) (i1 i2 : Nat) : DI := fun ρ c Q => fzP ρ[i1]? fun d1 => fzP ρ[i2]? fun d2 => zip2P C fn d1 d2 fun L => Q L c
theorem ev_zip2 {C : Addr} {fn : Str} {i1 i2 : Nat} {ρ : DEnv} {c : CN} {Q : List D → CN → Prop} : dZip2 C fn i1 i2 ρ c Q = fzP ρ[i1]? fun d1 => fzP ρ[i2]? fun d2 => zip2P C fn d1 d2 fun L => Q L c := propext Iff.rfl
section
variable {Y : Ctx} {k i1 i2 : Nat} {f C fI : Addr} {fd : FuncData} {N : List Str} {m qual x xc fn n1 n2 : Str} {params : Arguments} {scope : Scope} {p p2 px py yp ep fpos pos apos pz posz pn1 pn2 apos1 apos2 pos1 pos2 : Pos} {tg : Expr}
end
end PL
set_option maxHeartbeats 2000000
namespace PL
open PySem PySem.Spec PyProof.Rows L2 PLt
def idxP (l : List D) (x : D) (P : Nat → Prop) : Prop := Pl 60 x ∧ Pl 60 (.lst l) ∧ ∃ j z, l[j]? = some z ∧ eqD z x = true ∧ (∀ m z', m < j → l[m]? = some z' → eqD z' x = false) ∧ P j
def dIndex (te : DE) (t : DA) : DE := fun ρ c Q => te ρ c fun x c1 => lstP x fun l => t ρ c1 fun ds c2 => hd1 ds fun y => idxP l y fun j => Q (.int (j : Nat)) c2
theorem ev_index {te : DE} {t : DA} {ρ : DEnv} {c : CN} {Q : QD} : dIndex te t ρ c Q = te ρ c fun x c1 => lstP x fun l => t ρ c1 fun ds c2 => hd1 ds fun y => idxP l y fun j => Q (.int (j : Nat)) c2 := propext Iff.rfl
section
variable {Y : Ctx} {o e : Expr} {fa : TA} {t : DA} {te : TE} {de : DE} {apos cpos : Pos} {k : Nat}
end
end PL
set_option maxHeartbeats 2000000
namespace PL
open PySem PySem.Spec PyProof.Rows L2 PLt
def shD (d : D) (P : Str → Prop) : Prop := ((∃ l, d = .lst l) ∨ ∃ l, d = .tup l) ∧ ∃ p, toP d = some p ∧ p.showable = true ∧ p.hasDict = false ∧ p.depth ≤ 60 ∧ p.shown.length ≤ sizeLine ∧ P p.shown
def aStrD (ds : List D) (c : CN) (Q : QD) : Prop := hd1 ds fun d => shD d fun s => Q (.str s) c
theorem ev_strD {ds : List D} {c : CN} {Q : QD} : aStrD ds c Q = hd1 ds fun d => shD d fun s => Q (.str s) c := propext Iff.rfl
section
variable {X : Cx} {Y : Ctx} {a : Expr} {ea : TE} {ta : DE} {k : Nat}
def aEqL0 : RD2 := fun x y c Q => lstP x fun l => y = .lst [] ∧ Q (.bl (l.length == 0)) c
theorem ev_eqL0 {x y : D} {c : CN} {Q : QD} : aEqL0 x y c Q = lstP x fun l => y = .lst [] ∧ Q (.bl (l.length == 0)) c := propext Iff.rfl
end
end PL
set_option maxHeartbeats 2000000
namespace PL
open PySem PySem.Spec PyProof.Rows L2 PLt
structure FnG (P : Program) (w : World) (K : PySem.W.Frag) (mg : Str → Option Value) (base : Heap) (CX : CXT) (k : Nat) (f : Addr) (fd : FuncData) (ps : List Str) (sp : Sp) : Prop where
  len : ∀ vs H Q E, sp vs H Q E → vs.length = ps.length
  on : ∀ A : Around, Room k A → A.guards = some [] → FnAt P w K mg base CX A f fd ps sp
theorem FnG.mono {P : Program} {w : World} {K : PySem.W.Frag} {mg : Str → Option Value} {base : Heap} {CX : CXT} {i k : Nat} {f : Addr} {fd : FuncData} {ps : List Str} {sp : Sp} (F : FnG P w K mg base CX i f fd ps sp) (h : i ≤ k) : FnG P w K mg base CX k f fd ps sp :=
  ⟨F.len, fun A r g => F.on A (r.mono h) g⟩
section
variable {P : Program} {w : World} {K : PySem.W.Frag} {mg : Str → Option Value} {base : Heap} {x qual : Str} {params : Arguments} {body : List Stmt} {scope : Scope} {dvs : List V} {kws : List (Str × V)} {f : Addr} {fd : FuncData}
end
structure LawIn (P : Program) (w : World) (K : PySem.W.Frag) (H : Hp) (a : Addr) (h : Heap) (ns : List Int) : Prop where
  only : L2.Only H
  sq : SqL K H a (ns.map V.int)
  hok : HOk P w H h
  one : ∀ b, b ≠ a → H b = none
  own : H a = none ∨ K.lookup a = none
section
variable {P : Program} {w : World} {K : PySem.W.Frag} {mg mb : Str → Option Value} {CX : CXT} {fa a : Addr} {fd : FuncData} {x : Str} {sp : Sp} {s : Shared} {vs : List Value} {ns : List Int} {H : Hp}
theorem LawIn.env (E : LawIn P w K H a s.heap ns) (hk : K.In s.heap) (glob : s.heap.Ns mainGlobals mg) (blt : s.heap.Ns builtinsNs mb) (known : ∀ y : Str, y ≠ "__name__" → mb y = bootBuiltins y) (nolim : s.heap.NoLimit) (gens : s.gens = #[])
    (obj : s.heap.get? a = some { cls := .type "list", data := .seq vs.toArray }) : K.In (hidT s.heap H) ∧ (hidT s.heap H).Ns mainGlobals mg ∧ Env0 P w K mg (hidT s.heap H) callerA [] s H := by
  have inK : K.In (hidT s.heap H) := fun b o e => hidT_get (hk b o e) (by
    by_cases n : b = a
    · subst n
      exact E.own.elim id fun z => absurd e (by rw [z]; exact fun q => nomatch q)
    · exact E.one b n)
  have space : ∀ {b : Addr} {m : Str → Option Value}, s.heap.Ns b m → (hidT s.heap H).Ns b m := fun {b m} h => by
    obtain ⟨o, es, ep, e, d, r⟩ := h
    refine ⟨o, es, ep, hidT_get e (E.one b fun n => ?_), d, r⟩
    subst n
    obtain rfl := Option.some.inj (obj.symm.trans e)
    cases (show Data.seq vs.toArray _ = Data.dict es ep from d)
  obtain ⟨mc, n1, n2⟩ := nolim
  exact ⟨inK, space glob, ⟨rfl, ⟨inK, space glob, ⟨mb, space blt, known⟩, ⟨mc, space n1, n2⟩⟩, fun _ _ => of_hidT, Nat.le_of_eq (hidT_size _ _), trivial, fun _ z => absurd z List.not_mem_nil, E.hok, .of_eq gens⟩⟩
theorem LawIn.after {H' : Hp} {s' : Shared} (E : LawIn P w K H a s.heap ns) (un : Un (frs []) [] H H' s.heap s'.heap) (ok : HOk P w H' s'.heap) : OldK s.heap s'.heap := OldK.of_keep fun b o e => by
  rcases E.only b with z | ⟨u, xs, z⟩
  · exact un.keep b o e z (fun q => absurd q List.not_mem_nil) (fun q => absurd q (by simp))
  · have e1 := (E.hok b _ z).1
    have e2 := (ok b _ (un.frzs b u _ z)).1
    rw [← Option.some.inj (e1.symm.trans e)]
    exact e2
end
end PL
set_option maxHeartbeats 2000000
namespace PL
open PySem PySem.Spec PyProof.Rows L2 PLt
def pyR (r : LRow) : PyData := .tuple [.int r.1, .str r.2]
structure RowW (r : LRow) : Prop where
  lo : 0 ≤ r.1
  hi : r.1 < 10 ^ 9
  ok : PyData.strOk r.2 = true
theorem shown_int {i : Int} (h0 : 0 ≤ i) (h1 : i < 10 ^ 9) : (PyData.shown (.int i)).length ≤ 10 := by
  have h := int_text_length_le10 (a := i) (k := 9) (by decide) (by omega)
  rw [PyData.shown]
  exact Nat.le_trans (Nat.le_of_eq (PySem.ofString_length _)) h
theorem RowW.len {r : LRow} (h : RowW r) : (PyData.shown (pyR r)).length ≤ 10 * r.2.length + 20 := by
  have h1 := shown_int h.lo h.hi
  have h2 := StrLaws.reprText_len r.2 (fun c hc => by
    have := h.ok
    unfold PyData.strOk at this
    rw [Array.all_eq_true'] at this
    have := this c (Array.mem_toList_iff.mp hc)
    have := of_decide_eq_true this
    omega)
  rw [pyR, PyData.shown]
  have h3 := tupleText_len_le (PyData.shownAll [.int r.1, .str r.2])
  simp only [PyData.shownAll, List.map_cons, List.map_nil, List.sum_cons, List.sum_nil, List.length_cons, List.length_nil] at h3 ⊢
  have h4 : (PyData.shown (.str r.2)).length ≤ 10 * r.2.length + 2 := by rw [PyData.shown]; exact h2
  omega
end PL
set_option maxHeartbeats 2000000
namespace PL
open PySem PySem.Spec PyProof.Rows L2 PLt PLs
inductive Out (α : Type) where
  | ok (x : α) (r : List Nat)
  | bad (j : Nat)
variable {α β γ : Type}
def Out.bind : Out α → (α → List Nat → Out β) → Out β
  | .ok x r, k => k x r
  | .bad j, _ => .bad j
theorem Out.assoc (o : Out α) (k : α → List Nat → Out β) (h : β → List Nat → Out γ) : (o.bind k).bind h = o.bind fun x r => (k x r).bind h := by cases o <;> rfl
def hd0 : List Nat → Nat
  | [] => 0
  | x :: _ => x
def tkP (g : List Nat) : List Nat → Out Nat
  | [] => .bad 0
  | x :: r => if x ∈ g then .ok x r else .bad (r.length + 1)
def exP (x : Nat) (r : List Nat) : Out Unit := (tkP [x] r).bind fun _ r1 => .ok () r1
def digL : List Nat := [48, 49, 50, 51, 52, 53, 54, 55, 56, 57]
def stP (r : List Nat) : Out Int :=
  (tkP digL r).bind fun d r1 =>
    if d ∈ [49, 50, 51] ∧ hd0 r1 ≠ 32 then (tkP digL r1).bind fun e r2 => (exP 32 r2).bind fun _ r3 => .ok (10 * ((d : Int) - 48) + ((e : Int) - 48)) r3
    else if d = 52 ∧ hd0 r1 ≠ 32 then (tkP [48] r1).bind fun _ r2 => (exP 32 r2).bind fun _ r3 => .ok 40 r3
    else (exP 32 r1).bind fun _ r2 => .ok ((d : Int) - 48) r2
def sqP (acc : List Nat) : List Nat → Out Str
  | [] => .bad 0
  | x :: r =>
    if x = 34 then .ok (sOf acc) r
    else if x = 92 then match r with
      | [] => .bad 0
      | y :: r1 => if y = 34 ∨ y = 92 then sqP (acc ++ [y]) r1 else .bad (r1.length + 1)
    else if 32 ≤ x ∧ x ≤ 126 then sqP (acc ++ [x]) r
    else .bad (r.length + 1)
def qP (r : List Nat) : Out Str := (exP 34 r).bind fun _ r1 => sqP [] r1
def mlP : Nat → List Nat → List Nat → Out Str
  | 0, acc, r => .ok (sOf acc) r
  | _ + 1, acc, [] => .ok (sOf acc) []
  | n + 1, acc, x :: r => if x ∈ lettersL then mlP n (acc ++ [x]) r else .ok (sOf acc) (x :: r)
def nmP' (r : List Nat) : Out Str := (tkP lettersL r).bind fun x r1 => mlP 7 [x] r1
def lfP (r : List Nat) : Out Fm :=
  if hd0 r = 34 then (qP r).bind fun x r1 => .ok (.text x) r1
  else if hd0 r = 95 then (exP 95 r).bind fun _ r1 => (qP r1).bind fun x r2 => .ok (.brk (some x)) r2
  else if hd0 r = 33 then (exP 33 r).bind fun _ r1 => .ok (.brk none) r1
  else (nmP' r).bind fun x r1 => .ok (.hole x) r1
def binF (s : Nat) (f g : Fm) : Fm := if s = 124 then .choice f g else .join f g
def ptP : Nat → List Nat → Out Fm
  | 0, r => .bad r.length
  | n + 1, r =>
    if hd0 r = 40 then (exP 40 r).bind fun _ r0 => (ptP n r0).bind fun f r1 => (exP 32 r1).bind fun _ r2 => (tkP [43, 124] r2).bind fun s r3 => (exP 32 r3).bind fun _ r4 => (ptP n r4).bind fun g r5 => (exP 41 r5).bind fun _ r6 => .ok (binF s f g) r6
    else if hd0 r = 91 then (exP 91 r).bind fun _ r0 => (ptP n r0).bind fun f r1 => (exP 93 r1).bind fun _ r2 => .ok (.group f) r2
    else if hd0 r = 123 then (exP 123 r).bind fun _ r0 => (ptP n r0).bind fun f r1 => (exP 125 r1).bind fun _ r2 => .ok (.flat f) r2
    else if hd0 r = 60 then (exP 60 r).bind fun _ r0 => (stP r0).bind fun i r1 => (ptP n r1).bind fun f r2 => (exP 62 r2).bind fun _ r3 => .ok (.nested i f) r3
    else lfP r
def Out.Sub (o : Out α) (r : List Nat) : Prop := match o with
  | .ok _ r' => r' <:+ r ∧ r'.length < r.length
  | .bad j => j ≤ r.length
theorem Out.Sub.bind {o : Out α} {k : α → List Nat → Out β} {r : List Nat} (h : o.Sub r) (hk : ∀ x r', o = .ok x r' → (k x r').Sub r') : (o.bind k).Sub r := by
  cases o with
  | bad j => exact h
  | ok x r' =>
    have h2 := hk x r' rfl
    show (k x r').Sub r
    cases e : k x r' with
    | bad j => rw [e] at h2; exact Nat.le_trans h2 (Nat.le_of_lt h.2)
    | ok y r2 => rw [e] at h2; exact ⟨h2.1.trans h.1, Nat.lt_trans h2.2 h.2⟩
theorem Out.Sub.map {o : Out α} {k : α → List Nat → Out β} {r : List Nat} (h : o.Sub r) (hk : ∀ x r', ∃ y, k x r' = .ok y r') : (o.bind k).Sub r := by
  cases o with
  | bad j => exact h
  | ok x r' =>
    obtain ⟨y, e⟩ := hk x r'
    show (k x r').Sub r
    rw [e]; exact h
theorem tkP_sub {g : List Nat} : ∀ {r : List Nat}, (tkP g r).Sub r
  | [] => Nat.le_refl _
  | x :: r => by
    rw [tkP]
    by_cases h : x ∈ g
    · rw [if_pos h]; exact ⟨List.suffix_cons x r, Nat.lt_succ_self _⟩
    · rw [if_neg h]; exact Nat.le_refl _
theorem exP_sub {x : Nat} {r : List Nat} : (exP x r).Sub r := tkP_sub.map fun _ r' => ⟨(), rfl⟩
theorem stP_sub {r : List Nat} : (stP r).Sub r := tkP_sub.bind fun d r1 _ => by
  split
  · exact tkP_sub.bind fun e r2 _ => exP_sub.map fun _ _ => ⟨_, rfl⟩
  · split
    · exact tkP_sub.bind fun e r2 _ => exP_sub.map fun _ _ => ⟨_, rfl⟩
    · exact exP_sub.map fun _ _ => ⟨_, rfl⟩
theorem sqP_sub : ∀ {r acc : List Nat}, (sqP acc r).Sub r
  | [], _ => Nat.le_refl _
  | [x], acc => by
    unfold sqP
    split
    · exact ⟨List.suffix_cons x [], Nat.lt_succ_self _⟩
    · split
      · exact Nat.zero_le _
      · split
        · exact Nat.zero_le _
        · exact Nat.le_refl _
  | x :: y :: r, acc => by
    unfold sqP
    split
    · exact ⟨List.suffix_cons x _, Nat.lt_succ_self _⟩
    · split
      · show Out.Sub (if y = 34 ∨ y = 92 then sqP (acc ++ [y]) r else .bad (r.length + 1)) _
        split
        · have h := sqP_sub (r := r) (acc := acc ++ [y])
          cases e : sqP (acc ++ [y]) r with
          | bad j => rw [e] at h; exact Nat.le_trans h (by simp only [List.length_cons]; omega)
          | ok z r2 => rw [e] at h; exact ⟨h.1.trans ((List.suffix_cons y r).trans (List.suffix_cons x _)), by have := h.2; simp only [List.length_cons]; omega⟩
        · show _ ≤ _; simp only [List.length_cons]; omega
      · split
        · have h := sqP_sub (r := y :: r) (acc := acc ++ [x])
          cases e : sqP (acc ++ [x]) (y :: r) with
          | bad j => rw [e] at h; exact Nat.le_trans h (by simp only [List.length_cons]; omega)
          | ok z r2 => rw [e] at h; exact ⟨h.1.trans (List.suffix_cons x _), by have := h.2; simp only [List.length_cons] at this ⊢; omega⟩
        · exact Nat.le_refl _
theorem qP_sub {r : List Nat} : (qP r).Sub r := exP_sub.bind fun _ _ _ => sqP_sub
theorem mlP_sub : ∀ {n : Nat} {acc r : List Nat}, ∃ x r', mlP n acc r = .ok x r' ∧ r' <:+ r
  | 0, acc, r => ⟨_, _, rfl, List.suffix_refl r⟩
  | _ + 1, acc, [] => ⟨_, _, rfl, List.suffix_refl _⟩
  | n + 1, acc, x :: r => by
    unfold mlP
    split
    · obtain ⟨y, r', e, h⟩ := mlP_sub (n := n) (acc := acc ++ [x]) (r := r)
      exact ⟨y, r', e, h.trans (List.suffix_cons x r)⟩
    · exact ⟨_, _, rfl, List.suffix_refl _⟩
theorem nmP_sub {r : List Nat} : (nmP' r).Sub r := by
  have h := tkP_sub (g := lettersL) (r := r)
  unfold nmP'
  cases e : tkP lettersL r with
  | bad j => rw [e] at h; exact h
  | ok x r1 =>
    rw [e] at h
    obtain ⟨y, r', e2, h2⟩ := mlP_sub (n := 7) (acc := [x]) (r := r1)
    show (mlP 7 [x] r1).Sub r
    rw [e2]
    exact ⟨h2.trans h.1, Nat.lt_of_le_of_lt h2.length_le h.2⟩
theorem lfP_sub {r : List Nat} : (lfP r).Sub r := by
  unfold lfP
  split
  · exact qP_sub.map fun _ _ => ⟨_, rfl⟩
  · split
    · exact exP_sub.bind fun _ _ _ => qP_sub.map fun _ _ => ⟨_, rfl⟩
    · split
      · exact exP_sub.map fun _ _ => ⟨_, rfl⟩
      · exact nmP_sub.map fun _ _ => ⟨_, rfl⟩
theorem ptP_sub : ∀ {n : Nat} {r : List Nat}, (ptP n r).Sub r
  | 0, r => Nat.le_refl _
  | n + 1, r => by
    unfold ptP
    split
    · exact exP_sub.bind fun _ _ _ => ptP_sub.bind fun _ _ _ => exP_sub.bind fun _ _ _ => tkP_sub.bind fun _ _ _ => exP_sub.bind fun _ _ _ => ptP_sub.bind fun _ _ _ => exP_sub.map fun _ _ => ⟨_, rfl⟩
    · split
      · exact exP_sub.bind fun _ _ _ => ptP_sub.bind fun _ _ _ => exP_sub.map fun _ _ => ⟨_, rfl⟩
      · split
        · exact exP_sub.bind fun _ _ _ => ptP_sub.bind fun _ _ _ => exP_sub.map fun _ _ => ⟨_, rfl⟩
        · split
          · exact exP_sub.bind fun _ _ _ => stP_sub.bind fun _ _ _ => ptP_sub.bind fun _ _ _ => exP_sub.map fun _ _ => ⟨_, rfl⟩
          · exact lfP_sub
theorem Out.bind_congr {o : Out α} {k k' : α → List Nat → Out β} (h : ∀ x r, o = .ok x r → k x r = k' x r) : o.bind k = o.bind k' := by
  cases o with
  | bad j => rfl
  | ok x r => exact h x r rfl
theorem ptP_fuel : ∀ {n m : Nat} {r : List Nat}, r.length < n → r.length < m → ptP n r = ptP m r
  | n + 1, m + 1, r, hn, hm => by
    have lt : ∀ {α : Type} {o : Out α} {r0 r1 : List Nat} {x : α}, o.Sub r0 → r0.length ≤ r.length → o = .ok x r1 → r1.length < r.length := fun h l e => by
      rw [e] at h; exact Nat.lt_of_lt_of_le h.2 l
    unfold ptP
    split
    · refine Out.bind_congr fun _ r0 e0 => ?_
      have l0 := lt exP_sub (Nat.le_refl _) e0
      rw [ptP_fuel (n := n) (m := m) (r := r0) (by omega) (by omega)]
      refine Out.bind_congr fun f r1 e1 => Out.bind_congr fun _ r2 e2 => Out.bind_congr fun s r3 e3 => Out.bind_congr fun _ r4 e4 => ?_
      have l1 := lt ptP_sub (Nat.le_of_lt l0) e1
      have l2 := lt exP_sub (Nat.le_of_lt l1) e2
      have l3 := lt tkP_sub (Nat.le_of_lt l2) e3
      have l4 := lt exP_sub (Nat.le_of_lt l3) e4
      rw [ptP_fuel (n := n) (m := m) (r := r4) (by omega) (by omega)]
    · split
      · refine Out.bind_congr fun _ r0 e0 => ?_
        have l0 := lt exP_sub (Nat.le_refl _) e0
        rw [ptP_fuel (n := n) (m := m) (r := r0) (by omega) (by omega)]
      · split
        · refine Out.bind_congr fun _ r0 e0 => ?_
          have l0 := lt exP_sub (Nat.le_refl _) e0
          rw [ptP_fuel (n := n) (m := m) (r := r0) (by omega) (by omega)]
        · split
          · refine Out.bind_congr fun _ r0 e0 => Out.bind_congr fun i r1 e1 => ?_
            have l0 := lt exP_sub (Nat.le_refl _) e0
            have l1 := lt stP_sub (Nat.le_of_lt l0) e1
            rw [ptP_fuel (n := n) (m := m) (r := r1) (by omega) (by omega)]
          · rfl
def paP (r : List Nat) : Out Fm := ptP (r.length + 1) r
theorem paP_sub {r : List Nat} : (paP r).Sub r := ptP_sub
theorem ptP_pa {n : Nat} {r : List Nat} (h : r.length < n) : ptP n r = paP r := ptP_fuel h (Nat.lt_succ_self _)
theorem paP_eq (r : List Nat) : paP r =
    if hd0 r = 40 then (exP 40 r).bind fun _ r0 => (paP r0).bind fun f r1 => (exP 32 r1).bind fun _ r2 => (tkP [43, 124] r2).bind fun s r3 => (exP 32 r3).bind fun _ r4 => (paP r4).bind fun g r5 => (exP 41 r5).bind fun _ r6 => .ok (binF s f g) r6
    else if hd0 r = 91 then (exP 91 r).bind fun _ r0 => (paP r0).bind fun f r1 => (exP 93 r1).bind fun _ r2 => .ok (.group f) r2
    else if hd0 r = 123 then (exP 123 r).bind fun _ r0 => (paP r0).bind fun f r1 => (exP 125 r1).bind fun _ r2 => .ok (.flat f) r2
    else if hd0 r = 60 then (exP 60 r).bind fun _ r0 => (stP r0).bind fun i r1 => (paP r1).bind fun f r2 => (exP 62 r2).bind fun _ r3 => .ok (.nested i f) r3
    else lfP r := by
  have lt : ∀ {α : Type} {o : Out α} {r0 r1 : List Nat} {x : α}, o.Sub r0 → r0.length ≤ r.length → o = .ok x r1 → r1.length < r.length := fun h l e => by
    rw [e] at h; exact Nat.lt_of_lt_of_le h.2 l
  show ptP (r.length + 1) r = _
  rw [ptP]
  split
  · refine Out.bind_congr fun _ r0 e0 => ?_
    have l0 := lt exP_sub (Nat.le_refl _) e0
    rw [ptP_pa l0]
    refine Out.bind_congr fun f r1 e1 => Out.bind_congr fun _ r2 e2 => Out.bind_congr fun s r3 e3 => Out.bind_congr fun _ r4 e4 => ?_
    have l1 := lt paP_sub (Nat.le_of_lt l0) e1
    have l2 := lt exP_sub (Nat.le_of_lt l1) e2
    have l3 := lt tkP_sub (Nat.le_of_lt l2) e3
    have l4 := lt exP_sub (Nat.le_of_lt l3) e4
    rw [ptP_pa l4]
  · split
    · exact Out.bind_congr fun _ r0 e0 => by rw [ptP_pa (lt exP_sub (Nat.le_refl _) e0)]
    · split
      · exact Out.bind_congr fun _ r0 e0 => by rw [ptP_pa (lt exP_sub (Nat.le_refl _) e0)]
      · split
        · refine Out.bind_congr fun _ r0 e0 => Out.bind_congr fun i r1 e1 => ?_
          have l0 := lt exP_sub (Nat.le_refl _) e0
          rw [ptP_pa (lt stP_sub (Nat.le_of_lt l0) e1)]
        · rfl
inductive Fw where
  | par | nest (i : Int) | grp | flt | par2 (s : Nat) (f : Fm)
def clP : List Fw → Fm → List Nat → Out Fm
  | [], f, r => if r = [] then .ok f [] else .bad r.length
  | .par :: W, f, r => (exP 32 r).bind fun _ r2 => (tkP [43, 124] r2).bind fun s r3 => (exP 32 r3).bind fun _ r4 => (paP r4).bind fun g r5 => (exP 41 r5).bind fun _ r6 => clP W (binF s f g) r6
  | .nest i :: W, f, r => (exP 62 r).bind fun _ r1 => clP W (.nested i f) r1
  | .grp :: W, f, r => (exP 93 r).bind fun _ r1 => clP W (.group f) r1
  | .flt :: W, f, r => (exP 125 r).bind fun _ r1 => clP W (.flat f) r1
  | .par2 s g :: W, f, r => (exP 41 r).bind fun _ r1 => clP W (binF s g f) r1
def omP (W : List Fw) (r : List Nat) : Out Fm := (paP r).bind fun f r1 => clP W f r1
theorem clP_par {W : List Fw} {f : Fm} {r : List Nat} : clP (.par :: W) f r = (exP 32 r).bind fun _ r2 => (tkP [43, 124] r2).bind fun s r3 => (exP 32 r3).bind fun _ r4 => omP (.par2 s f :: W) r4 := rfl
theorem omP_par {W : List Fw} {r : List Nat} (h : hd0 r = 40) : omP W r = (exP 40 r).bind fun _ r0 => omP (.par :: W) r0 := by
  unfold omP
  rw [paP_eq, if_pos h]
  simp only [Out.assoc]
  rfl
theorem omP_grp {W : List Fw} {r : List Nat} (h : hd0 r = 91) : omP W r = (exP 91 r).bind fun _ r0 => omP (.grp :: W) r0 := by
  unfold omP
  rw [paP_eq, if_neg (by rw [h]; decide), if_pos h]
  simp only [Out.assoc]
  rfl
theorem omP_flt {W : List Fw} {r : List Nat} (h : hd0 r = 123) : omP W r = (exP 123 r).bind fun _ r0 => omP (.flt :: W) r0 := by
  unfold omP
  rw [paP_eq, if_neg (by rw [h]; decide), if_neg (by rw [h]; decide), if_pos h]
  simp only [Out.assoc]
  rfl
theorem omP_nest {W : List Fw} {r : List Nat} (h : hd0 r = 60) : omP W r = (exP 60 r).bind fun _ r0 => (stP r0).bind fun i r1 => omP (.nest i :: W) r1 := by
  unfold omP
  rw [paP_eq, if_neg (by rw [h]; decide), if_neg (by rw [h]; decide), if_neg (by rw [h]; decide), if_pos h]
  simp only [Out.assoc]
  rfl
theorem omP_leaf {W : List Fw} {r : List Nat} (h : hd0 r ∉ [40, 60, 91, 123]) : omP W r = (lfP r).bind fun f r1 => clP W f r1 := by
  simp only [List.mem_cons, List.not_mem_nil, or_false, not_or] at h
  unfold omP
  rw [paP_eq, if_neg h.1, if_neg h.2.2.1, if_neg h.2.2.2, if_neg h.2.1]
def whP (r : List Nat) : Out Fm := omP [] r
end PL
set_option maxHeartbeats 2000000
namespace PL
open PySem PySem.Spec PyProof.Rows L2 PLt PLs
theorem sqP_cons (acc : List Nat) (x : Nat) (l : List Nat) : sqP acc (x :: l) = if x = 34 then .ok (sOf acc) l else if x = 92 then (tkP [34, 92] l).bind (fun y r1 => sqP (acc ++ [y]) r1) else if 32 ≤ x ∧ x ≤ 126 then sqP (acc ++ [x]) l else .bad (l.length + 1) := by
  cases l with
  | nil => simp only [sqP, tkP, Out.bind]
  | cons y r =>
    have e : ∀ (b : Prop) [Decidable b] (h : b ↔ y ∈ [34, 92]), (if b then sqP (acc ++ [y]) r else .bad (r.length + 1)) = (tkP [34, 92] (y :: r)).bind (fun y r1 => sqP (acc ++ [y]) r1) := fun b _ h => by
      by_cases m : y ∈ [34, 92]
      · rw [if_pos (h.mpr m), show tkP [34, 92] (y :: r) = .ok y r from if_pos m]; rfl
      · rw [if_neg (fun z => m (h.mp z)), show tkP [34, 92] (y :: r) = .bad (r.length + 1) from if_neg m]; rfl
    rw [sqP, e _ (by simp)]
theorem sqP_end {acc l : List Nat} : sqP acc (34 :: l) = .ok (sOf acc) l := by rw [sqP_cons, if_pos rfl]
theorem sqP_esc {acc l : List Nat} : sqP acc (92 :: l) = (tkP [34, 92] l).bind fun y r1 => sqP (acc ++ [y]) r1 := by rw [sqP_cons, if_neg (by decide), if_pos rfl]
theorem sqP_in {acc l : List Nat} {x : Nat} (h1 : x ≠ 34) (h2 : x ≠ 92) (h3 : 32 ≤ x ∧ x ≤ 126) : sqP acc (x :: l) = sqP (acc ++ [x]) l := by rw [sqP_cons, if_neg h1, if_neg h2, if_pos h3]
theorem sqP_out {acc l : List Nat} {x : Nat} (h1 : x ≠ 34) (h2 : x ≠ 92) (h3 : ¬ (32 ≤ x ∧ x ≤ 126)) : sqP acc (x :: l) = .bad (l.length + 1) := by rw [sqP_cons, if_neg h1, if_neg h2, if_neg h3]
theorem lt_one {x y : Nat} : ([x] < [y]) ↔ x < y := by
  rw [List.cons_lt_cons_iff]; simp
theorem lo_is {x : Nat} : (!decide ((⟨#[x]⟩ : Str).cps.toList < (Str.ofString " ").cps.toList)) = decide (32 ≤ x) := by
  have h := lt_one (x := x) (y := 32)
  rw [show (Str.ofString " ").cps.toList = [32] by decide, show (⟨#[x]⟩ : Str).cps.toList = [x] from rfl]
  by_cases m : x < 32
  · rw [decide_eq_true (h.mpr m), decide_eq_false (show ¬ 32 ≤ x by omega)]; rfl
  · rw [decide_eq_false (fun z => m (h.mp z)), decide_eq_true (show 32 ≤ x by omega)]; rfl
theorem hi_is {x : Nat} : (!decide ((Str.ofString "~").cps.toList < (⟨#[x]⟩ : Str).cps.toList)) = decide (x ≤ 126) := by
  have h := lt_one (x := 126) (y := x)
  rw [show (Str.ofString "~").cps.toList = [126] by decide, show (⟨#[x]⟩ : Str).cps.toList = [x] from rfl]
  by_cases m : 126 < x
  · rw [decide_eq_true (h.mpr m), decide_eq_false (show ¬ x ≤ 126 by omega)]; rfl
  · rw [decide_eq_false (fun z => m (h.mp z)), decide_eq_true (show x ≤ 126 by omega)]; rfl
theorem okStr_snoc {acc : List Nat} {x : Nat} (h : okStr (sOf acc) = true) (h2 : 32 ≤ x ∧ x ≤ 126) : okStr (sOf (acc ++ [x])) = true := by
  have e : PL.signs (sOf (acc ++ [x])) = PL.signs (sOf acc) ++ [D.str ⟨#[x]⟩] := by
    unfold PL.signs
    rw [sOf_cps, sOf_cps, List.map_append]; rfl
  unfold okStr at h ⊢
  rw [e, List.all_append, h, Bool.true_and, List.all_cons, List.all_nil, Bool.and_true, signOk, lo_is, hi_is, decide_eq_true h2.1, decide_eq_true h2.2]
  rfl
end PL
set_option maxHeartbeats 2000000
namespace PL
open PySem PySem.Spec PyProof.Rows L2 PLt PLs
theorem exP_hit {x : Nat} {r : List Nat} : exP x (x :: r) = .ok () r := by
  unfold exP
  rw [show tkP [x] (x :: r) = .ok x r from if_pos (List.mem_singleton.mpr rfl)]; rfl
theorem omP_par' {W : List Fw} {r : List Nat} : omP W (40 :: r) = omP (.par :: W) r := by rw [omP_par rfl, exP_hit]; rfl
theorem omP_grp' {W : List Fw} {r : List Nat} : omP W (91 :: r) = omP (.grp :: W) r := by rw [omP_grp rfl, exP_hit]; rfl
theorem omP_flt' {W : List Fw} {r : List Nat} : omP W (123 :: r) = omP (.flt :: W) r := by rw [omP_flt rfl, exP_hit]; rfl
theorem omP_nest' {W : List Fw} {r : List Nat} : omP W (60 :: r) = (stP r).bind fun i r1 => omP (.nest i :: W) r1 := by rw [omP_nest rfl, exP_hit]; rfl
def Fw.ok : Fw → Prop
  | .nest i => 0 ≤ i ∧ i ≤ 40
  | .par2 s _ => s = 43 ∨ s = 124
  | _ => True
theorem tk_mem {g r r' : List Nat} {x : Nat} (h : tkP g r = .ok x r') : x ∈ g := by
  cases r with
  | nil => cases h
  | cons y r =>
    by_cases m : y ∈ g
    · rw [show tkP g (y :: r) = .ok y r from if_pos m] at h
      cases h
      exact m
    · rw [show tkP g (y :: r) = .bad (r.length + 1) from if_neg m] at h
      cases h
theorem bind_ok {α β : Type} {o : Out α} {k : α → List Nat → Out β} {y : β} {r : List Nat} (h : o.bind k = .ok y r) : ∃ x r1, o = .ok x r1 ∧ k x r1 = .ok y r := by
  cases o with
  | bad j => cases h
  | ok x r1 => exact ⟨x, r1, rfl, h⟩
theorem stP_rng {r r' : List Nat} {i : Int} (h : stP r = .ok i r') : 0 ≤ i ∧ i ≤ 40 := by
  obtain ⟨d, r1, e1, h⟩ := bind_ok h
  have hd := tk_mem e1
  simp only [digL, List.mem_cons, List.not_mem_nil, or_false] at hd
  split at h
  · rename_i c
    obtain ⟨e, r2, e2, h⟩ := bind_ok h
    have he := tk_mem e2
    have hd2 := c.1
    simp only [digL, List.mem_cons, List.not_mem_nil, or_false] at he hd2
    obtain ⟨_, r3, e3, h⟩ := bind_ok h
    cases h
    omega
  · split at h
    · obtain ⟨e, r2, e2, h⟩ := bind_ok h
      obtain ⟨_, r3, e3, h⟩ := bind_ok h
      cases h
      decide
    · obtain ⟨_, r3, e3, h⟩ := bind_ok h
      cases h
      omega
end PL
set_option maxHeartbeats 2000000
namespace PL
open PySem PySem.Spec PyProof.Rows L2 PLt PLs
section
variable {Y : Ctx} {es : List Expr} {fa : TA} {t : DA} {pos : Pos}
def dNewLsM (t : DA) : DE := fun ρ c Q => t ρ c fun ds c1 => ds.length ≤ sizeLine ∧ ∀ b, c1.m b = none → Q (.mo b) (c1.put b (.lst ds))
theorem pd_newLsM (ha : PDA Y es fa t) : PD Y (.List es pos) (tLst fa) (dNewLsM t) := by
  obtain ⟨ps, ha⟩ := ha
  refine ⟨pe_lst ps, fun G H c ρ σ Qd Q R h k => ?_⟩
  refine ha G H c ρ σ _ _ R h fun ds vs G1 H1 c1 e1 r1 q1 => ⟨by rw [r1.length]; exact q1.1, fun p np => ?_⟩
  obtain ⟨ev, nm⟩ := Evo.newM e1.ok (o := .lst ds) (u := .lst vs) np ⟨vs, rfl, r1⟩
  exact k _ _ _ _ _ (e1.trans ev) .mo (q1.2 p nm)
end
theorem ev_newLsM {t : DA} {ρ : DEnv} {c : CN} {Q : QD} : dNewLsM t ρ c Q = t ρ c fun ds c1 => ds.length ≤ sizeLine ∧ ∀ b, c1.m b = none → Q (.mo b) (c1.put b (.lst ds)) := propext Iff.rfl
section
variable {Y : Ctx} {k : Nat} {f : Addr} {fd : FuncData} {ps : List Str} {sp : SpD} {dvs : List V} {dds : List D} {x : Str} {p pos : Pos} {e : Expr} {es : List Expr} {fa : TA} {t : DA}
theorem pd_callCR (g : Y.Good k) (F : FnAt Y.X.prog Y.X.w Y.X.K Y.X.mg Y.X.base (L2.CX Y.X.prog Y.X.w) Y.X.A f fd ps (spOf Y.X.K sp)) (C : Cal Y.X.K Y.X.mg x f fd ps dvs) (hdd : ∀ G, RpAll Y.X.K G dvs dds)
    (ha : PDA Y (e :: es) fa t) (hg : Gl Y.X x := by rfl) (hdb : (x == ("__debug__" : Str)) = false := by decide) (he : starEach (e :: es) Y.X.env = (false, eval e Y.X.env) :: starEach es Y.X.env := by rfl) (hpl : (backTo pos (starEach es Y.X.env)).any (·.1) = false := by rfl) :
    PD Y (.Call (.Name x p) (e :: es) [] pos) (tCallE (spOf Y.X.K sp) dvs Y.E fa) (dCall Y.ED sp dds t) := by
  obtain ⟨ds, hd, hb⟩ := C.b
  exact pd_callR g F C.m C.k hb hd hdd ha hg hdb he hpl
end
def PU (n : Nat) (d : D) : Prop := ∃ p, toP d = some p ∧ p.canLay0 = true ∧ p.depth ≤ n
theorem PU.s {n : Nat} {x : Str} (h : PyData.strOk x = true) : PU n (.str x) := ⟨.str x, by unfold toP; rfl, h, by simp [PyData.depth]⟩
theorem PU.non {n : Nat} : PU n .non := ⟨.none, by unfold toP; rfl, rfl, by simp [PyData.depth]⟩
theorem PU.int {n : Nat} {i : Int} : PU n (.int i) := ⟨.int i, by unfold toP; rfl, rfl, by simp [PyData.depth]⟩
theorem PU.all {n : Nat} : ∀ {l : List D}, (∀ d, d ∈ l → PU n d) → ∃ ps, toPs l = some ps ∧ PyData.canLayAll0 ps = true ∧ PyData.depthAll ps ≤ n
  | [], _ => ⟨[], by unfold toPs; rfl, rfl, by simp [PyData.depthAll]⟩
  | d :: l, h => by
    obtain ⟨p, h1, h2, h3⟩ := h d List.mem_cons_self
    obtain ⟨ps, g1, g2, g3⟩ := PU.all (l := l) fun d hd => h d (List.mem_cons_of_mem _ hd)
    exact ⟨p :: ps, by unfold toPs; rw [h1, g1]; rfl, by simp [PyData.canLayAll0, h2, g2], by simp [PyData.depthAll]; omega⟩
theorem PU.tup {n : Nat} {l : List D} (h : ∀ d, d ∈ l → PU n d) : PU (n + 1) (.tup l) := by
  obtain ⟨ps, g1, g2, g3⟩ := PU.all h
  exact ⟨.tuple ps, by unfold toP; rw [g1]; rfl, g2, by simp [PyData.depth]; omega⟩
theorem PU.lst {n : Nat} {l : List D} (h : ∀ d, d ∈ l → PU n d) : PU (n + 1) (.lst l) := by
  obtain ⟨ps, g1, g2, g3⟩ := PU.all h
  exact ⟨.list ps, by unfold toP; rw [g1]; rfl, g2, by simp [PyData.depth]; omega⟩
theorem PU.mono {n m : Nat} {d : D} (h : PU n d) (le : n ≤ m) : PU m d := by
  obtain ⟨p, h1, h2, h3⟩ := h
  exact ⟨p, h1, h2, Nat.le_trans h3 le⟩
mutual
theorem eqD_self : ∀ (x : D) {p : PyData}, toP x = some p → eqD x x = true
  | .tup l, p, h1 => by
    unfold toP at h1
    obtain ⟨ps, e, rfl⟩ := Option.map_eq_some_iff.mp h1
    simp only [eqD]; exact eqDs_self l e
  | .lst l, p, h1 => by
    unfold toP at h1
    obtain ⟨ps, e, rfl⟩ := Option.map_eq_some_iff.mp h1
    simp only [eqD]; exact eqDs_self l e
  | .non, _, _ => by simp [eqD]
  | .bl _, _, _ => by simp [eqD]
  | .int _, _, _ => by simp [eqD]
  | .str _, _, _ => by simp [eqD]
  | .ty _, _, h1 => by unfold toP at h1; cases h1
  | .cls _, _, h1 => by unfold toP at h1; cases h1
  | .dct _ _, _, h1 => by unfold toP at h1; cases h1
  | .ins _ _ _, _, h1 => by unfold toP at h1; cases h1
  | .exc _ _ _, _, h1 => by unfold toP at h1; cases h1
  | .opq, _, h1 => by unfold toP at h1; cases h1
  | .mo _, _, h1 => by unfold toP at h1; cases h1
  | .set _ _, _, h1 => by unfold toP at h1; cases h1
  | .scr _, _, h1 => by unfold toP at h1; cases h1
theorem eqDs_self : ∀ (l : List D) {ps : List PyData}, toPs l = some ps → eqDs l l = true
  | [], _, _ => by simp [eqDs]
  | x :: l, ps, h1 => by
    unfold toPs at h1
    obtain ⟨p, e1, e2⟩ := Option.bind_eq_some_iff.mp h1
    obtain ⟨r, e3, rfl⟩ := Option.map_eq_some_iff.mp e2
    simp only [eqDs, eqD_self x e1, eqDs_self l e3]; rfl
end
theorem PU.self {n : Nat} {d : D} (h : PU n d) : eqD d d = true := by
  obtain ⟨p, h1, _⟩ := h
  exact eqD_self d h1
def rNeU (K : PySem.W.Frag) : R2 := fun x y H Q => ∃ d e, Dp K H x d ∧ Dp K H y e ∧ d.canLay0 = true ∧ e.canLay0 = true ∧ d.depth ≤ 600 ∧ Q (.bl (!PyData.eqv d e)) H
theorem op_neU {X : Cx} (hu : X.A.units + 600 < cLine) : OpR X (compareOp .NotEq) (rNeU X.K) := by
  intro pins s σ H x y v u Q I rx ry h
  obtain ⟨d, e, hd, he, sd, se, dp, q⟩ := h
  obtain ⟨as, r1⟩ := Dp.reads I d x v hd rx
  obtain ⟨bs, r2⟩ := Dp.reads I e y u he ry
  exact SeqAt.compareNe_reads r1 r2 sd se (by omega) ⟨.bl _, H, I, rfl, q⟩
def aNeU (x y : D) (c : CN) (Q : QD) : Prop := PU 600 x ∧ PU 600 y ∧ Q (.bl (!eqD x y)) c
theorem br_neU {K : PySem.W.Frag} : Br2 K (rNeU K) aNeU := fun G H c x y d e Qd Q ok rx ry q k => by
  obtain ⟨⟨p, h1, h2, h3⟩, ⟨p2, g1, g2, g3⟩, q⟩ := q
  refine ⟨p, p2, dp_of ok.same h1 rx, dp_of ok.same g1 ry, h2, g2, h3, ?_⟩
  rw [eqv_eqD d e h1 g1]
  exact k _ _ G H c (Evo.refl ok) (.bl _) q
section
variable {Y : Ctx} {a b : Expr} {ea eb : TE} {ta tb : DE} {pos : Pos} {k : Nat}
theorem pdc_neU (g : Y.Good k) (hk : 25 ≤ k) (ha : PD Y a ea ta) (hb : PD Y b eb tb) : PDC Y .NotEq a b (tOp (rNeU Y.X.K) ea eb) (dOp aNeU ta tb) :=
  pdc_op (op_neU (by have := g.room.un; omega)) br_neU ha hb
end
theorem Rest.cutn {s : Str} {p : Nat} {l r : List Nat} (h : Rest s p (l ++ r)) : cutS s (some (p : Nat)) (some ((p + l.length : Nat) : Int)) = sOf l := by
  have h1 := h.d; have h2 := h.l
  rw [List.length_append] at h2
  have i1 : ∀ d, HT.sIx s.length d (some ((p : Nat) : Int)) = p := fun d => by
    show (if ((p : Nat) : Int) < 0 then (((p : Nat) : Int) + s.length).toNat else min ((p : Nat) : Int).toNat s.length) = p
    rw [if_neg (by omega)]
    omega
  have i2 : ∀ d, HT.sIx s.length d (some ((p + l.length : Nat) : Int)) = p + l.length := fun d => by
    show (if ((p + l.length : Nat) : Int) < 0 then (((p + l.length : Nat) : Int) + s.length).toNat else min ((p + l.length : Nat) : Int).toNat s.length) = p + l.length
    rw [if_neg (by omega)]
    omega
  unfold cutS
  rw [i1, i2, h1, show p + l.length - p = l.length by omega, List.take_left]; rfl
def wt : List Nat → Nat
  | [] => 0
  | x :: r => (if x = 40 then 2 else if x = 91 ∨ x = 123 ∨ x = 60 then 1 else 0) + wt r
theorem wt_app : ∀ (a b : List Nat), wt (a ++ b) = wt a + wt b
  | [], b => by simp [wt]
  | x :: a, b => by simp only [List.cons_append, wt, wt_app a b]; omega
theorem wt_suf {a b : List Nat} (h : a <:+ b) : wt a ≤ wt b := by
  obtain ⟨t, rfl⟩ := h
  rw [wt_app]; omega
theorem wt_take (n : Nat) (a : List Nat) : wt (a.take n) ≤ wt a := by
  have := wt_app (a.take n) (a.drop n)
  rw [List.take_append_drop] at this; omega
theorem wt_drop (n : Nat) (a : List Nat) : wt (a.drop n) ≤ wt a := by
  have := wt_app (a.take n) (a.drop n)
  rw [List.take_append_drop] at this; omega
theorem wt_one (x : Nat) : wt [x] ≤ 2 := by
  simp only [wt]; split <;> (try split) <;> omega
def Fm.pu : Fm → Prop
  | .text x => PyData.strOk x = true
  | .brk o => ∀ x, o = some x → PyData.strOk x = true
  | .hole x => PyData.strOk x = true
  | .join f g => f.pu ∧ g.pu
  | .choice f g => f.pu ∧ g.pu
  | .nested _ f => f.pu
  | .group f => f.pu
  | .flat f => f.pu
end PL
set_option maxHeartbeats 2000000
namespace PL
open PySem PySem.Spec PyProof.Rows L2 PLt PLs
theorem all2 {n : Nat} {a b : D} (h : PU n a) (h2 : PU n b) : ∀ d ∈ [a, b], PU n d := by
  intro d hd
  simp only [List.mem_cons, List.not_mem_nil, or_false] at hd
  rcases hd with rfl | rfl
  · exact h
  · exact h2
theorem all3 {n : Nat} {a b c : D} (h : PU n a) (h2 : PU n b) (h3 : PU n c) : ∀ d ∈ [a, b, c], PU n d := by
  intro d hd
  simp only [List.mem_cons, List.not_mem_nil, or_false] at hd
  rcases hd with rfl | rfl | rfl
  · exact h
  · exact h2
  · exact h3
theorem Fm.PU : ∀ {f : Fm}, f.pu → PU f.dep f.enc
  | .text x, h => PU.tup (n := 0) (all2 (PU.s (by decide +kernel)) (PU.s h))
  | .brk none, h => PU.tup (n := 0) (all2 (PU.s (by decide +kernel)) (PU.non))
  | .brk (some x), h => PU.tup (n := 0) (all2 (PU.s (by decide +kernel)) (PU.s (h x rfl)))
  | .hole x, h => PU.tup (n := 0) (all2 (PU.s (by decide +kernel)) (PU.s h))
  | .join f g, h => (PU.tup (n := max f.dep g.dep) (all3 (PU.s (by decide +kernel)) ((Fm.PU h.1).mono (Nat.le_max_left ..)) ((Fm.PU h.2).mono (Nat.le_max_right ..)))).mono (by simp only [Fm.dep]; omega)
  | .choice f g, h => (PU.tup (n := max f.dep g.dep) (all3 (PU.s (by decide +kernel)) ((Fm.PU h.1).mono (Nat.le_max_left ..)) ((Fm.PU h.2).mono (Nat.le_max_right ..)))).mono (by simp only [Fm.dep]; omega)
  | .nested i f, h => (PU.tup (n := f.dep) (all3 (PU.s (by decide +kernel)) (PU.int) (Fm.PU (f := f) h))).mono (by simp only [Fm.dep]; omega)
  | .group f, h => (PU.tup (n := f.dep) (all2 (PU.s (by decide +kernel)) (Fm.PU (f := f) h))).mono (by simp only [Fm.dep]; omega)
  | .flat f, h => (PU.tup (n := f.dep) (all2 (PU.s (by decide +kernel)) (Fm.PU (f := f) h))).mono (by simp only [Fm.dep]; omega)
theorem strOk_of {l : List Nat} (h : ∀ k ∈ l, k ≤ 126) : PyData.strOk (sOf l) = true := by
  unfold PyData.strOk
  rw [Array.all_eq_true']
  intro k hk
  have := h k (by have := Array.mem_toList_iff.mpr hk; rwa [sOf_cps] at this)
  exact decide_eq_true (by omega)
theorem sqP_pu : ∀ {n : Nat} {r acc r' : List Nat} {x : Str}, r.length ≤ n → (∀ k ∈ acc, k ≤ 126) → sqP acc r = .ok x r' → PyData.strOk x = true := by
  intro n
  induction n with
  | zero =>
    intro r acc r' x hn ha h
    cases r with
    | nil => simp only [sqP] at h; cases h
    | cons y r => simp at hn
  | succ n ih =>
    intro r acc r' x hn ha h
    cases r with
    | nil => simp only [sqP] at h; cases h
    | cons y r =>
      simp only [List.length_cons] at hn
      rw [sqP_cons] at h
      split at h
      · cases h; exact strOk_of ha
      · split at h
        · obtain ⟨z, r1, e, h⟩ := bind_ok h
          have hz := tk_mem e
          have hs := tkP_sub (g := [34, 92]) (r := r)
          rw [e] at hs
          have := hs.2
          refine ih (by omega) (fun k hk => ?_) h
          rcases List.mem_append.mp hk with hk | hk
          · exact ha k hk
          · simp only [List.mem_cons, List.not_mem_nil, or_false] at hk hz
            omega
        · split at h
          · rename_i c
            refine ih (by omega) (fun k hk => ?_) h
            rcases List.mem_append.mp hk with hk | hk
            · exact ha k hk
            · simp only [List.mem_cons, List.not_mem_nil, or_false] at hk
              omega
          · cases h
theorem let_le {k : Nat} (h : k ∈ lettersL) : k ≤ 126 := by
  have key : ∀ k ∈ lettersL, k ≤ 126 := by decide
  exact key k h
theorem mlP_pu : ∀ {n : Nat} {r acc r' : List Nat} {x : Str}, (∀ k ∈ acc, k ≤ 126) → mlP n acc r = .ok x r' → PyData.strOk x = true
  | 0, r, acc, r', x, ha, h => by simp only [mlP] at h; cases h; exact strOk_of ha
  | n + 1, [], acc, r', x, ha, h => by simp only [mlP] at h; cases h; exact strOk_of ha
  | n + 1, y :: r, acc, r', x, ha, h => by
    unfold mlP at h
    split at h
    · rename_i c
      refine mlP_pu (fun k hk => ?_) h
      rcases List.mem_append.mp hk with hk | hk
      · exact ha k hk
      · simp only [List.mem_cons, List.not_mem_nil, or_false] at hk
        rw [hk]; exact let_le c
    · cases h; exact strOk_of ha
theorem qP_pu {r r' : List Nat} {x : Str} (h : qP r = .ok x r') : PyData.strOk x = true := by
  obtain ⟨_, r1, e, h⟩ := bind_ok h
  exact sqP_pu (Nat.le_refl _) (fun k hk => by cases hk) h
theorem lfP_pu {r r' : List Nat} {f : Fm} (h : lfP r = .ok f r') : f.pu ∧ f.dep = 1 := by
  unfold lfP at h
  split at h
  · obtain ⟨x, r1, e, h⟩ := bind_ok h; cases h; exact ⟨qP_pu e, by simp only [Fm.dep]⟩
  · split at h
    · obtain ⟨_, r1, e, h⟩ := bind_ok h
      obtain ⟨x, r2, e2, h⟩ := bind_ok h
      cases h
      exact ⟨fun y hy => (by cases hy; exact qP_pu e2), by simp only [Fm.dep]⟩
    · split at h
      · obtain ⟨_, r1, e, h⟩ := bind_ok h; cases h; exact ⟨fun y hy => (by cases hy), by simp only [Fm.dep]⟩
      · obtain ⟨x, r1, e, h⟩ := bind_ok h
        cases h
        obtain ⟨y, r2, e2, h⟩ := bind_ok e
        exact ⟨mlP_pu (fun k hk => by simp only [List.mem_cons, List.not_mem_nil, or_false] at hk; rw [hk]; exact let_le (tk_mem e2)) h, by simp only [Fm.dep]⟩
theorem binF_pu {s : Nat} {f g : Fm} (h : f.pu) (h2 : g.pu) : (binF s f g).pu ∧ (binF s f g).dep = 1 + max f.dep g.dep := by
  unfold binF
  split
  · exact ⟨⟨h, h2⟩, by simp only [Fm.dep]⟩
  · exact ⟨⟨h, h2⟩, by simp only [Fm.dep]⟩
theorem sub_wt {α : Type} {o : Out α} {r r' : List Nat} {x : α} (h : o.Sub r) (e : o = .ok x r') : wt r' ≤ wt r := by
  rw [e] at h; exact wt_suf h.1
theorem ex_cons {x : Nat} {r r' : List Nat} {u : Unit} (h : exP x r = .ok u r') : r = x :: r' := by
  cases r with
  | nil => cases h
  | cons y r =>
    unfold exP at h
    obtain ⟨z, r1, e, h⟩ := bind_ok h
    cases h
    rw [tkP] at e
    by_cases c : y ∈ [x]
    · rw [if_pos c] at e
      cases e
      rw [List.mem_singleton.mp c]
    · rw [if_neg c] at e; cases e
theorem ptP_pu : ∀ {n : Nat} {r r' : List Nat} {f : Fm}, ptP n r = .ok f r' → f.pu ∧ f.dep ≤ wt r + 1
  | 0, r, r', f, h => by simp only [ptP] at h; cases h
  | n + 1, r, r', f, h => by
    unfold ptP at h
    split at h
    · obtain ⟨_, r0, e0, h⟩ := bind_ok h
      obtain ⟨f1, r1, e1, h⟩ := bind_ok h
      obtain ⟨_, r2, e2, h⟩ := bind_ok h
      obtain ⟨s, r3, e3, h⟩ := bind_ok h
      obtain ⟨_, r4, e4, h⟩ := bind_ok h
      obtain ⟨g, r5, e5, h⟩ := bind_ok h
      obtain ⟨_, r6, e6, h⟩ := bind_ok h
      cases h
      have w1 := sub_wt ptP_sub e1
      have w2 := sub_wt exP_sub e2
      have w3 := sub_wt tkP_sub e3
      have w4 := sub_wt exP_sub e4
      obtain ⟨p1, d1⟩ := ptP_pu e1
      obtain ⟨p2, d2⟩ := ptP_pu e5
      rw [ex_cons e0]
      have hb := binF_pu (s := s) p1 p2
      refine ⟨hb.1, ?_⟩
      rw [hb.2]
      simp only [wt, if_pos]
      omega
    · split at h
      · obtain ⟨_, r0, e0, h⟩ := bind_ok h
        obtain ⟨f1, r1, e1, h⟩ := bind_ok h
        obtain ⟨_, r2, e2, h⟩ := bind_ok h
        cases h
        obtain ⟨p1, d1⟩ := ptP_pu e1
        rw [ex_cons e0]
        exact ⟨p1, by simp only [wt, Fm.dep]; simp; omega⟩
      · split at h
        · obtain ⟨_, r0, e0, h⟩ := bind_ok h
          obtain ⟨f1, r1, e1, h⟩ := bind_ok h
          obtain ⟨_, r2, e2, h⟩ := bind_ok h
          cases h
          obtain ⟨p1, d1⟩ := ptP_pu e1
          rw [ex_cons e0]
          exact ⟨p1, by simp only [wt, Fm.dep]; simp; omega⟩
        · split at h
          · obtain ⟨_, r0, e0, h⟩ := bind_ok h
            obtain ⟨i, r9, e9, h⟩ := bind_ok h
            obtain ⟨f1, r1, e1, h⟩ := bind_ok h
            obtain ⟨_, r2, e2, h⟩ := bind_ok h
            cases h
            have w1 := sub_wt stP_sub e9
            obtain ⟨p1, d1⟩ := ptP_pu e1
            rw [ex_cons e0]
            exact ⟨p1, by simp only [wt, Fm.dep]; simp; omega⟩
          · obtain ⟨p, d⟩ := lfP_pu h
            exact ⟨p, by omega⟩
theorem paP_pu {r r' : List Nat} {f : Fm} (h : paP r = .ok f r') : f.pu ∧ f.dep ≤ wt r + 1 := ptP_pu h
theorem told_PU {r r' : List Nat} {f : Fm} (h : paP r = .ok f r') (hw : wt r ≤ 597) {x : Str} (hx : PyData.strOk x = true) : PU 600 (.lst [.str x, f.enc]) := by
  obtain ⟨p, d⟩ := paP_pu h
  refine (PU.lst (n := 598) ?_).mono (by decide)
  intro e he
  simp only [List.mem_cons, List.not_mem_nil, or_false] at he
  rcases he with rfl | rfl
  · exact PU.s hx
  · exact (Fm.PU p).mono (by omega)
theorem at_PU {i : Int} {x : Str} (hx : PyData.strOk x = true) : PU 600 (.lst [.str x, .int i]) := by
  refine (PU.lst (n := 1) ?_).mono (by decide)
  intro e he
  simp only [List.mem_cons, List.not_mem_nil, or_false] at he
  rcases he with rfl | rfl
  · exact PU.s hx
  · exact PU.int
end PL
namespace K38
open PySem PySem.Spec PyProof.Rows L2 PL PLt PLs
def top (i : Nat) : Stmt := PySem.Challenge.pw_layoutsets_k38_strings_that_are_no_docum.main.body.getD i (.Pass ⟨0, 0, 0, 0⟩)
abbrev s_is_string : Stmt := top 12
abbrev s_is_integer : Stmt := top 13
abbrev s_inner_forms : Stmt := top 15
abbrev s_all_forms : Stmt := top 16
abbrev s_is_name : Stmt := top 14
abbrev s_Doc_form : Stmt := inClass (top 17) 1
abbrev s_Doc_parts : Stmt := inClass (top 17) 2
abbrev s_require_doc : Stmt := top 18
abbrev s_Doc___add__ : Stmt := inClass (top 17) 6
abbrev s_Doc___or__ : Stmt := inClass (top 17) 7
abbrev s_Doc_nested : Stmt := inClass (top 17) 9
abbrev s_Doc_group : Stmt := inClass (top 17) 10
abbrev s_Doc_flattened : Stmt := inClass (top 17) 11
abbrev s_text : Stmt := top 19
abbrev s_line : Stmt := top 20
abbrev s_hole : Stmt := top 21
abbrev s_Doc___eq__ : Stmt := inClass (top 17) 8
abbrev s_quoted : Stmt := top 24
abbrev s_written_form : Stmt := top 25
abbrev s_written : Stmt := top 26
abbrev s_Reader___init__ : Stmt := inClass (top 27) 0
abbrev s_Reader_sign : Stmt := inClass (top 27) 1
abbrev s_Reader_take : Stmt := inClass (top 27) 2
abbrev s_Reader_taken_steps : Stmt := inClass (top 27) 3
abbrev s_Reader_string_in_quotes : Stmt := inClass (top 27) 4
abbrev s_Reader_taken_name : Stmt := inClass (top 27) 5
abbrev s_Reader_leaf : Stmt := inClass (top 27) 6
abbrev s_Reader_begin : Stmt := inClass (top 27) 7
abbrev s_Reader_close : Stmt := inClass (top 27) 8
abbrev s_Reader_whole : Stmt := inClass (top 27) 9
abbrev s_read : Stmt := top 28
abbrev s__law_at : Stmt := top 30
abbrev s__law_mixed : Stmt := top 31
abbrev s__law_purse : Stmt := top 32
abbrev s__law_draw : Stmt := top 33
abbrev s__law_leaf : Stmt := top 34
abbrev s__law_form : Stmt := top 35
abbrev s__law_doc : Stmt := top 36
abbrev s__law_next : Stmt := top 39
abbrev s__law_steps : Stmt := top 40
abbrev s__law_string : Stmt := top 41
abbrev s__law_single : Stmt := top 42
abbrev s__law_pair : Stmt := top 43
abbrev s__law_part : Stmt := top 44
abbrev s__law_due : Stmt := top 45
abbrev s__law_told : Stmt := top 46
abbrev s__law_bent : Stmt := top 47
abbrev s_law : Stmt := top 48
theorem sc_is_string : FnScope ["thing", "sign"] ["thing"] (defScope s_is_string) := scope_of (by decide +kernel)
theorem sc_is_integer : FnScope ["thing", "least", "most"] ["thing", "least", "most"] (defScope s_is_integer) := scope_of (by decide +kernel)
theorem sc_is_name : FnScope ["thing", "sign"] ["thing"] (defScope s_is_name) := scope_of (by decide +kernel)
theorem sc_Doc_form : FnScope ["self"] ["self"] (defScope s_Doc_form) := scope_of (by decide +kernel)
theorem sc_require_doc : FnScope ["thing"] ["thing"] (defScope s_require_doc) := scope_of (by decide +kernel)
theorem sc_Doc___add__ : FnScope ["self", "other"] ["self", "other"] (defScope s_Doc___add__) := scope_of (by decide +kernel)
theorem sc_Doc___or__ : FnScope ["self", "other"] ["self", "other"] (defScope s_Doc___or__) := scope_of (by decide +kernel)
theorem sc_Doc_nested : FnScope ["self", "steps"] ["self", "steps"] (defScope s_Doc_nested) := scope_of (by decide +kernel)
theorem sc_Doc_group : FnScope ["self"] ["self"] (defScope s_Doc_group) := scope_of (by decide +kernel)
theorem sc_Doc_flattened : FnScope ["self"] ["self"] (defScope s_Doc_flattened) := scope_of (by decide +kernel)
theorem sc_text : FnScope ["string"] ["string"] (defScope s_text) := scope_of (by decide +kernel)
theorem sc_line : FnScope ["flat"] ["flat"] (defScope s_line) := scope_of (by decide +kernel)
theorem sc_hole : FnScope ["name"] ["name"] (defScope s_hole) := scope_of (by decide +kernel)
theorem sc_Doc___eq__ : FnScope ["self", "other"] ["self", "other"] (defScope s_Doc___eq__) := scope_of (by decide +kernel)
theorem sc_quoted : FnScope ["string"] ["string"] (defScope s_quoted) := scope_of (by decide +kernel)
theorem sc_written_form : FnScope ["form", "sign", "first", "last"] ["form"] (defScope s_written_form) := scope_of (by decide +kernel)
theorem sc_written : FnScope ["doc"] ["doc"] (defScope s_written) := scope_of (by decide +kernel)
theorem sc_Reader___init__ : FnScope ["self", "string"] ["self", "string"] (defScope s_Reader___init__) := scope_of (by decide +kernel)
theorem sc_Reader_sign : FnScope ["self"] ["self"] (defScope s_Reader_sign) := scope_of (by decide +kernel)
theorem sc_Reader_take : FnScope ["self", "signs", "found"] ["self", "signs"] (defScope s_Reader_take) := scope_of (by decide +kernel)
theorem sc_Reader_taken_steps : FnScope ["self", "found"] ["self"] (defScope s_Reader_taken_steps) := scope_of (by decide +kernel)
theorem sc_Reader_string_in_quotes : FnScope ["self", "found", "sign"] ["self"] (defScope s_Reader_string_in_quotes) := scope_of (by decide +kernel)
theorem sc_Reader_taken_name : FnScope ["self", "found"] ["self"] (defScope s_Reader_taken_name) := scope_of (by decide +kernel)
theorem sc_Reader_leaf : FnScope ["self"] ["self"] (defScope s_Reader_leaf) := scope_of (by decide +kernel)
theorem sc_Reader_begin : FnScope ["self", "sign"] ["self"] (defScope s_Reader_begin) := scope_of (by decide +kernel)
theorem sc_Reader_close : FnScope ["self", "doc", "sign", "kept"] ["self", "doc"] (defScope s_Reader_close) := scope_of (by decide +kernel)
theorem sc_Reader_whole : FnScope ["self", "found"] ["self"] (defScope s_Reader_whole) := scope_of (by decide +kernel)
theorem sc_read : FnScope ["string"] ["string"] (defScope s_read) := scope_of (by decide +kernel)
theorem sc__law_at : FnScope ["_law_script", "_law_k"] ["_law_script", "_law_k"] (defScope s__law_at) := scope_of (by decide +kernel)
theorem sc__law_mixed : FnScope ["_law_cell", "_law_k", "_law_number"] ["_law_cell", "_law_k"] (defScope s__law_mixed) := scope_of (by decide +kernel)
theorem sc__law_purse : FnScope ["_law_script", "_law_at_here", "_law_cell"] ["_law_script", "_law_at_here"] (defScope s__law_purse) := scope_of (by decide +kernel)
theorem sc__law_draw : FnScope ["_law_purse_here", "_law_out_of", "_law_number", "_law_k", "_law_drawn"] ["_law_purse_here", "_law_out_of"] (defScope s__law_draw) := scope_of (by decide +kernel)
theorem sc__law_leaf : FnScope ["_law_purse_here", "_law_strings", "_law_names", "_law_way", "_law_string_here"] ["_law_purse_here", "_law_strings", "_law_names"] (defScope s__law_leaf) := scope_of (by decide +kernel)
theorem sc__law_form : FnScope ["_law_purse_here", "_law_strings", "_law_names", "_law_deep", "_law_way", "_law_one"] ["_law_purse_here", "_law_strings", "_law_names", "_law_deep"] (defScope s__law_form) := scope_of (by decide +kernel)
theorem sc__law_doc : FnScope ["_law_form_here"] ["_law_form_here"] (defScope s__law_doc) := scope_of (by decide +kernel)
theorem sc__law_next : FnScope ["_law_string_here", "_law_spot", "_law_signs"] ["_law_string_here", "_law_spot", "_law_signs"] (defScope s__law_next) := scope_of (by decide +kernel)
theorem sc__law_steps : FnScope ["_law_string_here", "_law_spot", "_law_start", "_law_first", "_law_steps_here"] ["_law_string_here", "_law_spot"] (defScope s__law_steps) := scope_of (by decide +kernel)
theorem sc__law_string : FnScope ["_law_string_here", "_law_spot", "_law_found", "_law_sign"] ["_law_string_here", "_law_spot"] (defScope s__law_string) := scope_of (by decide +kernel)
theorem sc__law_single : FnScope ["_law_string_here", "_law_spot", "_law_word", "_law_start", "_law_found"] ["_law_string_here", "_law_spot"] (defScope s__law_single) := scope_of (by decide +kernel)
theorem sc__law_pair : FnScope ["_law_string_here", "_law_spot", "_law_one", "_law_word", "_law_other"] ["_law_string_here", "_law_spot"] (defScope s__law_pair) := scope_of (by decide +kernel)
theorem sc__law_part : FnScope ["_law_string_here", "_law_spot", "_law_start", "_law_end", "_law_word", "_law_steps_here", "_law_inner"] ["_law_string_here", "_law_spot"] (defScope s__law_part) := scope_of (by decide +kernel)
theorem sc__law_due : FnScope ["_law_string_here", "_law_spot", "_law_form_here"] ["_law_string_here"] (defScope s__law_due) := scope_of (by decide +kernel)
theorem sc__law_told : FnScope ["_law_string_here", "_law_caught", "_law_told_here", "error"] ["_law_string_here"] (defScope s__law_told) := scope_of (by decide +kernel)
theorem sc__law_bent : FnScope ["_law_purse_here", "_law_string_here", "_law_signs", "_law_at_here", "_law_way", "_law_sign"] ["_law_purse_here", "_law_string_here"] (defScope s__law_bent) := scope_of (by decide +kernel)
theorem sc_law : FnScope ["_law_script", "_law_strings", "_law_odd", "_law_at_here", "_law_purse_here", "_law_turn", "_law_string_here", "_law_bend"] ["_law_script"] (defScope s_law) := scope_of (by decide +kernel)
abbrev si_Doc : Stmt := inClass (top 17) 0
theorem sci_Doc : FnScope ["self", "shape"] ["self", "shape"] (defScope si_Doc) := scope_of (by decide +kernel)
abbrev si_InvalidName : Stmt := inClass (top 5) 0
theorem sci_InvalidName : FnScope ["self", "name"] ["self", "name"] (defScope si_InvalidName) := scope_of (by decide +kernel)
abbrev si_InvalidSteps : Stmt := inClass (top 4) 0
theorem sci_InvalidSteps : FnScope ["self", "steps"] ["self", "steps"] (defScope si_InvalidSteps) := scope_of (by decide +kernel)
abbrev si_InvalidText : Stmt := inClass (top 3) 0
theorem sci_InvalidText : FnScope ["self", "string"] ["self", "string"] (defScope si_InvalidText) := scope_of (by decide +kernel)
abbrev si_NotADocument : Stmt := inClass (top 6) 0
theorem sci_NotADocument : FnScope ["self", "thing"] ["self", "thing"] (defScope si_NotADocument) := scope_of (by decide +kernel)
abbrev si_Unreadable : Stmt := inClass (top 7) 0
theorem sci_Unreadable : FnScope ["self", "at"] ["self", "at"] (defScope si_Unreadable) := scope_of (by decide +kernel)
structure Ad where
  c_LayoutError : Addr
  c_InvalidText : Addr
  c_InvalidSteps : Addr
  c_InvalidName : Addr
  c_NotADocument : Addr
  c_Unreadable : Addr
  c_Doc : Addr
  c_Reader : Addr
  i_InvalidText : Addr
  i_InvalidSteps : Addr
  i_InvalidName : Addr
  i_NotADocument : Addr
  i_Unreadable : Addr
  i_Doc : Addr
  f_is_string : Addr
  f_is_integer : Addr
  f_inner_forms : Addr
  f_all_forms : Addr
  f_is_name : Addr
  p_Doc_form : Addr
  f_Doc_form : Addr
  p_Doc_parts : Addr
  f_Doc_parts : Addr
  f_require_doc : Addr
  f_Doc___add__ : Addr
  f_Doc___or__ : Addr
  f_Doc_nested : Addr
  f_Doc_group : Addr
  f_Doc_flattened : Addr
  f_text : Addr
  f_line : Addr
  f_hole : Addr
  f_Doc___eq__ : Addr
  f_quoted : Addr
  f_written_form : Addr
  f_written : Addr
  f_Reader___init__ : Addr
  f_Reader_sign : Addr
  f_Reader_take : Addr
  f_Reader_taken_steps : Addr
  f_Reader_string_in_quotes : Addr
  f_Reader_taken_name : Addr
  f_Reader_leaf : Addr
  f_Reader_begin : Addr
  f_Reader_close : Addr
  f_Reader_whole : Addr
  f_read : Addr
  f__law_at : Addr
  f__law_mixed : Addr
  f__law_purse : Addr
  f__law_draw : Addr
  f__law_leaf : Addr
  f__law_form : Addr
  f__law_doc : Addr
  f__law_next : Addr
  f__law_steps : Addr
  f__law_string : Addr
  f__law_single : Addr
  f__law_pair : Addr
  f__law_part : Addr
  f__law_due : Addr
  f__law_told : Addr
  f__law_bent : Addr
  f_law : Addr
  d_is_string : FuncData
  d_is_integer : FuncData
  d_inner_forms : FuncData
  d_all_forms : FuncData
  d_is_name : FuncData
  d_Doc_form : FuncData
  d_Doc_parts : FuncData
  d_require_doc : FuncData
  d_Doc___add__ : FuncData
  d_Doc___or__ : FuncData
  d_Doc_nested : FuncData
  d_Doc_group : FuncData
  d_Doc_flattened : FuncData
  d_text : FuncData
  d_line : FuncData
  d_hole : FuncData
  d_Doc___eq__ : FuncData
  d_quoted : FuncData
  d_written_form : FuncData
  d_written : FuncData
  d_Reader___init__ : FuncData
  d_Reader_sign : FuncData
  d_Reader_take : FuncData
  d_Reader_taken_steps : FuncData
  d_Reader_string_in_quotes : FuncData
  d_Reader_taken_name : FuncData
  d_Reader_leaf : FuncData
  d_Reader_begin : FuncData
  d_Reader_close : FuncData
  d_Reader_whole : FuncData
  d_read : FuncData
  d__law_at : FuncData
  d__law_mixed : FuncData
  d__law_purse : FuncData
  d__law_draw : FuncData
  d__law_leaf : FuncData
  d__law_form : FuncData
  d__law_doc : FuncData
  d__law_next : FuncData
  d__law_steps : FuncData
  d__law_string : FuncData
  d__law_single : FuncData
  d__law_pair : FuncData
  d__law_part : FuncData
  d__law_due : FuncData
  d__law_told : FuncData
  d__law_bent : FuncData
  d_law : FuncData
  d_init_Doc : FuncData
  d_init_InvalidName : FuncData
  d_init_InvalidSteps : FuncData
  d_init_InvalidText : FuncData
  d_init_NotADocument : FuncData
  d_init_Unreadable : FuncData
structure Txt (K : PySem.W.Frag) (mg : Str → Option Value) (a : Ad) : Prop where
  m_LayoutError : mg "LayoutError" = some (.ref a.c_LayoutError)
  m_InvalidText : mg "InvalidText" = some (.ref a.c_InvalidText)
  m_InvalidSteps : mg "InvalidSteps" = some (.ref a.c_InvalidSteps)
  m_InvalidName : mg "InvalidName" = some (.ref a.c_InvalidName)
  m_NotADocument : mg "NotADocument" = some (.ref a.c_NotADocument)
  m_Unreadable : mg "Unreadable" = some (.ref a.c_Unreadable)
  m_Doc : mg "Doc" = some (.ref a.c_Doc)
  m_Reader : mg "Reader" = some (.ref a.c_Reader)
  x_InvalidText : XCls K mg "InvalidText" "string" a.c_InvalidText a.i_InvalidText
  x_InvalidSteps : XCls K mg "InvalidSteps" "steps" a.c_InvalidSteps a.i_InvalidSteps
  x_InvalidName : XCls K mg "InvalidName" "name" a.c_InvalidName a.i_InvalidName
  x_NotADocument : XCls K mg "NotADocument" "thing" a.c_NotADocument a.i_NotADocument
  x_Unreadable : XCls K mg "Unreadable" "at" a.c_Unreadable a.i_Unreadable
  D_Doc : DCls K mg "Doc" "shape" a.c_Doc a.i_Doc
  O_Doc : OpsC K a.c_Doc
  D_Reader_string : DCls K mg "Reader" "string" a.c_Reader a.f_Reader___init__
  D_Reader_at : DCls K mg "Reader" "at" a.c_Reader a.f_Reader___init__
  D_Reader_waiting : DCls K mg "Reader" "waiting" a.c_Reader a.f_Reader___init__
  kt_Doc : ∀ T ∈ kinds7, PySem.W.kitOne K (.type T) (.ref a.c_Doc) = some false
  k_Doc_Doc : PySem.W.kitOne K (.ref a.c_Doc) (.ref a.c_Doc) = some true
  k_Unreadable_Unreadable : PySem.W.kitOne K (.ref a.c_Unreadable) (.ref a.c_Unreadable) = some true
  em_Unreadable_LayoutError : PySem.W.exmOne K (.ref a.c_Unreadable) (.ref a.c_LayoutError) = some true
  z_all : mg "all" = none
  z_bool : mg "bool" = none
  z_int : mg "int" = none
  z_isinstance : mg "isinstance" = none
  z_len : mg "len" = none
  z_max : mg "max" = none
  z_min : mg "min" = none
  z_range : mg "range" = none
  z_str : mg "str" = none
  g_DIGITS : ∃ t, mg "DIGITS" = some (.str "0123456789" t)
  g_LETTERS : ∃ t, mg "LETTERS" = some (.str "abcdefghijklmnopqrstuvwxyz" t)
  g_MOST_LETTERS : ∃ t, mg "MOST_LETTERS" = some (.int 8 t)
  g_MOST_STEPS : ∃ t, mg "MOST_STEPS" = some (.int 40 t)
  m_is_string : mg "is_string" = some (.ref a.f_is_string)
  m_is_integer : mg "is_integer" = some (.ref a.f_is_integer)
  m_inner_forms : mg "inner_forms" = some (.ref a.f_inner_forms)
  m_all_forms : mg "all_forms" = some (.ref a.f_all_forms)
  m_is_name : mg "is_name" = some (.ref a.f_is_name)
  P_Doc_form : PropOf K a.c_Doc "form" a.p_Doc_form a.f_Doc_form
  m_require_doc : mg "require_doc" = some (.ref a.f_require_doc)
  M_Doc___add__ : Meth K a.c_Doc "__add__" a.f_Doc___add__
  M_Doc___or__ : Meth K a.c_Doc "__or__" a.f_Doc___or__
  M_Doc_nested : Meth K a.c_Doc "nested" a.f_Doc_nested
  M_Doc_group : Meth K a.c_Doc "group" a.f_Doc_group
  M_Doc_flattened : Meth K a.c_Doc "flattened" a.f_Doc_flattened
  m_text : mg "text" = some (.ref a.f_text)
  m_line : mg "line" = some (.ref a.f_line)
  m_hole : mg "hole" = some (.ref a.f_hole)
  M_Doc___eq__ : Meth K a.c_Doc "__eq__" a.f_Doc___eq__
  m_quoted : mg "quoted" = some (.ref a.f_quoted)
  m_written_form : mg "written_form" = some (.ref a.f_written_form)
  m_written : mg "written" = some (.ref a.f_written)
  M_Reader_sign : Meth K a.c_Reader "sign" a.f_Reader_sign
  M_Reader_take : Meth K a.c_Reader "take" a.f_Reader_take
  M_Reader_taken_steps : Meth K a.c_Reader "taken_steps" a.f_Reader_taken_steps
  M_Reader_string_in_quotes : Meth K a.c_Reader "string_in_quotes" a.f_Reader_string_in_quotes
  M_Reader_taken_name : Meth K a.c_Reader "taken_name" a.f_Reader_taken_name
  M_Reader_leaf : Meth K a.c_Reader "leaf" a.f_Reader_leaf
  M_Reader_begin : Meth K a.c_Reader "begin" a.f_Reader_begin
  M_Reader_close : Meth K a.c_Reader "close" a.f_Reader_close
  M_Reader_whole : Meth K a.c_Reader "whole" a.f_Reader_whole
  m_read : mg "read" = some (.ref a.f_read)
  m__law_at : mg "_law_at" = some (.ref a.f__law_at)
  m__law_mixed : mg "_law_mixed" = some (.ref a.f__law_mixed)
  m__law_purse : mg "_law_purse" = some (.ref a.f__law_purse)
  m__law_draw : mg "_law_draw" = some (.ref a.f__law_draw)
  m__law_leaf : mg "_law_leaf" = some (.ref a.f__law_leaf)
  m__law_form : mg "_law_form" = some (.ref a.f__law_form)
  m__law_doc : mg "_law_doc" = some (.ref a.f__law_doc)
  m__law_next : mg "_law_next" = some (.ref a.f__law_next)
  m__law_steps : mg "_law_steps" = some (.ref a.f__law_steps)
  m__law_string : mg "_law_string" = some (.ref a.f__law_string)
  m__law_single : mg "_law_single" = some (.ref a.f__law_single)
  m__law_pair : mg "_law_pair" = some (.ref a.f__law_pair)
  m__law_part : mg "_law_part" = some (.ref a.f__law_part)
  m__law_due : mg "_law_due" = some (.ref a.f__law_due)
  m__law_told : mg "_law_told" = some (.ref a.f__law_told)
  m__law_bent : mg "_law_bent" = some (.ref a.f__law_bent)
  m_law : mg "law" = some (.ref a.f_law)
  F_is_string : FunD K "is_string" "is_string" (defArgs s_is_string) (defBody s_is_string) (defScope s_is_string) [] [] a.f_is_string a.d_is_string
  F_is_integer : FunD K "is_integer" "is_integer" (defArgs s_is_integer) (defBody s_is_integer) (defScope s_is_integer) [.non, .non] [] a.f_is_integer a.d_is_integer
  F_inner_forms : FunD K "inner_forms" "inner_forms" (defArgs s_inner_forms) (defBody s_inner_forms) (defScope s_inner_forms) [] [] a.f_inner_forms a.d_inner_forms
  F_all_forms : FunD K "all_forms" "all_forms" (defArgs s_all_forms) (defBody s_all_forms) (defScope s_all_forms) [] [] a.f_all_forms a.d_all_forms
  F_is_name : FunD K "is_name" "is_name" (defArgs s_is_name) (defBody s_is_name) (defScope s_is_name) [] [] a.f_is_name a.d_is_name
  F_Doc_form : FunD K "form" "Doc.form" (defArgs s_Doc_form) (defBody s_Doc_form) (defScope s_Doc_form) [] [] a.f_Doc_form a.d_Doc_form
  F_Doc_parts : FunD K "parts" "Doc.parts" (defArgs s_Doc_parts) (defBody s_Doc_parts) (defScope s_Doc_parts) [] [] a.f_Doc_parts a.d_Doc_parts
  F_require_doc : FunD K "require_doc" "require_doc" (defArgs s_require_doc) (defBody s_require_doc) (defScope s_require_doc) [] [] a.f_require_doc a.d_require_doc
  F_Doc___add__ : FunD K "__add__" "Doc.__add__" (defArgs s_Doc___add__) (defBody s_Doc___add__) (defScope s_Doc___add__) [] [] a.f_Doc___add__ a.d_Doc___add__
  F_Doc___or__ : FunD K "__or__" "Doc.__or__" (defArgs s_Doc___or__) (defBody s_Doc___or__) (defScope s_Doc___or__) [] [] a.f_Doc___or__ a.d_Doc___or__
  F_Doc_nested : FunD K "nested" "Doc.nested" (defArgs s_Doc_nested) (defBody s_Doc_nested) (defScope s_Doc_nested) [] [] a.f_Doc_nested a.d_Doc_nested
  F_Doc_group : FunD K "group" "Doc.group" (defArgs s_Doc_group) (defBody s_Doc_group) (defScope s_Doc_group) [] [] a.f_Doc_group a.d_Doc_group
  F_Doc_flattened : FunD K "flattened" "Doc.flattened" (defArgs s_Doc_flattened) (defBody s_Doc_flattened) (defScope s_Doc_flattened) [] [] a.f_Doc_flattened a.d_Doc_flattened
  F_text : FunD K "text" "text" (defArgs s_text) (defBody s_text) (defScope s_text) [.str ""] [] a.f_text a.d_text
  F_line : FunD K "line" "line" (defArgs s_line) (defBody s_line) (defScope s_line) [.str " "] [] a.f_line a.d_line
  F_hole : FunD K "hole" "hole" (defArgs s_hole) (defBody s_hole) (defScope s_hole) [] [] a.f_hole a.d_hole
  F_Doc___eq__ : FunD K "__eq__" "Doc.__eq__" (defArgs s_Doc___eq__) (defBody s_Doc___eq__) (defScope s_Doc___eq__) [] [] a.f_Doc___eq__ a.d_Doc___eq__
  F_quoted : FunD K "quoted" "quoted" (defArgs s_quoted) (defBody s_quoted) (defScope s_quoted) [] [] a.f_quoted a.d_quoted
  F_written_form : FunD K "written_form" "written_form" (defArgs s_written_form) (defBody s_written_form) (defScope s_written_form) [] [] a.f_written_form a.d_written_form
  F_written : FunD K "written" "written" (defArgs s_written) (defBody s_written) (defScope s_written) [] [] a.f_written a.d_written
  F_Reader___init__ : FunD K "__init__" "Reader.__init__" (defArgs s_Reader___init__) (defBody s_Reader___init__) (defScope s_Reader___init__) [] [] a.f_Reader___init__ a.d_Reader___init__
  F_Reader_sign : FunD K "sign" "Reader.sign" (defArgs s_Reader_sign) (defBody s_Reader_sign) (defScope s_Reader_sign) [] [] a.f_Reader_sign a.d_Reader_sign
  F_Reader_take : FunD K "take" "Reader.take" (defArgs s_Reader_take) (defBody s_Reader_take) (defScope s_Reader_take) [] [] a.f_Reader_take a.d_Reader_take
  F_Reader_taken_steps : FunD K "taken_steps" "Reader.taken_steps" (defArgs s_Reader_taken_steps) (defBody s_Reader_taken_steps) (defScope s_Reader_taken_steps) [] [] a.f_Reader_taken_steps a.d_Reader_taken_steps
  F_Reader_string_in_quotes : FunD K "string_in_quotes" "Reader.string_in_quotes" (defArgs s_Reader_string_in_quotes) (defBody s_Reader_string_in_quotes) (defScope s_Reader_string_in_quotes) [] [] a.f_Reader_string_in_quotes a.d_Reader_string_in_quotes
  F_Reader_taken_name : FunD K "taken_name" "Reader.taken_name" (defArgs s_Reader_taken_name) (defBody s_Reader_taken_name) (defScope s_Reader_taken_name) [] [] a.f_Reader_taken_name a.d_Reader_taken_name
  F_Reader_leaf : FunD K "leaf" "Reader.leaf" (defArgs s_Reader_leaf) (defBody s_Reader_leaf) (defScope s_Reader_leaf) [] [] a.f_Reader_leaf a.d_Reader_leaf
  F_Reader_begin : FunD K "begin" "Reader.begin" (defArgs s_Reader_begin) (defBody s_Reader_begin) (defScope s_Reader_begin) [] [] a.f_Reader_begin a.d_Reader_begin
  F_Reader_close : FunD K "close" "Reader.close" (defArgs s_Reader_close) (defBody s_Reader_close) (defScope s_Reader_close) [] [] a.f_Reader_close a.d_Reader_close
  F_Reader_whole : FunD K "whole" "Reader.whole" (defArgs s_Reader_whole) (defBody s_Reader_whole) (defScope s_Reader_whole) [] [] a.f_Reader_whole a.d_Reader_whole
  F_read : FunD K "read" "read" (defArgs s_read) (defBody s_read) (defScope s_read) [] [] a.f_read a.d_read
  F__law_at : FunD K "_law_at" "_law_at" (defArgs s__law_at) (defBody s__law_at) (defScope s__law_at) [] [] a.f__law_at a.d__law_at
  F__law_mixed : FunD K "_law_mixed" "_law_mixed" (defArgs s__law_mixed) (defBody s__law_mixed) (defScope s__law_mixed) [] [] a.f__law_mixed a.d__law_mixed
  F__law_purse : FunD K "_law_purse" "_law_purse" (defArgs s__law_purse) (defBody s__law_purse) (defScope s__law_purse) [] [] a.f__law_purse a.d__law_purse
  F__law_draw : FunD K "_law_draw" "_law_draw" (defArgs s__law_draw) (defBody s__law_draw) (defScope s__law_draw) [] [] a.f__law_draw a.d__law_draw
  F__law_leaf : FunD K "_law_leaf" "_law_leaf" (defArgs s__law_leaf) (defBody s__law_leaf) (defScope s__law_leaf) [] [] a.f__law_leaf a.d__law_leaf
  F__law_form : FunD K "_law_form" "_law_form" (defArgs s__law_form) (defBody s__law_form) (defScope s__law_form) [] [] a.f__law_form a.d__law_form
  F__law_doc : FunD K "_law_doc" "_law_doc" (defArgs s__law_doc) (defBody s__law_doc) (defScope s__law_doc) [] [] a.f__law_doc a.d__law_doc
  F__law_next : FunD K "_law_next" "_law_next" (defArgs s__law_next) (defBody s__law_next) (defScope s__law_next) [] [] a.f__law_next a.d__law_next
  F__law_steps : FunD K "_law_steps" "_law_steps" (defArgs s__law_steps) (defBody s__law_steps) (defScope s__law_steps) [] [] a.f__law_steps a.d__law_steps
  F__law_string : FunD K "_law_string" "_law_string" (defArgs s__law_string) (defBody s__law_string) (defScope s__law_string) [] [] a.f__law_string a.d__law_string
  F__law_single : FunD K "_law_single" "_law_single" (defArgs s__law_single) (defBody s__law_single) (defScope s__law_single) [] [] a.f__law_single a.d__law_single
  F__law_pair : FunD K "_law_pair" "_law_pair" (defArgs s__law_pair) (defBody s__law_pair) (defScope s__law_pair) [] [] a.f__law_pair a.d__law_pair
  F__law_part : FunD K "_law_part" "_law_part" (defArgs s__law_part) (defBody s__law_part) (defScope s__law_part) [] [] a.f__law_part a.d__law_part
  F__law_due : FunD K "_law_due" "_law_due" (defArgs s__law_due) (defBody s__law_due) (defScope s__law_due) [] [] a.f__law_due a.d__law_due
  F__law_told : FunD K "_law_told" "_law_told" (defArgs s__law_told) (defBody s__law_told) (defScope s__law_told) [] [] a.f__law_told a.d__law_told
  F__law_bent : FunD K "_law_bent" "_law_bent" (defArgs s__law_bent) (defBody s__law_bent) (defScope s__law_bent) [] [] a.f__law_bent a.d__law_bent
  F_law : FunD K "law" "law" (defArgs s_law) (defBody s_law) (defScope s_law) [] [] a.f_law a.d_law
  F_init_Doc : FunD K "__init__" "Doc.__init__" (defArgs si_Doc) (defBody si_Doc) (defScope si_Doc) [] [] a.i_Doc a.d_init_Doc
  F_init_InvalidName : FunD K "__init__" "InvalidName.__init__" (defArgs si_InvalidName) (defBody si_InvalidName) (defScope si_InvalidName) [.non] [] a.i_InvalidName a.d_init_InvalidName
  F_init_InvalidSteps : FunD K "__init__" "InvalidSteps.__init__" (defArgs si_InvalidSteps) (defBody si_InvalidSteps) (defScope si_InvalidSteps) [.non] [] a.i_InvalidSteps a.d_init_InvalidSteps
  F_init_InvalidText : FunD K "__init__" "InvalidText.__init__" (defArgs si_InvalidText) (defBody si_InvalidText) (defScope si_InvalidText) [.non] [] a.i_InvalidText a.d_init_InvalidText
  F_init_NotADocument : FunD K "__init__" "NotADocument.__init__" (defArgs si_NotADocument) (defBody si_NotADocument) (defScope si_NotADocument) [.non] [] a.i_NotADocument a.d_init_NotADocument
  F_init_Unreadable : FunD K "__init__" "Unreadable.__init__" (defArgs si_Unreadable) (defBody si_Unreadable) (defScope si_Unreadable) [.non] [] a.i_Unreadable a.d_init_Unreadable
def IC0 (a : Ad) : Addr → Prop := fun C => C = a.c_Doc
theorem hI0 {K : PySem.W.Frag} {mg : Str → Option Value} {a : Ad} (T : Txt K mg a) : ∀ C, IC0 a C → ICls K C := fun C h => by
  rcases h with rfl
  · exact T.D_Doc.ic
def dd_is_string : DefP := { ad := fun K => He.ga K "is_string", name := "is_string", qual := "is_string", params := defArgs s_is_string, body := defBody s_is_string, scope := defScope s_is_string, dfl := [], kwd := [] }
def dd_is_integer : DefP := { ad := fun K => He.ga K "is_integer", name := "is_integer", qual := "is_integer", params := defArgs s_is_integer, body := defBody s_is_integer, scope := defScope s_is_integer, dfl := [.non, .non], kwd := [] }
def dd_inner_forms : DefP := { ad := fun K => He.ga K "inner_forms", name := "inner_forms", qual := "inner_forms", params := defArgs s_inner_forms, body := defBody s_inner_forms, scope := defScope s_inner_forms, dfl := [], kwd := [] }
def dd_all_forms : DefP := { ad := fun K => He.ga K "all_forms", name := "all_forms", qual := "all_forms", params := defArgs s_all_forms, body := defBody s_all_forms, scope := defScope s_all_forms, dfl := [], kwd := [] }
def dd_is_name : DefP := { ad := fun K => He.ga K "is_name", name := "is_name", qual := "is_name", params := defArgs s_is_name, body := defBody s_is_name, scope := defScope s_is_name, dfl := [], kwd := [] }
def dd_Doc_form : DefP := { ad := fun K => pgA K "Doc" "form", name := "form", qual := "Doc.form", params := defArgs s_Doc_form, body := defBody s_Doc_form, scope := defScope s_Doc_form, dfl := [], kwd := [] }
def dd_Doc_parts : DefP := { ad := fun K => pgA K "Doc" "parts", name := "parts", qual := "Doc.parts", params := defArgs s_Doc_parts, body := defBody s_Doc_parts, scope := defScope s_Doc_parts, dfl := [], kwd := [] }
def dd_require_doc : DefP := { ad := fun K => He.ga K "require_doc", name := "require_doc", qual := "require_doc", params := defArgs s_require_doc, body := defBody s_require_doc, scope := defScope s_require_doc, dfl := [], kwd := [] }
def dd_Doc___add__ : DefP := { ad := fun K => He.ma K (He.ga K "Doc") "__add__", name := "__add__", qual := "Doc.__add__", params := defArgs s_Doc___add__, body := defBody s_Doc___add__, scope := defScope s_Doc___add__, dfl := [], kwd := [] }
def dd_Doc___or__ : DefP := { ad := fun K => He.ma K (He.ga K "Doc") "__or__", name := "__or__", qual := "Doc.__or__", params := defArgs s_Doc___or__, body := defBody s_Doc___or__, scope := defScope s_Doc___or__, dfl := [], kwd := [] }
def dd_Doc_nested : DefP := { ad := fun K => He.ma K (He.ga K "Doc") "nested", name := "nested", qual := "Doc.nested", params := defArgs s_Doc_nested, body := defBody s_Doc_nested, scope := defScope s_Doc_nested, dfl := [], kwd := [] }
def dd_Doc_group : DefP := { ad := fun K => He.ma K (He.ga K "Doc") "group", name := "group", qual := "Doc.group", params := defArgs s_Doc_group, body := defBody s_Doc_group, scope := defScope s_Doc_group, dfl := [], kwd := [] }
def dd_Doc_flattened : DefP := { ad := fun K => He.ma K (He.ga K "Doc") "flattened", name := "flattened", qual := "Doc.flattened", params := defArgs s_Doc_flattened, body := defBody s_Doc_flattened, scope := defScope s_Doc_flattened, dfl := [], kwd := [] }
def dd_text : DefP := { ad := fun K => He.ga K "text", name := "text", qual := "text", params := defArgs s_text, body := defBody s_text, scope := defScope s_text, dfl := [.str ""], kwd := [] }
def dd_line : DefP := { ad := fun K => He.ga K "line", name := "line", qual := "line", params := defArgs s_line, body := defBody s_line, scope := defScope s_line, dfl := [.str " "], kwd := [] }
def dd_hole : DefP := { ad := fun K => He.ga K "hole", name := "hole", qual := "hole", params := defArgs s_hole, body := defBody s_hole, scope := defScope s_hole, dfl := [], kwd := [] }
def dd_Doc___eq__ : DefP := { ad := fun K => He.ma K (He.ga K "Doc") "__eq__", name := "__eq__", qual := "Doc.__eq__", params := defArgs s_Doc___eq__, body := defBody s_Doc___eq__, scope := defScope s_Doc___eq__, dfl := [], kwd := [] }
def dd_quoted : DefP := { ad := fun K => He.ga K "quoted", name := "quoted", qual := "quoted", params := defArgs s_quoted, body := defBody s_quoted, scope := defScope s_quoted, dfl := [], kwd := [] }
def dd_written_form : DefP := { ad := fun K => He.ga K "written_form", name := "written_form", qual := "written_form", params := defArgs s_written_form, body := defBody s_written_form, scope := defScope s_written_form, dfl := [], kwd := [] }
def dd_written : DefP := { ad := fun K => He.ga K "written", name := "written", qual := "written", params := defArgs s_written, body := defBody s_written, scope := defScope s_written, dfl := [], kwd := [] }
def dd_Reader___init__ : DefP := { ad := fun K => He.ma K (He.ga K "Reader") "__init__", name := "__init__", qual := "Reader.__init__", params := defArgs s_Reader___init__, body := defBody s_Reader___init__, scope := defScope s_Reader___init__, dfl := [], kwd := [] }
def dd_Reader_sign : DefP := { ad := fun K => He.ma K (He.ga K "Reader") "sign", name := "sign", qual := "Reader.sign", params := defArgs s_Reader_sign, body := defBody s_Reader_sign, scope := defScope s_Reader_sign, dfl := [], kwd := [] }
def dd_Reader_take : DefP := { ad := fun K => He.ma K (He.ga K "Reader") "take", name := "take", qual := "Reader.take", params := defArgs s_Reader_take, body := defBody s_Reader_take, scope := defScope s_Reader_take, dfl := [], kwd := [] }
def dd_Reader_taken_steps : DefP := { ad := fun K => He.ma K (He.ga K "Reader") "taken_steps", name := "taken_steps", qual := "Reader.taken_steps", params := defArgs s_Reader_taken_steps, body := defBody s_Reader_taken_steps, scope := defScope s_Reader_taken_steps, dfl := [], kwd := [] }
def dd_Reader_string_in_quotes : DefP := { ad := fun K => He.ma K (He.ga K "Reader") "string_in_quotes", name := "string_in_quotes", qual := "Reader.string_in_quotes", params := defArgs s_Reader_string_in_quotes, body := defBody s_Reader_string_in_quotes, scope := defScope s_Reader_string_in_quotes, dfl := [], kwd := [] }
def dd_Reader_taken_name : DefP := { ad := fun K => He.ma K (He.ga K "Reader") "taken_name", name := "taken_name", qual := "Reader.taken_name", params := defArgs s_Reader_taken_name, body := defBody s_Reader_taken_name, scope := defScope s_Reader_taken_name, dfl := [], kwd := [] }
def dd_Reader_leaf : DefP := { ad := fun K => He.ma K (He.ga K "Reader") "leaf", name := "leaf", qual := "Reader.leaf", params := defArgs s_Reader_leaf, body := defBody s_Reader_leaf, scope := defScope s_Reader_leaf, dfl := [], kwd := [] }
def dd_Reader_begin : DefP := { ad := fun K => He.ma K (He.ga K "Reader") "begin", name := "begin", qual := "Reader.begin", params := defArgs s_Reader_begin, body := defBody s_Reader_begin, scope := defScope s_Reader_begin, dfl := [], kwd := [] }
def dd_Reader_close : DefP := { ad := fun K => He.ma K (He.ga K "Reader") "close", name := "close", qual := "Reader.close", params := defArgs s_Reader_close, body := defBody s_Reader_close, scope := defScope s_Reader_close, dfl := [], kwd := [] }
def dd_Reader_whole : DefP := { ad := fun K => He.ma K (He.ga K "Reader") "whole", name := "whole", qual := "Reader.whole", params := defArgs s_Reader_whole, body := defBody s_Reader_whole, scope := defScope s_Reader_whole, dfl := [], kwd := [] }
def dd_read : DefP := { ad := fun K => He.ga K "read", name := "read", qual := "read", params := defArgs s_read, body := defBody s_read, scope := defScope s_read, dfl := [], kwd := [] }
def dd__law_at : DefP := { ad := fun K => He.ga K "_law_at", name := "_law_at", qual := "_law_at", params := defArgs s__law_at, body := defBody s__law_at, scope := defScope s__law_at, dfl := [], kwd := [] }
def dd__law_mixed : DefP := { ad := fun K => He.ga K "_law_mixed", name := "_law_mixed", qual := "_law_mixed", params := defArgs s__law_mixed, body := defBody s__law_mixed, scope := defScope s__law_mixed, dfl := [], kwd := [] }
def dd__law_purse : DefP := { ad := fun K => He.ga K "_law_purse", name := "_law_purse", qual := "_law_purse", params := defArgs s__law_purse, body := defBody s__law_purse, scope := defScope s__law_purse, dfl := [], kwd := [] }
def dd__law_draw : DefP := { ad := fun K => He.ga K "_law_draw", name := "_law_draw", qual := "_law_draw", params := defArgs s__law_draw, body := defBody s__law_draw, scope := defScope s__law_draw, dfl := [], kwd := [] }
def dd__law_leaf : DefP := { ad := fun K => He.ga K "_law_leaf", name := "_law_leaf", qual := "_law_leaf", params := defArgs s__law_leaf, body := defBody s__law_leaf, scope := defScope s__law_leaf, dfl := [], kwd := [] }
def dd__law_form : DefP := { ad := fun K => He.ga K "_law_form", name := "_law_form", qual := "_law_form", params := defArgs s__law_form, body := defBody s__law_form, scope := defScope s__law_form, dfl := [], kwd := [] }
def dd__law_doc : DefP := { ad := fun K => He.ga K "_law_doc", name := "_law_doc", qual := "_law_doc", params := defArgs s__law_doc, body := defBody s__law_doc, scope := defScope s__law_doc, dfl := [], kwd := [] }
def dd__law_next : DefP := { ad := fun K => He.ga K "_law_next", name := "_law_next", qual := "_law_next", params := defArgs s__law_next, body := defBody s__law_next, scope := defScope s__law_next, dfl := [], kwd := [] }
def dd__law_steps : DefP := { ad := fun K => He.ga K "_law_steps", name := "_law_steps", qual := "_law_steps", params := defArgs s__law_steps, body := defBody s__law_steps, scope := defScope s__law_steps, dfl := [], kwd := [] }
def dd__law_string : DefP := { ad := fun K => He.ga K "_law_string", name := "_law_string", qual := "_law_string", params := defArgs s__law_string, body := defBody s__law_string, scope := defScope s__law_string, dfl := [], kwd := [] }
def dd__law_single : DefP := { ad := fun K => He.ga K "_law_single", name := "_law_single", qual := "_law_single", params := defArgs s__law_single, body := defBody s__law_single, scope := defScope s__law_single, dfl := [], kwd := [] }
def dd__law_pair : DefP := { ad := fun K => He.ga K "_law_pair", name := "_law_pair", qual := "_law_pair", params := defArgs s__law_pair, body := defBody s__law_pair, scope := defScope s__law_pair, dfl := [], kwd := [] }
def dd__law_part : DefP := { ad := fun K => He.ga K "_law_part", name := "_law_part", qual := "_law_part", params := defArgs s__law_part, body := defBody s__law_part, scope := defScope s__law_part, dfl := [], kwd := [] }
def dd__law_due : DefP := { ad := fun K => He.ga K "_law_due", name := "_law_due", qual := "_law_due", params := defArgs s__law_due, body := defBody s__law_due, scope := defScope s__law_due, dfl := [], kwd := [] }
def dd__law_told : DefP := { ad := fun K => He.ga K "_law_told", name := "_law_told", qual := "_law_told", params := defArgs s__law_told, body := defBody s__law_told, scope := defScope s__law_told, dfl := [], kwd := [] }
def dd__law_bent : DefP := { ad := fun K => He.ga K "_law_bent", name := "_law_bent", qual := "_law_bent", params := defArgs s__law_bent, body := defBody s__law_bent, scope := defScope s__law_bent, dfl := [], kwd := [] }
def dd_law : DefP := { ad := fun K => He.ga K "law", name := "law", qual := "law", params := defArgs s_law, body := defBody s_law, scope := defScope s_law, dfl := [], kwd := [] }
def dd_init_Doc : DefP := { ad := fun K => He.ma K (He.ga K "Doc") "__init__", name := "__init__", qual := "Doc.__init__", params := defArgs si_Doc, body := defBody si_Doc, scope := defScope si_Doc, dfl := [], kwd := [] }
def dd_init_InvalidName : DefP := { ad := fun K => He.ma K (He.ga K "InvalidName") "__init__", name := "__init__", qual := "InvalidName.__init__", params := defArgs si_InvalidName, body := defBody si_InvalidName, scope := defScope si_InvalidName, dfl := [.non], kwd := [] }
def dd_init_InvalidSteps : DefP := { ad := fun K => He.ma K (He.ga K "InvalidSteps") "__init__", name := "__init__", qual := "InvalidSteps.__init__", params := defArgs si_InvalidSteps, body := defBody si_InvalidSteps, scope := defScope si_InvalidSteps, dfl := [.non], kwd := [] }
def dd_init_InvalidText : DefP := { ad := fun K => He.ma K (He.ga K "InvalidText") "__init__", name := "__init__", qual := "InvalidText.__init__", params := defArgs si_InvalidText, body := defBody si_InvalidText, scope := defScope si_InvalidText, dfl := [.non], kwd := [] }
def dd_init_NotADocument : DefP := { ad := fun K => He.ma K (He.ga K "NotADocument") "__init__", name := "__init__", qual := "NotADocument.__init__", params := defArgs si_NotADocument, body := defBody si_NotADocument, scope := defScope si_NotADocument, dfl := [.non], kwd := [] }
def dd_init_Unreadable : DefP := { ad := fun K => He.ma K (He.ga K "Unreadable") "__init__", name := "__init__", qual := "Unreadable.__init__", params := defArgs si_Unreadable, body := defBody si_Unreadable, scope := defScope si_Unreadable, dfl := [.non], kwd := [] }
def fn : List DefP := [dd_is_string, dd_is_integer, dd_inner_forms, dd_all_forms, dd_is_name, dd_Doc_form, dd_Doc_parts, dd_require_doc, dd_Doc___add__, dd_Doc___or__, dd_Doc_nested, dd_Doc_group, dd_Doc_flattened, dd_text, dd_line, dd_hole, dd_Doc___eq__, dd_quoted, dd_written_form, dd_written, dd_Reader___init__, dd_Reader_sign, dd_Reader_take, dd_Reader_taken_steps, dd_Reader_string_in_quotes, dd_Reader_taken_name, dd_Reader_leaf, dd_Reader_begin, dd_Reader_close, dd_Reader_whole, dd_read, dd__law_at, dd__law_mixed, dd__law_purse, dd__law_draw, dd__law_leaf, dd__law_form, dd__law_doc, dd__law_next, dd__law_steps, dd__law_string, dd__law_single, dd__law_pair, dd__law_part, dd__law_due, dd__law_told, dd__law_bent, dd_law, dd_init_Doc, dd_init_InvalidName, dd_init_InvalidSteps, dd_init_InvalidText, dd_init_NotADocument, dd_init_Unreadable]
def exl : Looks' := [fun K => (He.Fa.glo "LayoutError").ok K,
  fun K => (He.Fa.glo "InvalidText").ok K,
  fun K => (He.Fa.glo "InvalidSteps").ok K,
  fun K => (He.Fa.glo "InvalidName").ok K,
  fun K => (He.Fa.glo "NotADocument").ok K,
  fun K => (He.Fa.glo "Unreadable").ok K,
  fun K => (He.Fa.glo "Doc").ok K,
  fun K => (He.Fa.glo "Reader").ok K,
  fun K => xclsB K "string" (He.ga K "InvalidText") (He.ma K (He.ga K "InvalidText") "__init__"),
  fun K => xclsB K "steps" (He.ga K "InvalidSteps") (He.ma K (He.ga K "InvalidSteps") "__init__"),
  fun K => xclsB K "name" (He.ga K "InvalidName") (He.ma K (He.ga K "InvalidName") "__init__"),
  fun K => xclsB K "thing" (He.ga K "NotADocument") (He.ma K (He.ga K "NotADocument") "__init__"),
  fun K => xclsB K "at" (He.ga K "Unreadable") (He.ma K (He.ga K "Unreadable") "__init__"),
  fun K => dclsB K "Doc" "shape",
  fun K => opsB K "Doc",
  fun K => dclsB K "Reader" "string",
  fun K => dclsB K "Reader" "at",
  fun K => dclsB K "Reader" "waiting",
  fun K => ktB K "Doc",
  fun K => kxB K "Doc" "Doc" true,
  fun K => kxB K "Unreadable" "Unreadable" true,
  fun K => (He.Fa.exm "Unreadable" "LayoutError" true).ok K,
  fun K => (He.Fa.free "all").ok K,
  fun K => (He.Fa.free "bool").ok K,
  fun K => (He.Fa.free "int").ok K,
  fun K => (He.Fa.free "isinstance").ok K,
  fun K => (He.Fa.free "len").ok K,
  fun K => (He.Fa.free "max").ok K,
  fun K => (He.Fa.free "min").ok K,
  fun K => (He.Fa.free "range").ok K,
  fun K => (He.Fa.free "str").ok K,
  fun K => (He.Fa.str "DIGITS" "0123456789").ok K,
  fun K => (He.Fa.str "LETTERS" "abcdefghijklmnopqrstuvwxyz").ok K,
  fun K => (He.Fa.int "MOST_LETTERS" 8).ok K,
  fun K => (He.Fa.int "MOST_STEPS" 40).ok K,
  fun K => (He.Fa.glo "is_string").ok K,
  fun K => (He.Fa.glo "is_integer").ok K,
  fun K => (He.Fa.glo "inner_forms").ok K,
  fun K => (He.Fa.glo "all_forms").ok K,
  fun K => (He.Fa.glo "is_name").ok K,
  fun K => propB K "Doc" "form",
  fun K => (He.Fa.glo "require_doc").ok K,
  fun K => (He.Fa.meth "Doc" "__add__").ok K,
  fun K => (He.Fa.meth "Doc" "__or__").ok K,
  fun K => (He.Fa.meth "Doc" "nested").ok K,
  fun K => (He.Fa.meth "Doc" "group").ok K,
  fun K => (He.Fa.meth "Doc" "flattened").ok K,
  fun K => (He.Fa.glo "text").ok K,
  fun K => (He.Fa.glo "line").ok K,
  fun K => (He.Fa.glo "hole").ok K,
  fun K => (He.Fa.meth "Doc" "__eq__").ok K,
  fun K => (He.Fa.glo "quoted").ok K,
  fun K => (He.Fa.glo "written_form").ok K,
  fun K => (He.Fa.glo "written").ok K,
  fun K => (He.Fa.meth "Reader" "sign").ok K,
  fun K => (He.Fa.meth "Reader" "take").ok K,
  fun K => (He.Fa.meth "Reader" "taken_steps").ok K,
  fun K => (He.Fa.meth "Reader" "string_in_quotes").ok K,
  fun K => (He.Fa.meth "Reader" "taken_name").ok K,
  fun K => (He.Fa.meth "Reader" "leaf").ok K,
  fun K => (He.Fa.meth "Reader" "begin").ok K,
  fun K => (He.Fa.meth "Reader" "close").ok K,
  fun K => (He.Fa.meth "Reader" "whole").ok K,
  fun K => (He.Fa.glo "read").ok K,
  fun K => (He.Fa.glo "_law_at").ok K,
  fun K => (He.Fa.glo "_law_mixed").ok K,
  fun K => (He.Fa.glo "_law_purse").ok K,
  fun K => (He.Fa.glo "_law_draw").ok K,
  fun K => (He.Fa.glo "_law_leaf").ok K,
  fun K => (He.Fa.glo "_law_form").ok K,
  fun K => (He.Fa.glo "_law_doc").ok K,
  fun K => (He.Fa.glo "_law_next").ok K,
  fun K => (He.Fa.glo "_law_steps").ok K,
  fun K => (He.Fa.glo "_law_string").ok K,
  fun K => (He.Fa.glo "_law_single").ok K,
  fun K => (He.Fa.glo "_law_pair").ok K,
  fun K => (He.Fa.glo "_law_part").ok K,
  fun K => (He.Fa.glo "_law_due").ok K,
  fun K => (He.Fa.glo "_law_told").ok K,
  fun K => (He.Fa.glo "_law_bent").ok K,
  fun K => (He.Fa.glo "law").ok K]
abbrev R : PySem.W.OpenRow := PySem.W.OpenLaw.row PySem.Challenge.rw_layoutsets_k38_strings_that_are_no_docum
abbrev hk : PySem.W.Hook := hookR 1500 fn exl
def ob (s : PySem.W.SharedT) : AlP := obsRG 1500 fn exl (HandSHeadRun.getT s)
theorem ob_eq (s : PySem.W.SharedT) : ob s = hk.obs s.abs := obsRG_eq (HandSHeadRun.getT_eq s)
def loose : List PySem.Str := (["_wall", "LayoutError", "InvalidText", "InvalidSteps", "InvalidName", "NotADocument", "Unreadable", "is_string", "is_integer", "is_name", "inner_forms", "all_forms", "Doc", "require_doc", "text", "line", "hole", "quoted", "written_form", "written", "Reader", "read", "_law_at", "_law_mixed", "_law_purse"] : List PySem.Str) ++ (["_law_draw", "_law_leaf", "_law_form", "_law_doc", "_law_quoted", "_law_written", "_law_next", "_law_steps", "_law_string", "_law_single", "_law_pair", "_law_part", "_law_due", "_law_told", "_law_bent", "LETTERS", "MOST_LETTERS", "MOST_STEPS", "DIGITS"] : List PySem.Str)
theorem run (w : World) : HandSHeadRun.RunEq R (PySem.W.view R.prog [48]) hk ob 9000 loose w := by
  intro os
  kernel_rfl
local macro_rules | `(tactic| walk_at "ev") => `(tactic| simp only [↓ev_newLsM, ↓ev_strD, ↓ev_eqL0, ↓ev_brT, ↓ev_kgetA, ↓ev_excV, ↓ev_excV0, ↓ev_excPl, ↓ev_isVE, ↓ev_isX, ↓ev_orS, ↓ev_trs_n, ↓ev_addS, ↓ev_eqS, ↓ev_moA, ↓ev_dkeys, ↓ev_dictC, ↓ev_dstar, ↓ev_propM, ↓ev_methMK, ↓ev_mIp, ↓ev_mLp, ↓ev_mTp, ↓ev_mI, ↓ev_mL, ↓ev_mT, ↓ev_fdT, ↓ev_fldM, ↓ev_sfldM, ↓ev_sfldAugM, ↓ev_methM, ↓ev_makeM, ↓ev_newLM, ↓ev_sappM, ↓ev_popM, ↓ev_ixM, ↓ev_lenM, ↓ev_newT, ↓ev_tget, ↓ev_tnotin, ↓ev_tput, ↓ev_nums4, ↓ev_items, ↓ev_newDC, ↓ev_min1, ↓ev_dc, ↓ev_brF, ↓ev_asB, ↓ev_atP, ↓ev_var0, ↓ev_varS, ↓ev_c, ↓ev_op, ↓ev_chain, ↓ev_tchain, ↓ev_nil, ↓ev_cons, ↓ev_cb, ↓ev_tup, ↓ev_lst, ↓ev_b, ↓ev_andV, ↓ev_orV, ↓ev_orT, ↓ev_extD, ↓ev_tru_n, ↓ev_tru_b, ↓ev_tru_l0, ↓ev_tru_lc, ↓ev_tru_t0, ↓ev_tru_tc, ↓ev_notV, ↓ev_if, ↓ev_tand, ↓ev_tor, ↓ev_tnot, ↓ev_yes, ↓ev_next, ↓ev_seq, ↓ev_ret, ↓ev_retN, ↓ev_brk, ↓ev_cnt, ↓ev_sif, ↓ev_drop, ↓ev_set, ↓ev_asg, ↓ev_kname, ↓ev_knil, ↓ev_kcons, ↓ev_ktup, ↓ev_kseqT, ↓ev_kseqL, ↓ev_for, ↓ev_lc, ↓ev_any, ↓ev_anyL, ↓ev_anyT, ↓ev_anyS, ↓ev_rng1, ↓ev_rng1i, ↓ev_rng2, ↓ev_rng2i, ↓ev_enum, ↓ev_sl, ↓ev_nop, ↓ev_part, ↓ev_asI, ↓ev_call, ↓ev_callK, ↓ev_plusI, ↓ev_plusS, ↓ev_plusT, ↓ev_i0, ↓ev_iC, ↓ev_leI, ↓ev_leS, ↓ev_isN, ↓ev_notN, ↓ev_itL, ↓ev_itT, ↓ev_slT, ↓ev_slL, ↓ev_lenL, ↓ev_lenT, ↓ev_lenS, ↓ev_intI, ↓ev_intB, ↓ev_isa, ↓ev_listL, ↓ev_listT, ↓ev_tupL, ↓ev_tupT, ↓ev_max, ↓ev_min, ↓ev_eq, ↓ev_ne, ↓ev_neg, ↓ev_all, ↓ev_purse, ↓ev_pix, ↓ev_pset, ↓ev_itScr, ↓ev_lenScr, ↓ev_tmI, ↓ev_tmS, ↓ev_tmL, ↓ev_tmT, ↓ev_s2I, ↓ev_s2S, ↓ev_s2T, ↓ev_s2L, ↓ev_p2T, ↓ev_p2L, ↓ev_p2S, ↓ev_inS, ↓ev_inT, ↓ev_inL, ↓ev_newL, ↓ev_raise, ↓ev_try, ↓ev_tryP, ↓ev_fldX1, ↓ev_bits, ↓ev_olen, ↓ev_oix, ↓ev_extend, ↓ev_lstP, ↓ev_down, ↓ev_maxL, ↓ev_minL, ↓ev_gtK, ↓ev_gtKK, ↓ev_rev, ↓ev_revL, ↓ev_newCatM, ↓ev_ssetM, ↓ev_min2K, ↓ev_join, ↓ev_quote, ↓ev_neM, ↓ev_fmt, ↓ev_fmtS, ↓ev_fmtI, ↓ev_joined, ↓ev_jsN, ↓ev_jsC, ↓ev_strI, ↓ev_strIP, ↓ev_sortSet, ↓ev_sortSetU, ↓ev_sortSc, ↓ev_sortSetK, ↓ev_setK, ↓ev_sortSc2, ↓ev_sortSc1, ↓ev_sortL, ↓ev_sortSetI, ↓ev_oeq, ↓ev_one, ↓ev_oisa, ↓ev_newCallT, ↓ev_minD, ↓ev_augO, ↓ev_never, ↓ev_zip, ↓ev_zipP, ↓ev_lstRg, ↓ev_kget, ↓ev_newCat, ↓ev_twoL, ↓ev_append, ↓ev_freeze, ↓ev_olP, ↓ev_hd1, ↓ev_excP, ↓ev_sum, ↓ev_count, ↓ev_index, ↓ev_zip2, ↓ev_strP, ↓ev_aug, ↓ev_fzP, ↓ev_anyB, ↓ev_twoP, ↓set_nx', ↓gone_nx, ↓gone_bk, ↓gone_ct, ↓gone_rt, ↓ev_par, ↓ev_par3, ↓ev_threeP, ↓ev_make, ↓ev_makeL, ↓ev_cmeth, ↓ev_newCall, ↓ev_ocopy, ↓ev_getO_i, ↓ev_getO_l, ↓ev_getO_t, ↓ev_makeRL, ↓ev_raise0, ↓ev_makeR, ↓ev_lenO_i, ↓ev_lenO_l, ↓ev_lenO_t, ↓ev_fldI, ↓ev_prop, ↓ev_meth, ↓ev_methK, ↓ev_opS, ↓ev_binI, ↓ev_binX_i, ↓ev_binX_n, ↓ev_binX_s, ↓ev_binX_t, ↓ev_binX_l, ↓ev_walk, ↓ev_bin_i, ↓ev_bin_s, ↓ev_bin_t, ↓ev_bin_l, ↓ev_eqOI, ↓ev_eqO_n, ↓ev_eqO_b, ↓ev_eqO_i, ↓ev_eqO_s, ↓ev_eqO_t, ↓ev_eqO_l, ↓ev_callS, ↓ev_callDD, ↓ev_dctP, ↓ev_keyS, ↓ev_keyI, ↓ev_dget, ↓ev_dget2, ↓ev_dIn, ↓ev_disp, ↓ev_pairs0, ↓ev_pairs1, ↓ev_newD, ↓ev_odP, ↓ev_putD, ↓ev_freezeD, ↓ev_odget, ↓ev_odIn, ↓ev_sortD, ↓ev_dict0, ↓ev_spS, ↓ev_star, ↓ev_asSeqT, ↓ev_asSeqL, ↓ev_eqN, ↓ev_asT, take_1, drop_1, ↓ev_insP, ev_isIP, ev_noFP, eqY_ins, ev_nx, n_exc, n_ins, n_dct, n_opq, k_exc, k_ins, k_dct, i_ins, i_dct, is_ins, n_non, n_bl, n_int, n_str, n_tup, n_lst, k_non, k_bl, k_int, k_str, k_tup, k_lst, i_non, i_bl, i_int, i_str, i_tup, i_lst,
  startD_eq, List.map_cons, List.map_nil, List.length_cons, List.length_nil, List.replicate, List.cons_append, List.nil_append, List.append_nil, Nat.zero_add, Nat.reduceAdd, Nat.reduceSub, Nat.reduceLeDiff, List.set_cons_zero, List.set_cons_succ, wipeD, List.getElem?_cons_zero, List.getElem?_cons_succ,
  mb_int, mb_str, mb_bool, mb_tuple, mb_list, mb_dict, beq_self_eq_true, String.reduceBEq, Bool.or_true, Bool.or_false, Bool.true_or, Bool.false_or, Bool.and_false, Bool.false_and, Bool.and_true, Bool.true_and, Bool.not_true, Bool.not_false,
  Option.isSome_some, Option.isSome_none, true_and, and_true, true_or, or_true, Pl_int, Pl_bl, Pl_non, atI_0, atI_1, atI_2, cut_1, Int.reduceBEq, Int.reduceNeg, Int.cast_ofNat_Int, Int.natCast_add, Int.reduceAdd, eqd_nn, eqd_nb, eqd_ni, eqd_ns, eqd_nt, eqd_nl, eqd_bn, eqd_bb, eqd_bi, eqd_bs, eqd_bt, eqd_bl, eqd_in, eqd_ib, eqd_ii, eqd_is, eqd_it, eqd_il, eqd_sn, eqd_sb, eqd_si, eqd_ss, eqd_st, eqd_sl, eqd_tn, eqd_tb, eqd_ti, eqd_ts, eqd_tt, eqd_tl, eqd_ln, eqd_lb, eqd_li, eqd_ls, eqd_lt, eqd_ll, eqds_nn, eqds_cc, eqds_nc, eqds_cn])
local macro_rules | `(tactic| walk_at "w") => `(tactic| try (walk_at "ev"))
local macro_rules | `(tactic| walk_at "fx") => `(tactic| simp only [cut_to2, fd_str, fd_int, fd_non, fd_bl, List.all_cons, List.all_nil, List.any_cons, List.any_nil, ofS_beq, String.reduceBEq, Bool.and_true, Bool.true_and, Bool.or_false, Bool.false_or, Bool.or_true, Bool.true_or, Bool.bne_false, Bool.bne_true, Bool.false_bne, Bool.true_bne, bne_self_eq_false, Bool.not_true, Bool.not_false, true_and, and_true, pk_text, pk_break, pk_hole, pk_join, pk_choice, pk_nested, pk_group, pk_flattened])
local macro_rules | `(tactic| walk_at "f") => `(tactic| repeat (first | walk_at "ev" | walk_at "fx"))
local macro_rules | `(tactic| walk_at "mo") => `(tactic| simp only [ev_fdF, ↓ev_fdT, putN_nil, putD_nil, putN_T, putD_T, putN_F, putD_F, put_self, put_put, at_m, at_n, put_n, ofS_beq, String.reduceBEq, List.length_cons, List.length_nil, Nat.zero_add, Nat.reduceAdd, Nat.reduceLT, true_and, List.contains_cons, List.contains_nil, Bool.or_false, Bool.false_or])
local macro_rules | `(tactic| walk_at "m") => `(tactic| repeat (first | walk_at "ev" | walk_at "fx" | walk_at "mo"))
section
variable {P : Program} {w : World} {K : PySem.W.Frag} {mg : Str → Option Value} {base : Heap} {a : Ad}
theorem ok_init_Doc (T : Txt K mg a) : FnOk P w K mg base (L2.CX P w) 1 a.i_Doc a.d_init_Doc ["self", "shape"] (spDI K "shape") := okDI T.F_init_Doc sci_Doc fun cdv A outer s H E => pss_one (ps_fld (pv 0) (pv 1) rfl)
theorem b_init_Doc (T : Txt K mg a) : Binds K a.d_init_Doc ["self", "shape"] [] := T.F_init_Doc.bindsN fun _ _ _ _ _ _ us hl => match us, hl with | [_, _], _ => (by kernel_rfl)
theorem ok_init_InvalidName (T : Txt K mg a) : FnOk P w K mg base (L2.CX P w) 1 a.i_InvalidName a.d_init_InvalidName ["self", "name"] (spXI K "name") := okXI T.F_init_InvalidName sci_InvalidName fun cdv A outer s H E => pss_one (ps_ost (pv 0) (pv 1))
theorem b_init_InvalidName (T : Txt K mg a) : Binds K a.d_init_InvalidName ["self", "name"] [] := by
  obtain ⟨ds, h1, h2⟩ := T.F_init_InvalidName.binds1 (ps := ["self", "name"]) 2 1 (by simp) rfl fun _ _ _ _ _ _ _ us its h1 h2 => match us, its, h1, h2 with | [_, _], [_], _, _ => ⟨_, rfl, rfl⟩
  cases h1
  exact h2
theorem ok_init_InvalidSteps (T : Txt K mg a) : FnOk P w K mg base (L2.CX P w) 1 a.i_InvalidSteps a.d_init_InvalidSteps ["self", "steps"] (spXI K "steps") := okXI T.F_init_InvalidSteps sci_InvalidSteps fun cdv A outer s H E => pss_one (ps_ost (pv 0) (pv 1))
theorem b_init_InvalidSteps (T : Txt K mg a) : Binds K a.d_init_InvalidSteps ["self", "steps"] [] := by
  obtain ⟨ds, h1, h2⟩ := T.F_init_InvalidSteps.binds1 (ps := ["self", "steps"]) 2 1 (by simp) rfl fun _ _ _ _ _ _ _ us its h1 h2 => match us, its, h1, h2 with | [_, _], [_], _, _ => ⟨_, rfl, rfl⟩
  cases h1
  exact h2
theorem ok_init_InvalidText (T : Txt K mg a) : FnOk P w K mg base (L2.CX P w) 1 a.i_InvalidText a.d_init_InvalidText ["self", "string"] (spXI K "string") := okXI T.F_init_InvalidText sci_InvalidText fun cdv A outer s H E => pss_one (ps_ost (pv 0) (pv 1))
theorem b_init_InvalidText (T : Txt K mg a) : Binds K a.d_init_InvalidText ["self", "string"] [] := by
  obtain ⟨ds, h1, h2⟩ := T.F_init_InvalidText.binds1 (ps := ["self", "string"]) 2 1 (by simp) rfl fun _ _ _ _ _ _ _ us its h1 h2 => match us, its, h1, h2 with | [_, _], [_], _, _ => ⟨_, rfl, rfl⟩
  cases h1
  exact h2
theorem ok_init_NotADocument (T : Txt K mg a) : FnOk P w K mg base (L2.CX P w) 1 a.i_NotADocument a.d_init_NotADocument ["self", "thing"] (spXI K "thing") := okXI T.F_init_NotADocument sci_NotADocument fun cdv A outer s H E => pss_one (ps_ost (pv 0) (pv 1))
theorem b_init_NotADocument (T : Txt K mg a) : Binds K a.d_init_NotADocument ["self", "thing"] [] := by
  obtain ⟨ds, h1, h2⟩ := T.F_init_NotADocument.binds1 (ps := ["self", "thing"]) 2 1 (by simp) rfl fun _ _ _ _ _ _ _ us its h1 h2 => match us, its, h1, h2 with | [_, _], [_], _, _ => ⟨_, rfl, rfl⟩
  cases h1
  exact h2
theorem ok_init_Unreadable (T : Txt K mg a) : FnOk P w K mg base (L2.CX P w) 1 a.i_Unreadable a.d_init_Unreadable ["self", "at"] (spXI K "at") := okXI T.F_init_Unreadable sci_Unreadable fun cdv A outer s H E => pss_one (ps_ost (pv 0) (pv 1))
theorem b_init_Unreadable (T : Txt K mg a) : Binds K a.d_init_Unreadable ["self", "at"] [] := by
  obtain ⟨ds, h1, h2⟩ := T.F_init_Unreadable.binds1 (ps := ["self", "at"]) 2 1 (by simp) rfl fun _ _ _ _ _ _ _ us its h1 h2 => match us, its, h1, h2 with | [_, _], [_], _, _ => ⟨_, rfl, rfl⟩
  cases h1
  exact h2
def CF_at (a : Ad) : Addr → Prop := fun C => C = a.c_Unreadable
theorem fx_at (T : Txt K mg a) : ∀ C, CF_at a C → XfC K C ∧ PySem.W.findIn K (.ref C) "at" = some none := fun C h => by
  rcases h with rfl
  · exact ⟨T.x_Unreadable.xf, T.x_Unreadable.no⟩
theorem CF_at_Unreadable : CF_at a a.c_Unreadable := by simp [CF_at]
theorem IC0_Doc : IC0 a a.c_Doc := by simp [IC0]
theorem b_Doc___add__ (T : Txt K mg a) : Binds K a.d_Doc___add__ ["self", "other"] [] := T.F_Doc___add__.bindsN fun _ _ _ _ _ _ us hl => match us, hl with | [_, _], _ => (by kernel_rfl)
theorem b_Doc___eq__ (T : Txt K mg a) : Binds K a.d_Doc___eq__ ["self", "other"] [] := T.F_Doc___eq__.bindsN fun _ _ _ _ _ _ us hl => match us, hl with | [_, _], _ => (by kernel_rfl)
theorem b_Doc___or__ (T : Txt K mg a) : Binds K a.d_Doc___or__ ["self", "other"] [] := T.F_Doc___or__.bindsN fun _ _ _ _ _ _ us hl => match us, hl with | [_, _], _ => (by kernel_rfl)
theorem cm_Doc_flattened (T : Txt K mg a) : CalM K a.c_Doc "flattened" a.f_Doc_flattened a.d_Doc_flattened ["self"] [] := ⟨T.D_Doc.cl, T.M_Doc_flattened, [], .nil, T.F_Doc_flattened.bindsN fun _ _ _ _ _ _ us hl => match us, hl with | [_], _ => (by kernel_rfl)⟩
theorem b_Doc_form (T : Txt K mg a) : Binds K a.d_Doc_form ["self"] [] := T.F_Doc_form.bindsN fun _ _ _ _ _ _ us hl => match us, hl with | [_], _ => (by kernel_rfl)
theorem cm_Doc_group (T : Txt K mg a) : CalM K a.c_Doc "group" a.f_Doc_group a.d_Doc_group ["self"] [] := ⟨T.D_Doc.cl, T.M_Doc_group, [], .nil, T.F_Doc_group.bindsN fun _ _ _ _ _ _ us hl => match us, hl with | [_], _ => (by kernel_rfl)⟩
theorem cm_Doc_nested (T : Txt K mg a) : CalM K a.c_Doc "nested" a.f_Doc_nested a.d_Doc_nested ["self", "steps"] [] := ⟨T.D_Doc.cl, T.M_Doc_nested, [], .nil, T.F_Doc_nested.bindsN fun _ _ _ _ _ _ us hl => match us, hl with | [_, _], _ => (by kernel_rfl)⟩
theorem b_Reader___init__ (T : Txt K mg a) : Binds K a.d_Reader___init__ ["self", "string"] [] := T.F_Reader___init__.bindsN fun _ _ _ _ _ _ us hl => match us, hl with | [_, _], _ => (by kernel_rfl)
theorem cm_Reader_begin (T : Txt K mg a) : CalM K a.c_Reader "begin" a.f_Reader_begin a.d_Reader_begin ["self"] [] := ⟨T.D_Reader_string.cl, T.M_Reader_begin, [], .nil, T.F_Reader_begin.bindsN fun _ _ _ _ _ _ us hl => match us, hl with | [_], _ => (by kernel_rfl)⟩
theorem cm_Reader_close (T : Txt K mg a) : CalM K a.c_Reader "close" a.f_Reader_close a.d_Reader_close ["self", "doc"] [] := ⟨T.D_Reader_string.cl, T.M_Reader_close, [], .nil, T.F_Reader_close.bindsN fun _ _ _ _ _ _ us hl => match us, hl with | [_, _], _ => (by kernel_rfl)⟩
theorem cm_Reader_leaf (T : Txt K mg a) : CalM K a.c_Reader "leaf" a.f_Reader_leaf a.d_Reader_leaf ["self"] [] := ⟨T.D_Reader_string.cl, T.M_Reader_leaf, [], .nil, T.F_Reader_leaf.bindsN fun _ _ _ _ _ _ us hl => match us, hl with | [_], _ => (by kernel_rfl)⟩
theorem cm_Reader_sign (T : Txt K mg a) : CalM K a.c_Reader "sign" a.f_Reader_sign a.d_Reader_sign ["self"] [] := ⟨T.D_Reader_string.cl, T.M_Reader_sign, [], .nil, T.F_Reader_sign.bindsN fun _ _ _ _ _ _ us hl => match us, hl with | [_], _ => (by kernel_rfl)⟩
theorem cm_Reader_string_in_quotes (T : Txt K mg a) : CalM K a.c_Reader "string_in_quotes" a.f_Reader_string_in_quotes a.d_Reader_string_in_quotes ["self"] [] := ⟨T.D_Reader_string.cl, T.M_Reader_string_in_quotes, [], .nil, T.F_Reader_string_in_quotes.bindsN fun _ _ _ _ _ _ us hl => match us, hl with | [_], _ => (by kernel_rfl)⟩
theorem cm_Reader_take (T : Txt K mg a) : CalM K a.c_Reader "take" a.f_Reader_take a.d_Reader_take ["self", "signs"] [] := ⟨T.D_Reader_string.cl, T.M_Reader_take, [], .nil, T.F_Reader_take.bindsN fun _ _ _ _ _ _ us hl => match us, hl with | [_, _], _ => (by kernel_rfl)⟩
theorem cm_Reader_taken_name (T : Txt K mg a) : CalM K a.c_Reader "taken_name" a.f_Reader_taken_name a.d_Reader_taken_name ["self"] [] := ⟨T.D_Reader_string.cl, T.M_Reader_taken_name, [], .nil, T.F_Reader_taken_name.bindsN fun _ _ _ _ _ _ us hl => match us, hl with | [_], _ => (by kernel_rfl)⟩
theorem cm_Reader_taken_steps (T : Txt K mg a) : CalM K a.c_Reader "taken_steps" a.f_Reader_taken_steps a.d_Reader_taken_steps ["self"] [] := ⟨T.D_Reader_string.cl, T.M_Reader_taken_steps, [], .nil, T.F_Reader_taken_steps.bindsN fun _ _ _ _ _ _ us hl => match us, hl with | [_], _ => (by kernel_rfl)⟩
theorem cm_Reader_whole (T : Txt K mg a) : CalM K a.c_Reader "whole" a.f_Reader_whole a.d_Reader_whole ["self"] [] := ⟨T.D_Reader_string.cl, T.M_Reader_whole, [], .nil, T.F_Reader_whole.bindsN fun _ _ _ _ _ _ us hl => match us, hl with | [_], _ => (by kernel_rfl)⟩
theorem c__law_at_2 (T : Txt K mg a) : Cal K mg "_law_at" a.f__law_at a.d__law_at ["_law_script", "_law_k"] [] := (⟨T.F__law_at, T.m__law_at⟩ : Df K mg "_law_at" s__law_at [] [] a.f__law_at a.d__law_at).cal0 fun _ _ _ _ _ _ us hl => match us, hl with | [_, _], _ => (by kernel_rfl)
theorem c__law_bent_2 (T : Txt K mg a) : Cal K mg "_law_bent" a.f__law_bent a.d__law_bent ["_law_purse_here", "_law_string_here"] [] := (⟨T.F__law_bent, T.m__law_bent⟩ : Df K mg "_law_bent" s__law_bent [] [] a.f__law_bent a.d__law_bent).cal0 fun _ _ _ _ _ _ us hl => match us, hl with | [_, _], _ => (by kernel_rfl)
theorem c__law_doc_1 (T : Txt K mg a) : Cal K mg "_law_doc" a.f__law_doc a.d__law_doc ["_law_form_here"] [] := (⟨T.F__law_doc, T.m__law_doc⟩ : Df K mg "_law_doc" s__law_doc [] [] a.f__law_doc a.d__law_doc).cal0 fun _ _ _ _ _ _ us hl => match us, hl with | [_], _ => (by kernel_rfl)
theorem c__law_draw_2 (T : Txt K mg a) : Cal K mg "_law_draw" a.f__law_draw a.d__law_draw ["_law_purse_here", "_law_out_of"] [] := (⟨T.F__law_draw, T.m__law_draw⟩ : Df K mg "_law_draw" s__law_draw [] [] a.f__law_draw a.d__law_draw).cal0 fun _ _ _ _ _ _ us hl => match us, hl with | [_, _], _ => (by kernel_rfl)
theorem c__law_due_1 (T : Txt K mg a) : Cal K mg "_law_due" a.f__law_due a.d__law_due ["_law_string_here"] [] := (⟨T.F__law_due, T.m__law_due⟩ : Df K mg "_law_due" s__law_due [] [] a.f__law_due a.d__law_due).cal0 fun _ _ _ _ _ _ us hl => match us, hl with | [_], _ => (by kernel_rfl)
theorem c__law_form_4 (T : Txt K mg a) : Cal K mg "_law_form" a.f__law_form a.d__law_form ["_law_purse_here", "_law_strings", "_law_names", "_law_deep"] [] := (⟨T.F__law_form, T.m__law_form⟩ : Df K mg "_law_form" s__law_form [] [] a.f__law_form a.d__law_form).cal0 fun _ _ _ _ _ _ us hl => match us, hl with | [_, _, _, _], _ => (by kernel_rfl)
theorem c__law_leaf_3 (T : Txt K mg a) : Cal K mg "_law_leaf" a.f__law_leaf a.d__law_leaf ["_law_purse_here", "_law_strings", "_law_names"] [] := (⟨T.F__law_leaf, T.m__law_leaf⟩ : Df K mg "_law_leaf" s__law_leaf [] [] a.f__law_leaf a.d__law_leaf).cal0 fun _ _ _ _ _ _ us hl => match us, hl with | [_, _, _], _ => (by kernel_rfl)
theorem c__law_mixed_2 (T : Txt K mg a) : Cal K mg "_law_mixed" a.f__law_mixed a.d__law_mixed ["_law_cell", "_law_k"] [] := (⟨T.F__law_mixed, T.m__law_mixed⟩ : Df K mg "_law_mixed" s__law_mixed [] [] a.f__law_mixed a.d__law_mixed).cal0 fun _ _ _ _ _ _ us hl => match us, hl with | [_, _], _ => (by kernel_rfl)
theorem c__law_next_3 (T : Txt K mg a) : Cal K mg "_law_next" a.f__law_next a.d__law_next ["_law_string_here", "_law_spot", "_law_signs"] [] := (⟨T.F__law_next, T.m__law_next⟩ : Df K mg "_law_next" s__law_next [] [] a.f__law_next a.d__law_next).cal0 fun _ _ _ _ _ _ us hl => match us, hl with | [_, _, _], _ => (by kernel_rfl)
theorem c__law_pair_2 (T : Txt K mg a) : Cal K mg "_law_pair" a.f__law_pair a.d__law_pair ["_law_string_here", "_law_spot"] [] := (⟨T.F__law_pair, T.m__law_pair⟩ : Df K mg "_law_pair" s__law_pair [] [] a.f__law_pair a.d__law_pair).cal0 fun _ _ _ _ _ _ us hl => match us, hl with | [_, _], _ => (by kernel_rfl)
theorem c__law_part_2 (T : Txt K mg a) : Cal K mg "_law_part" a.f__law_part a.d__law_part ["_law_string_here", "_law_spot"] [] := (⟨T.F__law_part, T.m__law_part⟩ : Df K mg "_law_part" s__law_part [] [] a.f__law_part a.d__law_part).cal0 fun _ _ _ _ _ _ us hl => match us, hl with | [_, _], _ => (by kernel_rfl)
theorem c__law_purse_2 (T : Txt K mg a) : Cal K mg "_law_purse" a.f__law_purse a.d__law_purse ["_law_script", "_law_at_here"] [] := (⟨T.F__law_purse, T.m__law_purse⟩ : Df K mg "_law_purse" s__law_purse [] [] a.f__law_purse a.d__law_purse).cal0 fun _ _ _ _ _ _ us hl => match us, hl with | [_, _], _ => (by kernel_rfl)
theorem c__law_single_2 (T : Txt K mg a) : Cal K mg "_law_single" a.f__law_single a.d__law_single ["_law_string_here", "_law_spot"] [] := (⟨T.F__law_single, T.m__law_single⟩ : Df K mg "_law_single" s__law_single [] [] a.f__law_single a.d__law_single).cal0 fun _ _ _ _ _ _ us hl => match us, hl with | [_, _], _ => (by kernel_rfl)
theorem c__law_steps_2 (T : Txt K mg a) : Cal K mg "_law_steps" a.f__law_steps a.d__law_steps ["_law_string_here", "_law_spot"] [] := (⟨T.F__law_steps, T.m__law_steps⟩ : Df K mg "_law_steps" s__law_steps [] [] a.f__law_steps a.d__law_steps).cal0 fun _ _ _ _ _ _ us hl => match us, hl with | [_, _], _ => (by kernel_rfl)
theorem c__law_string_2 (T : Txt K mg a) : Cal K mg "_law_string" a.f__law_string a.d__law_string ["_law_string_here", "_law_spot"] [] := (⟨T.F__law_string, T.m__law_string⟩ : Df K mg "_law_string" s__law_string [] [] a.f__law_string a.d__law_string).cal0 fun _ _ _ _ _ _ us hl => match us, hl with | [_, _], _ => (by kernel_rfl)
theorem c__law_told_1 (T : Txt K mg a) : Cal K mg "_law_told" a.f__law_told a.d__law_told ["_law_string_here"] [] := (⟨T.F__law_told, T.m__law_told⟩ : Df K mg "_law_told" s__law_told [] [] a.f__law_told a.d__law_told).cal0 fun _ _ _ _ _ _ us hl => match us, hl with | [_], _ => (by kernel_rfl)
theorem c_hole_1 (T : Txt K mg a) : Cal K mg "hole" a.f_hole a.d_hole ["name"] [] := (⟨T.F_hole, T.m_hole⟩ : Df K mg "hole" s_hole [] [] a.f_hole a.d_hole).cal0 fun _ _ _ _ _ _ us hl => match us, hl with | [_], _ => (by kernel_rfl)
theorem c_is_integer_3 (T : Txt K mg a) : Cal K mg "is_integer" a.f_is_integer a.d_is_integer ["thing", "least", "most"] [] := (⟨T.F_is_integer, T.m_is_integer⟩ : Df K mg "is_integer" s_is_integer [.non, .non] [] a.f_is_integer a.d_is_integer).cal1 3 2 (by simp) rfl fun _ _ _ _ _ _ _ us its h1 h2 => match us, its, h1, h2 with | [_, _, _], [_, _], _, _ => ⟨_, rfl, rfl⟩
theorem c_is_name_1 (T : Txt K mg a) : Cal K mg "is_name" a.f_is_name a.d_is_name ["thing"] [] := (⟨T.F_is_name, T.m_is_name⟩ : Df K mg "is_name" s_is_name [] [] a.f_is_name a.d_is_name).cal0 fun _ _ _ _ _ _ us hl => match us, hl with | [_], _ => (by kernel_rfl)
theorem c_is_string_1 (T : Txt K mg a) : Cal K mg "is_string" a.f_is_string a.d_is_string ["thing"] [] := (⟨T.F_is_string, T.m_is_string⟩ : Df K mg "is_string" s_is_string [] [] a.f_is_string a.d_is_string).cal0 fun _ _ _ _ _ _ us hl => match us, hl with | [_], _ => (by kernel_rfl)
theorem c_line_1 (T : Txt K mg a) : Cal K mg "line" a.f_line a.d_line ["flat"] [] := (⟨T.F_line, T.m_line⟩ : Df K mg "line" s_line [.str " "] [] a.f_line a.d_line).cal1 1 1 (by simp) rfl fun _ _ _ _ _ _ _ us its h1 h2 => match us, its, h1, h2 with | [_], [_], _, _ => ⟨_, rfl, rfl⟩
theorem c_quoted_1 (T : Txt K mg a) : Cal K mg "quoted" a.f_quoted a.d_quoted ["string"] [] := (⟨T.F_quoted, T.m_quoted⟩ : Df K mg "quoted" s_quoted [] [] a.f_quoted a.d_quoted).cal0 fun _ _ _ _ _ _ us hl => match us, hl with | [_], _ => (by kernel_rfl)
theorem c_read_1 (T : Txt K mg a) : Cal K mg "read" a.f_read a.d_read ["string"] [] := (⟨T.F_read, T.m_read⟩ : Df K mg "read" s_read [] [] a.f_read a.d_read).cal0 fun _ _ _ _ _ _ us hl => match us, hl with | [_], _ => (by kernel_rfl)
theorem c_require_doc_1 (T : Txt K mg a) : Cal K mg "require_doc" a.f_require_doc a.d_require_doc ["thing"] [] := (⟨T.F_require_doc, T.m_require_doc⟩ : Df K mg "require_doc" s_require_doc [] [] a.f_require_doc a.d_require_doc).cal0 fun _ _ _ _ _ _ us hl => match us, hl with | [_], _ => (by kernel_rfl)
theorem c_text_1 (T : Txt K mg a) : Cal K mg "text" a.f_text a.d_text ["string"] [] := (⟨T.F_text, T.m_text⟩ : Df K mg "text" s_text [.str ""] [] a.f_text a.d_text).cal1 1 1 (by simp) rfl fun _ _ _ _ _ _ _ us its h1 h2 => match us, its, h1, h2 with | [_], [_], _, _ => ⟨_, rfl, rfl⟩
theorem c_written_1 (T : Txt K mg a) : Cal K mg "written" a.f_written a.d_written ["doc"] [] := (⟨T.F_written, T.m_written⟩ : Df K mg "written" s_written [] [] a.f_written a.d_written).cal0 fun _ _ _ _ _ _ us hl => match us, hl with | [_], _ => (by kernel_rfl)
theorem c_written_form_1 (T : Txt K mg a) : Cal K mg "written_form" a.f_written_form a.d_written_form ["form"] [] := (⟨T.F_written_form, T.m_written_form⟩ : Df K mg "written_form" s_written_form [] [] a.f_written_form a.d_written_form).cal0 fun _ _ _ _ _ _ us hl => match us, hl with | [_], _ => (by kernel_rfl)
end
section
variable {P : Program} {w : World} {K : PySem.W.Frag} {mg : Str → Option Value} {base : Heap} {a : Ad} (T : Txt K mg a)
include T
def Kd (a : Ad) (d : D) : Prop := (kind d).isSome = true ∨ ∃ C, isIns d = some C ∧ IC0 a C
def sp_is_string (a : Ad) : SpD := fun ds c Q _ => ∃ d, ds = [d] ∧ Kd a d ∧ (∀ x, d = .str x → x.length ≤ 1000000) ∧ Q (.bl (isStr d)) c
theorem ok_is_string : FnOk P w K mg base (L2.CX P w) 1 a.f_is_string a.d_is_string ["thing"] (spOf K (sp_is_string a)) := by
  refine okD T.F_is_string sc_is_string (fun ds c Q E h => ?_) (fun cdv A outer s H E G0 c0 ED good => ⟨_, _, (pds_one (pds_ret (pd_and (pd_callB call_isi (br_isaA (IC := IC0 a) (hI0 T)) T.z_isinstance bt_isinstance (pda_cons (pd_v 0) (pda_cons (pd_bty T.z_str bt_str) pda_nil))) (pd_one (pd_callB (cr_all good.calm) br_all T.z_all bt_all (pda_cons (pd_lc (own := [("sign", 1)]) good.calm sc_is_string.nd (pdi_any (pd_v 0)) (blkOk_by (N := ["thing", "sign"]) (sc := (defScope s_is_string)) (by decide +kernel)) ⟨fun s1 H1 C1 cl1 fp1 => (pdg_cast (pdg_name 1 sc_is_string.nd) (by first | rfl | (dsimp only [Ctx.blk, Cx.blk] <;> rfl)) (by first | rfl | (dsimp only [Ctx.blk, Cx.blk] <;> rfl))), fun s1 H1 C1 cl1 fp1 => (pdts_cast pdts_nil (by first | rfl | (dsimp only [Ctx.blk, Cx.blk] <;> rfl)) (by first | rfl | (dsimp only [Ctx.blk, Cx.blk] <;> rfl))), fun s1 H1 C1 cl1 fp1 => (pd_cast (pd_leP2 pd_str (pd_v 1) pd_str) (by first | rfl | (dsimp only [Ctx.blk, Cx.blk] <;> rfl)) (by first | rfl | (dsimp only [Ctx.blk, Cx.blk] <;> rfl)))⟩) pda_nil)))))), ?_⟩)
  · obtain ⟨d, rfl, _⟩ := h; rfl
  · rintro ds Qd ⟨d, rfl, hk, hf, q⟩
    cases d with
    | str x =>
      walk_at "w"
      have hf := hf x rfl
      refine lc_by (fun d => some (.bl (signOk d))) (Nat.le_trans (Nat.le_of_eq (signs_length x)) (Nat.le_trans hf (by decide))) (fun d hd R R0 h1 h0 => ?_) ?_
      · obtain ⟨z, rfl⟩ := signs_str hd
        walk_at "w"
        have h1 := h1 _ rfl
        simp only [signOk] at h1
        refine Br.by (fun e => ?_) fun e => ?_ <;> (simp only [Bool.not_eq_true', Bool.not_eq_false'] at e; rw [e] at h1; exact h1)
      · refine allP.mk (by rw [filterMap_some, bools_map]) ?_
        rw [List.all_map]
        exact q
    | _ => walk_at "w"; first | exact q | exact ⟨hk, q⟩
def sp_is_integer (a : Ad) : SpD := fun ds c Q _ => ∃ d lo hi, ds = [d, lo, hi] ∧ Kd a d ∧ bnd lo = true ∧ bnd hi = true ∧ Q (.bl (isIntG d lo hi)) c
theorem ok_is_integer : FnOk P w K mg base (L2.CX P w) 1 a.f_is_integer a.d_is_integer ["thing", "least", "most"] (spOf K (sp_is_integer a)) := by
  refine okD T.F_is_integer sc_is_integer (fun ds c Q E h => ?_) (fun cdv A outer s H E G0 c0 ED good => ⟨_, _, (pds_cons (pds_if (pdw_pt (pdw_or (pdt_not (pdt_val (pd_callB call_isi (br_isaA (IC := IC0 a) (hI0 T)) T.z_isinstance bt_isinstance (pda_cons (pd_v 0) (pda_cons (pd_bty T.z_int bt_int) pda_nil))))) (pdw_or1 (pdt_val (pd_callB call_isi (br_isaA (IC := IC0 a) (hI0 T)) T.z_isinstance bt_isinstance (pda_cons (pd_v 0) (pda_cons (pd_bty T.z_bool bt_bool) pda_nil))))))) (pds_one (pds_ret pd_bl)) pss_nil')
      (pds_one (pds_ret (pd_and (pd_or (pd_cm (pdc_isN (pd_v 1))) (pd_one (pd_cm (pdc_ge (pd_v 0) (pd_v 1))))) (pd_one (pd_or (pd_cm (pdc_isN (pd_v 2))) (pd_one (pd_cm (pdc_leP (pd_v 0) (pd_v 2)))))))))), ?_⟩)
  · obtain ⟨d, lo, hi, rfl, _⟩ := h; rfl
  · rintro ds Qd ⟨d, lo, hi, rfl, hk, h1, h2, q⟩
    cases d with
    | int i =>
      cases lo <;> cases h1 <;> cases hi <;> cases h2 <;> (walk_at "w"; simp only [isIntG, loOk, hiOk, Bool.and_true, Bool.true_and] at q) <;> first | exact q | (refine Br.by (fun e => ?_) fun e => ?_ <;> (rw [e] at q; exact q))
    | _ => walk_at "w"; first | exact q | exact ⟨hk, q⟩
def docD (a : Ad) (f : Fm) : D := .ins a.c_Doc ["shape"] [f.enc]
def sp_is_name : SpD := fun ds c Q _ => ∃ x, ds = [.str x] ∧ x.length ≤ 1000 ∧ Q (.bl (nameB x)) c
theorem ok_is_name : FnOk P w K mg base (L2.CX P w) 1 a.f_is_name a.d_is_name ["thing"] (spOf K sp_is_name) := by
  refine okD T.F_is_name sc_is_name (fun ds c Q E h => ?_) (fun cdv A outer s H E G0 c0 ED good => ⟨_, _, (pds_one (pds_ret (pd_and (pd_callB call_isi (br_isaA (IC := IC0 a) (hI0 T)) T.z_isinstance bt_isinstance (pda_cons (pd_v 0) (pda_cons (pd_bty T.z_str bt_str) pda_nil))) (pd_and (pd_leP2 pd_int (pd_callB cr_len br_lenA T.z_len bt_len (pda_cons (pd_v 0) pda_nil)) (pd_gint T.g_MOST_LETTERS)) (pd_one (pd_callB (cr_all good.calm) br_all T.z_all bt_all (pda_cons (pd_lc (own := [("sign", 1)]) good.calm sc_is_name.nd (pdi_any (pd_v 0)) (blkOk_by (N := ["thing", "sign"]) (sc := (defScope s_is_name)) (by decide +kernel)) ⟨fun s1 H1 C1 cl1 fp1 => (pdg_cast (pdg_name 1 sc_is_name.nd) (by first | rfl | (dsimp only [Ctx.blk, Cx.blk] <;> rfl)) (by first | rfl | (dsimp only [Ctx.blk, Cx.blk] <;> rfl))), fun s1 H1 C1 cl1 fp1 => (pdts_cast pdts_nil (by first | rfl | (dsimp only [Ctx.blk, Cx.blk] <;> rfl)) (by first | rfl | (dsimp only [Ctx.blk, Cx.blk] <;> rfl))), fun s1 H1 C1 cl1 fp1 => (pd_cast (pd_cm (pdc_in (good.blk s1 H1 _ _ fp1) (pd_v 1) (pd_gstr T.g_LETTERS))) (by first | rfl | (dsimp only [Ctx.blk, Cx.blk] <;> rfl)) (by first | rfl | (dsimp only [Ctx.blk, Cx.blk] <;> rfl)))⟩) pda_nil))))))), ?_⟩)
  · obtain ⟨x, rfl, _⟩ := h; rfl
  · rintro ds Qd ⟨x, rfl, hl, q⟩
    walk_at "w"
    refine ⟨by omega, ?_⟩
    rw [nameB_parts] at q
    refine Br.by (fun e1 => ?_) fun e1 => ?_
    · simp only [decide_eq_true_eq] at e1
      rw [decide_eq_true (show 1 ≤ x.length by omega), Bool.true_and] at q
      refine Br.by (fun e2 => ?_) fun e2 => ?_
      · simp only [decide_eq_true_eq] at e2
        rw [decide_eq_true (show x.length ≤ 8 by omega), Bool.true_and] at q
        refine lc_by (fun d => some (.bl (inL d))) (Nat.le_trans (Nat.le_of_eq (signs_length x)) (Nat.le_trans hl (by decide))) (fun d hd R R0 h1 h0 => ?_) ?_
        · obtain ⟨n, _, rfl⟩ := List.mem_map.mp hd
          walk_at "f"
          exact h1 _ rfl
        · refine allP.mk (by rw [filterMap_some, bools_map]) ?_
          rw [List.all_map]
          exact q
      · simp only [decide_eq_false_iff_not] at e2
        rw [decide_eq_false (show ¬ x.length ≤ 8 by omega), Bool.false_and] at q
        exact q
    · simp only [decide_eq_false_iff_not] at e1
      rw [decide_eq_false (show ¬ 1 ≤ x.length by omega), Bool.false_and, Bool.false_and] at q
      exact q
def sp_Doc_form (a : Ad) : SpD := fun ds c Q _ => ∃ f : Fm, ds = [docD a f] ∧ Q f.enc c
theorem ok_Doc_form : FnOk P w K mg base (L2.CX P w) 1 a.f_Doc_form a.d_Doc_form ["self"] (spOf K (sp_Doc_form a)) := by
  refine okD T.F_Doc_form sc_Doc_form (fun ds c Q E h => ?_) (fun cdv A outer s H E G0 c0 ED good => ⟨_, _, (pds_one (pds_ret (pd_fldI T.D_Doc.cl T.D_Doc.no (pd_v 0)))), ?_⟩)
  · obtain ⟨f, rfl, _⟩ := h; rfl
  · rintro ds Qd ⟨f, rfl, q⟩
    simp only [docD]
    walk_at "w"
    exact q
def NotDoc (a : Ad) (d : D) : Prop := (kind d).isSome = true
inductive DocOr where
  | doc (f : Fm) | odd (d : D)
instance : Coe Fm DocOr := ⟨.doc⟩
def dOr (a : Ad) : DocOr → D
  | .doc f => docD a f
  | .odd d => d
def toDoc (a : Ad) (c : CN) (Q : QD) (E : EDt) : DocOr → Prop
  | .doc _ => Q .non c
  | .odd d => NotDoc a d ∧ E a.c_NotADocument ["thing"] [d] c
omit T in
theorem toDoc_doc {c : CN} {Q : QD} {E : EDt} {f : Fm} : toDoc a c Q E (.doc f) = Q .non c := propext Iff.rfl
local macro_rules | `(tactic| walk_at "w") => `(tactic| try (first | (simp only [toDoc_doc]; try (walk_at "ev")) | walk_at "ev"))
def sp_require_doc (a : Ad) : SpD := fun ds c Q E => ∃ f : DocOr, ds = [dOr a f] ∧ toDoc a c Q E f
theorem ok_require_doc : FnOk P w K mg base (L2.CX P w) 3 a.f_require_doc a.d_require_doc ["thing"] (spOf K (sp_require_doc a)) := by
  refine okD T.F_require_doc sc_require_doc (fun ds c Q E h => ?_) (fun cdv A outer s H E G0 c0 ED good => ⟨_, _, (pds_one (pds_if (pdt_not (pdt_val (pd_callB call_isO (br_isO (IC := IC0 a) (hI0 T)) T.z_isinstance bt_isinstance (pda_cons (pd_v 0) (pda_cons (pd_cls T.m_Doc) pda_nil))))) (pds_one (pds_raise1 good (by omega) T.x_NotADocument.o T.x_NotADocument.no T.x_NotADocument.iC T.x_NotADocument.tI (ok_init_NotADocument T) (b_init_NotADocument T) T.x_NotADocument.m (pda_cons (pd_v 0) pda_nil))) pss_nil')), ?_⟩)
  · obtain ⟨f, rfl, _⟩ := h; rfl
  · rintro ds Qd ⟨f, rfl, q⟩
    cases f with
    | doc f =>
      simp only [dOr, docD]
      walk_at "w"
      refine isO.ins IC0_Doc T.k_Doc_Doc ?_
      walk_at "w"
      exact q
    | odd d =>
      obtain ⟨hk, q⟩ := q
      simp only [dOr]
      walk_at "w"
      refine isO.kd T.kt_Doc hk ?_
      walk_at "w"
      exact q
omit T in
section
def strW (x : Str) : Prop := x.length ≤ 1000000 ∧ okStr x = true
theorem strW_of {x : Str} (h : strS x) : strW x := ⟨Nat.le_trans h.1 (by decide), h.2.1⟩
end
def sp_Doc___add__ (a : Ad) : SpD := fun ds c Q _ => ∃ f g : Fm, ds = [docD a f, docD a g] ∧ Q (docD a (.join f g)) c
theorem ok_Doc___add__ : FnOk P w K mg base (L2.CX P w) 5 a.f_Doc___add__ a.d_Doc___add__ ["self", "other"] (spOf K (sp_Doc___add__ a)) := by
  refine okD T.F_Doc___add__ sc_Doc___add__ (fun ds c Q E h => ?_) (fun cdv A outer s H E G0 c0 ED good => ⟨_, _, (pds_cons (pds_expr (pd_callC good ((ok_require_doc T).mono (by omega)) (c_require_doc_1 T) (fun _ => .nil) (pda_cons (pd_v 1) pda_nil)))
      (pds_one (pds_ret (pd_make1 good (by omega) T.D_Doc (ok_init_Doc T) (b_init_Doc T) (pda_cons (pd_tup (pda_cons pd_str (pda_cons (pd_fldI T.D_Doc.cl T.D_Doc.no (pd_v 0)) (pda_cons (pd_fldI T.D_Doc.cl T.D_Doc.no (pd_v 1)) pda_nil)))) pda_nil))))), ?_⟩)
  · obtain ⟨f, g, rfl, _⟩ := h; rfl
  · rintro ds Qd ⟨f, g, rfl, q⟩
    simp only [docD]
    walk_at "w"
    refine ⟨g, rfl, ?_⟩
    walk_at "w"
    exact q
def sp_Doc___or__ (a : Ad) : SpD := fun ds c Q _ => ∃ f g : Fm, ds = [docD a f, docD a g] ∧ Q (docD a (.choice f g)) c
theorem ok_Doc___or__ : FnOk P w K mg base (L2.CX P w) 5 a.f_Doc___or__ a.d_Doc___or__ ["self", "other"] (spOf K (sp_Doc___or__ a)) := by
  refine okD T.F_Doc___or__ sc_Doc___or__ (fun ds c Q E h => ?_) (fun cdv A outer s H E G0 c0 ED good => ⟨_, _, (pds_cons (pds_expr (pd_callC good ((ok_require_doc T).mono (by omega)) (c_require_doc_1 T) (fun _ => .nil) (pda_cons (pd_v 1) pda_nil)))
      (pds_one (pds_ret (pd_make1 good (by omega) T.D_Doc (ok_init_Doc T) (b_init_Doc T) (pda_cons (pd_tup (pda_cons pd_str (pda_cons (pd_fldI T.D_Doc.cl T.D_Doc.no (pd_v 0)) (pda_cons (pd_fldI T.D_Doc.cl T.D_Doc.no (pd_v 1)) pda_nil)))) pda_nil))))), ?_⟩)
  · obtain ⟨f, g, rfl, _⟩ := h; rfl
  · rintro ds Qd ⟨f, g, rfl, q⟩
    simp only [docD]
    walk_at "w"
    refine ⟨g, rfl, ?_⟩
    walk_at "w"
    exact q
def sp_Doc_nested (a : Ad) : SpD := fun ds c Q _ => ∃ (f : Fm) (i : Int), ds = [docD a f, .int i] ∧ 0 ≤ i ∧ i ≤ 40 ∧ Q (docD a (.nested i f)) c
theorem ok_Doc_nested : FnOk P w K mg base (L2.CX P w) 3 a.f_Doc_nested a.d_Doc_nested ["self", "steps"] (spOf K (sp_Doc_nested a)) := by
  refine okD T.F_Doc_nested sc_Doc_nested (fun ds c Q E h => ?_) (fun cdv A outer s H E G0 c0 ED good => ⟨_, _, (pds_cons (pds_if (pdt_not (pdt_val (pd_callC good ((ok_is_integer T).mono (by omega)) (c_is_integer_3 T) (fun _ => .nil) (pda_cons (pd_v 1) (pda_cons pd_int (pda_cons (pd_gint T.g_MOST_STEPS) pda_nil)))))) (pds_one (pds_raise1 good (by omega) T.x_InvalidSteps.o T.x_InvalidSteps.no T.x_InvalidSteps.iC T.x_InvalidSteps.tI (ok_init_InvalidSteps T) (b_init_InvalidSteps T) T.x_InvalidSteps.m (pda_cons (pd_v 1) pda_nil))) pss_nil')
      (pds_one (pds_ret (pd_make1 good (by omega) T.D_Doc (ok_init_Doc T) (b_init_Doc T) (pda_cons (pd_tup (pda_cons pd_str (pda_cons (pd_v 1) (pda_cons (pd_fldI T.D_Doc.cl T.D_Doc.no (pd_v 0)) pda_nil)))) pda_nil))))), ?_⟩)
  · obtain ⟨f, i, rfl, _⟩ := h; rfl
  · rintro ds Qd ⟨f, i, rfl, h1, h2, q⟩
    simp only [docD]
    walk_at "w"
    refine ⟨.int i, .int 0, .int 40, rfl, .inl rfl, rfl, rfl, ?_⟩
    rw [show isIntG (.int i) (.int 0) (.int 40) = true by simp [isIntG, loOk, hiOk, h1, h2]]
    walk_at "w"
    exact q
def sp_Doc_group (a : Ad) : SpD := fun ds c Q _ => ∃ f : Fm, ds = [docD a f] ∧ Q (docD a (.group f)) c
theorem ok_Doc_group : FnOk P w K mg base (L2.CX P w) 3 a.f_Doc_group a.d_Doc_group ["self"] (spOf K (sp_Doc_group a)) := by
  refine okD T.F_Doc_group sc_Doc_group (fun ds c Q E h => ?_) (fun cdv A outer s H E G0 c0 ED good => ⟨_, _, (pds_one (pds_ret (pd_make1 good (by omega) T.D_Doc (ok_init_Doc T) (b_init_Doc T) (pda_cons (pd_tup (pda_cons pd_str (pda_cons (pd_fldI T.D_Doc.cl T.D_Doc.no (pd_v 0)) pda_nil))) pda_nil)))), ?_⟩)
  · obtain ⟨f, rfl, _⟩ := h; rfl
  · rintro ds Qd ⟨f, rfl, q⟩
    simp only [docD]
    walk_at "w"
    exact q
def sp_Doc_flattened (a : Ad) : SpD := fun ds c Q _ => ∃ f : Fm, ds = [docD a f] ∧ Q (docD a (.flat f)) c
theorem ok_Doc_flattened : FnOk P w K mg base (L2.CX P w) 3 a.f_Doc_flattened a.d_Doc_flattened ["self"] (spOf K (sp_Doc_flattened a)) := by
  refine okD T.F_Doc_flattened sc_Doc_flattened (fun ds c Q E h => ?_) (fun cdv A outer s H E G0 c0 ED good => ⟨_, _, (pds_one (pds_ret (pd_make1 good (by omega) T.D_Doc (ok_init_Doc T) (b_init_Doc T) (pda_cons (pd_tup (pda_cons pd_str (pda_cons (pd_fldI T.D_Doc.cl T.D_Doc.no (pd_v 0)) pda_nil))) pda_nil)))), ?_⟩)
  · obtain ⟨f, rfl, _⟩ := h; rfl
  · rintro ds Qd ⟨f, rfl, q⟩
    simp only [docD]
    walk_at "w"
    exact q
def sp_text (a : Ad) : SpD := fun ds c Q _ => ∃ x, ds = [.str x] ∧ strW x ∧ Q (docD a (.text x)) c
theorem ok_text : FnOk P w K mg base (L2.CX P w) 3 a.f_text a.d_text ["string"] (spOf K (sp_text a)) := by
  refine okD T.F_text sc_text (fun ds c Q E h => ?_) (fun cdv A outer s H E G0 c0 ED good => ⟨_, _, (pds_cons (pds_if (pdt_not (pdt_val (pd_callC good ((ok_is_string T).mono (by omega)) (c_is_string_1 T) (fun _ => .nil) (pda_cons (pd_v 0) pda_nil)))) (pds_one (pds_raise1 good (by omega) T.x_InvalidText.o T.x_InvalidText.no T.x_InvalidText.iC T.x_InvalidText.tI (ok_init_InvalidText T) (b_init_InvalidText T) T.x_InvalidText.m (pda_cons (pd_v 0) pda_nil))) pss_nil')
      (pds_one (pds_ret (pd_make1 good (by omega) T.D_Doc (ok_init_Doc T) (b_init_Doc T) (pda_cons (pd_tup (pda_cons pd_str (pda_cons (pd_v 0) pda_nil))) pda_nil))))), ?_⟩)
  · obtain ⟨x, rfl, _⟩ := h; rfl
  · rintro ds Qd ⟨x, rfl, hx, q⟩
    walk_at "w"
    refine ⟨.str x, rfl, .inl rfl, fun y e => by cases e; exact hx.1, ?_⟩
    rw [show isStr (.str x) = true from hx.2]
    walk_at "w"
    exact q
def brkD : Option Str → D
  | none => .non
  | some x => .str x
def sp_line (a : Ad) : SpD := fun ds c Q _ => ∃ o : Option Str, ds = [brkD o] ∧ (∀ x, o = some x → strW x) ∧ Q (docD a (.brk o)) c
theorem ok_line : FnOk P w K mg base (L2.CX P w) 3 a.f_line a.d_line ["flat"] (spOf K (sp_line a)) := by
  refine okD T.F_line sc_line (fun ds c Q E h => ?_) (fun cdv A outer s H E G0 c0 ED good => ⟨_, _, (pds_cons (pds_if (pdw_pt (pdw_and (pdt_cm (pdc_notN (pd_v 0))) (pdw_and1 (pdt_not (pdt_val (pd_callC good ((ok_is_string T).mono (by omega)) (c_is_string_1 T) (fun _ => .nil) (pda_cons (pd_v 0) pda_nil))))))) (pds_one (pds_raise1 good (by omega) T.x_InvalidText.o T.x_InvalidText.no T.x_InvalidText.iC T.x_InvalidText.tI (ok_init_InvalidText T) (b_init_InvalidText T) T.x_InvalidText.m (pda_cons (pd_v 0) pda_nil))) pss_nil')
      (pds_one (pds_ret (pd_make1 good (by omega) T.D_Doc (ok_init_Doc T) (b_init_Doc T) (pda_cons (pd_tup (pda_cons pd_str (pda_cons (pd_v 0) pda_nil))) pda_nil))))), ?_⟩)
  · obtain ⟨x, rfl, _⟩ := h; rfl
  · rintro ds Qd ⟨o, rfl, hx, q⟩
    cases o with
    | none => simp only [brkD]; walk_at "w"; exact q
    | some x =>
      simp only [brkD]; walk_at "w"
      have hx := hx x rfl
      refine ⟨.str x, rfl, .inl rfl, fun y e => by cases e; exact hx.1, ?_⟩
      rw [show isStr (.str x) = true from hx.2]
      walk_at "w"
      exact q
def sp_hole (a : Ad) : SpD := fun ds c Q _ => ∃ x, ds = [.str x] ∧ strS x ∧ nameB x = true ∧ Q (docD a (.hole x)) c
theorem ok_hole : FnOk P w K mg base (L2.CX P w) 3 a.f_hole a.d_hole ["name"] (spOf K (sp_hole a)) := by
  refine okD T.F_hole sc_hole (fun ds c Q E h => ?_) (fun cdv A outer s H E G0 c0 ED good => ⟨_, _, (pds_cons (pds_if (pdt_not (pdt_val (pd_callC good ((ok_is_name T).mono (by omega)) (c_is_name_1 T) (fun _ => .nil) (pda_cons (pd_v 0) pda_nil)))) (pds_one (pds_raise1 good (by omega) T.x_InvalidName.o T.x_InvalidName.no T.x_InvalidName.iC T.x_InvalidName.tI (ok_init_InvalidName T) (b_init_InvalidName T) T.x_InvalidName.m (pda_cons (pd_v 0) pda_nil))) pss_nil')
      (pds_one (pds_ret (pd_make1 good (by omega) T.D_Doc (ok_init_Doc T) (b_init_Doc T) (pda_cons (pd_tup (pda_cons pd_str (pda_cons (pd_v 0) pda_nil))) pda_nil))))), ?_⟩)
  · obtain ⟨x, rfl, _⟩ := h; rfl
  · rintro ds Qd ⟨x, rfl, hx, hn, q⟩
    walk_at "w"
    refine ⟨x, rfl, hx.1, ?_⟩
    rw [hn]
    walk_at "w"
    exact q
def sp_Doc___eq__ (a : Ad) : SpD := fun ds c Q _ => ∃ (f : Fm) (y : D), ds = [docD a f, y] ∧ f.ok ∧ f.dep ≤ 59 ∧ ((∃ g : Fm, y = docD a g ∧ g.ok ∧ g.dep ≤ 59 ∧ Q (.bl (eqD f.enc g.enc)) c) ∨ ((kind y).isSome = true ∧ Q (.bl false) c))
theorem ok_Doc___eq__ : FnOk P w K mg base (L2.CX P w) 1 a.f_Doc___eq__ a.d_Doc___eq__ ["self", "other"] (spOf K (sp_Doc___eq__ a)) := by
  refine okD T.F_Doc___eq__ sc_Doc___eq__ (fun ds c Q E h => ?_) (fun cdv A outer s H E G0 c0 ED good => ⟨_, _, (pds_one (pds_ret (pd_and (pd_callB call_isO (br_isO (IC := IC0 a) (hI0 T)) T.z_isinstance bt_isinstance (pda_cons (pd_v 1) (pda_cons (pd_cls T.m_Doc) pda_nil))) (pd_one (pd_cm (pdc_eqD good (pd_fldI T.D_Doc.cl T.D_Doc.no (pd_v 0)) (pd_fldI T.D_Doc.cl T.D_Doc.no (pd_v 1)))))))), ?_⟩)
  · obtain ⟨f, y, rfl, _⟩ := h; rfl
  · rintro ds Qd ⟨f, y, rfl, ok, hp, q⟩
    simp only [docD]
    walk_at "w"
    rcases q with ⟨g, rfl, okg, hg, q⟩ | ⟨hk, q⟩
    · simp only [docD]
      refine isO.ins IC0_Doc T.k_Doc_Doc ?_
      walk_at "w"
      exact ⟨Fm.pl60 hp ok, Fm.pl60 hg okg, q⟩
    · refine isO.kd T.kt_Doc hk ?_
      walk_at "w"
      exact q
omit T in
theorem dadd {f g : Fm} {c : CN} {ρ : DEnv} {ED : DEnv → EDt} {r : RD2} {Q : D → CN → Prop} (q : Q (docD a (.join f g)) c) : aBinO a.c_Doc ED (sp_Doc___add__ a) r ρ (docD a f) (docD a g) c Q := by
  simp only [docD]
  walk_at "w"
  exact ⟨f, g, rfl, q⟩
omit T in
theorem dor {f g : Fm} {c : CN} {ρ : DEnv} {ED : DEnv → EDt} {r : RD2} {Q : D → CN → Prop} (q : Q (docD a (.choice f g)) c) : aBinO a.c_Doc ED (sp_Doc___or__ a) r ρ (docD a f) (docD a g) c Q := by
  simp only [docD]
  walk_at "w"
  exact ⟨f, g, rfl, q⟩
omit T in
section
theorem so_e : Str.empty = sOf [] := rfl
theorem so_q : Str.ofString "\"" = sOf [34] := rfl
theorem so_lt : Str.ofString "<" = sOf [60] := rfl
theorem so_gt : Str.ofString ">" = sOf [62] := rfl
theorem so_sp : Str.ofString " " = sOf [32] := rfl
theorem so_po : Str.ofString "(" = sOf [40] := rfl
theorem so_pc : Str.ofString ")" = sOf [41] := rfl
theorem so_pl : Str.ofString "+" = sOf [43] := rfl
theorem so_br : Str.ofString "|" = sOf [124] := rfl
theorem so_so : Str.ofString "[" = sOf [91] := rfl
theorem so_sc : Str.ofString "]" = sOf [93] := rfl
theorem so_co : Str.ofString "{" = sOf [123] := rfl
theorem so_cc : Str.ofString "}" = sOf [125] := rfl
theorem so_us : Str.ofString "_" = sOf [95] := rfl
theorem so_ex : Str.ofString "!" = sOf [33] := rfl
theorem so_pls : Str.ofString " + " = sOf [32, 43, 32] := rfl
theorem so_brs : Str.ofString " | " = sOf [32, 124, 32] := rfl
theorem so_d (n : Int) : Str.ofString (toString n) = sOf (digs n) := (sOf_list _).symm
theorem digs_le {n : Int} (h0 : 0 ≤ n) (h : n ≤ 40) : (digs n).length ≤ 2 ∧ n.natAbs.log2 < 1920 := by
  constructor
  · rcases digs_of h0 h with ⟨d, e, _⟩ | ⟨d, d2, e, _⟩ <;> rw [e] <;> simp
  · have : n.natAbs ≤ 40 := by omega
    have h2 := Nat.log2_le_self n.natAbs
    omega
end
local macro_rules | `(tactic| walk_at "so") => `(tactic| simp only [so_e, so_q, so_lt, so_gt, so_sp, so_po, so_pc, so_pl, so_br, so_so, so_sc, so_co, so_cc, so_us, so_ex, so_pls, so_brs, so_d, sOf_app, sOf_len, List.nil_append, List.cons_append, List.append_assoc, List.length_append, List.length_cons, List.length_nil])
def sp_quoted : SpD := fun ds c Q _ => ∃ x : Str, ds = [.str x] ∧ x.length ≤ 1000 ∧ Q (.str (sOf (wq x))) c
theorem ok_quoted : FnOk P w K mg base (L2.CX P w) 1 a.f_quoted a.d_quoted ["string"] (spOf K sp_quoted) := by
  refine okD T.F_quoted sc_quoted (fun ds c Q E h => ?_) (fun cdv A outer s H E G0 c0 ED good => ⟨_, _, (pds_one (pds_ret (pd_sum2 (pd_quote (pd_v 0)) pd_str))), ?_⟩)
  · obtain ⟨x, rfl, _⟩ := h; rfl
  · rintro ds Qd ⟨x, rfl, hx, q⟩
    walk_at "w"
    have h1 : (Txt.replace x "\\" "\\\\").length ≤ 3002 := by
      have := TK.replace_len x "\\" "\\\\"
      have e : ("\\\\" : Str).length = 2 := rfl
      rw [e] at this
      omega
    have h2 := esc_len x.cps.toList
    rw [strLen] at h2
    have e2 : ("\"" : Str).length = 1 := rfl
    rw [rep_esc]
    refine ⟨by unfold RepOk; rw [show (Str.ofString "\\\\").length = 2 from rfl]; omega, by unfold RepOk; rw [show (Str.ofString "\\\"").length = 2 from rfl]; omega, ?_⟩
    walk_at "so"
    refine ⟨by omega, by omega, ?_⟩
    exact q
def sp_written_form : Nat → SpD
  | 0 => fun _ _ _ _ => False
  | n + 1 => fun ds c Q _ => ∃ f : Fm, ds = [f.enc] ∧ f.ok ∧ f.dep ≤ n + 1 ∧ f.wr.length ≤ 100000 ∧ Q (.str (sOf f.wr)) c
omit T in
theorem no_written_form (ds : List D) (c : CN) (Q : QD) (E : EDt) : sp_written_form 0 ds c Q E → False := id
omit T in
theorem sp_written_form_of {n : Nat} {f : Fm} {c : CN} {Q : QD} {E : EDt} (hk : f.ok) (h : f.dep ≤ n) (hw : f.wr.length ≤ 100000) (q : Q (.str (sOf f.wr)) c) : sp_written_form n [f.enc] c Q E := by
  cases n with
  | zero => have := f.dep_pos; omega
  | succ n => exact ⟨f, rfl, hk, h, hw, q⟩
theorem ok_written_form : ∀ n : Nat, FnOk P w K mg base (L2.CX P w) (3 + n) a.f_written_form a.d_written_form ["form"] (spOf K (sp_written_form n)) := by
  intro n
  induction n with
  | zero => exact FnOk.no T.F_written_form sc_written_form (spOf_no no_written_form)
  | succ n ih =>
  refine okD (k := 3 + n) T.F_written_form sc_written_form (fun ds c Q E h => ?_) (fun cdv A outer s H E G0 c0 ED good => ⟨_, _, (pds_cons (pds_if (pdt_cm (pdc_eqD good (pd_at (pd_v 0) pd_int) pd_str)) (pds_one (pds_ret (pd_callC good ((ok_quoted T).mono (by omega)) (c_quoted_1 T) (fun _ => .nil) (pda_cons (pd_at (pd_v 0) pd_int) pda_nil)))) pss_nil')
      (pds_cons (pds_if (pdt_cm (pdc_eqD good (pd_at (pd_v 0) pd_int) pd_str)) (pds_one (pds_ret (pd_ifExp (pdt_cm (pdc_isN (pd_at (pd_v 0) pd_int))) pd_str (pd_sum2 pd_str (pd_callC good ((ok_quoted T).mono (by omega)) (c_quoted_1 T) (fun _ => .nil) (pda_cons (pd_at (pd_v 0) pd_int) pda_nil)))))) pss_nil')
      (pds_cons (pds_if (pdt_cm (pdc_eqD good (pd_at (pd_v 0) pd_int) pd_str)) (pds_one (pds_ret (pd_at (pd_v 0) pd_int))) pss_nil')
      (pds_cons (pds_if (pdt_cm (pdc_eqD good (pd_at (pd_v 0) pd_int) pd_str)) (pds_one (pds_ret (pd_joined (pdj_cons pd_str (pdj_cons (pd_fmt (pd_at (pd_v 0) pd_int)) (pdj_cons pd_str (pdj_cons (pd_fmt (pd_callC good ih (c_written_form_1 T) (fun _ => .nil) (pda_cons (pd_at (pd_v 0) pd_int) pda_nil))) (pdj_cons pd_str pdj_nil)))))))) pss_nil')
      (pds_cons (pds_if (pdt_cm (pdc_in good (pd_at (pd_v 0) pd_int) (pd_tup (pda_cons pd_str (pda_cons pd_str pda_nil))))) (pds_cons (pds_asg (pd_ifExp (pdt_cm (pdc_eqD good (pd_at (pd_v 0) pd_int) pd_str)) (pd_tup (pda_cons pd_str (pda_cons pd_str pda_nil))) (pd_tup (pda_cons pd_str (pda_cons pd_str pda_nil)))) (pdg_seq (n := 2) good.calm (pdg_cons (pdg_name 2 sc_written_form.nd) (pdg_cons (pdg_name 3 sc_written_form.nd) pdg_nil))))
      (pds_one (pds_ret (pd_sum2 (pd_sum2 (pd_v 2) (pd_callC good ih (c_written_form_1 T) (fun _ => .nil) (pda_cons (pd_at (pd_v 0) pd_int) pda_nil))) (pd_v 3))))) pss_nil')
      (pds_cons (pds_set 1 sc_written_form.nd (pd_ifExp (pdt_cm (pdc_eqD good (pd_at (pd_v 0) pd_int) pd_str)) pd_str pd_str))
      (pds_one (pds_ret (pd_joined (pdj_cons pd_str (pdj_cons (pd_fmt (pd_callC good ih (c_written_form_1 T) (fun _ => .nil) (pda_cons (pd_at (pd_v 0) pd_int) pda_nil))) (pdj_cons pd_str (pdj_cons (pd_fmt (pd_v 1)) (pdj_cons pd_str (pdj_cons (pd_fmt (pd_callC good ih (c_written_form_1 T) (fun _ => .nil) (pda_cons (pd_at (pd_v 0) pd_int) pda_nil))) (pdj_cons pd_str pdj_nil)))))))))))))))), ?_⟩)
  · obtain ⟨f, rfl, _⟩ := h; rfl
  · rintro ds Qd ⟨f, rfl, ok, hd, hw, q⟩
    cases f with
    | text x =>
      simp only [Fm.enc]
      walk_at "f"
      exact ⟨x, rfl, ok.1, q⟩
    | brk o =>
      cases o with
      | none =>
        simp only [Fm.enc]
        walk_at "f"
        exact q
      | some x =>
        simp only [Fm.enc]
        walk_at "f"
        refine ⟨x, rfl, ok.1, ?_⟩
        simp only [Fm.wr, List.length_cons] at hw
        walk_at "w"
        walk_at "so"
        exact ⟨by omega, q⟩
    | hole x =>
      simp only [Fm.enc]
      walk_at "f"
      rw [show sOf (Fm.hole x).wr = x from sOf_list x] at q
      exact q
    | nested i f =>
      obtain ⟨l1, l2⟩ := digs_le ok.1.1 ok.1.2
      simp only [Fm.enc]
      walk_at "f"
      simp only [Fm.wr, List.length_cons, List.length_append, List.length_nil] at hw
      simp only [Fm.dep] at hd
      walk_at "so"
      refine ⟨by omega, l2, by omega, by omega, ?_⟩
      refine sp_written_form_of ok.2 (by omega) (by omega) ?_
      walk_at "w"
      walk_at "so"
      refine ⟨by omega, by omega, by omega, ?_⟩
      exact q
    | join f g =>
      simp only [Fm.enc]
      walk_at "f"
      simp only [Fm.wr, List.length_cons, List.length_append, List.length_nil] at hw
      simp only [Fm.dep] at hd
      walk_at "so"
      refine ⟨by omega, ?_⟩
      refine sp_written_form_of ok.1 (by omega) (by omega) ?_
      walk_at "w"
      walk_at "so"
      repeat (refine ⟨by omega, ?_⟩)
      refine sp_written_form_of ok.2 (by omega) (by omega) ?_
      walk_at "w"
      walk_at "so"
      refine ⟨by omega, by omega, by omega, ?_⟩
      exact q
    | choice f g =>
      simp only [Fm.enc]
      walk_at "f"
      simp only [Fm.wr, List.length_cons, List.length_append, List.length_nil] at hw
      simp only [Fm.dep] at hd
      walk_at "so"
      refine ⟨by omega, ?_⟩
      refine sp_written_form_of ok.1 (by omega) (by omega) ?_
      walk_at "w"
      walk_at "so"
      repeat (refine ⟨by omega, ?_⟩)
      refine sp_written_form_of ok.2 (by omega) (by omega) ?_
      walk_at "w"
      walk_at "so"
      refine ⟨by omega, by omega, by omega, ?_⟩
      exact q
    | group f =>
      simp only [Fm.enc]
      walk_at "f"
      simp only [Fm.wr, List.length_cons, List.length_append, List.length_nil] at hw
      simp only [Fm.dep] at hd
      refine sp_written_form_of ok (by omega) (by omega) ?_
      walk_at "w"
      walk_at "so"
      refine ⟨by omega, by omega, ?_⟩
      exact q
    | flat f =>
      simp only [Fm.enc]
      walk_at "f"
      simp only [Fm.wr, List.length_cons, List.length_append, List.length_nil] at hw
      simp only [Fm.dep] at hd
      refine sp_written_form_of ok (by omega) (by omega) ?_
      walk_at "w"
      walk_at "so"
      refine ⟨by omega, by omega, ?_⟩
      exact q
def sp_written (a : Ad) : SpD := fun ds c Q E => ∃ d : DocOr, ds = [dOr a d] ∧ (match d with | .doc f => f.ok ∧ f.dep ≤ 60 ∧ f.wr.length ≤ 100000 ∧ Q (.str (sOf f.wr)) c | .odd d => NotDoc a d ∧ E a.c_NotADocument ["thing"] [d] c)
theorem ok_written : FnOk P w K mg base (L2.CX P w) 65 a.f_written a.d_written ["doc"] (spOf K (sp_written a)) := by
  refine okD T.F_written sc_written (fun ds c Q E h => ?_) (fun cdv A outer s H E G0 c0 ED good => ⟨_, _, (pds_cons (pds_expr (pd_callC good ((ok_require_doc T).mono (by omega)) (c_require_doc_1 T) (fun _ => .nil) (pda_cons (pd_v 0) pda_nil)))
      (pds_one (pds_ret (pd_callC good ((ok_written_form T 60).mono (by omega)) (c_written_form_1 T) (fun _ => .nil) (pda_cons (pd_prop (good.mono (j := 2) (by omega)) T.D_Doc.cl T.P_Doc_form (ok_Doc_form T) (b_Doc_form T) (pd_v 0)) pda_nil))))), ?_⟩)
  · obtain ⟨f, rfl, _⟩ := h; rfl
  · rintro ds Qd ⟨d, rfl, q⟩
    walk_at "w"
    cases d with
    | doc f =>
      obtain ⟨h1, h2, h3, q⟩ := q
      refine ⟨.doc f, rfl, ?_⟩
      simp only [dOr, docD]
      walk_at "w"
      refine ⟨f, rfl, ?_⟩
      exact sp_written_form_of h1 h2 h3 q
    | odd d => exact ⟨.odd d, rfl, q.1, q.2⟩
omit T in
section
structure RSt (C t w : Addr) (s : Str) (p : Nat) (W : List D) (c : CN) : Prop where
  ht : c.m t = some (.ins C ["string", "at", "waiting"] [.str s, .int (p : Nat), .mo w])
  hw : c.m w = some (.lst W)
  ne : t ≠ w
  n : s.length ≤ 1000000
structure RSm (t w : Addr) (c c' : CN) : Prop where
  n : c'.n = c.n
  o : ∀ x, x ≠ t → x ≠ w → c'.m x = c.m x
theorem RSm.refl {t w : Addr} {c : CN} : RSm t w c c := ⟨rfl, fun _ _ _ => rfl⟩
theorem RSm.trans {t w : Addr} {c c' c'' : CN} (h : RSm t w c c') (h2 : RSm t w c' c'') : RSm t w c c'' := ⟨h2.n.trans h.n, fun x a b => (h2.o x a b).trans (h.o x a b)⟩
theorem RSt.put {C t w : Addr} {s : Str} {p : Nat} {W : List D} {c : CN} (h : RSt C t w s p W c) (p' : Nat) : RSt C t w s p' W (c.put t (.ins C ["string", "at", "waiting"] [.str s, .int (p' : Nat), .mo w])) ∧ RSm t w c (c.put t (.ins C ["string", "at", "waiting"] [.str s, .int (p' : Nat), .mo w])) :=
  ⟨⟨put_self, by rw [put_ne (fun e => h.ne e.symm)]; exact h.hw, h.ne, h.n⟩, ⟨rfl, fun x a _ => put_ne a⟩⟩
theorem RSt.putW {C t w : Addr} {s : Str} {p : Nat} {W : List D} {c : CN} (h : RSt C t w s p W c) (W' : List D) : RSt C t w s p W' (c.put w (.lst W')) ∧ RSm t w c (c.put w (.lst W')) :=
  ⟨⟨by rw [put_ne h.ne]; exact h.ht, put_self, h.ne, h.n⟩, ⟨rfl, fun x _ b => put_ne b⟩⟩
theorem L_dig : (Str.ofString "0123456789").cps.toList = [48, 49, 50, 51, 52, 53, 54, 55, 56, 57] := by decide
theorem L_123 : (Str.ofString "123").cps.toList = [49, 50, 51] := by decide
theorem L_open : (Str.ofString "(<[{").cps.toList = [40, 60, 91, 123] := by decide
theorem L_two : (Str.ofString "\"\\").cps.toList = [34, 92] := by decide
theorem L_let : (Str.ofString "abcdefghijklmnopqrstuvwxyz").cps.toList = lettersL := rfl
theorem let_rng {k : Nat} (h : k ∈ lettersL) : 97 ≤ k ∧ k ≤ 122 := by
  have key : ∀ k ∈ lettersL, 97 ≤ k ∧ k ≤ 122 := by decide
  exact key k h
theorem one_is {x y : Nat} {g : Str} (h : g = ⟨#[y]⟩) (e : x = y) : ((⟨#[x]⟩ : Str) == g) = true := by rw [h, one_eq]; simp [e]
theorem one_no {x y : Nat} {g : Str} (h : g = ⟨#[y]⟩) (e : x ≠ y) : ((⟨#[x]⟩ : Str) == g) = false := by rw [h, one_eq]; simp [e]
theorem nob {b : Bool} (h : b = true) : (!b) = false := by rw [h]; rfl
theorem yesb {b : Bool} (h : b = false) : (!b) = true := by rw [h]; rfl
theorem emp_is : (Str.ofString "" == Str.ofString "") = true := by decide
theorem RSt.one {C t w : Addr} {s : Str} {p x : Nat} {W : List D} {r : List Nat} {c : CN} (h : RSt C t w s p W c) (R : Rest s p (x :: r)) : Rest s (p + 1) r := R.next
theorem sOf_snoc {pre : List Nat} {k : Nat} : sOf pre ++ ⟨#[k]⟩ = sOf (pre ++ [k]) := sOf_app pre [k]
end
def sp_Reader___init__ (a : Ad) : SpD := fun ds c Q _ => ∃ (t : Addr) (s : Str), ds = [.mo t, .str s] ∧ c.m t = some (.ins a.c_Reader [] []) ∧ s.length ≤ 1000000 ∧ ∀ w c', c.m w = none → RSm t w c c' → RSt a.c_Reader t w s 0 [] c' → Q .non c'
theorem ok_Reader___init__ : FnOk P w K mg base (L2.CX P w) 1 a.f_Reader___init__ a.d_Reader___init__ ["self", "string"] (spOf K (sp_Reader___init__ a)) := by
  refine okD T.F_Reader___init__ sc_Reader___init__ (fun ds c Q E h => ?_) (fun cdv A outer s H E G0 c0 ED good => ⟨_, _, (pds_cons (pds_fldM T.D_Reader_string.cl T.D_Reader_string.no (pd_v 0) (pd_v 1))
      (pds_cons (pds_fldM T.D_Reader_at.cl T.D_Reader_at.no (pd_v 0) pd_int)
      (pds_one (pds_fldM T.D_Reader_waiting.cl T.D_Reader_waiting.no (pd_v 0) pd_newLM)))), ?_⟩)
  · obtain ⟨t, s, rfl, _⟩ := h; rfl
  · rintro ds Qd ⟨t, s, rfl, ht, hn, q⟩
    walk_at "w"
    rw [ht]
    walk_at "m"
    intro b hb
    have hbt : t ≠ b := fun e => by rw [← e, put_self] at hb; cases hb
    rw [put_ne hbt, put_self]
    walk_at "m"
    have e0 : c0.m b = none := by rw [put_ne (fun e => hbt e.symm)] at hb; exact hb
    refine q b _ e0 ⟨rfl, fun x h1 h2 => by rw [put_ne h1, put_ne h2, put_ne h1]⟩ ⟨put_self, by rw [put_ne (fun e => hbt e.symm), put_self], hbt, hn⟩
def sp_Reader_sign (a : Ad) : SpD := fun ds c Q _ => ∃ (t w : Addr) (s : Str) (p : Nat) (W : List D) (r : List Nat), ds = [.mo t] ∧ RSt a.c_Reader t w s p W c ∧ Rest s p r ∧ Q (.str (hdS r)) c
theorem ok_Reader_sign : FnOk P w K mg base (L2.CX P w) 1 a.f_Reader_sign a.d_Reader_sign ["self"] (spOf K (sp_Reader_sign a)) := by
  refine okD T.F_Reader_sign sc_Reader_sign (fun ds c Q E h => ?_) (fun cdv A outer s H E G0 c0 ED good => ⟨_, _, (pds_one (pds_ret (pd_part2 (pd_fldM T.D_Reader_string.cl T.D_Reader_string.no (pd_v 0)) (pdo_some (pd_fldM T.D_Reader_at.cl T.D_Reader_at.no (pd_v 0))) (pdo_some (pd_sum2 (pd_fldM T.D_Reader_at.cl T.D_Reader_at.no (pd_v 0)) pd_int))))), ?_⟩)
  · obtain ⟨t, w, s, p, W, r, rfl, _⟩ := h; rfl
  · rintro ds Qd ⟨t, w, s, p, W, r, rfl, hS, hR, q⟩
    walk_at "w"
    rw [hS.ht]
    walk_at "m"
    have := hS.n
    rw [hR.cut]
    exact ⟨by omega, q⟩
omit T in
theorem rmeth {C t w : Addr} {s m : Str} {p : Nat} {W : List D} {c : CN} {P : Prop} (hS : RSt C t w s p W c) (hm : (["string", "at", "waiting"] : List Str).contains m = false) (q : P) : @mI C (c.m t) fun ns es => ns.contains m = false ∧ P := ⟨_, _, hS.ht, hm, q⟩
omit T in
theorem rsign {t w : Addr} {s : Str} {p : Nat} {W : List D} {r : List Nat} {c : CN} {Q : QD} {E : EDt} (hS : RSt a.c_Reader t w s p W c) (hR : Rest s p r) (q : Q (.str (hdS r)) c) : @mI a.c_Reader (c.m t) fun ns es => ns.contains "sign" = false ∧ @Run (sp_Reader_sign a) [.mo t] c Q E := rmeth hS (by decide) ⟨t, w, s, p, W, r, rfl, hS, hR, q⟩
omit T in
section
def RdO {α : Type} (a : Ad) (t w : Addr) (s : Str) (W : List D) (c : CN) (o : Out α) (Q : α → CN → Prop) (E : EDt) : Prop := match o with
  | .ok x r => ∀ (c' : CN) (p' : Nat), RSm t w c c' → RSt a.c_Reader t w s p' W c' → Rest s p' r → Q x c'
  | .bad j => ∀ (c' : CN), c'.n = c.n → E a.c_Unreadable ["at"] [.int ((s.length - j : Nat) : Int)] c'
theorem RdO.bind {α β : Type} {t w : Addr} {s : Str} {W W' : List D} {c : CN} {o : Out α} {k : α → List Nat → Out β} {Q : α → CN → Prop} {Q2 : β → CN → Prop} {E : EDt} (h : RdO a t w s W' c (o.bind k) Q2 E)
    (hk : ∀ x r, o = .ok x r → ∀ (c' : CN) (p' : Nat), RSm t w c c' → RSt a.c_Reader t w s p' W c' → Rest s p' r → RdO a t w s W' c' (k x r) Q2 E → Q x c') : RdO a t w s W c o Q E := by
  cases o with
  | bad j => exact h
  | ok x r =>
    intro c' p' m S R
    refine hk x r rfl c' p' m S R ?_
    have h : RdO a t w s W' c (k x r) Q2 E := h
    revert h
    cases k x r with
    | ok y r2 => exact fun h c2 p2 m2 S2 R2 => h c2 p2 (m.trans m2) S2 R2
    | bad j => exact fun h c2 n2 => h c2 (n2.trans m.n)
theorem RdO.moved {α : Type} {t w : Addr} {s : Str} {W : List D} {c c1 : CN} {o : Out α} {Q : α → CN → Prop} {E : EDt} (h : RdO a t w s W c o Q E) (m : RSm t w c c1) : RdO a t w s W c1 o Q E := by
  cases o with
  | ok y r2 => exact fun c2 p2 m2 S2 R2 => h c2 p2 (m.trans m2) S2 R2
  | bad j => exact fun c2 n2 => h c2 (n2.trans m.n)
theorem nameS {x : Str} (h : nameB x = true) : strS x := by
  unfold nameB at h
  simp only [Bool.and_eq_true, decide_eq_true_eq, List.all_eq_true] at h
  obtain ⟨⟨h1, h8⟩, hl⟩ := h
  refine ⟨by omega, ?_, ?_⟩
  · unfold okStr PL.signs
    rw [List.all_eq_true]
    intro d hd
    obtain ⟨k, hk, rfl⟩ := List.mem_map.mp hd
    have := let_rng (hl k hk)
    rw [signOk, lo_is, hi_is, decide_eq_true (show 32 ≤ k by omega), decide_eq_true (show k ≤ 126 by omega)]; rfl
  · unfold PyData.strOk
    rw [Array.all_eq_true']
    intro k hk
    have := let_rng (hl k (Array.mem_toList_iff.mpr hk))
    exact decide_eq_true (by omega)
theorem rest_at {s : Str} {p : Nat} {r : List Nat} (h : Rest s p r) : p = s.length - r.length := by have := h.l; omega
end
def sp_Reader_take (a : Ad) : SpD := fun ds c Q E => ∃ (t w : Addr) (s : Str) (p : Nat) (W : List D) (r : List Nat) (g : Str), ds = [.mo t, .str g] ∧ RSt a.c_Reader t w s p W c ∧ Rest s p r ∧ RdO a t w s W c (tkP g.cps.toList r) (fun x c' => Q (.str ⟨#[x]⟩) c') E
theorem ok_Reader_take : FnOk P w K mg base (L2.CX P w) 3 a.f_Reader_take a.d_Reader_take ["self", "signs"] (spOf K (sp_Reader_take a)) := by
  refine okD T.F_Reader_take sc_Reader_take (fun ds c Q E h => ?_) (fun cdv A outer s H E G0 c0 ED good => ⟨_, _, (pds_cons (pds_set 2 sc_Reader_take.nd (pd_methM0 good ((ok_Reader_sign T).mono (by omega)) (cm_Reader_sign T) (fun _ => .nil) (pd_v 0)))
      (pds_cons (pds_if (pdw_pt (pdw_or (pdt_cm (pdc_eqS (pd_v 2) pd_str)) (pdw_or1 (pdt_cm (pdc_notIn good (pd_v 2) (pd_v 1)))))) (pds_one (pds_raise1 good (by omega) T.x_Unreadable.o T.x_Unreadable.no T.x_Unreadable.iC T.x_Unreadable.tI (ok_init_Unreadable T) (b_init_Unreadable T) T.x_Unreadable.m (pda_cons (pd_fldM T.D_Reader_at.cl T.D_Reader_at.no (pd_v 0)) pda_nil))) pss_nil')
      (pds_cons (pds_fldAugM T.D_Reader_at.cl T.D_Reader_at.no iop_add br_iadd (pd_v 0) pd_int)
      (pds_one (pds_ret (pd_v 2)))))), ?_⟩)
  · obtain ⟨t, w, s, p, W, r, g, rfl, _⟩ := h; rfl
  · rintro ds Qd ⟨t, w, s, p, W, r, g, rfl, hS, hR, q⟩
    walk_at "w"
    refine rsign hS hR ?_
    cases r with
    | nil =>
      simp only [hdS]
      walk_at "m"
      rw [hS.ht]
      walk_at "m"
      have e : p = s.length - 0 := rest_at hR
      rw [e]
      exact q c0 rfl
    | cons x r =>
      simp only [hdS]
      walk_at "m"
      refine Br.f one_ne ?_
      by_cases hx : x ∈ g.cps.toList
      · refine Br.f (by simp [hx]) ?_
        rw [hS.ht]
        walk_at "m"
        rw [hS.ht]
        walk_at "m"
        have := hS.put (p + 1)
        rw [show (((p + 1 : Nat) : Int)) = (p : Int) + 1 by omega] at this
        rw [show tkP g.cps.toList (x :: r) = .ok x r from if_pos hx] at q
        exact q _ _ this.2 (by have := hS.put (p + 1); exact this.1) hR.next
      · refine Br.t (by simp [hx]) ?_
        rw [hS.ht]
        walk_at "m"
        rw [show tkP g.cps.toList (x :: r) = .bad (r.length + 1) from if_neg hx] at q
        have e : p = s.length - (r.length + 1) := rest_at hR
        rw [e]
        exact q c0 rfl
omit T in
theorem rtakO {t w : Addr} {s : Str} {p : Nat} {W : List D} {r : List Nat} {g : Str} {l : List Nat} {c : CN} {Q : QD} {E : EDt} (hS : RSt a.c_Reader t w s p W c) (hR : Rest s p r) (hg : g.cps.toList = l) (q : RdO a t w s W c (tkP l r) (fun x c' => Q (.str ⟨#[x]⟩) c') E) :
    @mI a.c_Reader (c.m t) fun ns es => ns.contains "take" = false ∧ @Run (sp_Reader_take a) [.mo t, .str g] c Q E := rmeth hS (by decide) ⟨t, w, s, p, W, r, g, rfl, hS, hR, by rw [hg]; exact q⟩
omit T in
theorem rtakX {t w : Addr} {s : Str} {p x : Nat} {W : List D} {r : List Nat} {g : Str} {c : CN} {Q : QD} {E : EDt} (hS : RSt a.c_Reader t w s p W c) (hR : Rest s p r) (hg : g.cps.toList = [x]) (q : RdO a t w s W c (exP x r) (fun _ c' => Q (.str ⟨#[x]⟩) c') E) :
    @mI a.c_Reader (c.m t) fun ns es => ns.contains "take" = false ∧ @Run (sp_Reader_take a) [.mo t, .str g] c Q E := by
  refine rtakO hS hR hg ?_
  unfold exP at q
  cases r with
  | nil => exact q
  | cons z r =>
    by_cases h : z ∈ [x]
    · rw [show tkP [x] (z :: r) = .ok z r from if_pos h] at q ⊢
      obtain rfl := List.mem_singleton.mp h
      exact q
    · rw [show tkP [x] (z :: r) = .bad (r.length + 1) from if_neg h] at q ⊢
      exact q
omit T in
section
theorem hd_is {x : Nat} {r : List Nat} {g : Str} (hg : g = ⟨#[x]⟩) (hx : x ≠ 0) : (hdS r == g) = decide (hd0 r = x) := by
  cases r with
  | nil =>
    rw [hg, decide_eq_false (show ¬ hd0 [] = x from fun e => hx e.symm)]
    exact beq_eq_false_iff_ne.mpr fun e => by
      have := congrArg (fun s : Str => s.cps.size) e
      simp [hdS] at this
      exact absurd this (by decide)
  | cons y r => rw [hg]; exact one_eq
theorem int1 : ∀ d ∈ digL, intText? ⟨#[d]⟩ = some ((d : Int) - 48) := by decide +kernel
theorem int2 : ∀ d ∈ [49, 50, 51], ∀ e ∈ digL, intText? ((⟨#[d]⟩ : Str) ++ ⟨#[e]⟩) = some (10 * ((d : Int) - 48) + ((e : Int) - 48)) := by decide +kernel
theorem int40 : intText? ((⟨#[52]⟩ : Str) ++ ⟨#[48]⟩) = some 40 := by decide +kernel
theorem tk_in {g r r' : List Nat} {x : Nat} (h : tkP g r = .ok x r') : x ∈ g := by
  cases r with
  | nil => cases h
  | cons y r =>
    by_cases m : y ∈ g
    · rw [show tkP g (y :: r) = .ok y r from if_pos m] at h
      cases h
      exact m
    · rw [show tkP g (y :: r) = .bad (r.length + 1) from if_neg m] at h
      cases h
theorem L_0 : (Str.ofString "0").cps.toList = [48] := by decide
theorem L_sp : (Str.ofString " ").cps.toList = [32] := by decide
end
def sp_Reader_taken_steps (a : Ad) : SpD := fun ds c Q E => ∃ (t w : Addr) (s : Str) (p : Nat) (W : List D) (r : List Nat), ds = [.mo t] ∧ RSt a.c_Reader t w s p W c ∧ Rest s p r ∧ RdO a t w s W c (stP r) (fun n c' => Q (.int n) c') E
theorem ok_Reader_taken_steps : FnOk P w K mg base (L2.CX P w) 5 a.f_Reader_taken_steps a.d_Reader_taken_steps ["self"] (spOf K (sp_Reader_taken_steps a)) := by
  refine okD T.F_Reader_taken_steps sc_Reader_taken_steps (fun ds c Q E h => ?_) (fun cdv A outer s H E G0 c0 ED good => ⟨_, _, (pds_cons (pds_set 1 sc_Reader_taken_steps.nd (pd_methM good ((ok_Reader_take T).mono (by omega)) (cm_Reader_take T) (fun _ => .nil) (pd_v 0) (pda_cons (pd_gstr T.g_DIGITS) pda_nil)))
      (pds_cons (pds_if (pdw_pt (pdw_and (pdt_cm (pdc_in good (pd_v 1) pd_str)) (pdw_and1 (pdt_cm (pdc_neS (pd_methM0 good ((ok_Reader_sign T).mono (by omega)) (cm_Reader_sign T) (fun _ => .nil) (pd_v 0)) pd_str))))) (pds_one (pds_aug 1 sc_Reader_taken_steps.nd iop_add_str br_addS (pd_methM good ((ok_Reader_take T).mono (by omega)) (cm_Reader_take T) (fun _ => .nil) (pd_v 0) (pda_cons (pd_gstr T.g_DIGITS) pda_nil)))) (pds_one (pds_if (pdw_pt (pdw_and (pdt_cm (pdc_eqS (pd_v 1) pd_str)) (pdw_and1 (pdt_cm (pdc_neS (pd_methM0 good ((ok_Reader_sign T).mono (by omega)) (cm_Reader_sign T) (fun _ => .nil) (pd_v 0)) pd_str))))) (pds_one (pds_aug 1 sc_Reader_taken_steps.nd iop_add_str br_addS (pd_methM good ((ok_Reader_take T).mono (by omega)) (cm_Reader_take T) (fun _ => .nil) (pd_v 0) (pda_cons pd_str pda_nil)))) pss_nil')))
      (pds_cons (pds_expr (pd_methM good ((ok_Reader_take T).mono (by omega)) (cm_Reader_take T) (fun _ => .nil) (pd_v 0) (pda_cons pd_str pda_nil)))
      (pds_one (pds_ret (pd_callTy call_int_str br_intS T.z_int bt_int (pda_cons (pd_v 1) pda_nil))))))), ?_⟩)
  · obtain ⟨t, w, s, p, W, r, rfl, _⟩ := h; rfl
  · rintro ds Qd ⟨t, w, s, p, W, r, rfl, hS, hR, q⟩
    walk_at "w"
    refine rtakO hS hR L_dig (q.bind fun d r1 e1 c1 p1 m1 S1 R1 q => ?_)
    have hd := tk_in e1
    walk_at "m"
    have last : ∀ {c2 : CN} {p2 : Nat} {r2 : List Nat} {n : Int} {x : Str}, RSm t w c0 c2 → RSt a.c_Reader t w s p2 W c2 → Rest s p2 r2 → intText? x = some n → x.length ≤ 640 → RdO a t w s W c2 ((exP 32 r2).bind fun _ r3 => Out.ok n r3) (fun n c' => Qd (.int n) c') ED → @mI a.c_Reader (c2.m t) fun ns es => ns.contains (Str.ofString "take") = false ∧ @Run (sp_Reader_take a) [D.mo t, D.str (Str.ofString " ")] c2 (fun _ c1 => aIntS [.str x] c1 Qd) ED :=
      fun {c2 p2 r2 n x} m2 S2 R2 hi hl q => rtakX S2 R2 L_sp (q.bind fun _ r3 _ c3 p3 m3 S3 R3 q => ⟨_, n, rfl, hi, hl, q c3 p3 .refl S3 R3⟩)
    rw [L_123]
    unfold digL at hd
    by_cases h1 : d ∈ [49, 50, 51]
    · refine Br.t (by simpa using h1) (rsign S1 R1 ?_)
      walk_at "m"
      rw [hd_is (g := Str.ofString " ") (x := 32) rfl (by decide)]
      by_cases h2 : hd0 r1 = 32
      · rw [if_neg (fun z => z.2 h2), if_neg (fun z => z.2 h2)] at q
        refine Br.f (by rw [decide_eq_true h2]; rfl) ?_
        refine Br.f (one_no (y := 52) rfl (fun e => by rw [e] at h1; revert h1; decide)) ?_
        exact last m1 S1 R1 (int1 d hd) (by show 1 ≤ 640; decide) q
      · rw [if_pos ⟨h1, h2⟩] at q
        refine Br.t (by rw [decide_eq_false h2]; rfl) ?_
        refine rtakO S1 R1 L_dig (q.bind fun e r2 e2 c2 p2 m2 S2 R2 q => ?_)
        walk_at "m"
        refine ⟨by show 1 + 1 ≤ 16777216; decide, ?_⟩
        exact last (m1.trans m2) S2 R2 (int2 d h1 e (tk_in e2)) (by show 2 ≤ 640; decide) q
    · rw [if_neg (fun z => h1 z.1)] at q
      refine Br.f (by simpa using h1) ?_
      by_cases h4 : d = 52
      · subst h4
        refine Br.t (one_is (y := 52) rfl rfl) (rsign S1 R1 ?_)
        walk_at "m"
        rw [hd_is (g := Str.ofString " ") (x := 32) rfl (by decide)]
        by_cases h2 : hd0 r1 = 32
        · rw [if_neg (fun z => z.2 h2)] at q
          refine Br.f (by rw [decide_eq_true h2]; rfl) ?_
          exact last m1 S1 R1 (int1 52 hd) (by show 1 ≤ 640; decide) q
        · rw [if_pos ⟨rfl, h2⟩] at q
          refine Br.t (by rw [decide_eq_false h2]; rfl) ?_
          refine rtakO S1 R1 L_0 (q.bind fun e r2 e2 c2 p2 m2 S2 R2 q => ?_)
          obtain rfl := List.mem_singleton.mp (tk_in e2)
          walk_at "m"
          refine ⟨by show 1 + 1 ≤ 16777216; decide, ?_⟩
          exact last (m1.trans m2) S2 R2 int40 (by show 2 ≤ 640; decide) q
      · rw [if_neg (fun z => h4 z.1)] at q
        refine Br.f (one_no (y := 52) rfl h4) ?_
        exact last m1 S1 R1 (int1 d hd) (by show 1 ≤ 640; decide) q
def sp_Reader_string_in_quotes (a : Ad) : SpD := fun ds c Q E => ∃ (t w : Addr) (s : Str) (p : Nat) (W : List D) (r : List Nat), ds = [.mo t] ∧ RSt a.c_Reader t w s p W c ∧ Rest s p r ∧ RdO a t w s W c (qP r) (fun x c' => strW x → Q (.str x) c') E
theorem ok_Reader_string_in_quotes : FnOk P w K mg base (L2.CX P w) 5 a.f_Reader_string_in_quotes a.d_Reader_string_in_quotes ["self"] (spOf K (sp_Reader_string_in_quotes a)) := by
  refine okD T.F_Reader_string_in_quotes sc_Reader_string_in_quotes (fun ds c Q E h => ?_) (fun cdv A outer s H E G0 c0 ED good => ⟨_, _, (pds_cons (pds_expr (pd_methM good ((ok_Reader_take T).mono (by omega)) (cm_Reader_take T) (fun _ => .nil) (pd_v 0) (pda_cons pd_str pda_nil)))
      (pds_cons (pds_set 1 sc_Reader_string_in_quotes.nd pd_str)
      (pds_cons (pds_while PassesOwn.leaving (pdt_cm (pdc_neS (pd_methM0 good ((ok_Reader_sign T).mono (by omega)) (cm_Reader_sign T) (fun _ => .nil) (pd_v 0)) pd_str))
      (pds_cons (pds_if (pdt_not (pdt_leP2 pd_str (pd_methM0 good ((ok_Reader_sign T).mono (by omega)) (cm_Reader_sign T) (fun _ => .nil) (pd_v 0)) pd_str)) (pds_one (pds_raise1 good (by omega) T.x_Unreadable.o T.x_Unreadable.no T.x_Unreadable.iC T.x_Unreadable.tI (ok_init_Unreadable T) (b_init_Unreadable T) T.x_Unreadable.m (pda_cons (pd_fldM T.D_Reader_at.cl T.D_Reader_at.no (pd_v 0)) pda_nil))) pss_nil')
      (pds_cons (pds_set 2 sc_Reader_string_in_quotes.nd (pd_methM good ((ok_Reader_take T).mono (by omega)) (cm_Reader_take T) (fun _ => .nil) (pd_v 0) (pda_cons (pd_methM0 good ((ok_Reader_sign T).mono (by omega)) (cm_Reader_sign T) (fun _ => .nil) (pd_v 0)) pda_nil)))
      (pds_cons (pds_if (pdt_cm (pdc_eqS (pd_v 2) pd_str)) (pds_one (pds_set 2 sc_Reader_string_in_quotes.nd (pd_methM good ((ok_Reader_take T).mono (by omega)) (cm_Reader_take T) (fun _ => .nil) (pd_v 0) (pda_cons pd_str pda_nil)))) pss_nil')
      (pds_one (pds_aug 1 sc_Reader_string_in_quotes.nd iop_add_str br_addS (pd_v 2)))))))
      (pds_cons (pds_expr (pd_methM good ((ok_Reader_take T).mono (by omega)) (cm_Reader_take T) (fun _ => .nil) (pd_v 0) (pda_cons pd_str pda_nil)))
      (pds_one (pds_ret (pd_v 1))))))), ?_⟩)
  · obtain ⟨t, w, s, p, W, r, rfl, _⟩ := h; rfl
  · rintro ds Qd ⟨t, w, s, p, W, r, rfl, hS, hR, q⟩
    walk_at "w"
    refine rtakX hS hR (x := 34) rfl (q.bind fun _ r1 e1 c1 p1 m1 S1 R1 q => ?_)
    refine ⟨fun m ρ c => ∃ p' acc l sl, ρ = [.fz (.mo t), .fz (.str (sOf acc)), sl] ∧ RSm t w c0 c ∧ RSt a.c_Reader t w s p' W c ∧ Rest s p' l ∧ acc.length + l.length ≤ s.length ∧ okStr (sOf acc) = true ∧ RdO a t w s W c (sqP acc l) (fun x c' => strW x → Qd (.str x) c') ED ∧ m = l.length, ⟨_, p1, [], r1, _, rfl, m1, S1, R1, by have := R1.l; simp only [List.length_nil]; omega, rfl, q, rfl⟩, ?_⟩
    clear q
    rintro m ρ c2 ⟨p2, acc, l, sl, rfl, m2, S2, R2, hl, hok, q, rfl⟩
    walk_at "w"
    refine rsign S2 R2 ?_
    walk_at "m"
    rw [hd_is (g := Str.ofString "\"") (x := 34) rfl (by decide)]
    cases l with
    | nil =>
      rw [if_pos (by decide)]
      refine rsign S2 R2 ?_
      simp only [hdS]
      walk_at "m"
      refine Br.f (by decide) ?_
      rw [S2.ht]
      walk_at "m"
      have e : p2 = s.length - 0 := rest_at R2
      rw [e]
      exact q c2 rfl
    | cons x l =>
      simp only [List.length_cons] at hl
      have hn := S2.n
      by_cases h34 : x = 34
      · subst h34
        rw [if_neg (by rw [decide_eq_true (show hd0 (34 :: l) = 34 from rfl)]; decide)]
        rw [sqP_end] at q
        refine rtakX S2 R2 (x := 34) rfl fun c3 p3 m3 S3 R3 => ?_
        walk_at "m"
        exact q c3 p3 m3 S3 R3 ⟨by rw [sOf_len]; omega, hok⟩
      · rw [if_pos (by rw [decide_eq_false (show ¬ hd0 (x :: l) = 34 from h34)]; rfl)]
        refine rsign S2 R2 ?_
        simp only [hdS]
        walk_at "m"
        rw [lo_is, hi_is]
        by_cases hx : 32 ≤ x ∧ x ≤ 126
        · refine Br.t (decide_eq_true hx.1) (Br.f (by rw [decide_eq_true hx.2]; rfl) (rmeth S2 (by decide) (rsign S2 R2 ?_)))
          simp only [hdS]
          have fin : ∀ {c3 : CN} {p3 y : Nat} {r3 : List Nat} {sl : Sl}, RSm t w c0 c3 → RSt a.c_Reader t w s p3 W c3 → Rest s p3 r3 → r3.length ≤ l.length → 32 ≤ y ∧ y ≤ 126 → RdO a t w s W c3 (sqP (acc ++ [y]) r3) (fun x c' => strW x → Qd (.str x) c') ED →
              ∃ m', m' < (x :: l).length ∧ ∃ p' acc' l' sl', ([.fz (.mo t), .fz (.str (sOf acc ++ ⟨#[y]⟩)), sl] : DEnv) = [.fz (.mo t), .fz (.str (sOf acc')), sl'] ∧ RSm t w c0 c3 ∧ RSt a.c_Reader t w s p' W c3 ∧ Rest s p' l' ∧ acc'.length + l'.length ≤ s.length ∧ okStr (sOf acc') = true ∧ RdO a t w s W c3 (sqP acc' l') (fun x c' => strW x → Qd (.str x) c') ED ∧ m' = l'.length :=
            fun {c3 p3 y r3 sl} m3 S3 R3 h3 hy q => ⟨r3.length, by simp only [List.length_cons]; omega, p3, acc ++ [y], r3, _, by rw [sOf_snoc], m3, S3, R3, by simp only [List.length_append, List.length_cons, List.length_nil]; omega, okStr_snoc hok hy, q, rfl⟩
          refine ⟨t, w, s, p2, W, x :: l, ⟨#[x]⟩, rfl, S2, R2, ?_⟩
          rw [show tkP (⟨#[x]⟩ : Str).cps.toList (x :: l) = .ok x l from if_pos List.mem_cons_self]
          intro c3 p3 m3 S3 R3
          walk_at "m"
          by_cases h92 : x = 92
          · subst h92
            rw [sqP_esc] at q
            refine Br.t (one_is (y := 92) rfl rfl) (rtakO S3 R3 L_two ((q.moved m3).bind fun y r4 e4 c4 p4 m4 S4 R4 q => ?_))
            have hy := tk_in e4
            have ls := tkP_sub (g := [34, 92]) (r := l)
            rw [e4] at ls
            walk_at "m"
            refine ⟨by rw [sOf_len, show (⟨#[y]⟩ : Str).length = 1 from rfl]; omega, ?_⟩
            simp only [List.mem_cons, List.not_mem_nil, or_false] at hy
            exact fin ((m2.trans m3).trans m4) S4 R4 (Nat.le_of_lt ls.2) (by omega) q
          · rw [sqP_in h34 h92 hx] at q
            refine Br.f (one_no (y := 92) rfl h92) ?_
            walk_at "m"
            refine ⟨by rw [sOf_len, show (⟨#[x]⟩ : Str).length = 1 from rfl]; omega, ?_⟩
            exact fin (m2.trans m3) S3 R3 (Nat.le_refl _) hx (q.moved m3)
        · have h92 : x ≠ 92 := fun e => hx (by omega)
          rw [sqP_out h34 h92 hx] at q
          have e : p2 = s.length - (l.length + 1) := rest_at R2
          rw [S2.ht]
          walk_at "m"
          have bad : ED a.c_Unreadable [Str.ofString "at"] [D.int (p2 : Nat)] c2 := by rw [e]; exact q c2 rfl
          by_cases h1 : 32 ≤ x
          · exact Br.t (decide_eq_true h1) (Br.t (by rw [decide_eq_false (show ¬ x ≤ 126 by omega)]; rfl) bad)
          · exact Br.f (decide_eq_false h1) bad
def sp_Reader_taken_name (a : Ad) : SpD := fun ds c Q E => ∃ (t w : Addr) (s : Str) (p : Nat) (W : List D) (r : List Nat), ds = [.mo t] ∧ RSt a.c_Reader t w s p W c ∧ Rest s p r ∧ RdO a t w s W c (nmP' r) (fun x c' => nameB x = true → Q (.str x) c') E
theorem ok_Reader_taken_name : FnOk P w K mg base (L2.CX P w) 5 a.f_Reader_taken_name a.d_Reader_taken_name ["self"] (spOf K (sp_Reader_taken_name a)) := by
  refine okD T.F_Reader_taken_name sc_Reader_taken_name (fun ds c Q E h => ?_) (fun cdv A outer s H E G0 c0 ED good => ⟨_, _, (pds_cons (pds_set 1 sc_Reader_taken_name.nd (pd_methM good ((ok_Reader_take T).mono (by omega)) (cm_Reader_take T) (fun _ => .nil) (pd_v 0) (pda_cons (pd_gstr T.g_LETTERS) pda_nil)))
      (pds_cons (pds_while PassesOwn.leaving (pdw_pt (pdw_and (pdt_cm (pdc_lt (pd_callB cr_len br_lenA T.z_len bt_len (pda_cons (pd_v 1) pda_nil)) (pd_gint T.g_MOST_LETTERS))) (pdw_and (pdt_cm (pdc_neS (pd_methM0 good ((ok_Reader_sign T).mono (by omega)) (cm_Reader_sign T) (fun _ => .nil) (pd_v 0)) pd_str)) (pdw_and1 (pdt_cm (pdc_in good (pd_methM0 good ((ok_Reader_sign T).mono (by omega)) (cm_Reader_sign T) (fun _ => .nil) (pd_v 0)) (pd_gstr T.g_LETTERS)))))))
      (pds_one (pds_aug 1 sc_Reader_taken_name.nd iop_add_str br_addS (pd_methM good ((ok_Reader_take T).mono (by omega)) (cm_Reader_take T) (fun _ => .nil) (pd_v 0) (pda_cons (pd_gstr T.g_LETTERS) pda_nil)))))
      (pds_one (pds_ret (pd_v 1))))), ?_⟩)
  · obtain ⟨t, w, s, p, W, r, rfl, _⟩ := h; rfl
  · rintro ds Qd ⟨t, w, s, p, W, r, rfl, hS, hR, q⟩
    walk_at "w"
    refine rtakO hS hR L_let (q.bind fun k r1 e1 c1 p1 m1 S1 R1 q => ?_)
    have hk := tk_in e1
    refine ⟨fun m ρ c => ∃ p' acc l n, ρ = [.fz (.mo t), .fz (.str (sOf acc))] ∧ RSm t w c0 c ∧ RSt a.c_Reader t w s p' W c ∧ Rest s p' l ∧ acc.length + n = 8 ∧ 1 ≤ acc.length ∧ (∀ k ∈ acc, k ∈ lettersL) ∧ RdO a t w s W c (mlP n acc l) (fun x c' => nameB x = true → Qd (.str x) c') ED ∧ m = n,
      ⟨_, p1, [k], r1, 7, rfl, m1, S1, R1, rfl, Nat.le_refl _, (fun z hz => by rw [List.mem_singleton.mp hz]; exact hk), q, rfl⟩, ?_⟩
    clear q
    rintro n ρ c2 ⟨p2, acc, l, _, rfl, m2, S2, R2, hl, h1, hlet, q, rfl⟩
    have nm : nameB (sOf acc) = true := by
      unfold nameB
      rw [sOf_len, sOf_cps, decide_eq_true h1, decide_eq_true (show acc.length ≤ 8 by omega), List.all_eq_true.mpr fun k hk => decide_eq_true (hlet k hk)]
      rfl
    walk_at "w"
    refine ⟨by rw [sOf_len]; omega, ?_⟩
    rw [sOf_len]
    cases n with
    | zero =>
      refine Br.f (decide_eq_false (by omega)) ?_
      rw [if_neg Bool.false_ne_true]
      exact q c2 p2 .refl S2 R2 nm
    | succ n =>
      refine Br.t (decide_eq_true (by omega)) (rsign S2 R2 ?_)
      cases l with
      | nil =>
        simp only [hdS]
        walk_at "m"
        refine Br.f (nob emp_is) ?_
        exact q c2 p2 .refl S2 R2 nm
      | cons x l =>
        simp only [hdS]
        walk_at "m"
        refine Br.t (yesb one_ne) (rsign S2 R2 ?_)
        simp only [hdS]
        walk_at "m"
        by_cases hx : x ∈ lettersL
        · rw [show mlP (n + 1) acc (x :: l) = mlP n (acc ++ [x]) l from if_pos hx] at q
          rw [if_pos (by rw [L_let]; simpa using hx)]
          refine rtakO S2 R2 L_let ?_
          rw [show tkP lettersL (x :: l) = .ok x l from if_pos hx]
          intro c3 p3 m3 S3 R3
          walk_at "m"
          refine ⟨by rw [sOf_len, show (⟨#[x]⟩ : Str).length = 1 from rfl]; omega, ?_⟩
          refine ⟨n, Nat.lt_succ_self _, p3, acc ++ [x], l, n, by rw [sOf_snoc], m2.trans m3, S3, R3, by simp only [List.length_append, List.length_cons, List.length_nil]; omega, by simp, ?_, q.moved m3, rfl⟩
          intro z hz
          rcases List.mem_append.mp hz with hz | hz
          · exact hlet z hz
          · rw [List.mem_singleton.mp hz]; exact hx
        · rw [show mlP (n + 1) acc (x :: l) = .ok (sOf acc) (x :: l) from if_neg hx] at q
          rw [if_neg (by rw [L_let]; simpa using hx)]
          exact q c2 p2 .refl S2 R2 nm
def sp_Reader_leaf (a : Ad) : SpD := fun ds c Q E => ∃ (t w : Addr) (s : Str) (p : Nat) (W : List D) (r : List Nat), ds = [.mo t] ∧ RSt a.c_Reader t w s p W c ∧ Rest s p r ∧ RdO a t w s W c (lfP r) (fun f c' => Q (docD a f) c') E
theorem ok_Reader_leaf : FnOk P w K mg base (L2.CX P w) 7 a.f_Reader_leaf a.d_Reader_leaf ["self"] (spOf K (sp_Reader_leaf a)) := by
  refine okD T.F_Reader_leaf sc_Reader_leaf (fun ds c Q E h => ?_) (fun cdv A outer s H E G0 c0 ED good => ⟨_, _, (pds_cons (pds_if (pdt_cm (pdc_eqS (pd_methM0 good ((ok_Reader_sign T).mono (by omega)) (cm_Reader_sign T) (fun _ => .nil) (pd_v 0)) pd_str)) (pds_one (pds_ret (pd_callC good ((ok_text T).mono (by omega)) (c_text_1 T) (fun _ => .nil) (pda_cons (pd_methM0 good ((ok_Reader_string_in_quotes T).mono (by omega)) (cm_Reader_string_in_quotes T) (fun _ => .nil) (pd_v 0)) pda_nil)))) pss_nil')
      (pds_cons (pds_if (pdt_cm (pdc_eqS (pd_methM0 good ((ok_Reader_sign T).mono (by omega)) (cm_Reader_sign T) (fun _ => .nil) (pd_v 0)) pd_str)) (pds_cons (pds_expr (pd_methM good ((ok_Reader_take T).mono (by omega)) (cm_Reader_take T) (fun _ => .nil) (pd_v 0) (pda_cons pd_str pda_nil)))
      (pds_one (pds_ret (pd_callC good ((ok_line T).mono (by omega)) (c_line_1 T) (fun _ => .nil) (pda_cons (pd_methM0 good ((ok_Reader_string_in_quotes T).mono (by omega)) (cm_Reader_string_in_quotes T) (fun _ => .nil) (pd_v 0)) pda_nil))))) pss_nil')
      (pds_cons (pds_if (pdt_cm (pdc_eqS (pd_methM0 good ((ok_Reader_sign T).mono (by omega)) (cm_Reader_sign T) (fun _ => .nil) (pd_v 0)) pd_str)) (pds_cons (pds_expr (pd_methM good ((ok_Reader_take T).mono (by omega)) (cm_Reader_take T) (fun _ => .nil) (pd_v 0) (pda_cons pd_str pda_nil)))
      (pds_one (pds_ret (pd_callC good ((ok_line T).mono (by omega)) (c_line_1 T) (fun _ => .nil) (pda_cons pd_non pda_nil))))) pss_nil')
      (pds_one (pds_ret (pd_callC good ((ok_hole T).mono (by omega)) (c_hole_1 T) (fun _ => .nil) (pda_cons (pd_methM0 good ((ok_Reader_taken_name T).mono (by omega)) (cm_Reader_taken_name T) (fun _ => .nil) (pd_v 0)) pda_nil))))))), ?_⟩)
  · obtain ⟨t, w, s, p, W, r, rfl, _⟩ := h; rfl
  · rintro ds Qd ⟨t, w, s, p, W, r, rfl, hS, hR, q⟩
    walk_at "w"
    refine rsign hS hR ?_
    walk_at "m"
    rw [hd_is (g := Str.ofString "\"") (x := 34) rfl (by decide)]
    unfold lfP at q
    by_cases h34 : hd0 r = 34
    · rw [if_pos h34] at q
      refine Br.t (decide_eq_true h34) (rmeth hS (by decide) ⟨t, w, s, p, W, r, rfl, hS, hR, q.bind fun x r1 e1 c1 p1 m1 S1 R1 q hx => ?_⟩)
      walk_at "m"
      exact ⟨x, rfl, hx, q c1 p1 .refl S1 R1⟩
    rw [if_neg h34] at q
    refine Br.f (decide_eq_false h34) (rsign hS hR ?_)
    walk_at "m"
    rw [hd_is (g := Str.ofString "_") (x := 95) rfl (by decide)]
    by_cases h95 : hd0 r = 95
    · rw [if_pos h95] at q
      refine Br.t (decide_eq_true h95) (rtakX hS hR (x := 95) rfl (q.bind fun _ r1 e1 c1 p1 m1 S1 R1 q => ?_))
      refine rmeth S1 (by decide) ⟨t, w, s, p1, W, r1, rfl, S1, R1, q.bind fun x r2 e2 c2 p2 m2 S2 R2 q hx => ?_⟩
      walk_at "m"
      exact ⟨some x, rfl, (fun z e => by cases e; exact hx), q c2 p2 .refl S2 R2⟩
    rw [if_neg h95] at q
    refine Br.f (decide_eq_false h95) (rsign hS hR ?_)
    walk_at "m"
    rw [hd_is (g := Str.ofString "!") (x := 33) rfl (by decide)]
    by_cases h33 : hd0 r = 33
    · rw [if_pos h33] at q
      refine Br.t (decide_eq_true h33) (rtakX hS hR (x := 33) rfl (q.bind fun _ r1 e1 c1 p1 m1 S1 R1 q => ?_))
      walk_at "m"
      exact ⟨none, rfl, (fun z e => by cases e), q c1 p1 .refl S1 R1⟩
    rw [if_neg h33] at q
    refine Br.f (decide_eq_false h33) (rmeth hS (by decide) ⟨t, w, s, p, W, r, rfl, hS, hR, q.bind fun x r1 e1 c1 p1 m1 S1 R1 q hx => ?_⟩)
    walk_at "m"
    exact ⟨x, rfl, nameS hx, hx, q c1 p1 .refl S1 R1⟩
omit T in
section
def fwD (a : Ad) : Fw → D
  | .par => .tup [.str "(", .non]
  | .nest n => .tup [.str "<", .int n]
  | .grp => .tup [.str "[", .non]
  | .flt => .tup [.str "{", .non]
  | .par2 s f => .tup [.str ⟨#[s]⟩, docD a f]
def fwsD (a : Ad) (F : List Fw) : List D := F.reverse.map (fwD a)
theorem fwsD_cons (a : Ad) (x : Fw) (F : List Fw) : fwsD a (x :: F) = fwsD a F ++ [fwD a x] := by simp [fwsD]
end
def sp_Reader_begin (a : Ad) : SpD := fun ds c Q E => ∃ (t w : Addr) (s : Str) (p : Nat) (W : List Fw) (r : List Nat), ds = [.mo t] ∧ RSt a.c_Reader t w s p (fwsD a W) c ∧ Rest s p r ∧ (∀ x ∈ W, x.ok) ∧ W.length ≤ p ∧
  (∀ W' r' c' p', hd0 r' ∉ [40, 60, 91, 123] → (∀ x ∈ W', x.ok) → W'.length ≤ p' → r'.length ≤ r.length → omP W' r' = omP W r → RSm t w c c' → RSt a.c_Reader t w s p' (fwsD a W') c' → Rest s p' r' → Q .non c') ∧
  (∀ j c', omP W r = .bad j → c'.n = c.n → E a.c_Unreadable ["at"] [.int ((s.length - j : Nat) : Int)] c')
theorem ok_Reader_begin : FnOk P w K mg base (L2.CX P w) 7 a.f_Reader_begin a.d_Reader_begin ["self"] (spOf K (sp_Reader_begin a)) := by
  refine okD T.F_Reader_begin sc_Reader_begin (fun ds c Q E h => ?_) (fun cdv A outer s H E G0 c0 ED good => ⟨_, _, (pds_one (pds_while PassesOwn.leaving (pdw_pt (pdw_and (pdt_cm (pdc_neS (pd_methM0 good ((ok_Reader_sign T).mono (by omega)) (cm_Reader_sign T) (fun _ => .nil) (pd_v 0)) pd_str)) (pdw_and1 (pdt_cm (pdc_in good (pd_methM0 good ((ok_Reader_sign T).mono (by omega)) (cm_Reader_sign T) (fun _ => .nil) (pd_v 0)) pd_str)))))
      (pds_cons (pds_set 1 sc_Reader_begin.nd (pd_methM good ((ok_Reader_take T).mono (by omega)) (cm_Reader_take T) (fun _ => .nil) (pd_v 0) (pda_cons pd_str pda_nil)))
      (pds_one (pds_appM (pd_fldM T.D_Reader_waiting.cl T.D_Reader_waiting.no (pd_v 0)) (pda_cons (pd_tup (pda_cons (pd_v 1) (pda_cons (pd_ifExp (pdt_cm (pdc_eqS (pd_v 1) pd_str)) (pd_methM0 good ((ok_Reader_taken_steps T).mono (by omega)) (cm_Reader_taken_steps T) (fun _ => .nil) (pd_v 0)) pd_non) pda_nil))) pda_nil)))))), ?_⟩)
  · obtain ⟨t, w, s, p, n, r, rfl, _⟩ := h; rfl
  · rintro ds Qd ⟨t, w, s, p, W, r, rfl, hS, hR, hW, hp, q, qe⟩
    walk_at "w"
    refine ⟨fun m ρ c => ∃ W' r' p' s1, ρ = [.fz (.mo t), s1] ∧ RSm t w c0 c ∧ RSt a.c_Reader t w s p' (fwsD a W') c ∧ Rest s p' r' ∧ (∀ x ∈ W', x.ok) ∧ W'.length ≤ p' ∧ r'.length ≤ r.length ∧ omP W' r' = omP W r ∧ m = r'.length, ⟨_, W, r, p, _, rfl, .refl, hS, hR, hW, hp, Nat.le_refl _, rfl, rfl⟩, ?_⟩
    clear hS hR hW hp
    rintro m ρ c2 ⟨V, l, p2, s1, rfl, m2, S2, R2, hV, hp, hl, eq, rfl⟩
    walk_at "w"
    have hl2 := R2.l
    have hn := S2.n
    have hfl : (fwsD a V).length = V.length := by simp [fwsD]
    refine rsign S2 R2 ?_
    cases l with
    | nil =>
      simp only [hdS]
      walk_at "m"
      refine Br.f (nob emp_is) ?_
      exact q V [] c2 p2 (by decide) hV hp hl eq m2 S2 R2
    | cons x l =>
      simp only [List.length_cons] at hl hl2
      simp only [hdS]
      walk_at "m"
      refine Br.t (yesb one_ne) (rsign S2 R2 ?_)
      simp only [hdS]
      walk_at "m"
      by_cases hx : x ∈ [40, 60, 91, 123]
      · rw [if_pos (by rw [L_open]; simpa using hx)]
        refine rtakO S2 R2 L_open ?_
        rw [show tkP [40, 60, 91, 123] (x :: l) = .ok x l from if_pos hx]
        intro c3 p3 m3 S3 R3
        have hl3 := R3.l
        rw [S3.ht]
        walk_at "m"
        rw [S3.hw]
        walk_at "m"
        have fin : ∀ {fr : Fw} {c4 : CN} {p4 : Nat} {l4 : List Nat} {sl : Sl}, fr.ok → RSm t w c0 c4 → RSt a.c_Reader t w s p4 (fwsD a V) c4 → Rest s p4 l4 → V.length + 1 ≤ p4 → l4.length ≤ l.length → omP (fr :: V) l4 = omP W r →
            ∃ m', m' < (x :: l).length ∧ ∃ W' r' p' s1, ([.fz (.mo t), sl] : DEnv) = [.fz (.mo t), s1] ∧ RSm t w c0 (c4.put w (.lst (fwsD a V ++ [fwD a fr]))) ∧ RSt a.c_Reader t w s p' (fwsD a W') (c4.put w (.lst (fwsD a V ++ [fwD a fr]))) ∧ Rest s p' r' ∧ (∀ x ∈ W', x.ok) ∧ W'.length ≤ p' ∧ r'.length ≤ r.length ∧ omP W' r' = omP W r ∧ m' = r'.length := fun {fr c4 p4 l4 sl} ho m4 S4 R4 h4 h5 e4 => by
          obtain ⟨S5, m5⟩ := S4.putW (fwsD a (fr :: V))
          rw [fwsD_cons] at S5 m5
          refine ⟨l4.length, by simp only [List.length_cons]; omega, fr :: V, l4, p4, _, rfl, m4.trans m5, by rw [fwsD_cons]; exact S5, R4, ?_, by simp only [List.length_cons]; exact h4, by omega, e4, rfl⟩
          intro z hz
          rcases List.mem_cons.mp hz with rfl | hz
          · exact ho
          · exact hV z hz
        simp only [List.mem_cons, List.not_mem_nil, or_false] at hx
        rcases hx with rfl | rfl | rfl | rfl
        · refine Br.f (by decide) ?_
          rw [omP_par'] at eq
          exact ⟨by omega, fin (fr := .par) trivial (m2.trans m3) S3 R3 (by omega) (Nat.le_refl _) eq⟩
        · rw [omP_nest'] at eq
          refine Br.t (by decide) (rmeth S3 (by decide) ⟨t, w, s, p3, _, l, rfl, S3, R3, ?_⟩)
          cases e : stP l with
          | bad j =>
            rw [e] at eq
            intro c4 n4
            exact qe j c4 eq.symm (n4.trans (m3.n.trans m2.n))
          | ok i r4 =>
            rw [e] at eq
            intro c4 p4 m4 S4 R4
            have ls := stP_sub (r := l)
            rw [e] at ls
            have l4 := R4.l
            have l5 := ls.2
            walk_at "m"
            rw [S4.hw]
            walk_at "m"
            exact ⟨by omega, fin (fr := .nest i) (stP_rng e) ((m2.trans m3).trans m4) S4 R4 (by omega) (Nat.le_of_lt ls.2) eq⟩
        · refine Br.f (by decide) ?_
          rw [omP_grp'] at eq
          exact ⟨by omega, fin (fr := .grp) trivial (m2.trans m3) S3 R3 (by omega) (Nat.le_refl _) eq⟩
        · refine Br.f (by decide) ?_
          rw [omP_flt'] at eq
          exact ⟨by omega, fin (fr := .flt) trivial (m2.trans m3) S3 R3 (by omega) (Nat.le_refl _) eq⟩
      · rw [if_neg (by rw [L_open]; simpa using hx)]
        exact q V (x :: l) c2 p2 hx hV hp (by simp only [List.length_cons]; exact hl) eq m2 S2 R2
def sp_Reader_close (a : Ad) : SpD := fun ds c Q E => ∃ (t w : Addr) (s : Str) (p : Nat) (f : Fm) (W : List Fw) (r : List Nat), ds = [.mo t, docD a f] ∧ RSt a.c_Reader t w s p (fwsD a W) c ∧ Rest s p r ∧ (∀ x ∈ W, x.ok) ∧ W.length ≤ p ∧
  (∀ g r' c' p', clP W f r = clP [] g r' → RSm t w c c' → RSt a.c_Reader t w s p' [] c' → Rest s p' r' → Q (docD a g) c') ∧
  (∀ W' r' c' p', (∀ x ∈ W', x.ok) → W'.length ≤ p' → r'.length < r.length → clP W f r = omP W' r' → RSm t w c c' → RSt a.c_Reader t w s p' (fwsD a W') c' → Rest s p' r' → Q .non c') ∧
  (∀ j c', clP W f r = .bad j → c'.n = c.n → E a.c_Unreadable ["at"] [.int ((s.length - j : Nat) : Int)] c')
theorem ok_Reader_close : FnOk P w K mg base (L2.CX P w) 7 a.f_Reader_close a.d_Reader_close ["self", "doc"] (spOf K (sp_Reader_close a)) := by
  refine okD T.F_Reader_close sc_Reader_close (fun ds c Q E h => ?_) (fun cdv A outer s H E G0 c0 ED good => ⟨_, _, (pds_cons (pds_while PassesOwn.leaving (pdt_cm (pdc_neM good (pd_fldM T.D_Reader_waiting.cl T.D_Reader_waiting.no (pd_v 0))))
      (pds_cons (pds_asg (pd_popM (pd_fldM T.D_Reader_waiting.cl T.D_Reader_waiting.no (pd_v 0))) (pdg_seq (n := 2) good.calm (pdg_cons (pdg_name 2 sc_Reader_close.nd) (pdg_cons (pdg_name 3 sc_Reader_close.nd) pdg_nil))))
      (pds_cons (pds_if (pdt_cm (pdc_eqS (pd_v 2) pd_str)) (pds_cons (pds_expr (pd_methM good ((ok_Reader_take T).mono (by omega)) (cm_Reader_take T) (fun _ => .nil) (pd_v 0) (pda_cons pd_str pda_nil)))
      (pds_cons (pds_appM (pd_fldM T.D_Reader_waiting.cl T.D_Reader_waiting.no (pd_v 0)) (pda_cons (pd_tup (pda_cons (pd_methM good ((ok_Reader_take T).mono (by omega)) (cm_Reader_take T) (fun _ => .nil) (pd_v 0) (pda_cons pd_str pda_nil)) (pda_cons (pd_v 1) pda_nil))) pda_nil))
      (pds_cons (pds_expr (pd_methM good ((ok_Reader_take T).mono (by omega)) (cm_Reader_take T) (fun _ => .nil) (pd_v 0) (pda_cons pd_str pda_nil)))
      (pds_one (pds_ret pd_non))))) pss_nil')
      (pds_one (pds_if (pdt_cm (pdc_eqS (pd_v 2) pd_str)) (pds_cons (pds_expr (pd_methM good ((ok_Reader_take T).mono (by omega)) (cm_Reader_take T) (fun _ => .nil) (pd_v 0) (pda_cons pd_str pda_nil)))
      (pds_one (pds_set 1 sc_Reader_close.nd (pd_meth good ((ok_Doc_nested T).mono (by omega)) (cm_Doc_nested T) (fun _ => .nil) (pd_v 1) (pda_cons (pd_v 3) pda_nil))))) (pds_one (pds_if (pdt_cm (pdc_eqS (pd_v 2) pd_str)) (pds_cons (pds_expr (pd_methM good ((ok_Reader_take T).mono (by omega)) (cm_Reader_take T) (fun _ => .nil) (pd_v 0) (pda_cons pd_str pda_nil)))
      (pds_one (pds_set 1 sc_Reader_close.nd (pd_meth0 good ((ok_Doc_group T).mono (by omega)) (cm_Doc_group T) (fun _ => .nil) (pd_v 1))))) (pds_one (pds_if (pdt_cm (pdc_eqS (pd_v 2) pd_str)) (pds_cons (pds_expr (pd_methM good ((ok_Reader_take T).mono (by omega)) (cm_Reader_take T) (fun _ => .nil) (pd_v 0) (pda_cons pd_str pda_nil)))
      (pds_one (pds_set 1 sc_Reader_close.nd (pd_meth0 good ((ok_Doc_flattened T).mono (by omega)) (cm_Doc_flattened T) (fun _ => .nil) (pd_v 1))))) (pds_cons (pds_expr (pd_methM good ((ok_Reader_take T).mono (by omega)) (cm_Reader_take T) (fun _ => .nil) (pd_v 0) (pda_cons pd_str pda_nil)))
      (pds_one (pds_set 1 sc_Reader_close.nd (pd_ifExp (pdt_cm (pdc_eqS (pd_v 2) pd_str)) (pd_addO good T.O_Doc T.M_Doc___add__ ((ok_Doc___add__ T).mono (by omega)) (b_Doc___add__ T) (pd_v 3) (pd_v 1)) (pd_orO good T.O_Doc T.M_Doc___or__ ((ok_Doc___or__ T).mono (by omega)) (b_Doc___or__ T) (pd_v 3) (pd_v 1)))))))))))))))
      (pds_one (pds_ret (pd_v 1)))), ?_⟩)
  · obtain ⟨t, w, s, p, f, W, r, rfl, _⟩ := h; rfl
  · rintro ds Qd ⟨t, w, s, p, f, W, r, rfl, hS, hR, hW, hp, q1, q2, qe⟩
    walk_at "w"
    refine ⟨fun m ρ c => ∃ f' W' r' p' s2 s3, ρ = [.fz (.mo t), .fz (docD a f'), s2, s3] ∧ RSm t w c0 c ∧ RSt a.c_Reader t w s p' (fwsD a W') c ∧ Rest s p' r' ∧ (∀ x ∈ W', x.ok) ∧ W'.length ≤ p' ∧ r'.length ≤ r.length ∧ clP W f r = clP W' f' r' ∧ m = W'.length, ⟨_, f, W, r, p, _, _, rfl, .refl, hS, hR, hW, hp, Nat.le_refl _, rfl, rfl⟩, ?_⟩
    clear hS hR hW hp
    rintro m ρ c2 ⟨g, V, l, p2, s2, s3, rfl, m2, S2, R2, hV, hp, hl, eq, rfl⟩
    walk_at "w"
    rw [S2.ht]
    walk_at "m"
    rw [S2.hw]
    walk_at "m"
    cases V with
    | nil =>
      rw [if_neg (by simp [fwsD])]
      exact q1 g l c2 p2 eq m2 S2 R2
    | cons fr V =>
      rw [if_pos (by rw [fwsD_cons]; simp)]
      refine ⟨fwsD a V, fwD a fr, fwsD_cons a fr V, ?_⟩
      simp only [List.length_cons] at hp
      have hl2 := R2.l
      have hn := S2.n
      have hfl : (fwsD a V).length = V.length := by simp [fwsD]
      obtain ⟨S3, m3⟩ := S2.putW (fwsD a V)
      generalize c2.put w (.lst (fwsD a V)) = c3 at S3 m3 ⊢
      have hV' : ∀ x ∈ V, x.ok := fun x hx => hV x (List.mem_cons_of_mem _ hx)
      have hfr := hV fr List.mem_cons_self
      have fin : ∀ {g' : Fm} {x : Nat} {c4 : CN} {p4 : Nat} {l4 : List Nat} {sl sl2 : Sl}, exP x l = .ok () l4 → RSm t w c3 c4 → RSt a.c_Reader t w s p4 (fwsD a V) c4 → Rest s p4 l4 → clP W f r = clP V g' l4 →
          ∃ m', m' < (fr :: V).length ∧ ∃ f' W' r' p' s2 s3, ([.fz (.mo t), .fz (docD a g'), sl, sl2] : DEnv) = [.fz (.mo t), .fz (docD a f'), s2, s3] ∧ RSm t w c0 c4 ∧ RSt a.c_Reader t w s p' (fwsD a W') c4 ∧ Rest s p' r' ∧ (∀ x ∈ W', x.ok) ∧ W'.length ≤ p' ∧ r'.length ≤ r.length ∧ clP W f r = clP W' f' r' ∧ m' = W'.length := fun {g' x c4 p4 l4 sl sl2} e m4 S4 R4 h => by
        have ls := exP_sub (x := x) (r := l)
        rw [e] at ls
        have l4 := R4.l
        have l5 := ls.2
        exact ⟨V.length, Nat.lt_succ_self _, g', V, _, p4, _, _, rfl, (m2.trans m3).trans m4, S4, R4, hV', by omega, by omega, h, rfl⟩
      cases fr with
      | par =>
        simp only [fwD]
        walk_at "m"
        rw [clP_par] at eq
        have ls := exP_sub (x := 32) (r := l)
        cases e : exP 32 l with
        | bad j =>
          refine rtakX S3 R2 (x := 32) rfl ?_
          rw [e] at eq ⊢
          exact fun c4 n4 => qe j c4 eq (n4.trans (m3.n.trans m2.n))
        | ok _ l4 =>
        rw [e] at eq ls
        have eq : clP W f r = (tkP [43, 124] l4).bind fun s r3 => (exP 32 r3).bind fun _ r4 => omP (.par2 s g :: V) r4 := eq
        refine rtakX S3 R2 (x := 32) rfl ?_
        rw [e]
        intro c4 p4 m4 S4 R4
        rw [S4.ht]
        walk_at "m"
        rw [S4.hw]
        walk_at "m"
        have k1 := ls.2
        have ls2 := tkP_sub (g := [43, 124]) (r := l4)
        refine ⟨t, w, s, p4, _, l4, Str.ofString "+|", rfl, S4, R4, ?_⟩
        rw [show (Str.ofString "+|").cps.toList = [43, 124] by decide]
        cases e2 : tkP [43, 124] l4 with
        | bad j =>
          rw [e2] at eq
          exact fun c5 n5 => qe j c5 eq (n5.trans (m4.n.trans (m3.n.trans m2.n)))
        | ok y l5 =>
        rw [e2] at eq ls2
        have eq : clP W f r = (exP 32 l5).bind fun _ r4 => omP (.par2 y g :: V) r4 := eq
        have hy := tk_mem e2
        simp only [List.mem_cons, List.not_mem_nil, or_false] at hy
        have k2 := ls2.2
        intro c5 p5 m5 S5 R5
        have j5 := R5.l
        walk_at "m"
        rw [S5.hw]
        walk_at "m"
        obtain ⟨S6, m6⟩ := S5.putW (fwsD a (.par2 y g :: V))
        rw [fwsD_cons, show fwD a (.par2 y g) = D.tup [D.str ⟨#[y]⟩, docD a g] from rfl] at S6 m6
        have ls3 := exP_sub (x := 32) (r := l5)
        refine ⟨by omega, ?_⟩
        refine rtakX S6 R5 (x := 32) rfl ?_
        cases e3 : exP 32 l5 with
        | bad j =>
          rw [e3] at eq
          exact fun c7 n7 => qe j c7 eq (n7.trans (m6.n.trans (m5.n.trans (m4.n.trans (m3.n.trans m2.n)))))
        | ok _ l7 =>
        rw [e3] at eq ls3
        have k3 := ls3.2
        intro c7 p7 m7 S7 R7
        have j7 := R7.l
        walk_at "m"
        refine q2 (.par2 y g :: V) l7 c7 p7 ?_ (by simp only [List.length_cons]; omega) (by omega) eq (((((m2.trans m3).trans m4).trans m5).trans m6).trans m7) (by rw [fwsD_cons, show fwD a (.par2 y g) = D.tup [D.str ⟨#[y]⟩, docD a g] from rfl]; exact S7) R7
        intro z hz
        rcases List.mem_cons.mp hz with rfl | hz
        · exact hy
        · exact hV' z hz
      | nest i =>
        simp only [fwD]
        walk_at "m"
        have eq : clP W f r = (exP 62 l).bind fun _ r1 => clP V (.nested i g) r1 := eq
        refine rtakX S3 R2 (x := 62) rfl ?_
        cases e : exP 62 l with
        | bad j => rw [e] at eq; exact fun c4 n4 => qe j c4 eq (n4.trans (m3.n.trans m2.n))
        | ok _ l4 =>
          rw [e] at eq
          intro c4 p4 m4 S4 R4
          simp only [docD]
          walk_at "m"
          exact ⟨g, i, rfl, hfr.1, hfr.2, fin e m4 S4 R4 eq⟩
      | grp =>
        simp only [fwD]
        walk_at "m"
        have eq : clP W f r = (exP 93 l).bind fun _ r1 => clP V (.group g) r1 := eq
        refine rtakX S3 R2 (x := 93) rfl ?_
        cases e : exP 93 l with
        | bad j => rw [e] at eq; exact fun c4 n4 => qe j c4 eq (n4.trans (m3.n.trans m2.n))
        | ok _ l4 =>
          rw [e] at eq
          intro c4 p4 m4 S4 R4
          simp only [docD]
          walk_at "m"
          exact ⟨g, rfl, fin e m4 S4 R4 eq⟩
      | flt =>
        simp only [fwD]
        walk_at "m"
        have eq : clP W f r = (exP 125 l).bind fun _ r1 => clP V (.flat g) r1 := eq
        refine rtakX S3 R2 (x := 125) rfl ?_
        cases e : exP 125 l with
        | bad j => rw [e] at eq; exact fun c4 n4 => qe j c4 eq (n4.trans (m3.n.trans m2.n))
        | ok _ l4 =>
          rw [e] at eq
          intro c4 p4 m4 S4 R4
          simp only [docD]
          walk_at "m"
          exact ⟨g, rfl, fin e m4 S4 R4 eq⟩
      | par2 y f1 =>
        simp only [fwD]
        have eq : clP W f r = (exP 41 l).bind fun _ r1 => clP V (binF y f1 g) r1 := eq
        rcases hfr with rfl | rfl
        · walk_at "m"
          refine Br.f (by decide) ?_
          refine Br.f (by decide) (Br.f (by decide) (Br.f (by decide) ?_))
          refine rtakX S3 R2 (x := 41) rfl ?_
          cases e : exP 41 l with
          | bad j => rw [e] at eq; exact fun c4 n4 => qe j c4 eq (n4.trans (m3.n.trans m2.n))
          | ok _ l4 =>
            rw [e] at eq
            intro c4 p4 m4 S4 R4
            walk_at "m"
            refine Br.t (by decide) ?_
            exact dadd (fin e m4 S4 R4 eq)
        · walk_at "m"
          refine Br.f (by decide) ?_
          refine Br.f (by decide) (Br.f (by decide) (Br.f (by decide) ?_))
          refine rtakX S3 R2 (x := 41) rfl ?_
          cases e : exP 41 l with
          | bad j => rw [e] at eq; exact fun c4 n4 => qe j c4 eq (n4.trans (m3.n.trans m2.n))
          | ok _ l4 =>
            rw [e] at eq
            intro c4 p4 m4 S4 R4
            walk_at "m"
            refine Br.f (by decide) ?_
            exact dor (fin e m4 S4 R4 eq)
def sp_Reader_whole (a : Ad) : SpD := fun ds c Q E => ∃ (t w : Addr) (s : Str) (r : List Nat), ds = [.mo t] ∧ RSt a.c_Reader t w s 0 [] c ∧ Rest s 0 r ∧ (∀ f r' c', whP r = .ok f r' → c'.n = c.n → Q (docD a f) c') ∧ (∀ j c', whP r = .bad j → c'.n = c.n → E a.c_Unreadable ["at"] [.int ((s.length - j : Nat) : Int)] c')
theorem ok_Reader_whole : FnOk P w K mg base (L2.CX P w) 9 a.f_Reader_whole a.d_Reader_whole ["self"] (spOf K (sp_Reader_whole a)) := by
  refine okD T.F_Reader_whole sc_Reader_whole (fun ds c Q E h => ?_) (fun cdv A outer s H E G0 c0 ED good => ⟨_, _, (pds_cons (pds_set 1 sc_Reader_whole.nd pd_non)
      (pds_cons (pds_while PassesOwn.leaving (pdt_cm (pdc_isN (pd_v 1)))
      (pds_cons (pds_expr (pd_methM0 good ((ok_Reader_begin T).mono (by omega)) (cm_Reader_begin T) (fun _ => .nil) (pd_v 0)))
      (pds_one (pds_set 1 sc_Reader_whole.nd (pd_methM good ((ok_Reader_close T).mono (by omega)) (cm_Reader_close T) (fun _ => .nil) (pd_v 0) (pda_cons (pd_methM0 good ((ok_Reader_leaf T).mono (by omega)) (cm_Reader_leaf T) (fun _ => .nil) (pd_v 0)) pda_nil))))))
      (pds_cons (pds_if (pdt_cm (pdc_neS (pd_methM0 good ((ok_Reader_sign T).mono (by omega)) (cm_Reader_sign T) (fun _ => .nil) (pd_v 0)) pd_str)) (pds_one (pds_raise1 good (by omega) T.x_Unreadable.o T.x_Unreadable.no T.x_Unreadable.iC T.x_Unreadable.tI (ok_init_Unreadable T) (b_init_Unreadable T) T.x_Unreadable.m (pda_cons (pd_fldM T.D_Reader_at.cl T.D_Reader_at.no (pd_v 0)) pda_nil))) pss_nil')
      (pds_one (pds_ret (pd_v 1)))))), ?_⟩)
  · obtain ⟨t, w, s, r, rfl, _⟩ := h; rfl
  · rintro ds Qd ⟨t, w, s, r, rfl, hS, hR, q, qe⟩
    walk_at "w"
    refine ⟨fun m ρ c => (∃ W l p', ρ = [.fz (.mo t), .fz .non] ∧ RSm t w c0 c ∧ RSt a.c_Reader t w s p' (fwsD a W) c ∧ Rest s p' l ∧ (∀ x ∈ W, x.ok) ∧ W.length ≤ p' ∧ omP W l = whP r ∧ m = l.length + 1) ∨ (∃ g l p', ρ = [.fz (.mo t), .fz (docD a g)] ∧ RSm t w c0 c ∧ RSt a.c_Reader t w s p' [] c ∧ Rest s p' l ∧ clP [] g l = whP r ∧ m = 0),
      ⟨_, .inl ⟨[], r, 0, rfl, .refl, hS, hR, (fun x hx => nomatch hx), Nat.le_refl _, rfl, rfl⟩⟩, ?_⟩
    rintro m ρ c2 (⟨W, l, p2, rfl, m2, S2, R2, hW, hp, eq, rfl⟩ | ⟨g, l, p2, rfl, m2, S2, R2, eq, rfl⟩)
    · walk_at "w"
      refine rmeth S2 (by decide) ⟨t, w, s, p2, W, l, rfl, S2, R2, hW, hp, fun W3 l3 c3 p3 ho hW3 hp3 hl3 eq3 m3 S3 R3 => ?_, fun j c3 e n3 => qe j c3 (eq.symm.trans e) (n3.trans m2.n)⟩
      rw [eq] at eq3
      rw [omP_leaf ho] at eq3
      walk_at "w"
      refine rmeth S3 (by decide) (rmeth S3 (by decide) ⟨t, w, s, p3, _, l3, rfl, S3, R3, ?_⟩)
      have ls := lfP_sub (r := l3)
      cases e : lfP l3 with
      | bad j =>
        rw [e] at eq3
        exact fun c4 n4 => qe j c4 eq3.symm (n4.trans (m3.n.trans m2.n))
      | ok f l4 =>
      rw [e] at eq3 ls
      have k4 := ls.2
      intro c4 p4 m4 S4 R4
      have j3 := R3.l
      have j4 := R4.l
      refine ⟨t, w, s, p4, f, W3, l4, rfl, S4, R4, hW3, by omega, fun g l5 c5 p5 eq5 m5 S5 R5 => ?_, fun W5 l5 c5 p5 hW5 hp5 hl5 eq5 m5 S5 R5 => ?_, fun j c5 eq5 n5 => ?_⟩
      · exact ⟨0, Nat.succ_pos _, .inr ⟨g, l5, p5, rfl, ((m2.trans m3).trans m4).trans m5, S5, R5, eq5.symm.trans eq3, rfl⟩⟩
      · exact ⟨_, by omega, .inl ⟨W5, l5, p5, rfl, ((m2.trans m3).trans m4).trans m5, S5, R5, hW5, hp5, eq5.symm.trans eq3, rfl⟩⟩
      · exact qe j c5 (eq3.symm.trans eq5) (n5.trans (m4.n.trans (m3.n.trans m2.n)))
    · simp only [docD]
      walk_at "w"
      rw [if_neg Bool.false_ne_true]
      refine rsign S2 R2 ?_
      cases l with
      | nil =>
        simp only [hdS]
        walk_at "m"
        exact q g [] c2 eq.symm m2.n
      | cons x l =>
        simp only [hdS]
        walk_at "m"
        refine Br.t (yesb one_ne) ?_
        rw [S2.ht]
        walk_at "m"
        have e : p2 = s.length - (l.length + 1) := rest_at R2
        rw [e]
        exact qe _ c2 eq.symm m2.n
def sp_read (a : Ad) : SpD := fun ds c Q E => ∃ d : D, ds = [d] ∧ ((∃ s : Str, d = .str s ∧ s.length ≤ 1000000 ∧ (∀ f r' c', whP s.cps.toList = .ok f r' → c'.n = c.n → Q (docD a f) c') ∧ (∀ j c', whP s.cps.toList = .bad j → c'.n = c.n → E a.c_Unreadable ["at"] [.int ((s.length - j : Nat) : Int)] c')) ∨
  ((∀ s, d ≠ .str s) ∧ Pl 2 d ∧ E a.c_Unreadable ["at"] [.int 0] c))
theorem ok_read : FnOk P w K mg base (L2.CX P w) 11 a.f_read a.d_read ["string"] (spOf K (sp_read a)) := by
  refine okD T.F_read sc_read (fun ds c Q E h => ?_) (fun cdv A outer s H E G0 c0 ED good => ⟨_, _, (pds_cons (pds_if (pdt_not (pdt_val (pd_callB call_isi (br_isaA (IC := IC0 a) (hI0 T)) T.z_isinstance bt_isinstance (pda_cons (pd_v 0) (pda_cons (pd_bty T.z_str bt_str) pda_nil))))) (pds_one (pds_raise1 good (by omega) T.x_Unreadable.o T.x_Unreadable.no T.x_Unreadable.iC T.x_Unreadable.tI (ok_init_Unreadable T) (b_init_Unreadable T) T.x_Unreadable.m (pda_cons pd_int pda_nil))) pss_nil')
      (pds_one (pds_ret (pd_methM0 good ((ok_Reader_whole T).mono (by omega)) (cm_Reader_whole T) (fun _ => .nil) (pd_makeM (good.mono (j := 2) (by omega)) T.D_Reader_string.make T.D_Reader_string.m (ok_Reader___init__ T) (b_Reader___init__ T) (pda_cons (pd_v 0) pda_nil)))))), ?_⟩)
  · obtain ⟨d, rfl, _⟩ := h; rfl
  · rintro ds Qd ⟨d, rfl, ⟨s, rfl, hl, q, qe⟩ | ⟨ns, pl, q⟩⟩
    · walk_at "w"
      intro t ht
      refine ⟨t, _, rfl, put_self, hl, fun w c2 hw m2 S2 => ⟨rfl, rmeth S2 (by decide) ⟨t, w, _, _, rfl, S2, Rest.all s, fun f r' c3 e n3 => q f r' c3 e (n3.trans (m2.n.trans rfl)), fun j c3 e n3 => qe j c3 e (n3.trans (m2.n.trans rfl))⟩⟩⟩
    · have hk : (kind d).isSome = true := kind_pl pl
      cases d with
      | str s => exact absurd rfl (ns s)
      | _ => first | (cases hk; done) | (walk_at "w"; first | exact q | exact ⟨.inl hk, q⟩)
def sp__law_at : SpD := fun ds c Q _ => ∃ (ns : List Int) (k : Nat), ds = [.scr ns, .int k] ∧ ∀ i, Q (.int i) c
theorem ok__law_at : FnOk P w K mg base (L2.CX P w) 1 a.f__law_at a.d__law_at ["_law_script", "_law_k"] (spOf K sp__law_at) := by
  refine okD T.F__law_at sc__law_at (fun ds c Q E h => ?_) (fun cdv A outer s H E G0 c0 ED good => ⟨_, _, (pds_cons (pds_if (pdt_cm (pdc_lt (pd_v 1) (pd_callB cr_len br_lenA T.z_len bt_len (pda_cons (pd_v 0) pda_nil)))) (pds_one (pds_ret (pd_at (pd_v 0) (pd_v 1)))) pss_nil')
      (pds_one (pds_ret pd_int))), ?_⟩)
  · obtain ⟨ns, k, rfl, _⟩ := h; rfl
  · rintro ds Qd ⟨ns, k, rfl, q⟩
    walk_at "w"
    refine Br.by (fun e => ?_) fun e => q 0
    simp only [decide_eq_true_eq] at e
    obtain ⟨v, hv, hm⟩ := atI_lt (xs := ns) (i := (k : Int)) (by omega) e
    exact ⟨v, hv, q v⟩
def sp__law_mixed : SpD := fun ds c Q _ => ∃ y z : Int, ds = [.int y, .int z] ∧ 0 ≤ y ∧ y < 2 ^ 31 ∧ 0 ≤ z ∧ z < 2 ^ 62 ∧ ∀ i, Q (.int i) c
theorem ok__law_mixed : FnOk P w K mg base (L2.CX P w) 1 a.f__law_mixed a.d__law_mixed ["_law_cell", "_law_k"] (spOf K sp__law_mixed) := by
  refine okD T.F__law_mixed sc__law_mixed (fun ds c Q E h => ?_) (fun cdv A outer s H E G0 c0 ED good => ⟨_, _, (pds_cons (pds_set 2 sc__law_mixed.nd (pd_mod (pd_callTy call_int1 br_intA T.z_int bt_int (pda_cons (pd_sum2 (pd_sum2 (pd_sum2 (pd_times (pd_v 0) pd_int) (pd_times (pd_times pd_int (pd_v 1)) (pd_v 1))) (pd_v 1)) pd_int) pda_nil)) pd_int))
      (pds_cons (pds_set 2 sc__law_mixed.nd (pd_mod (pd_callTy call_int1 br_intA T.z_int bt_int (pda_cons (pd_sum2 (pd_times (pd_v 2) (pd_v 2)) pd_int) pda_nil)) pd_int))
      (pds_one (pds_ret (pd_mod (pd_callTy call_int1 br_intA T.z_int bt_int (pda_cons (pd_times (pd_v 2) pd_int) pda_nil)) pd_int))))), ?_⟩)
  · obtain ⟨y, z, rfl, _⟩ := h; rfl
  · rintro ds Qd ⟨y, z, rfl, h1, h2, h3, h4, q⟩
    walk_at "w"
    have big : ∀ {m : Int} (x : Int), 0 < m → m < 2 ^ 64 → CMul (x % m) (x % m) := fun {m} x h0 h1 => .inl ⟨by have := Int.emod_nonneg x (Int.ne_of_gt h0); omega, by have := Int.emod_lt_of_pos x h0; omega⟩
    exact ⟨.inr (by decide), .inl (by decide), .inr ⟨by omega, by omega⟩, by decide, big _ (by decide) (by decide), by decide, .inr (by decide), by decide, q _⟩
def sp__law_purse : SpD := fun ds c Q _ => ∃ (ns : List Int) (k : Nat), ds = [.scr ns, .int k] ∧ k ≤ 1000 ∧ Q .opq c
theorem ok__law_purse : FnOk P w K mg base (L2.CX P w) 3 a.f__law_purse a.d__law_purse ["_law_script", "_law_at_here"] (spOf K sp__law_purse) := by
  refine okD T.F__law_purse sc__law_purse (fun ds c Q E h => ?_) (fun cdv A outer s H E G0 c0 ED good => ⟨_, _, (pds_cons (pds_set 2 sc__law_purse.nd (pd_callC good ((ok__law_at T).mono (by omega)) (c__law_at_2 T) (fun _ => .nil) (pda_cons (pd_v 0) (pda_cons (pd_v 1) pda_nil))))
      (pds_one (pds_ret (pd_purse (pda_cons (pd_mod (pd_callTy call_int1 br_intA T.z_int bt_int (pda_cons (pd_callB (call_max2 good.calm) br_max2 T.z_max bt_max (pda_cons (pd_sub (pd_v 2) (pd_pow pd_int pd_int)) (pda_cons pd_int pda_nil))) pda_nil)) (pd_pow (pd_pow pd_int pd_int) pd_int)) (pda_cons (pd_mod (pd_callTy call_int1 br_intA T.z_int bt_int (pda_cons (pd_v 2) pda_nil)) pd_int) (pda_cons (pd_times pd_int (pd_v 1)) pda_nil))))))), ?_⟩)
  · obtain ⟨ns, k, rfl, _⟩ := h; rfl
  · rintro ds Qd ⟨ns, k, rfl, hk, q⟩
    walk_at "w"
    refine ⟨ns, k, rfl, fun i => ?_⟩
    walk_at "w"
    refine ⟨⟨by decide, by decide +kernel⟩, ⟨by decide, by decide +kernel⟩, ⟨by decide, by decide +kernel⟩, by decide +kernel, by decide, .inl (by decide), _, _, _, rfl, Int.emod_nonneg _ (by decide), Int.lt_of_lt_of_le (Int.emod_lt_of_pos _ (by decide)) (by decide), by omega, by omega, q⟩
def sp__law_draw : SpD := fun ds c Q _ => ∃ n : Int, ds = [.opq, .int n] ∧ 0 < n ∧ n < 536870912 ∧ c.n + 1 ≤ LIM ∧ ∀ (i : Int) (c' : CN), 0 ≤ i → i < n → c.n ≤ c'.n → c'.n ≤ c.n + 1 → Q (.int i) c'
theorem ok__law_draw : FnOk P w K mg base (L2.CX P w) 3 a.f__law_draw a.d__law_draw ["_law_purse_here", "_law_out_of"] (spOf K sp__law_draw) := by
  refine okD T.F__law_draw sc__law_draw (fun ds c Q E h => ?_) (fun cdv A outer s H E G0 c0 ED good => ⟨_, _, (pds_cons (pds_if (pdt_cm (pdc_gt (pd_purseIx 0 0 rfl (by decide)) pd_int)) (pds_cons (pds_set 4 sc__law_draw.nd (pd_mod (pd_callTy call_int1 br_intA T.z_int bt_int (pda_cons (pd_purseIx 0 0 rfl (by decide)) pda_nil)) (pd_v 1)))
      (pds_cons (pds_purseSet 0 0 rfl (pd_fdiv (pd_purseIx 0 0 rfl (by decide)) (pd_v 1)))
      (pds_one (pds_ret (pd_v 4))))) pss_nil')
      (pds_cons (pds_set 2 sc__law_draw.nd pd_int)
      (pds_cons (pds_for PassesOwn.leaving good.calm (pdi_range1 T.z_range (pda_cons (pd_sum2 pd_int (pd_fdiv (pd_bits (pd_v 1)) pd_int)) pda_nil)) (pdg_name 3 sc__law_draw.nd)
      (pds_cons (pds_purseSet 0 2 rfl (pd_sum2 (pd_purseIx 0 2 rfl (by decide)) pd_int))
      (pds_one (pds_set 2 sc__law_draw.nd (pd_sum2 (pd_times (pd_v 2) pd_int) (pd_callC good ((ok__law_mixed T).mono (by omega)) (c__law_mixed_2 T) (fun _ => .nil) (pda_cons (pd_purseIx 0 1 rfl (by decide)) (pda_cons (pd_purseIx 0 2 rfl (by decide)) pda_nil))))))))
      (pds_one (pds_ret (pd_mod (pd_callTy call_int1 br_intA T.z_int bt_int (pda_cons (pd_v 2) pda_nil)) (pd_v 1))))))), ?_⟩)
  · obtain ⟨n, rfl, _⟩ := h; rfl
  · rintro ds Qd ⟨n, rfl, h1, h2, h3, q⟩
    walk_at "w"
    intro x _ _
    refine Br.by (fun _ => fun x _ _ => ⟨h1, fun y _ _ => ⟨⟨h1, by omega⟩, _, rfl, .inl (q _ _ (Int.emod_nonneg _ (Int.ne_of_gt h1)) (Int.emod_lt_of_pos _ h1) (Nat.le_refl _) (Nat.le_succ _))⟩⟩) fun _ => ?_
    have hb := intBits_small (Int.le_of_lt h1) h2
    refine ⟨n, rfl, ⟨by decide, by decide⟩, ?_⟩
    have e0 : (Builtin.Int.intBits n : Int) / 30 = 0 := by omega
    rw [e0]
    refine ⟨by decide, by decide, ?_⟩
    refine ⟨fun k ρ c => (k = 0 ∧ c = c0 ∧ ∃ s s2, ρ = [.fz .opq, .fz (.int n), .fz (.int 0), s, s2]) ∨ (k = 1 ∧ c = c0.at (c0.n + 1) ∧ ∃ i s s2, ρ = [.fz .opq, .fz (.int n), .fz (.int i), s, s2]), .inl ⟨rfl, rfl, _, _, rfl⟩, ?_, ?_⟩
    · rintro k y ρ c hy h
      obtain ⟨hk, rfl⟩ := upInts_get hy
      rcases h with ⟨rfl, rfl, s, s2, rfl⟩ | ⟨rfl, _⟩
      · walk_at "ev"
        intro z _ hz
        obtain ⟨z0, z1⟩ := hz trivial
        refine ⟨z + 1, rfl, .inr ⟨by omega, by omega, ?_⟩⟩
        walk_at "w"
        refine ⟨.inl (by decide), fun y hy _ => fun v _ hv => ?_⟩
        obtain ⟨y0, y1⟩ := hy trivial
        obtain ⟨v0, v1⟩ := hv trivial
        have hc : c.n + 1 ≤ 2 ^ 60 := h3
        have ec : (c.at (c.n + 1)).n = c.n + 1 := rfl
        refine ⟨y, v, rfl, y0, y1, v0, by omega, fun i => ?_⟩
        walk_at "w"
        first | exact .inr ⟨rfl, rfl, _, _, _, rfl⟩ | exact .inr ⟨_, _, _, rfl⟩ | exact .inr ⟨rfl, _, _, _, rfl⟩
      · exact absurd hk (by decide)
    · rintro ρ c h
      rcases h with ⟨h, _⟩ | ⟨_, rfl, i, s, s2, rfl⟩
      · cases h
      · walk_at "ev"
        exact ⟨h1, q _ _ (Int.emod_nonneg _ (Int.ne_of_gt h1)) (Int.emod_lt_of_pos _ h1) (Nat.le_succ _) (Nat.le_refl _)⟩
omit T in
section
def tw : Nat → Nat
  | 0 => 1
  | k + 1 => tw k + tw k
theorem tw_pos : ∀ k, 1 ≤ tw k
  | 0 => Nat.le_refl _
  | k + 1 => by have := tw_pos k; simp only [tw]; omega
structure Pool (ss ns : List Str) : Prop where
  ne : 0 < ss.length
  n : ss.length ≤ 30
  ok : ∀ x ∈ ss, (strS x ∧ x.length ≤ 16) ∧ wt x.cps.toList ≤ 2
  nn : ns.length ≤ 30
  nok : ∀ x ∈ ns, strS x ∧ nameB x = true
theorem Pool.pl {ss ns : List Str} (h : Pool ss ns) : ∀ x ∈ ns, (decide (x.length ≤ 1000) && PyData.strOk x) = true := fun x hx => by
  have := (h.nok x hx).1
  simp only [Bool.and_eq_true, decide_eq_true_eq]
  exact ⟨this.1, this.2.2⟩
theorem nameB_len {x : Str} (h : nameB x = true) : 1 ≤ x.length ∧ x.length ≤ 8 := by
  unfold nameB at h
  simp only [Bool.and_eq_true, decide_eq_true_eq] at h
  exact h.1
theorem wq_len (x : Str) : (wq x).length ≤ 2 * x.length + 2 := by
  have := esc_len x.cps.toList
  rw [strLen] at this
  unfold wq
  simp only [List.length_cons, List.length_append, List.length_nil]
  omega
structure Sm (k : Nat) (f : Fm) : Prop where
  ok : f.ok
  dp : f.dep ≤ k + 1
  wl : f.wr.length + 6 ≤ 60 * tw k
  ow : wt f.wr + 2 ≤ 4 * tw k
theorem wt_esc : ∀ l : List Nat, wt (esc l) = wt l
  | [] => rfl
  | x :: l => by
    rw [esc]
    split
    · simp only [wt, wt_esc l]; simp
    · simp only [wt, wt_esc l]
theorem wt_wq (x : Str) : wt (wq x) = wt x.cps.toList := by
  unfold wq
  simp only [wt, wt_app, wt_esc]; simp
theorem wt_let : ∀ {l : List Nat}, (∀ k ∈ l, k ∈ lettersL) → wt l = 0
  | [], _ => rfl
  | x :: l, h => by
    have key : ∀ k ∈ lettersL, wt [k] = 0 := by decide
    have h1 := key x (h x List.mem_cons_self)
    simp only [wt] at h1 ⊢
    rw [wt_let fun k hk => h k (List.mem_cons_of_mem _ hk)]
    omega
theorem nameB_wt {x : Str} (h : nameB x = true) : wt x.cps.toList = 0 := by
  unfold nameB at h
  simp only [Bool.and_eq_true, decide_eq_true_eq, List.all_eq_true] at h
  exact wt_let h.2
theorem digs_wt {i : Int} (h0 : 0 ≤ i) (h1 : i ≤ 40) : wt (digs i) = 0 := by
  have key : ∀ m : Fin 41, wt (digs ((m.val : Nat) : Int)) = 0 := by decide +kernel
  have := key ⟨i.toNat, by omega⟩
  rwa [show ((i.toNat : Nat) : Int) = i by omega] at this
theorem Sm.text {x : Str} (h : strS x) (hl : x.length ≤ 16) (hw : wt x.cps.toList ≤ 2) {k : Nat} : Sm k (.text x) := ⟨h, by simp only [Fm.dep]; omega, by have := wq_len x; have := tw_pos k; simp only [Fm.wr]; omega, by have := tw_pos k; simp only [Fm.wr, wt_wq]; omega⟩
theorem Sm.hole {x : Str} (h : strS x) (hl : nameB x = true) {k : Nat} : Sm k (.hole x) := ⟨⟨h, hl⟩, by simp only [Fm.dep]; omega, by have := nameB_len hl; have := tw_pos k; simp only [Fm.wr]; rw [strLen]; omega, by have := tw_pos k; simp only [Fm.wr, nameB_wt hl]; omega⟩
theorem Sm.brk {o : Option Str} (h : ∀ x, o = some x → (strS x ∧ x.length ≤ 16) ∧ wt x.cps.toList ≤ 2) {k : Nat} : Sm k (.brk o) := by
  have := tw_pos k
  cases o with
  | none => exact ⟨trivial, by simp only [Fm.dep]; omega, by simp only [Fm.wr, List.length_cons, List.length_nil]; omega, by simp only [Fm.wr, wt]; simp; omega⟩
  | some x =>
    have := wq_len x
    have := (h x rfl).1.2
    have := (h x rfl).2
    exact ⟨(h x rfl).1.1, by simp only [Fm.dep]; omega, by simp only [Fm.wr, List.length_cons]; omega, by simp only [Fm.wr, wt, wt_wq]; simp; omega⟩
theorem Sm.join {k : Nat} {f g : Fm} (h : Sm k f) (h2 : Sm k g) : Sm (k + 1) (.join f g) := ⟨⟨h.ok, h2.ok⟩, by have := h.dp; have := h2.dp; simp only [Fm.dep]; omega, by have := h.wl; have := h2.wl; simp only [tw, Fm.wr, List.length_cons, List.length_append, List.length_nil]; omega, by have := h.ow; have := h2.ow; simp only [tw, Fm.wr, wt, wt_app]; simp; omega⟩
theorem Sm.choice {k : Nat} {f g : Fm} (h : Sm k f) (h2 : Sm k g) : Sm (k + 1) (.choice f g) := ⟨⟨h.ok, h2.ok⟩, by have := h.dp; have := h2.dp; simp only [Fm.dep]; omega, by have := h.wl; have := h2.wl; simp only [tw, Fm.wr, List.length_cons, List.length_append, List.length_nil]; omega, by have := h.ow; have := h2.ow; simp only [tw, Fm.wr, wt, wt_app]; simp; omega⟩
theorem Sm.nested {k : Nat} {f : Fm} (h : Sm k f) {i : Int} (i0 : 0 ≤ i) (i1 : i ≤ 40) : Sm (k + 1) (.nested i f) := ⟨⟨⟨i0, i1⟩, h.ok⟩, by have := h.dp; simp only [Fm.dep]; omega, by have := h.wl; have := (digs_le i0 i1).1; have := tw_pos k; simp only [tw, Fm.wr, List.length_cons, List.length_append, List.length_nil]; omega, by have := h.ow; have := tw_pos k; simp only [tw, Fm.wr, wt, wt_app, digs_wt i0 i1]; simp; omega⟩
theorem Sm.group {k : Nat} {f : Fm} (h : Sm k f) : Sm (k + 1) (.group f) := ⟨h.ok, by have := h.dp; simp only [Fm.dep]; omega, by have := h.wl; have := tw_pos k; simp only [tw, Fm.wr, List.length_cons, List.length_append, List.length_nil]; omega, by have := h.ow; have := tw_pos k; simp only [tw, Fm.wr, wt, wt_app]; simp; omega⟩
theorem Sm.flat {k : Nat} {f : Fm} (h : Sm k f) : Sm (k + 1) (.flat f) := ⟨h.ok, by have := h.dp; simp only [Fm.dep]; omega, by have := h.wl; have := tw_pos k; simp only [tw, Fm.wr, List.length_cons, List.length_append, List.length_nil]; omega, by have := h.ow; have := tw_pos k; simp only [tw, Fm.wr, wt, wt_app]; simp; omega⟩
end
def sp__law_leaf : SpD := fun ds c Q _ => ∃ (ss ns : List Str), ds = [.opq, .lst (ss.map .str), .lst (ns.map .str)] ∧ Pool ss ns ∧ c.n + 3 ≤ LIM ∧ ∀ f, (∀ k, Sm k f) → ∀ c' : CN, c.n ≤ c'.n → c'.n ≤ c.n + 3 → Q f.enc c'
theorem ok__law_leaf : FnOk P w K mg base (L2.CX P w) 5 a.f__law_leaf a.d__law_leaf ["_law_purse_here", "_law_strings", "_law_names"] (spOf K sp__law_leaf) := by
  refine okD T.F__law_leaf sc__law_leaf (fun ds c Q E h => ?_) (fun cdv A outer s H E G0 c0 ED good => ⟨_, _, (pds_cons (pds_set 3 sc__law_leaf.nd (pd_callC good ((ok__law_draw T).mono (by omega)) (c__law_draw_2 T) (fun _ => .nil) (pda_cons (pd_v 0) (pda_cons pd_int pda_nil))))
      (pds_cons (pds_set 4 sc__law_leaf.nd (pd_at (pd_v 1) (pd_callC good ((ok__law_draw T).mono (by omega)) (c__law_draw_2 T) (fun _ => .nil) (pda_cons (pd_v 0) (pda_cons (pd_callB cr_len br_lenA T.z_len bt_len (pda_cons (pd_v 1) pda_nil)) pda_nil)))))
      (pds_cons (pds_if (pdw_pt (pdw_and (pdt_cm (pdc_eqD good (pd_v 3) pd_int)) (pdw_and1 (pdt_cm (pdc_neD good (pd_v 2) (pd_lst pda_nil)))))) (pds_one (pds_ret (pd_tup (pda_cons pd_str (pda_cons (pd_at (pd_v 2) (pd_callC good ((ok__law_draw T).mono (by omega)) (c__law_draw_2 T) (fun _ => .nil) (pda_cons (pd_v 0) (pda_cons (pd_callB cr_len br_lenA T.z_len bt_len (pda_cons (pd_v 2) pda_nil)) pda_nil)))) pda_nil))))) pss_nil')
      (pds_cons (pds_if (pdt_cm (pdc_lt (pd_v 3) pd_int)) (pds_one (pds_ret (pd_tup (pda_cons pd_str (pda_cons (pd_v 4) pda_nil))))) pss_nil')
      (pds_one (pds_ret (pd_tup (pda_cons pd_str (pda_cons (pd_at (pd_lst (pda_cons (pd_v 4) (pda_cons pd_non (pda_cons pd_str (pda_cons pd_str pda_nil))))) (pd_callC good ((ok__law_draw T).mono (by omega)) (c__law_draw_2 T) (fun _ => .nil) (pda_cons (pd_v 0) (pda_cons pd_int pda_nil)))) pda_nil))))))))), ?_⟩)
  · obtain ⟨ss, ns, rfl, _⟩ := h; rfl
  · rintro ds Qd ⟨ss, ns, rfl, hs, hc, q⟩
    have s1 := hs.ne; have s2 := hs.n; have s3 := hs.nn
    walk_at "w"
    refine ⟨6, rfl, by decide, by decide, by omega, fun j c1 j0 j1 l1 l2 => ?_⟩
    walk_at "w"
    refine ⟨(ss.length : Nat), by rw [List.length_map], by omega, by omega, by omega, fun j2 c2 i0 i1 l3 l4 => ?_⟩
    walk_at "w"
    refine pick (P := fun d => ∃ x, d = .str x ∧ strS x ∧ x.length ≤ 16 ∧ wt x.cps.toList ≤ 2) _ (fun v hv => ?_) i0 (by rw [List.length_map]; exact i1) fun v hv => ?_
    · obtain ⟨x, hx, rfl⟩ := List.mem_map.mp hv
      exact ⟨x, rfl, (hs.ok x hx).1.1, (hs.ok x hx).1.2, (hs.ok x hx).2⟩
    obtain ⟨x, rfl, hx, hx8, hxw⟩ := hv
    walk_at "w"
    have fin : @Br (decide (j < 3)) (Qd (D.tup [D.str (Str.ofString "text"), D.str x]) c2) (@PL.Run sp__law_draw [D.opq, D.int 4] c2 (fun y c2 => aItem (D.lst [D.str x, D.non, D.str (Str.ofString " "), D.str (Str.ofString "")]) y c2 fun x c1 => Qd (D.tup [D.str (Str.ofString "break"), x]) c1) ED) := by
      refine Br.by (fun _ => ?_) fun _ => ?_
      · exact q (.text x) (fun k => .text hx hx8 hxw) c2 (by omega) (by omega)
      · refine ⟨4, rfl, by decide, by decide, by omega, fun j3 c3 m0 m1 l5 l6 => ?_⟩
        walk_at "w"
        refine pick (P := fun d => ∃ o : Option Str, d = brkD o ∧ ∀ y, o = some y → (strS y ∧ y.length ≤ 16) ∧ wt y.cps.toList ≤ 2) _ (fun v hv => ?_) m0 m1 fun v hv => ?_
        · simp only [List.mem_cons, List.not_mem_nil, or_false] at hv
          rcases hv with rfl | rfl | rfl | rfl
          · exact ⟨some x, rfl, fun y e => by cases e; exact ⟨⟨hx, hx8⟩, hxw⟩⟩
          · exact ⟨none, rfl, fun y e => by cases e⟩
          · exact ⟨some " ", rfl, fun y e => by cases e; exact ⟨⟨strSB_ok (by decide +kernel), by decide⟩, by decide +kernel⟩⟩
          · exact ⟨some "", rfl, fun y e => by cases e; exact ⟨⟨strSB_ok (by decide +kernel), by decide⟩, by decide +kernel⟩⟩
        obtain ⟨o, rfl, ho⟩ := hv
        have := q (.brk o) (fun k => .brk ho) c3 (by omega) (by omega)
        cases o <;> exact this
    refine Br.by (fun _ => ⟨?_, ?_, Br.by (fun he => ?_) fun _ => fin⟩) fun _ => fin
    · intro d hd
      obtain ⟨y, hy, rfl⟩ := List.mem_map.mp hd
      exact pl_str (hs.pl y hy)
    · intro d hd
      cases hd
    · have hne : 0 < ns.length := by
        cases ns with
        | nil => cases he
        | cons y r => simp
      refine ⟨(ns.length : Nat), by rw [List.length_map], by omega, by omega, by omega, fun j3 c3 m0 m1 l5 l6 => ?_⟩
      walk_at "w"
      refine pick (P := fun d => ∃ x, d = .str x ∧ strS x ∧ nameB x = true) _ (fun v hv => ?_) m0 (by rw [List.length_map]; exact m1) fun v hv => ?_
      · obtain ⟨x, hx, rfl⟩ := List.mem_map.mp hv
        exact ⟨x, rfl, hs.nok x hx⟩
      obtain ⟨y, rfl, hy1, hy2⟩ := hv
      walk_at "w"
      exact q (.hole y) (fun k => .hole hy1 hy2) c3 (by omega) (by omega)
def sp__law_form : Nat → SpD
  | 0 => fun _ _ _ _ => False
  | n + 1 => fun ds c Q _ => ∃ (ss ns : List Str) (k : Nat), ds = [.opq, .lst (ss.map .str), .lst (ns.map .str), .int k] ∧ k ≤ n ∧ Pool ss ns ∧ c.n + 6 * tw k ≤ LIM ∧ ∀ f, Sm k f → ∀ c' : CN, c.n ≤ c'.n → c'.n + 2 ≤ c.n + 6 * tw k → Q f.enc c'
omit T in
theorem no__law_form (ds : List D) (c : CN) (Q : QD) (E : EDt) : sp__law_form 0 ds c Q E → False := id
omit T in
theorem sp__law_form_of {n k : Nat} {ss ns : List Str} {c : CN} {Q : QD} {E : EDt} (h : k + 1 ≤ n) (hs : Pool ss ns) (hc : c.n + 6 * tw k ≤ LIM) (q : ∀ f, Sm k f → ∀ c' : CN, c.n ≤ c'.n → c'.n + 2 ≤ c.n + 6 * tw k → Q f.enc c') : sp__law_form n [.opq, .lst (ss.map .str), .lst (ns.map .str), .int k] c Q E := by
  cases n with
  | zero => omega
  | succ n => exact ⟨ss, ns, k, rfl, by omega, hs, hc, q⟩
theorem ok__law_form : ∀ n : Nat, FnOk P w K mg base (L2.CX P w) (7 + n) a.f__law_form a.d__law_form ["_law_purse_here", "_law_strings", "_law_names", "_law_deep"] (spOf K (sp__law_form n)) := by
  intro n
  induction n with
  | zero => exact FnOk.no T.F__law_form sc__law_form (spOf_no no__law_form)
  | succ n ih =>
  refine okD (k := 7 + n) T.F__law_form sc__law_form (fun ds c Q E h => ?_) (fun cdv A outer s H E G0 c0 ED good => ⟨_, _, (pds_cons (pds_set 4 sc__law_form.nd (pd_callC good ((ok__law_draw T).mono (by omega)) (c__law_draw_2 T) (fun _ => .nil) (pda_cons (pd_v 0) (pda_cons pd_int pda_nil))))
      (pds_cons (pds_if (pdw_pt (pdw_or (pdt_cm (pdc_eqD good (pd_v 3) pd_int)) (pdw_or1 (pdt_cm (pdc_eqD good (pd_v 4) pd_int))))) (pds_one (pds_ret (pd_callC good ((ok__law_leaf T).mono (by omega)) (c__law_leaf_3 T) (fun _ => .nil) (pda_cons (pd_v 0) (pda_cons (pd_v 1) (pda_cons (pd_v 2) pda_nil)))))) pss_nil')
      (pds_cons (pds_set 5 sc__law_form.nd (pd_callC good ih (c__law_form_4 T) (fun _ => .nil) (pda_cons (pd_v 0) (pda_cons (pd_v 1) (pda_cons (pd_v 2) (pda_cons (pd_sub (pd_v 3) pd_int) pda_nil))))))
      (pds_cons (pds_if (pdt_cm (pdc_lt (pd_v 4) pd_int)) (pds_one (pds_ret (pd_tup (pda_cons pd_str (pda_cons (pd_v 5) (pda_cons (pd_callC good ih (c__law_form_4 T) (fun _ => .nil) (pda_cons (pd_v 0) (pda_cons (pd_v 1) (pda_cons (pd_v 2) (pda_cons (pd_sub (pd_v 3) pd_int) pda_nil))))) pda_nil)))))) pss_nil')
      (pds_cons (pds_if (pdt_cm (pdc_eqD good (pd_v 4) pd_int)) (pds_one (pds_ret (pd_tup (pda_cons pd_str (pda_cons (pd_v 5) (pda_cons (pd_callC good ih (c__law_form_4 T) (fun _ => .nil) (pda_cons (pd_v 0) (pda_cons (pd_v 1) (pda_cons (pd_v 2) (pda_cons (pd_sub (pd_v 3) pd_int) pda_nil))))) pda_nil)))))) pss_nil')
      (pds_cons (pds_if (pdt_cm (pdc_eqD good (pd_v 4) pd_int)) (pds_one (pds_ret (pd_tup (pda_cons pd_str (pda_cons (pd_at (pd_lst (pda_cons (pd_callC good ((ok__law_draw T).mono (by omega)) (c__law_draw_2 T) (fun _ => .nil) (pda_cons (pd_v 0) (pda_cons pd_int pda_nil))) (pda_cons (pd_callC good ((ok__law_draw T).mono (by omega)) (c__law_draw_2 T) (fun _ => .nil) (pda_cons (pd_v 0) (pda_cons pd_int pda_nil))) pda_nil))) (pd_callC good ((ok__law_draw T).mono (by omega)) (c__law_draw_2 T) (fun _ => .nil) (pda_cons (pd_v 0) (pda_cons pd_int pda_nil)))) (pda_cons (pd_v 5) pda_nil)))))) pss_nil')
      (pds_one (pds_ret (pd_tup (pda_cons (pd_at (pd_lst (pda_cons pd_str (pda_cons pd_str pda_nil))) (pd_mod (pd_callTy call_int1 br_intA T.z_int bt_int (pda_cons (pd_v 4) pda_nil)) pd_int)) (pda_cons (pd_v 5) pda_nil))))))))))), ?_⟩)
  · obtain ⟨ss, ns, k, rfl, _⟩ := h; rfl
  · rintro ds Qd ⟨ss, ns, k, rfl, hk, hs, hc, q⟩
    have tp := tw_pos k
    walk_at "w"
    refine ⟨9, rfl, by decide, by decide, by omega, fun j c1 j0 j1 l1 l2 => ?_⟩
    walk_at "w"
    have leaf : @Run sp__law_leaf [.opq, .lst (ss.map .str), .lst (ns.map .str)] c1 Qd ED := ⟨ss, ns, rfl, hs, by omega, fun f hf c' e1 e2 => q f (hf k) c' (by omega) (by omega)⟩
    cases k with
    | zero => walk_at "w"; exact leaf
    | succ k =>
      have tk := tw_pos k
      have hc2 : c0.n + 6 * (tw k + tw k) ≤ LIM := hc
      refine Br.f (by simp; omega) ?_
      refine Br.by (fun _ => leaf) fun _ => ?_
      rw [show ((k + 1 : Nat) : Int) - 1 = (k : Nat) by omega]
      refine sp__law_form_of hk hs (by omega) fun f hf c2 e1 e2 => ?_
      have q : ∀ (g : Fm), Sm (k + 1) g → ∀ (c' : CN), c0.n ≤ c'.n → c'.n + 2 ≤ c0.n + 6 * (tw k + tw k) → Qd g.enc c' := q
      refine Br.by (fun _ => ?_) fun _ => ?_
      · refine sp__law_form_of hk hs (by omega) fun g hg c3 e3 e4 => ?_
        exact q (.join f g) (hf.join hg) c3 (by omega) (by omega)
      refine Br.by (fun _ => ?_) fun _ => ?_
      · refine sp__law_form_of hk hs (by omega) fun g hg c3 e3 e4 => ?_
        exact q (.choice f g) (hf.choice hg) c3 (by omega) (by omega)
      refine Br.by (fun _ => ?_) fun _ => ?_
      · refine ⟨4, rfl, by decide, by decide, by omega, fun j2 c3 m0 m1 l5 l6 => ?_⟩
        walk_at "w"
        refine ⟨41, rfl, by decide, by decide, by omega, fun j3 c4 n0 n1 l7 l8 => ?_⟩
        walk_at "w"
        refine ⟨2, rfl, by decide, by decide, by omega, fun j4 c5 o0 o1 l9 l10 => ?_⟩
        walk_at "w"
        refine pick (P := fun d => ∃ i : Int, d = .int i ∧ 0 ≤ i ∧ i ≤ 40) _ (fun v hv => ?_) o0 o1 fun v hv => ?_
        · simp only [List.mem_cons, List.not_mem_nil, or_false] at hv
          rcases hv with rfl | rfl
          · exact ⟨j2, rfl, m0, by omega⟩
          · exact ⟨j3, rfl, n0, by omega⟩
        obtain ⟨i, rfl, i0, i1⟩ := hv
        walk_at "w"
        exact q (.nested i f) (hf.nested i0 i1) c5 (by omega) (by omega)
      · have key : ∀ k : Nat, k < 9 → ((k : Int) % 2 = 0 ∨ (k : Int) % 2 = 1) := fun k _ => by omega
        refine ⟨by decide, ?_⟩
        rcases (by omega : j % 2 = 0 ∨ j % 2 = 1) with e | e
        · rw [e]; exact atP.mk rfl (q (.group f) hf.group c2 (by omega) (by omega))
        · rw [e]; exact atP.mk rfl (q (.flat f) hf.flat c2 (by omega) (by omega))
def sp__law_doc (a : Ad) : Nat → SpD
  | 0 => fun _ _ _ _ => False
  | n + 1 => fun ds c Q _ => ∃ f : Fm, ds = [f.enc] ∧ f.ok ∧ f.dep ≤ n + 1 ∧ Q (docD a f) c
omit T in
theorem no__law_doc (ds : List D) (c : CN) (Q : QD) (E : EDt) : sp__law_doc a 0 ds c Q E → False := id
omit T in
theorem sp__law_doc_of {n : Nat} {f : Fm} {c : CN} {Q : QD} {E : EDt} (hk : f.ok) (h : f.dep ≤ n) (q : Q (docD a f) c) : sp__law_doc a n [f.enc] c Q E := by
  cases n with
  | zero => have := f.dep_pos; omega
  | succ n => exact ⟨f, rfl, hk, h, q⟩
theorem ok__law_doc : ∀ n : Nat, FnOk P w K mg base (L2.CX P w) (7 + n) a.f__law_doc a.d__law_doc ["_law_form_here"] (spOf K (sp__law_doc a n)) := by
  intro n
  induction n with
  | zero => exact FnOk.no T.F__law_doc sc__law_doc (spOf_no no__law_doc)
  | succ n ih =>
  refine okD (k := 7 + n) T.F__law_doc sc__law_doc (fun ds c Q E h => ?_) (fun cdv A outer s H E G0 c0 ED good => ⟨_, _, (pds_cons (pds_if (pdt_cm (pdc_eqO (good.mono (j := 2) (by omega)) T.D_Doc.ic T.M_Doc___eq__ (ok_Doc___eq__ T) (b_Doc___eq__ T) (pd_at (pd_v 0) pd_int) pd_str)) (pds_one (pds_ret (pd_callC good ((ok_text T).mono (by omega)) (c_text_1 T) (fun _ => .nil) (pda_cons (pd_at (pd_v 0) pd_int) pda_nil)))) pss_nil')
      (pds_cons (pds_if (pdt_cm (pdc_eqO (good.mono (j := 2) (by omega)) T.D_Doc.ic T.M_Doc___eq__ (ok_Doc___eq__ T) (b_Doc___eq__ T) (pd_at (pd_v 0) pd_int) pd_str)) (pds_one (pds_ret (pd_callC good ((ok_line T).mono (by omega)) (c_line_1 T) (fun _ => .nil) (pda_cons (pd_at (pd_v 0) pd_int) pda_nil)))) pss_nil')
      (pds_cons (pds_if (pdt_cm (pdc_eqO (good.mono (j := 2) (by omega)) T.D_Doc.ic T.M_Doc___eq__ (ok_Doc___eq__ T) (b_Doc___eq__ T) (pd_at (pd_v 0) pd_int) pd_str)) (pds_one (pds_ret (pd_callC good ((ok_hole T).mono (by omega)) (c_hole_1 T) (fun _ => .nil) (pda_cons (pd_at (pd_v 0) pd_int) pda_nil)))) pss_nil')
      (pds_cons (pds_if (pdt_cm (pdc_eqO (good.mono (j := 2) (by omega)) T.D_Doc.ic T.M_Doc___eq__ (ok_Doc___eq__ T) (b_Doc___eq__ T) (pd_at (pd_v 0) pd_int) pd_str)) (pds_one (pds_ret (pd_addO good T.O_Doc T.M_Doc___add__ ((ok_Doc___add__ T).mono (by omega)) (b_Doc___add__ T) (pd_callC good ih (c__law_doc_1 T) (fun _ => .nil) (pda_cons (pd_at (pd_v 0) pd_int) pda_nil)) (pd_callC good ih (c__law_doc_1 T) (fun _ => .nil) (pda_cons (pd_at (pd_v 0) pd_int) pda_nil))))) pss_nil')
      (pds_cons (pds_if (pdt_cm (pdc_eqO (good.mono (j := 2) (by omega)) T.D_Doc.ic T.M_Doc___eq__ (ok_Doc___eq__ T) (b_Doc___eq__ T) (pd_at (pd_v 0) pd_int) pd_str)) (pds_one (pds_ret (pd_orO good T.O_Doc T.M_Doc___or__ ((ok_Doc___or__ T).mono (by omega)) (b_Doc___or__ T) (pd_callC good ih (c__law_doc_1 T) (fun _ => .nil) (pda_cons (pd_at (pd_v 0) pd_int) pda_nil)) (pd_callC good ih (c__law_doc_1 T) (fun _ => .nil) (pda_cons (pd_at (pd_v 0) pd_int) pda_nil))))) pss_nil')
      (pds_cons (pds_if (pdt_cm (pdc_eqO (good.mono (j := 2) (by omega)) T.D_Doc.ic T.M_Doc___eq__ (ok_Doc___eq__ T) (b_Doc___eq__ T) (pd_at (pd_v 0) pd_int) pd_str)) (pds_one (pds_ret (pd_meth good ((ok_Doc_nested T).mono (by omega)) (cm_Doc_nested T) (fun _ => .nil) (pd_callC good ih (c__law_doc_1 T) (fun _ => .nil) (pda_cons (pd_at (pd_v 0) pd_int) pda_nil)) (pda_cons (pd_at (pd_v 0) pd_int) pda_nil)))) pss_nil')
      (pds_cons (pds_if (pdt_cm (pdc_eqO (good.mono (j := 2) (by omega)) T.D_Doc.ic T.M_Doc___eq__ (ok_Doc___eq__ T) (b_Doc___eq__ T) (pd_at (pd_v 0) pd_int) pd_str)) (pds_one (pds_ret (pd_meth0 good ((ok_Doc_group T).mono (by omega)) (cm_Doc_group T) (fun _ => .nil) (pd_callC good ih (c__law_doc_1 T) (fun _ => .nil) (pda_cons (pd_at (pd_v 0) pd_int) pda_nil))))) pss_nil')
      (pds_one (pds_ret (pd_meth0 good ((ok_Doc_flattened T).mono (by omega)) (cm_Doc_flattened T) (fun _ => .nil) (pd_callC good ih (c__law_doc_1 T) (fun _ => .nil) (pda_cons (pd_at (pd_v 0) pd_int) pda_nil)))))))))))), ?_⟩)
  · obtain ⟨f, rfl, _⟩ := h; rfl
  · rintro ds Qd ⟨f, rfl, ok, hp, q⟩
    have low : ∀ g ∈ f.inner, g.ok ∧ g.dep ≤ n := fun g hg => ⟨Fm.ok_inner ok hg, by have := Fm.dep_lt hg; omega⟩
    cases f with
    | text x => simp only [Fm.enc]; walk_at "f"; exact ⟨x, rfl, strW_of ok, q⟩
    | brk o => cases o with
      | none => simp only [Fm.enc]; walk_at "f"; exact ⟨none, rfl, fun y e => (by cases e), q⟩
      | some x => simp only [Fm.enc]; walk_at "f"; exact ⟨some x, rfl, fun y e => (by cases e; exact strW_of ok), q⟩
    | hole x => simp only [Fm.enc]; walk_at "f"; exact ⟨x, rfl, ok.1, ok.2, q⟩
    | join g1 g2 =>
      obtain ⟨o1, h1⟩ := low g1 (by simp [Fm.inner])
      obtain ⟨o2, h2⟩ := low g2 (by simp [Fm.inner])
      simp only [Fm.enc]; walk_at "f"
      refine sp__law_doc_of o1 h1 ?_
      walk_at "w"
      refine sp__law_doc_of o2 h2 ?_
      simp only [docD]
      walk_at "w"
      exact ⟨g1, g2, rfl, q⟩
    | choice g1 g2 =>
      obtain ⟨o1, h1⟩ := low g1 (by simp [Fm.inner])
      obtain ⟨o2, h2⟩ := low g2 (by simp [Fm.inner])
      simp only [Fm.enc]; walk_at "f"
      refine sp__law_doc_of o1 h1 ?_
      walk_at "w"
      refine sp__law_doc_of o2 h2 ?_
      simp only [docD]
      walk_at "w"
      exact ⟨g1, g2, rfl, q⟩
    | nested i g1 =>
      obtain ⟨o1, h1⟩ := low g1 (by simp [Fm.inner])
      simp only [Fm.enc]; walk_at "f"
      refine sp__law_doc_of o1 h1 ?_
      simp only [docD]
      walk_at "w"
      exact ⟨by decide +kernel, g1, i, rfl, ok.1.1, ok.1.2, q⟩
    | group g1 =>
      obtain ⟨o1, h1⟩ := low g1 (by simp [Fm.inner])
      simp only [Fm.enc]; walk_at "f"
      refine sp__law_doc_of o1 h1 ?_
      simp only [docD]
      walk_at "w"
      exact ⟨by decide +kernel, g1, rfl, q⟩
    | flat g1 =>
      obtain ⟨o1, h1⟩ := low g1 (by simp [Fm.inner])
      simp only [Fm.enc]; walk_at "f"
      refine sp__law_doc_of o1 h1 ?_
      simp only [docD]
      walk_at "w"
      exact ⟨by decide +kernel, g1, rfl, q⟩
structure Spo (t : Addr) (s : Str) (r : List Nat) (n : Nat) (c : CN) : Prop where
  m : c.m t = some (.lst [.int ((s.length - r.length : Nat) : Int)])
  n : c.n = n
  r : r <:+ s.cps.toList
structure Spb (t : Addr) (s : Str) (j : Nat) (n : Nat) (c : CN) : Prop where
  m : c.m t = some (.lst [.int ((s.length - j : Nat) : Int)])
  n : c.n = n
omit T in
section
theorem Spo.rest {t : Addr} {s : Str} {r : List Nat} {n : Nat} {c : CN} (h : Spo t s r n c) : Rest s (s.length - r.length) r := by
  have h1 := List.suffix_iff_eq_drop.mp h.r
  have h2 := h.r.length_le
  have e := strLen s
  exact ⟨by rw [← e]; exact h1.symm, by omega⟩
theorem Spo.bad {t : Addr} {s : Str} {r : List Nat} {n : Nat} {c : CN} (h : Spo t s r n c) : Spb t s r.length n c := ⟨h.m, h.n⟩
theorem Spo.item {t : Addr} {s : Str} {x : Nat} {r : List Nat} {n : Nat} {c : CN} (h : Spo t s (x :: r) n c) : atI s.cps.toList ((s.length - (x :: r).length : Nat) : Int) = some x := by
  have h1 := h.rest.d
  have := congrArg (fun l => l[0]?) h1
  simp only [List.getElem?_drop, Nat.add_zero, List.getElem?_cons_zero] at this
  exact atI_nat this
theorem Spo.step {t : Addr} {s : Str} {x : Nat} {r : List Nat} {n : Nat} {c : CN} (h : Spo t s (x :: r) n c) : Spo t s r n (c.put t (.lst [.int (((s.length - (x :: r).length : Nat) : Int) + 1)])) := by
  have hl := h.rest.l
  simp only [List.length_cons] at hl
  refine ⟨?_, h.n, (List.suffix_cons x r).trans h.r⟩
  rw [put_self, show (((s.length - (x :: r).length : Nat) : Int) + 1) = ((s.length - r.length : Nat) : Int) by simp only [List.length_cons]; omega]
end
def sp__law_next : SpD := fun ds c Q _ => ∃ (t : Addr) (s g : Str) (r : List Nat), ds = [.str s, .mo t, .str g] ∧ Spo t s r c.n c ∧ s.length ≤ 1000000 ∧ (∀ x r' c', tkP g.cps.toList r = .ok x r' → Spo t s r' c.n c' → Q (.bl true) c') ∧ (∀ j, tkP g.cps.toList r = .bad j → Q (.bl false) c)
theorem ok__law_next : FnOk P w K mg base (L2.CX P w) 1 a.f__law_next a.d__law_next ["_law_string_here", "_law_spot", "_law_signs"] (spOf K sp__law_next) := by
  refine okD T.F__law_next sc__law_next (fun ds c Q E h => ?_) (fun cdv A outer s H E G0 c0 ED good => ⟨_, _, (pds_cons (pds_if (pdw_pt (pdw_or (pdt_cm (pdc_eqD good (pd_ixM (pd_v 1) pd_int) (pd_callB cr_len br_lenA T.z_len bt_len (pda_cons (pd_v 0) pda_nil)))) (pdw_or1 (pdt_cm (pdc_notIn good (pd_at (pd_v 0) (pd_ixM (pd_v 1) pd_int)) (pd_v 2)))))) (pds_one (pds_ret pd_bl)) pss_nil')
      (pds_cons (pds_setM (pd_v 1) pd_int (pd_sum2 (pd_ixM (pd_v 1) pd_int) pd_int))
      (pds_one (pds_ret pd_bl)))), ?_⟩)
  · obtain ⟨t, s, g, r, rfl, _⟩ := h; rfl
  · rintro ds Qd ⟨t, s, g, r, rfl, hS, hl, q, qb⟩
    walk_at "w"
    rw [hS.m]
    walk_at "m"
    have hr := hS.rest.l
    have hl' := hS.r.length_le
    cases r with
    | nil =>
      refine ⟨by omega, Br.t (by simp [eqD]) ?_⟩
      exact qb 0 rfl
    | cons x r =>
      simp only [List.length_cons] at hr
      refine ⟨by omega, Br.f (by simp [eqD]; omega) ?_⟩
      refine ⟨by show s.length ≤ 16777216; omega, x, hS.item, ?_⟩
      walk_at "m"
      by_cases hx : x ∈ g.cps.toList
      · refine Br.f (by simp [hx]) ?_
        rw [hS.m]
        walk_at "m"
        rw [hS.m]
        walk_at "m"
        exact ⟨0, rfl, q x r _ (if_pos hx) hS.step⟩
      · refine Br.t (by simp [hx]) ?_
        exact qb _ (if_neg hx)
omit T in
theorem lnext {t : Addr} {s g : Str} {r l : List Nat} {c : CN} {n : Nat} {Q : QD} {E : EDt} (hS : Spo t s r n c) (hl : s.length ≤ 1000000) (hg : g.cps.toList = l) (q : ∀ x r' c', tkP l r = .ok x r' → Spo t s r' n c' → Q (.bl true) c') (qb : ∀ j, tkP l r = .bad j → Q (.bl false) c) : @Run sp__law_next [.str s, .mo t, .str g] c Q E := by
  have e := hS.n
  subst e
  exact ⟨t, s, g, r, rfl, hS, hl, by rw [hg]; exact q, by rw [hg]; exact qb⟩
def LO {α : Type} (t : Addr) (s : Str) (o : Out α) (n : Nat) (q : α → CN → Prop) (qb : CN → Prop) : Prop := (∀ x r' c', o = .ok x r' → Spo t s r' n c' → q x c') ∧ (∀ j c', o = .bad j → Spb t s j n c' → qb c')
omit T in
section
variable {α : Type} {t : Addr} {s g : Str} {r l : List Nat} {c : CN} {Q : QD} {E : EDt} {q : α → CN → Prop} {qb : CN → Prop} {n : Nat}
theorem tk_len {g r : List Nat} {j : Nat} (h : tkP g r = .bad j) : j = r.length := by
  cases r with
  | nil => rw [tkP] at h; cases h; rfl
  | cons x r =>
    rw [tkP] at h
    split at h
    · cases h
    · cases h; rfl
theorem tk_cons {g r r' : List Nat} {x : Nat} (h : tkP g r = .ok x r') : r = x :: r' ∧ x ∈ g := by
  cases r with
  | nil => rw [tkP] at h; cases h
  | cons y r =>
    rw [tkP] at h
    split at h
    · cases h; exact ⟨rfl, by assumption⟩
    · cases h
theorem lnextO {k : Nat → List Nat → Out α} (hS : Spo t s r n c) (hl : s.length ≤ 1000000) (hg : g.cps.toList = l) (h : LO t s ((tkP l r).bind k) n q qb)
    (h1 : ∀ x r' c', r = x :: r' → x ∈ l → Spo t s r' n c' → LO t s (k x r') n q qb → Q (.bl true) c') (h2 : qb c → Q (.bl false) c) : @Run sp__law_next [.str s, .mo t, .str g] c Q E := by
  refine lnext hS hl hg (fun x r' c' e S => ?_) fun j e => ?_
  · rw [e] at h
    exact h1 x r' c' (tk_cons e).1 (tk_cons e).2 S h
  · rw [e] at h
    have := tk_len e
    subst this
    exact h2 (h.2 _ c rfl hS.bad)
theorem lnextX {x : Nat} {k : Unit → List Nat → Out α} (hS : Spo t s r n c) (hl : s.length ≤ 1000000) (hg : g.cps.toList = [x]) (h : LO t s ((exP x r).bind k) n q qb)
    (h1 : ∀ r' c', r = x :: r' → Spo t s r' n c' → LO t s (k () r') n q qb → Q (.bl true) c') (h2 : qb c → Q (.bl false) c) : @Run sp__law_next [.str s, .mo t, .str g] c Q E := by
  have e : (exP x r).bind k = (tkP [x] r).bind fun _ r1 => k () r1 := by unfold exP; rw [Out.assoc]; rfl
  rw [e] at h
  exact lnextO hS hl hg h (fun y r' c' e1 e2 S h => h1 r' c' (by rw [e1, List.mem_singleton.mp e2]) S h) h2
theorem lnextT {x : Nat} (hS : Spo t s r n c) (hl : s.length ≤ 1000000) (hg : g.cps.toList = [x]) (h1 : ∀ r' c', r = x :: r' → Spo t s r' n c' → Q (.bl true) c') (h2 : (∀ r', r ≠ x :: r') → Q (.bl false) c) : @Run sp__law_next [.str s, .mo t, .str g] c Q E := by
  refine lnext hS hl hg (fun y r' c' e S => ?_) fun j e => ?_
  · obtain ⟨e1, e2⟩ := tk_cons e
    rw [List.mem_singleton.mp e2] at e1
    exact h1 r' c' e1 S
  · refine h2 fun r' z => ?_
    rw [z, show tkP [x] (x :: r') = .ok x r' from if_pos List.mem_cons_self] at e
    cases e
theorem ex_no {x : Nat} {r : List Nat} (h : hd0 r ≠ x) : exP x r = .bad r.length := by
  cases r with
  | nil => rfl
  | cons y r => unfold exP; rw [show tkP [x] (y :: r) = .bad (r.length + 1) from if_neg fun z => h (List.mem_singleton.mp z)]; rfl
theorem LO.no (h : LO t s (.bad r.length : Out α) n q qb) (hS : Spo t s r n c) : qb c := h.2 _ c rfl hS.bad
theorem LO.yes {x : α} (h : LO t s (.ok x r : Out α) n q qb) (hS : Spo t s r n c) : q x c := h.1 _ _ c rfl hS
end
def sp__law_steps : SpD := fun ds c Q _ => ∃ (t : Addr) (s : Str) (r : List Nat), ds = [.str s, .mo t] ∧ Spo t s r c.n c ∧ s.length ≤ 1000000 ∧ LO t s (stP r) c.n (fun i c' => Q (.int i) c') (Q .non)
theorem ok__law_steps : FnOk P w K mg base (L2.CX P w) 3 a.f__law_steps a.d__law_steps ["_law_string_here", "_law_spot"] (spOf K sp__law_steps) := by
  refine okD T.F__law_steps sc__law_steps (fun ds c Q E h => ?_) (fun cdv A outer s H E G0 c0 ED good => ⟨_, _, (pds_cons (pds_set 2 sc__law_steps.nd (pd_ixM (pd_v 1) pd_int))
      (pds_cons (pds_if (pdt_not (pdt_val (pd_callC good ((ok__law_next T).mono (by omega)) (c__law_next_3 T) (fun _ => .nil) (pda_cons (pd_v 0) (pda_cons (pd_v 1) (pda_cons pd_str pda_nil)))))) (pds_one (pds_ret pd_non)) pss_nil')
      (pds_cons (pds_set 3 sc__law_steps.nd (pd_at (pd_v 0) (pd_v 2)))
      (pds_cons (pds_if (pdt_cm (pdc_in good (pd_v 3) pd_str)) (pds_one (pds_expr (pd_callC good ((ok__law_next T).mono (by omega)) (c__law_next_3 T) (fun _ => .nil) (pda_cons (pd_v 0) (pda_cons (pd_v 1) (pda_cons (pd_at (pd_lst (pda_cons pd_str (pda_cons pd_str pda_nil))) (pd_callTy call_int1 br_intA T.z_int bt_int (pda_cons (pd_cm (pdc_eqD good (pd_v 3) pd_str)) pda_nil))) pda_nil)))))) pss_nil')
      (pds_cons (pds_set 4 sc__law_steps.nd (pd_callTy call_int_str br_intS T.z_int bt_int (pda_cons (pd_part2 (pd_v 0) (pdo_some (pd_v 2)) (pdo_some (pd_ixM (pd_v 1) pd_int))) pda_nil)))
      (pds_one (pds_ret (pd_at (pd_lst (pda_cons pd_non (pda_cons (pd_v 4) pda_nil))) (pd_callTy call_int1 br_intA T.z_int bt_int (pda_cons (pd_callC good ((ok__law_next T).mono (by omega)) (c__law_next_3 T) (fun _ => .nil) (pda_cons (pd_v 0) (pda_cons (pd_v 1) (pda_cons pd_str pda_nil)))) pda_nil)))))))))), ?_⟩)
  · obtain ⟨t, s, r, rfl, _⟩ := h; rfl
  · rintro ds Qd ⟨t, s, r, rfl, hS, hl, q⟩
    walk_at "w"
    rw [hS.m]
    walk_at "m"
    refine lnextO hS hl (l := digL) rfl q (fun d r1 c1 e1 hd S1 q1 => ?_) (fun q => by walk_at "m"; exact q)
    subst e1
    replace q := q1
    clear q1
    walk_at "m"
    refine ⟨by show s.length ≤ 16777216; omega, d, hS.item, ?_⟩
    walk_at "m"
    have last : ∀ {c2 : CN} {l r2 : List Nat} {n : Int}, d :: r1 = l ++ r2 → Spo t s r2 c0.n c2 → intText? (sOf l) = some n → l.length ≤ 640 → LO t s ((exP 32 r2).bind fun _ r3 => Out.ok n r3) c0.n (fun i c' => Qd (.int i) c') (Qd .non) →
        @mL (c2.m t) fun l =>
                    @atP (atI l 0) fun d =>
                      asI d fun i =>
                        s.length ≤ 16777216 ∧
                          aIntS [D.str (cutS s (some ↑(s.length - (r1.length + 1))) (some i))] c2 fun d c1 =>
                            @PL.Run sp__law_next [D.str s, D.mo t, D.str (Str.ofString " ")] c1
                              (fun x c1 => aInt [x] c1 fun y c2 => aItem (D.lst [D.non, d]) y c2 Qd) ED := fun {c2 l r2 n} el S2 hi hl2 q => by
      have hR : Rest s (s.length - (r1.length + 1)) (l ++ r2) := by rw [← el]; exact hS.rest
      have l0 := hS.rest.l
      have l1 := S2.rest.l
      have l2 := congrArg List.length el
      simp only [List.length_cons, List.length_append] at l2 l0
      have ec := hR.cutn
      rw [show s.length - (r1.length + 1) + l.length = s.length - r2.length by omega] at ec
      rw [S2.m]
      walk_at "m"
      refine ⟨by omega, _, n, congrArg (fun z => [D.str z]) ec, hi, by rw [sOf_len]; exact hl2, ?_⟩
      refine lnextX S2 hl L_sp q (fun r3 c3 e3 S3 q => ?_) fun q => ?_
      · walk_at "m"
        exact atP.mk rfl (q.yes S3)
      · walk_at "m"
        exact atP.mk rfl q
    have L_1234 : (Str.ofString "1234").cps.toList = [49, 50, 51, 52] := by decide
    rw [L_1234]
    have p4 : Pl 60 (D.str (Str.ofString "4")) := pl_str (by decide +kernel)
    have pd : Pl 60 (D.str ⟨#[d]⟩) := pl_str (by
      have hd2 : d ≤ 126 := by
        have key : ∀ k ∈ digL, k ≤ 126 := by decide
        exact key d hd
      have := strOk_of (l := [d]) fun k hk => by rw [List.mem_singleton.mp hk]; exact hd2
      rw [Bool.and_eq_true]
      exact ⟨rfl, this⟩)
    by_cases h1 : d ∈ [49, 50, 51]
    · have ne : d ≠ 52 := fun e => by rw [e] at h1; revert h1; decide
      refine Br.t (by simp only [List.mem_cons, List.not_mem_nil, or_false] at h1 ⊢; simp; omega) ⟨pd, p4, ?_⟩
      rw [one_no (y := 52) (g := Str.ofString "4") rfl ne]
      refine atP.mk rfl ?_
      by_cases h2 : hd0 r1 = 32
      · rw [if_neg (fun z => z.2 h2), if_neg (fun z => z.2 h2)] at q
        refine lnext S1 hl (l := digL) L_dig (fun x r' c' e S => ?_) fun j e => ?_
        · obtain ⟨e1, e2⟩ := tk_cons e
          rw [e1] at h2
          have h2 : x = 32 := h2
          rw [h2] at e2
          exact absurd e2 (by decide)
        · exact last (l := [d]) rfl S1 (int1 d hd) (by show 1 ≤ 640; decide) q
      · rw [if_pos ⟨h1, h2⟩] at q
        refine lnext S1 hl (l := digL) L_dig (fun x r2 c2 e S2 => ?_) fun j e => ?_
        · rw [e] at q
          obtain ⟨e1, e2⟩ := tk_cons e
          exact last (l := [d, x]) (by rw [e1]; rfl) S2 (int2 d h1 x e2) (by show 2 ≤ 640; decide) q
        · rw [e] at q
          have := tk_len e
          subst this
          exact last (l := [d]) rfl S1 (int1 d hd) (by show 1 ≤ 640; decide) (by rw [ex_no h2]; exact q)
    · rw [if_neg (fun z => h1 z.1)] at q
      by_cases h4 : d = 52
      · subst h4
        refine Br.t (by decide) ⟨pd, p4, ?_⟩
        rw [one_is (y := 52) (g := Str.ofString "4") rfl rfl]
        refine atP.mk rfl ?_
        by_cases h2 : hd0 r1 = 32
        · rw [if_neg (fun z => z.2 h2)] at q
          refine lnext S1 hl L_0 (fun x r' c' e S => ?_) fun j e => ?_
          · obtain ⟨e1, e2⟩ := tk_cons e
            rw [e1] at h2
            have h2 : x = 32 := h2
            rw [h2] at e2
            exact absurd e2 (by decide)
          · exact last (l := [52]) rfl S1 (int1 52 hd) (by decide) q
        · rw [if_pos ⟨rfl, h2⟩] at q
          refine lnext S1 hl L_0 (fun x r2 c2 e S2 => ?_) fun j e => ?_
          · rw [e] at q
            obtain ⟨e1, e2⟩ := tk_cons e
            obtain rfl := List.mem_singleton.mp e2
            exact last (l := [52, 48]) (by rw [e1]; rfl) S2 int40 (by decide) q
          · rw [e] at q
            have := tk_len e
            subst this
            exact last (l := [52]) rfl S1 (int1 52 hd) (by decide) (by rw [ex_no h2]; exact q)
      · rw [if_neg (fun z => h4 z.1)] at q
        refine Br.f (by simp only [List.mem_cons, List.not_mem_nil, or_false] at h1 ⊢; simp; omega) ?_
        exact last (l := [d]) rfl S1 (int1 d hd) (by show 1 ≤ 640; decide) q
def sp__law_string : SpD := fun ds c Q _ => ∃ (t : Addr) (s : Str) (r : List Nat), ds = [.str s, .mo t] ∧ Spo t s r c.n c ∧ s.length ≤ 1000000 ∧ LO t s (qP r) c.n (fun x c' => Q (.str x) c') (Q .non)
theorem ok__law_string : FnOk P w K mg base (L2.CX P w) 3 a.f__law_string a.d__law_string ["_law_string_here", "_law_spot"] (spOf K sp__law_string) := by
  refine okD T.F__law_string sc__law_string (fun ds c Q E h => ?_) (fun cdv A outer s H E G0 c0 ED good => ⟨_, _, (pds_cons (pds_set 2 sc__law_string.nd pd_str)
      (pds_cons (pds_if (pdt_not (pdt_val (pd_callC good ((ok__law_next T).mono (by omega)) (c__law_next_3 T) (fun _ => .nil) (pda_cons (pd_v 0) (pda_cons (pd_v 1) (pda_cons pd_str pda_nil)))))) (pds_one (pds_ret pd_non)) pss_nil')
      (pds_cons (pds_while PassesOwn.leaving (pdw_pt (pdw_and (pdt_cm (pdc_lt (pd_ixM (pd_v 1) pd_int) (pd_callB cr_len br_lenA T.z_len bt_len (pda_cons (pd_v 0) pda_nil)))) (pdw_and1 (pdt_leP2 pd_str (pd_at (pd_v 0) (pd_ixM (pd_v 1) pd_int)) pd_str))))
      (pds_cons (pds_set 3 sc__law_string.nd (pd_at (pd_v 0) (pd_ixM (pd_v 1) pd_int)))
      (pds_cons (pds_setM (pd_v 1) pd_int (pd_sum2 (pd_ixM (pd_v 1) pd_int) pd_int))
      (pds_cons (pds_if (pdt_cm (pdc_eqD good (pd_v 3) pd_str)) (pds_one (pds_ret (pd_v 2))) pss_nil')
      (pds_cons (pds_if (pdt_cm (pdc_eqD good (pd_v 3) pd_str)) (pds_cons (pds_if (pdt_not (pdt_val (pd_callC good ((ok__law_next T).mono (by omega)) (c__law_next_3 T) (fun _ => .nil) (pda_cons (pd_v 0) (pda_cons (pd_v 1) (pda_cons pd_str pda_nil)))))) (pds_one (pds_ret pd_non)) pss_nil')
      (pds_one (pds_set 3 sc__law_string.nd (pd_at (pd_v 0) (pd_sub (pd_ixM (pd_v 1) pd_int) pd_int))))) pss_nil')
      (pds_one (pds_set 2 sc__law_string.nd (pd_sum2 (pd_v 2) (pd_v 3)))))))))
      (pds_one (pds_ret pd_non))))), ?_⟩)
  · obtain ⟨t, s, r, rfl, _⟩ := h; rfl
  · rintro ds Qd ⟨t, s, r, rfl, hS, hl, q⟩
    walk_at "w"
    refine lnextX hS hl (x := 34) rfl q (fun r1 c1 e1 S1 q => ?_) (fun q => by walk_at "m"; exact q)
    have hl1 := S1.rest.l
    walk_at "m"
    refine ⟨fun m ρ c => ∃ acc l sl, ρ = [.fz (.str s), .fz (.mo t), .fz (.str (sOf acc)), sl] ∧ Spo t s l c0.n c ∧ acc.length + l.length ≤ s.length ∧ LO t s (sqP acc l) c0.n (fun x c' => Qd (.str x) c') (Qd .non) ∧ m = l.length, ⟨_, [], r1, _, rfl, S1, by simp only [List.length_nil]; omega, q, rfl⟩, ?_⟩
    clear q
    rintro m ρ c2 ⟨acc, l, sl, rfl, S2, h2, q, rfl⟩
    walk_at "w"
    rw [S2.m]
    walk_at "m"
    have hl2 := S2.rest.l
    cases l with
    | nil =>
      refine ⟨by omega, Br.f (by simp) ?_⟩
      rw [if_neg Bool.false_ne_true]
      exact q.no S2
    | cons x l =>
      simp only [List.length_cons] at hl2 h2
      refine ⟨by omega, Br.t (by simp; omega) ?_⟩
      rw [S2.m]
      walk_at "m"
      refine ⟨by show s.length ≤ 16777216; omega, x, S2.item, ?_⟩
      walk_at "m"
      rw [lo_is, hi_is]
      by_cases hx : 32 ≤ x ∧ x ≤ 126
      · refine Br.t (decide_eq_true hx.1) ?_
        rw [if_pos (decide_eq_true hx.2)]
        rw [S2.m]
        walk_at "m"
        refine ⟨by show s.length ≤ 16777216; omega, x, S2.item, ?_⟩
        walk_at "m"
        rw [S2.m]
        walk_at "m"
        rw [S2.m]
        walk_at "m"
        have pd : Pl 60 (D.str ⟨#[x]⟩) := pl_str (by
          have := strOk_of (l := [x]) fun k hk => by rw [List.mem_singleton.mp hk]; exact hx.2
          rw [Bool.and_eq_true]
          exact ⟨rfl, this⟩)
        have S3 := S2.step
        simp only [List.length_cons] at S3
        refine ⟨0, rfl, pd, pl_str (by decide +kernel), ?_⟩
        simp only [List.set_cons_zero]
        generalize c2.put t (MO.lst [D.int (((s.length - (l.length + 1) : Nat) : Int) + 1)]) = c3 at S3 ⊢
        have fin : ∀ {c4 : CN} {y : Nat} {r4 : List Nat} {sl : Sl}, Spo t s r4 c0.n c4 → r4.length ≤ l.length → LO t s (sqP (acc ++ [y]) r4) c0.n (fun x c' => Qd (.str x) c') (Qd .non) →
              ∃ m', m' < l.length + 1 ∧ ∃ acc' l' sl', ([.fz (.str s), .fz (.mo t), .fz (.str (sOf acc ++ ⟨#[y]⟩)), sl] : DEnv) = [.fz (.str s), .fz (.mo t), .fz (.str (sOf acc')), sl'] ∧ Spo t s l' c0.n c4 ∧ acc'.length + l'.length ≤ s.length ∧ LO t s (sqP acc' l') c0.n (fun x c' => Qd (.str x) c') (Qd .non) ∧ m' = l'.length :=
            fun {c4 y r4 sl} S4 h4 q => ⟨r4.length, by omega, acc ++ [y], r4, _, by rw [sOf_snoc], S4, by simp only [List.length_append, List.length_cons, List.length_nil]; omega, q, rfl⟩
        by_cases h34 : x = 34
        · subst h34
          refine Br.t (by decide) ?_
          rw [sqP_end] at q
          exact q.yes S3
        · refine Br.f (one_no (y := 34) (g := Str.ofString "\"") rfl h34) ⟨pd, pl_str (by decide +kernel), ?_⟩
          by_cases h92 : x = 92
          · subst h92
            refine Br.t (by decide) ?_
            rw [sqP_esc] at q
            refine lnextO S3 hl L_two q (fun y r4 c4 e4 hy S4 q1 => ?_) (fun q => by walk_at "m"; exact q)
            subst e4
            walk_at "m"
            rw [S4.m]
            walk_at "m"
            have hl4 := S3.rest.l
            have it := S3.item
            simp only [List.length_cons] at hl4 it h2
            rw [show ((s.length - r4.length : Nat) : Int) - 1 = ((s.length - (r4.length + 1) : Nat) : Int) by omega]
            refine ⟨by show s.length ≤ 16777216; omega, y, it, ?_⟩
            walk_at "m"
            exact ⟨by rw [sOf_len]; show acc.length + 1 ≤ 16777216; omega, fin S4 (by simp only [List.length_cons]; omega) q1⟩
          · refine Br.f (one_no (y := 92) (g := Str.ofString "\\") rfl h92) ?_
            rw [sqP_in h34 h92 hx] at q
            exact ⟨by rw [sOf_len]; show acc.length + 1 ≤ 16777216; omega, fin S3 (Nat.le_refl _) q⟩
      · have n34 : x ≠ 34 := fun e => hx (by rw [e]; decide)
        have n92 : x ≠ 92 := fun e => hx (by rw [e]; decide)
        rw [sqP_out n34 n92 hx] at q
        have q2 := q.no (r := x :: l) S2
        by_cases h32 : 32 ≤ x
        · refine Br.t (decide_eq_true h32) ?_
          rw [if_neg (by rw [decide_eq_false (fun z => hx ⟨h32, z⟩)]; decide)]
          exact q2
        · refine Br.f (decide_eq_false h32) ?_
          rw [if_neg Bool.false_ne_true]
          exact q2
omit T in
section
theorem lfP_bang {r : List Nat} : lfP (33 :: r) = .ok (.brk none) r := by
  unfold lfP
  rw [if_neg (by show ¬ (33 : Nat) = 34; decide), if_neg (by show ¬ (33 : Nat) = 95; decide), if_pos (show hd0 (33 :: r) = 33 from rfl), exP_hit]; rfl
theorem lfP_us {r : List Nat} : lfP (95 :: r) = (qP r).bind fun x r2 => .ok (.brk (some x)) r2 := by
  unfold lfP
  rw [if_neg (by show ¬ (95 : Nat) = 34; decide), if_pos (show hd0 (95 :: r) = 95 from rfl), exP_hit]; rfl
theorem lfP_q {r : List Nat} (h : hd0 r = 34) : lfP r = (qP r).bind fun x r1 => .ok (.text x) r1 := by
  unfold lfP
  rw [if_pos h]
theorem lfP_nm {r : List Nat} (h : hd0 r ≠ 34) (h2 : hd0 r ≠ 95) (h3 : hd0 r ≠ 33) : lfP r = (nmP' r).bind fun x r1 => .ok (.hole x) r1 := by
  unfold lfP
  rw [if_neg h, if_neg h2, if_neg h3]
theorem hd_no {x : Nat} {r : List Nat} (hx : x ≠ 0) (h : ∀ r', r ≠ x :: r') : hd0 r ≠ x := fun e => by
  cases r with
  | nil => exact hx e.symm
  | cons y r => exact h r (by rw [show y = x from e])
theorem mlP_yes {n x : Nat} {acc l : List Nat} (h : x ∈ lettersL) : mlP (n + 1) acc (x :: l) = mlP n (acc ++ [x]) l := by rw [mlP, if_pos h]
theorem mlP_no {n j : Nat} {acc l : List Nat} (h : tkP lettersL l = .bad j) : mlP (n + 1) acc l = .ok (sOf acc) l := by
  cases l with
  | nil => rw [mlP]
  | cons x l =>
    rw [mlP, if_neg]
    intro z
    rw [tkP, if_pos z] at h
    cases h
theorem LO.map {α β : Type} {t : Addr} {s : Str} {o : Out α} {k : α → β} {n : Nat} {q : β → CN → Prop} {qb : CN → Prop} (h : LO t s (o.bind fun x r => .ok (k x) r) n q qb) : LO t s o n (fun x => q (k x)) qb := by
  refine ⟨fun x r' c' e S => ?_, fun j c' e S => ?_⟩
  · rw [e] at h; exact h.1 _ _ c' rfl S
  · rw [e] at h; exact h.2 _ c' rfl S
end
def sp__law_single : SpD := fun ds c Q _ => ∃ (t : Addr) (s : Str) (r : List Nat), ds = [.str s, .mo t] ∧ Spo t s r c.n c ∧ s.length ≤ 1000000 ∧ LO t s (lfP r) c.n (fun f c' => Q f.enc c') (Q .non)
theorem ok__law_single : FnOk P w K mg base (L2.CX P w) 5 a.f__law_single a.d__law_single ["_law_string_here", "_law_spot"] (spOf K sp__law_single) := by
  refine okD T.F__law_single sc__law_single (fun ds c Q E h => ?_) (fun cdv A outer s H E G0 c0 ED good => ⟨_, _, (pds_cons (pds_if (pdt_val (pd_callC good ((ok__law_next T).mono (by omega)) (c__law_next_3 T) (fun _ => .nil) (pda_cons (pd_v 0) (pda_cons (pd_v 1) (pda_cons pd_str pda_nil))))) (pds_one (pds_ret (pd_tup (pda_cons pd_str (pda_cons pd_non pda_nil))))) pss_nil')
      (pds_cons (pds_set 2 sc__law_single.nd (pd_at (pd_lst (pda_cons pd_str (pda_cons pd_str pda_nil))) (pd_callTy call_int1 br_intA T.z_int bt_int (pda_cons (pd_callC good ((ok__law_next T).mono (by omega)) (c__law_next_3 T) (fun _ => .nil) (pda_cons (pd_v 0) (pda_cons (pd_v 1) (pda_cons pd_str pda_nil)))) pda_nil))))
      (pds_cons (pds_if (pdw_pt (pdw_or (pdt_cm (pdc_eqS (pd_v 2) pd_str)) (pdw_or1 (pdt_cm (pdc_eqS (pd_part2 (pd_v 0) (pdo_some (pd_ixM (pd_v 1) pd_int)) (pdo_some (pd_sum2 (pd_ixM (pd_v 1) pd_int) pd_int))) pd_str))))) (pds_cons (pds_set 4 sc__law_single.nd (pd_callC good ((ok__law_string T).mono (by omega)) (c__law_string_2 T) (fun _ => .nil) (pda_cons (pd_v 0) (pda_cons (pd_v 1) pda_nil))))
      (pds_one (pds_ret (pd_at (pd_lst (pda_cons (pd_tup (pda_cons (pd_v 2) (pda_cons (pd_v 4) pda_nil))) (pda_cons pd_non pda_nil))) (pd_callTy call_int1 br_intA T.z_int bt_int (pda_cons (pd_cm (pdc_isN (pd_v 4))) pda_nil)))))) pss_nil')
      (pds_cons (pds_set 3 sc__law_single.nd (pd_ixM (pd_v 1) pd_int))
      (pds_cons (pds_while PassesOwn.leaving (pdw_pt (pdw_and (pdt_cm (pdc_lt (pd_ixM (pd_v 1) pd_int) (pd_sum2 (pd_v 3) pd_int))) (pdw_and1 (pdt_val (pd_callC good ((ok__law_next T).mono (by omega)) (c__law_next_3 T) (fun _ => .nil) (pda_cons (pd_v 0) (pda_cons (pd_v 1) (pda_cons pd_str pda_nil))))))))
      (pds_one (pds_set 2 sc__law_single.nd pd_str)))
      (pds_one (pds_ret (pd_at (pd_lst (pda_cons pd_non (pda_cons (pd_tup (pda_cons pd_str (pda_cons (pd_part2 (pd_v 0) (pdo_some (pd_v 3)) (pdo_some (pd_ixM (pd_v 1) pd_int))) pda_nil))) pda_nil))) (pd_callTy call_int1 br_intA T.z_int bt_int (pda_cons (pd_cm (pdc_gt (pd_ixM (pd_v 1) pd_int) (pd_v 3))) pda_nil)))))))))), ?_⟩)
  · obtain ⟨t, s, r, rfl, _⟩ := h; rfl
  · rintro ds Qd ⟨t, s, r, rfl, hS, hl, q⟩
    walk_at "w"
    have hr := hS.rest.l
    refine lnextT hS hl (x := 33) rfl (fun r1 c1 e1 S1 => ?_) fun n33 => ?_
    · subst e1
      walk_at "m"
      rw [lfP_bang] at q
      exact q.yes S1
    walk_at "m"
    refine lnextT hS hl (x := 95) rfl (fun r1 c1 e1 S1 => ?_) fun n95 => ?_
    · subst e1
      walk_at "m"
      rw [lfP_us] at q
      refine atP.mk rfl ?_
      walk_at "m"
      have e := S1.n
      refine ⟨t, s, r1, rfl, by rw [e]; exact S1, hl, ?_⟩
      rw [e]
      refine ⟨fun x r' c' ex S => ?_, fun j c' ex S => ?_⟩
      · walk_at "m"
        exact atP.mk rfl (q.map.1 x r' c' ex S)
      · walk_at "m"
        exact atP.mk rfl (q.map.2 j c' ex S)
    walk_at "m"
    refine atP.mk rfl ?_
    walk_at "m"
    rw [hS.m]
    walk_at "m"
    rw [hS.m]
    walk_at "m"
    rw [hS.rest.cut]
    refine ⟨by omega, ?_⟩
    rw [hd_is (g := Str.ofString "\"") (x := 34) rfl (by decide)]
    by_cases h34 : hd0 r = 34
    · refine Br.t (decide_eq_true h34) ⟨t, s, r, rfl, hS, hl, ?_⟩
      rw [lfP_q h34] at q
      refine ⟨fun x r' c' ex S => ?_, fun j c' ex S => ?_⟩
      · walk_at "m"
        exact atP.mk rfl (q.map.1 x r' c' ex S)
      · walk_at "m"
        exact atP.mk rfl (q.map.2 j c' ex S)
    refine Br.f (decide_eq_false h34) ?_
    rw [lfP_nm h34 (hd_no (by decide) n95) (hd_no (by decide) n33)] at q
    replace q := q.map
    refine ⟨fun m ρ c => ∃ acc l wd sl, ρ = [.fz (.str s), .fz (.mo t), .fz (.str wd), .fz (.int ((s.length - r.length : Nat) : Int)), sl] ∧ r = acc ++ l ∧ acc.length ≤ 8 ∧ Spo t s l c0.n c ∧ (acc ≠ [] → LO t s (mlP (8 - acc.length) acc l) c0.n (fun x c' => Qd (Fm.hole x).enc c') (Qd .non)) ∧ m = l.length, ⟨_, [], r, _, _, rfl, rfl, by simp, hS, fun z => absurd rfl z, rfl⟩, ?_⟩
    rintro m ρ c2 ⟨acc, l, wd, sl, rfl, el, ha, S2, q2, rfl⟩
    have ll := congrArg List.length el
    rw [List.length_append] at ll
    have el2 : r = acc ++ l := el
    have fin : ∀ {c3 : CN}, Spo t s l c0.n c3 → (acc = [] → Qd .non c3) → (acc ≠ [] → Qd (Fm.hole (sOf acc)).enc c3) →
            @mL (c3.m t) fun l =>
              @atP (atI l 0) fun d =>
                asI d fun i =>
                  s.length ≤ 16777216 ∧
                    @mL (c3.m t) fun l =>
                      @atP (atI l 0) fun d =>
                        aGt d (D.int ↑(s.length - r.length)) c3 fun x c1 =>
                          aInt [x] c1 fun y c2 =>
                            aItem
                              (D.lst
                                [D.non,
                                  D.tup
                                    [D.str (Str.ofString "hole"),
                                      D.str (cutS s (some ↑(s.length - r.length)) (some i))]])
                              y c2 Qd := fun {c3} S3 h1 h2 => by
      have l3 := S3.rest.l
      rw [S3.m]
      walk_at "m"
      refine ⟨by omega, ?_⟩
      by_cases ea : acc = []
      · have hb : decide (((s.length - r.length : Nat) : Int) < ((s.length - l.length : Nat) : Int)) = false := by
          rw [ea] at ll
          simp only [List.length_nil] at ll
          exact decide_eq_false (by omega)
        rw [hb]
        exact atP.mk rfl (h1 ea)
      · have h0 : 0 < acc.length := List.length_pos_iff.mpr ea
        have hb : decide (((s.length - r.length : Nat) : Int) < ((s.length - l.length : Nat) : Int)) = true := decide_eq_true (by omega)
        have hR : Rest s (s.length - r.length) (acc ++ l) := by rw [← el2]; exact hS.rest
        have ec := hR.cutn
        rw [show s.length - r.length + acc.length = s.length - l.length by omega] at ec
        rw [ec, hb]
        exact atP.mk rfl (h2 ea)
    walk_at "w"
    rw [S2.m]
    walk_at "m"
    by_cases h8 : acc.length < 8
    · refine Br.t (decide_eq_true (by omega)) ?_
      refine lnext S2 hl L_let (fun x l4 c4 e4 S4 => ?_) fun j e4 => ?_
      · walk_at "m"
        rw [if_pos trivial]
        obtain ⟨e5, hx⟩ := tk_cons e4
        subst e5
        refine ⟨l4.length, by simp, acc ++ [x], l4, _, _, rfl, by rw [el2]; simp, by simp; omega, S4, fun _ => ?_, rfl⟩
        rw [show 8 - (acc ++ [x]).length = 7 - acc.length by rw [List.length_append]; show 8 - (acc.length + 1) = _; omega]
        by_cases ea : acc = []
        · subst ea
          have er : r = x :: l4 := el2
          have : nmP' r = mlP 7 [x] l4 := by rw [er]; unfold nmP'; rw [show tkP lettersL (x :: l4) = .ok x l4 from if_pos hx]; rfl
          rw [this] at q
          exact q
        · have q3 := q2 ea
          rw [show 8 - acc.length = (7 - acc.length) + 1 by omega, mlP_yes hx] at q3
          exact q3
      · walk_at "m"
        rw [if_neg Bool.false_ne_true]
        refine fin S2 (fun ea => ?_) fun ea => ?_
        · subst ea
          have er : r = l := el2
          have : nmP' r = .bad l.length := by rw [er]; unfold nmP'; rw [e4, tk_len e4]; rfl
          rw [this] at q
          exact q.no S2
        · have q3 := q2 ea
          rw [show 8 - acc.length = (7 - acc.length) + 1 by omega, mlP_no e4] at q3
          exact q3.yes S2
    · refine Br.f (decide_eq_false (by omega)) ?_
      rw [if_neg Bool.false_ne_true]
      have ea : acc ≠ [] := fun e => h8 (by rw [e]; simp)
      refine fin S2 (fun e => absurd e ea) fun _ => ?_
      have q3 := q2 ea
      rw [show 8 - acc.length = 0 by omega, mlP] at q3
      exact q3.yes S2
omit T in
section
theorem L_pm : (Str.ofString "+|").cps.toList = [43, 124] := by decide
theorem L_cl : (Str.ofString ")").cps.toList = [41] := by decide
def prP (r0 : List Nat) : Out Fm := (paP r0).bind fun f r1 => (exP 32 r1).bind fun _ r2 => (tkP [43, 124] r2).bind fun s r3 => (exP 32 r3).bind fun _ r4 => (paP r4).bind fun g r5 => (exP 41 r5).bind fun _ r6 => .ok (binF s f g) r6
theorem paP_par {r : List Nat} : paP (40 :: r) = prP r := by
  rw [paP_eq, if_pos (show hd0 (40 :: r) = 40 from rfl), exP_hit]; rfl
theorem paP_grp {r : List Nat} : paP (91 :: r) = (paP r).bind fun f r1 => (exP 93 r1).bind fun _ r2 => .ok (.group f) r2 := by
  rw [paP_eq, if_neg (by show ¬ (91 : Nat) = 40; decide), if_pos (show hd0 (91 :: r) = 91 from rfl), exP_hit]; rfl
theorem paP_flt {r : List Nat} : paP (123 :: r) = (paP r).bind fun f r1 => (exP 125 r1).bind fun _ r2 => .ok (.flat f) r2 := by
  rw [paP_eq, if_neg (by show ¬ (123 : Nat) = 40; decide), if_neg (by show ¬ (123 : Nat) = 91; decide), if_pos (show hd0 (123 :: r) = 123 from rfl), exP_hit]; rfl
theorem paP_nst {r : List Nat} : paP (60 :: r) = (stP r).bind fun i r1 => (paP r1).bind fun f r2 => (exP 62 r2).bind fun _ r3 => .ok (.nested i f) r3 := by
  rw [paP_eq, if_neg (by show ¬ (60 : Nat) = 40; decide), if_neg (by show ¬ (60 : Nat) = 91; decide), if_neg (by show ¬ (60 : Nat) = 123; decide), if_pos (show hd0 (60 :: r) = 60 from rfl), exP_hit]; rfl
theorem paP_lf {r : List Nat} (h1 : hd0 r ≠ 40) (h2 : hd0 r ≠ 91) (h3 : hd0 r ≠ 123) (h4 : hd0 r ≠ 60) : paP r = lfP r := by
  rw [paP_eq, if_neg h1, if_neg h2, if_neg h3, if_neg h4]
theorem enc_non {f : Fm} : PL.isNon f.enc = false := by
  cases f with
  | brk o => cases o <;> simp only [Fm.enc] <;> rfl
  | _ => simp only [Fm.enc]; rfl
end
def sp__law_part : Nat → SpD
  | 0 => fun _ _ _ _ => False
  | n + 1 => fun ds c Q _ => ∃ (t : Addr) (s : Str) (r : List Nat), ds = [.str s, .mo t] ∧ Spo t s r c.n c ∧ s.length ≤ 1000000 ∧ wt r ≤ n ∧ LO t s (paP r) c.n (fun f c' => Q f.enc c') (Q .non)
def sp__law_pair : Nat → SpD
  | 0 => fun _ _ _ _ => False
  | n + 1 => fun ds c Q _ => ∃ (t : Addr) (s : Str) (r : List Nat), ds = [.str s, .mo t] ∧ Spo t s r c.n c ∧ s.length ≤ 1000000 ∧ wt r + 1 ≤ n ∧ LO t s (prP r) c.n (fun f c' => Q f.enc c') (Q .non)
omit T in
section
theorem no__law_part (ds : List D) (c : CN) (Q : QD) (E : EDt) : sp__law_part 0 ds c Q E → False := id
theorem no__law_pair (ds : List D) (c : CN) (Q : QD) (E : EDt) : sp__law_pair 0 ds c Q E → False := id
variable {t : Addr} {s : Str} {r : List Nat} {c : CN} {Q : QD} {E : EDt} {m n : Nat}
theorem lpart (h : wt r + 1 ≤ n) (hS : Spo t s r m c) (hl : s.length ≤ 1000000) (q : LO t s (paP r) m (fun f c' => Q f.enc c') (Q .non)) : @Run (sp__law_part n) [.str s, .mo t] c Q E := by
  have e := hS.n
  subst e
  cases n with
  | zero => omega
  | succ n => exact ⟨t, s, r, rfl, hS, hl, by omega, q⟩
theorem lsteps (hS : Spo t s r m c) (hl : s.length ≤ 1000000) (q : LO t s (stP r) m (fun i c' => Q (.int i) c') (Q .non)) : @Run sp__law_steps [.str s, .mo t] c Q E := by
  have e := hS.n
  subst e
  exact ⟨t, s, r, rfl, hS, hl, q⟩
theorem lpair (h : wt r + 2 ≤ n) (hS : Spo t s r m c) (hl : s.length ≤ 1000000) (q : LO t s (prP r) m (fun f c' => Q f.enc c') (Q .non)) : @Run (sp__law_pair n) [.str s, .mo t] c Q E := by
  have e := hS.n
  subst e
  cases n with
  | zero => omega
  | succ n => exact ⟨t, s, r, rfl, hS, hl, by omega, q⟩
end
theorem ok__law_pair_of {n : Nat} (ih : FnR P w K mg base (L2.CX P w) (24 + n) a.f__law_part a.d__law_part ["_law_string_here", "_law_spot"] (spOf K (sp__law_part n)) ∧ FnR P w K mg base (L2.CX P w) (24 + n) a.f__law_pair a.d__law_pair ["_law_string_here", "_law_spot"] (spOf K (sp__law_pair n))) : FnR P w K mg base (L2.CX P w) (24 + (n + 1)) a.f__law_pair a.d__law_pair ["_law_string_here", "_law_spot"] (spOf K (sp__law_pair ((n + 1)))) := by
  refine okR (j := 24 + n) (k := 7) T.F__law_pair sc__law_pair (by omega) (fun ds c Q E h => ?_) (fun cdv A outer s H E G0 c0 ED rm good => ⟨_, _, (pds_cons (pds_set 2 sc__law_pair.nd (pd_callCR good (ih.1.on _ (rm.mono (by omega))) (c__law_part_2 T) (fun _ => .nil) (pda_cons (pd_v 0) (pda_cons (pd_v 1) pda_nil))))
      (pds_cons (pds_if (pdw_pt (pdw_or (pdt_cm (pdc_isN (pd_v 2))) (pdw_or1 (pdt_not (pdt_val (pd_callC good ((ok__law_next T).mono (by omega)) (c__law_next_3 T) (fun _ => .nil) (pda_cons (pd_v 0) (pda_cons (pd_v 1) (pda_cons pd_str pda_nil))))))))) (pds_one (pds_ret pd_non)) pss_nil')
      (pds_cons (pds_set 3 sc__law_pair.nd (pd_at (pd_lst (pda_cons pd_str (pda_cons pd_str pda_nil))) (pd_callTy call_int1 br_intA T.z_int bt_int (pda_cons (pd_cm (pdc_eqS (pd_part2 (pd_v 0) (pdo_some (pd_ixM (pd_v 1) pd_int)) (pdo_some (pd_sum2 (pd_ixM (pd_v 1) pd_int) pd_int))) pd_str)) pda_nil))))
      (pds_cons (pds_if (pdw_pt (pdw_or (pdt_not (pdt_val (pd_callC good ((ok__law_next T).mono (by omega)) (c__law_next_3 T) (fun _ => .nil) (pda_cons (pd_v 0) (pda_cons (pd_v 1) (pda_cons pd_str pda_nil)))))) (pdw_or1 (pdt_not (pdt_val (pd_callC good ((ok__law_next T).mono (by omega)) (c__law_next_3 T) (fun _ => .nil) (pda_cons (pd_v 0) (pda_cons (pd_v 1) (pda_cons pd_str pda_nil))))))))) (pds_one (pds_ret pd_non)) pss_nil')
      (pds_cons (pds_set 4 sc__law_pair.nd (pd_callCR good (ih.1.on _ (rm.mono (by omega))) (c__law_part_2 T) (fun _ => .nil) (pda_cons (pd_v 0) (pda_cons (pd_v 1) pda_nil))))
      (pds_cons (pds_if (pdw_pt (pdw_or (pdt_cm (pdc_isN (pd_v 4))) (pdw_or1 (pdt_not (pdt_val (pd_callC good ((ok__law_next T).mono (by omega)) (c__law_next_3 T) (fun _ => .nil) (pda_cons (pd_v 0) (pda_cons (pd_v 1) (pda_cons pd_str pda_nil))))))))) (pds_one (pds_ret pd_non)) pss_nil')
      (pds_one (pds_ret (pd_tup (pda_cons (pd_v 3) (pda_cons (pd_v 2) (pda_cons (pd_v 4) pda_nil)))))))))))), ?_⟩)
  · obtain ⟨t, s, r, rfl, _⟩ := h; rfl
  · rintro ds Qd ⟨t, s, r, rfl, hS, hl, hw, q⟩
    walk_at "w"
    refine lpart hw hS hl ⟨fun f r1 c1 e1 S1 => ?_, fun j c1 e1 S1 => ?_⟩
    · unfold prP at q
      rw [e1] at q
      have w1 := sub_wt paP_sub e1
      refine Br.f enc_non ?_
      refine lnextX S1 hl L_sp q (fun r2 c2 e2 S2 q1 => ?_) (fun q => by walk_at "m"; exact q)
      subst e2
      clear q
      have q := q1
      clear q1
      walk_at "m"
      rw [S2.m]
      walk_at "m"
      have l2 := S2.rest.l
      refine ⟨by omega, ?_⟩
      rw [S2.rest.cut, hd_is (g := Str.ofString "|") (x := 124) rfl (by decide)]
      have two : ∀ {R : D → Prop}, R (D.str (if hd0 r2 = 124 then Str.ofString "choice" else Str.ofString "join")) → @atP (atI [D.str (Str.ofString "join"), D.str (Str.ofString "choice")] (b2n (decide (hd0 r2 = 124)))) R := fun {R} h => by
        by_cases h2 : hd0 r2 = 124
        · rw [if_pos h2] at h
          rw [decide_eq_true h2]
          exact atP.mk rfl h
        · rw [if_neg h2] at h
          rw [decide_eq_false h2]
          exact atP.mk rfl h
      refine two ?_
      refine lnextO S2 hl L_pm q (fun sg r3 c3 e3 hsg S3 q1 => ?_) (fun q => by walk_at "m"; exact q)
      subst e3
      clear q
      have q := q1
      clear q1
      walk_at "m"
      refine lnextX S3 hl L_sp q (fun r4 c4 e4 S4 q1 => ?_) (fun q => by walk_at "m"; exact q)
      subst e4
      clear q
      have q := q1
      clear q1
      walk_at "m"
      have w2 : wt r4 ≤ wt r := by
        have := w1
        simp only [wt] at this
        omega
      refine lpart (Nat.le_trans (Nat.succ_le_succ w2) hw) S4 hl ⟨fun g r5 c5 e5 S5 => ?_, fun j c5 e5 S5 => ?_⟩
      · rw [e5] at q
        refine Br.f enc_non ?_
        refine lnextX S5 hl L_cl q (fun r6 c6 e6 S6 q1 => ?_) (fun q => by walk_at "m"; exact q)
        walk_at "m"
        have q2 := q1.yes S6
        unfold binF at q2
        by_cases h2 : sg = 124
        · rw [if_pos h2] at q2
          rw [if_pos (show hd0 (sg :: 32 :: r4) = 124 from h2)]
          exact q2
        · rw [if_neg h2] at q2
          rw [if_neg (show ¬ hd0 (sg :: 32 :: r4) = 124 from h2)]
          exact q2
      · rw [e5] at q
        exact Br.t rfl (q.2 _ c5 rfl S5)
    · unfold prP at q
      rw [e1] at q
      exact Br.t rfl (q.2 _ c1 rfl S1)
theorem ok__law_part_of {n : Nat} (ih : FnR P w K mg base (L2.CX P w) (24 + n) a.f__law_part a.d__law_part ["_law_string_here", "_law_spot"] (spOf K (sp__law_part n)) ∧ FnR P w K mg base (L2.CX P w) (24 + n) a.f__law_pair a.d__law_pair ["_law_string_here", "_law_spot"] (spOf K (sp__law_pair n))) : FnR P w K mg base (L2.CX P w) (24 + (n + 1)) a.f__law_part a.d__law_part ["_law_string_here", "_law_spot"] (spOf K (sp__law_part ((n + 1)))) := by
  refine okR (j := 24 + n) (k := 7) T.F__law_part sc__law_part (by omega) (fun ds c Q E h => ?_) (fun cdv A outer s H E G0 c0 ED rm good => ⟨_, _, (pds_cons (pds_if (pdt_val (pd_callC good ((ok__law_next T).mono (by omega)) (c__law_next_3 T) (fun _ => .nil) (pda_cons (pd_v 0) (pda_cons (pd_v 1) (pda_cons pd_str pda_nil))))) (pds_one (pds_ret (pd_callCR good (ih.2.on _ (rm.mono (by omega))) (c__law_pair_2 T) (fun _ => .nil) (pda_cons (pd_v 0) (pda_cons (pd_v 1) pda_nil))))) pss_nil')
      (pds_cons (pds_for PassesOwn.leaving good.calm (pdi_any (pd_tup (pda_cons (pd_tup (pda_cons pd_str (pda_cons pd_str (pda_cons pd_str pda_nil)))) (pda_cons (pd_tup (pda_cons pd_str (pda_cons pd_str (pda_cons pd_str pda_nil)))) (pda_cons (pd_tup (pda_cons pd_str (pda_cons pd_str (pda_cons pd_str pda_nil)))) pda_nil))))) (pdg_seq (n := 3) good.calm (pdg_cons (pdg_name 2 sc__law_part.nd) (pdg_cons (pdg_name 3 sc__law_part.nd) (pdg_cons (pdg_name 4 sc__law_part.nd) pdg_nil))))
      (pds_one (pds_if (pdt_val (pd_callC good ((ok__law_next T).mono (by omega)) (c__law_next_3 T) (fun _ => .nil) (pda_cons (pd_v 0) (pda_cons (pd_v 1) (pda_cons (pd_v 2) pda_nil))))) (pds_cons (pds_set 5 sc__law_part.nd (pd_tup pda_nil))
      (pds_cons (pds_if (pdt_cm (pdc_eqD good (pd_v 4) pd_str)) (pds_one (pds_set 5 sc__law_part.nd (pd_tup (pda_cons (pd_callC good ((ok__law_steps T).mono (by omega)) (c__law_steps_2 T) (fun _ => .nil) (pda_cons (pd_v 0) (pda_cons (pd_v 1) pda_nil))) pda_nil)))) pss_nil')
      (pds_cons (pds_if (pdt_cm (pdc_eqD good (pd_v 5) (pd_tup (pda_cons pd_non pda_nil)))) (pds_one (pds_ret pd_non)) pss_nil')
      (pds_cons (pds_set 6 sc__law_part.nd (pd_callCR good (ih.1.on _ (rm.mono (by omega))) (c__law_part_2 T) (fun _ => .nil) (pda_cons (pd_v 0) (pda_cons (pd_v 1) pda_nil))))
      (pds_cons (pds_if (pdw_pt (pdw_or (pdt_cm (pdc_isN (pd_v 6))) (pdw_or1 (pdt_not (pdt_val (pd_callC good ((ok__law_next T).mono (by omega)) (c__law_next_3 T) (fun _ => .nil) (pda_cons (pd_v 0) (pda_cons (pd_v 1) (pda_cons (pd_v 3) pda_nil))))))))) (pds_one (pds_ret pd_non)) pss_nil')
      (pds_one (pds_ret (pd_sum2 (pd_sum2 (pd_tup (pda_cons (pd_v 4) pda_nil)) (pd_v 5)) (pd_tup (pda_cons (pd_v 6) pda_nil)))))))))) pss_nil')))
      (pds_one (pds_ret (pd_callC good ((ok__law_single T).mono (by omega)) (c__law_single_2 T) (fun _ => .nil) (pda_cons (pd_v 0) (pda_cons (pd_v 1) pda_nil))))))), ?_⟩)
  · obtain ⟨t, s, r, rfl, _⟩ := h; rfl
  · rintro ds Qd ⟨t, s, r, rfl, hS, hl, hw, q⟩
    walk_at "w"
    refine lnextT hS hl (x := 40) rfl (fun r1 c1 e1 S1 => ?_) fun n40 => ?_
    · subst e1
      walk_at "m"
      rw [paP_par] at q
      refine lpair ?_ S1 hl q
      have h := hw
      simp only [wt] at h
      simp at h
      omega
    walk_at "m"
    have pe : Pl 60 (D.tup []) := fun d hd => by cases hd
    have pn : Pl 60 (D.tup [D.non]) := fun d hd => by rw [List.mem_singleton.mp hd]; trivial
    have cont : ∀ {r1 : List Nat} {c1 : CN} {k : Fm → Fm} {w e : Str} {y : Nat}, wt r1 + 1 ≤ n → Spo t s r1 c0.n c1 → e.cps.toList = [y] → (∀ f, (k f).enc = D.tup [D.str w, f.enc]) → LO t s ((paP r1).bind fun f r1 => (exP y r1).bind fun _ r2 => .ok (k f) r2) c0.n (fun f c' => Qd f.enc c') (Qd .non) →
        @PL.Run (sp__law_part n) [D.str s, D.mo t] c1
                      (fun d c1 =>
                        @Br (PL.isNon d) (Qd D.non c1)
                          (@PL.Run sp__law_next [D.str s, D.mo t, D.str e] c1
                            (fun x c1 =>
                              @asB x fun b => @Br (!b) (Qd D.non c1) (Qd (D.tup [D.str w, d]) c1))
                            ED))
                      ED := fun {r1 c1 k w e y} h S1 he hk q => by
      refine lpart h S1 hl ⟨fun f r2 c2 e2 S2 => ?_, fun j c2 e2 S2 => ?_⟩
      · rw [e2] at q
        refine Br.f enc_non ?_
        refine lnextX S2 hl he q (fun r3 c3 e3 S3 q1 => ?_) (fun q => by walk_at "m"; exact q)
        walk_at "m"
        have q2 := q1.yes S3
        rw [hk] at q2
        exact q2
      · rw [e2] at q
        exact Br.t rfl (q.2 _ c2 rfl S2)
    refine ⟨fun k ρ c => c = c0 ∧ (∃ a1 a2 a3 a4 a5, ρ = [.fz (.str s), .fz (.mo t), a1, a2, a3, a4, a5]) ∧ (1 ≤ k → hd0 r ≠ 91) ∧ (2 ≤ k → hd0 r ≠ 123) ∧ (3 ≤ k → hd0 r ≠ 60), ⟨rfl, ⟨_, _, _, _, _, rfl⟩, fun h => absurd h (by decide), fun h => absurd h (by decide), fun h => absurd h (by decide)⟩, ?_, ?_⟩
    · rintro k x ρ c hx ⟨rfl, ⟨a1, a2, a3, a4, a5, rfl⟩, h1, h2, h3⟩
      rcases k with _ | _ | _ | k
      · cases hx
        walk_at "w"
        refine lnextT hS hl (x := 91) rfl (fun r1 c1 e1 S1 => ?_) fun n91 => ?_
        · subst e1
          walk_at "m"
          rw [paP_grp] at q
          exact ⟨pe, pn, cont (k := Fm.group) (y := 93) (by have h := hw; simp only [wt] at h; simp at h; omega) S1 (by decide) (fun f => rfl) q⟩
        · walk_at "m"
          exact ⟨⟨_, _, _, _, _, rfl⟩, fun _ => hd_no (by decide) n91, fun h => absurd h (by decide), fun h => absurd h (by decide)⟩
      · cases hx
        walk_at "w"
        refine lnextT hS hl (x := 123) rfl (fun r1 c1 e1 S1 => ?_) fun n123 => ?_
        · subst e1
          walk_at "m"
          rw [paP_flt] at q
          exact ⟨pe, pn, cont (k := Fm.flat) (y := 125) (by have h := hw; simp only [wt] at h; simp at h; omega) S1 (by decide) (fun f => rfl) q⟩
        · walk_at "m"
          exact ⟨⟨_, _, _, _, _, rfl⟩, fun _ => h1 (by decide), fun _ => hd_no (by decide) n123, fun h => absurd h (by decide)⟩
      · cases hx
        walk_at "w"
        refine lnextT hS hl (x := 60) rfl (fun r1 c1 e1 S1 => ?_) fun n60 => ?_
        · subst e1
          walk_at "m"
          rw [paP_nst] at q
          have hw1 : wt r1 + 1 ≤ n := by have h := hw; simp only [wt] at h; simp at h; omega
          refine lsteps S1 hl ⟨fun i r2 c2 e2 S2 => ?_, fun j c2 e2 S2 => ?_⟩
          · rw [e2] at q
            have w2 := sub_wt stP_sub e2
            refine ⟨fun d hd => by rw [List.mem_singleton.mp hd]; trivial, pn, Br.f (by simp [eqD]) ?_⟩
            refine lpart (Nat.le_trans (Nat.succ_le_succ w2) hw1) S2 hl ⟨fun f r3 c3 e3 S3 => ?_, fun j c3 e3 S3 => ?_⟩
            · have q3 : LO t s ((paP r2).bind fun f r2 => (exP 62 r2).bind fun _ r3 => .ok (Fm.nested i f) r3) c.n (fun f c' => Qd f.enc c') (Qd .non) := q
              rw [e3] at q3
              refine Br.f enc_non ?_
              refine lnextX S3 hl (x := 62) (by decide) q3 (fun r4 c4 e4 S4 q1 => ?_) (fun q => by walk_at "m"; exact q)
              walk_at "m"
              exact q1.yes S4
            · have q3 : LO t s ((paP r2).bind fun f r2 => (exP 62 r2).bind fun _ r3 => .ok (Fm.nested i f) r3) c.n (fun f c' => Qd f.enc c') (Qd .non) := q
              rw [e3] at q3
              exact Br.t rfl (q3.2 _ c3 rfl S3)
          · rw [e2] at q
            refine ⟨pn, pn, Br.t (by simp [eqD]) ?_⟩
            exact q.2 _ c2 rfl S2
        · walk_at "m"
          exact ⟨⟨_, _, _, _, _, rfl⟩, fun _ => h1 (by decide), fun _ => h2 (by decide), fun _ => hd_no (by decide) n60⟩
      · simp at hx
    · rintro ρ c ⟨rfl, ⟨a1, a2, a3, a4, a5, rfl⟩, h1, h2, h3⟩
      walk_at "w"
      rw [paP_lf (hd_no (by decide) n40) (h1 (by decide)) (h2 (by decide)) (h3 (by decide))] at q
      exact ⟨t, s, r, rfl, hS, hl, q⟩
theorem two__law_part : ∀ n : Nat, FnR P w K mg base (L2.CX P w) (24 + n) a.f__law_part a.d__law_part ["_law_string_here", "_law_spot"] (spOf K (sp__law_part n)) ∧ FnR P w K mg base (L2.CX P w) (24 + n) a.f__law_pair a.d__law_pair ["_law_string_here", "_law_spot"] (spOf K (sp__law_pair n))
  | 0 => ⟨FnR.no (spOf_no no__law_part), FnR.no (spOf_no no__law_pair)⟩
  | n + 1 => ⟨ok__law_part_of T (two__law_part n), ok__law_pair_of T (two__law_part n)⟩
theorem ok__law_part (n : Nat) : FnR P w K mg base (L2.CX P w) (24 + n) a.f__law_part a.d__law_part ["_law_string_here", "_law_spot"] (spOf K (sp__law_part n)) := (two__law_part T n).1
omit T in
section
theorem whP_eq (r : List Nat) : whP r = (paP r).bind fun f r1 => if r1 = [] then .ok f [] else .bad r1.length := rfl
def dueD (s : Str) : D := match whP s.cps.toList with
  | .ok f _ => .lst [.str "form", f.enc]
  | .bad j => .lst [.str "at", .int ((s.length - j : Nat) : Int)]
theorem due_ok {s : Str} {f : Fm} {r : List Nat} (h : whP s.cps.toList = .ok f r) : dueD s = .lst [.str "form", f.enc] := by unfold dueD; rw [h]
theorem due_bad {s : Str} {j : Nat} (h : whP s.cps.toList = .bad j) : dueD s = .lst [.str "at", .int ((s.length - j : Nat) : Int)] := by unfold dueD; rw [h]
theorem due_PU {s : Str} (h : wt s.cps.toList ≤ 515) : PU 600 (dueD s) := by
  cases e : whP s.cps.toList with
  | bad j => rw [due_bad e]; exact at_PU (by decide +kernel)
  | ok f r =>
    rw [due_ok e]
    rw [whP_eq] at e
    obtain ⟨g, r1, e1, e⟩ := bind_ok e
    split at e
    · cases e; exact told_PU e1 (by omega) (by decide +kernel)
    · cases e
end
def sp__law_due : SpD := fun ds c Q _ => ∃ s : Str, ds = [.str s] ∧ s.length ≤ 1000000 ∧ wt s.cps.toList ≤ 515 ∧ ∀ c' : CN, c'.n = c.n → Q (dueD s) c'
theorem ok__law_due : FnOk P w K mg base (L2.CX P w) 183 a.f__law_due a.d__law_due ["_law_string_here"] (spOf K sp__law_due) := by
  refine okD T.F__law_due sc__law_due (fun ds c Q E h => ?_) (fun cdv A outer s H E G0 c0 ED good => ⟨_, _, (pds_cons (pds_set 1 sc__law_due.nd (pd_newLsM (pda_cons pd_int pda_nil)))
      (pds_cons (pds_set 2 sc__law_due.nd (pd_callC good (((ok__law_part T 517).ok (k := 181) (by decide)).mono (by omega)) (c__law_part_2 T) (fun _ => .nil) (pda_cons (pd_v 0) (pda_cons (pd_v 1) pda_nil))))
      (pds_cons (pds_if (pdw_pt (pdw_or (pdt_cm (pdc_isN (pd_v 2))) (pdw_or1 (pdt_cm (pdc_lt (pd_ixM (pd_v 1) pd_int) (pd_callB cr_len br_lenA T.z_len bt_len (pda_cons (pd_v 0) pda_nil))))))) (pds_one (pds_ret (pd_lst (pda_cons pd_str (pda_cons (pd_ixM (pd_v 1) pd_int) pda_nil))))) pss_nil')
      (pds_one (pds_ret (pd_lst (pda_cons pd_str (pda_cons (pd_v 2) pda_nil)))))))), ?_⟩)
  · obtain ⟨s, rfl, _⟩ := h; rfl
  · rintro ds Qd ⟨s, rfl, hl, hw, q⟩
    walk_at "w"
    refine ⟨by decide, fun t ht => ?_⟩
    have S0 : Spo t s s.cps.toList c0.n (c0.put t (.lst [.int 0])) := ⟨by rw [put_self, strLen, Nat.sub_self]; rfl, rfl, List.suffix_refl _⟩
    refine lpart (by omega) S0 hl ⟨fun f r1 c1 e1 S1 => ?_, fun j c1 e1 S1 => ?_⟩
    · have l1 := S1.rest.l
      refine Br.f enc_non ?_
      walk_at "m"
      rw [S1.m]
      walk_at "m"
      refine ⟨by omega, ?_⟩
      cases r1 with
      | nil =>
        refine Br.f (by simp) ?_
        have : whP s.cps.toList = .ok f [] := by rw [whP_eq, e1]; rfl
        rw [← due_ok this]
        exact q c1 S1.n
      | cons x r1 =>
        simp only [List.length_cons] at l1
        refine Br.t (by simp; omega) ?_
        rw [S1.m]
        walk_at "m"
        have : whP s.cps.toList = .bad (r1.length + 1) := by rw [whP_eq, e1]; rfl
        have h := due_bad this
        rw [← h]
        exact q c1 S1.n
    · refine Br.t rfl ?_
      walk_at "m"
      rw [S1.m]
      walk_at "m"
      have : whP s.cps.toList = .bad j := by rw [whP_eq, e1]; rfl
      rw [← due_bad this]
      exact q c1 S1.n
def sp__law_told (a : Ad) : SpD := fun ds c Q _ => ∃ d : D, ds = [d] ∧ ((∃ s : Str, d = .str s ∧ s.length ≤ 1000000 ∧ ∀ c' : CN, c'.n = c.n → Q (dueD s) c') ∨ ((∀ s, d ≠ .str s) ∧ Pl 2 d ∧ ∀ c' : CN, c'.n = c.n → Q (.lst [.str "at", .int 0]) c'))
theorem ok__law_told : FnOk P w K mg base (L2.CX P w) 13 a.f__law_told a.d__law_told ["_law_string_here"] (spOf K (sp__law_told a)) := by
  refine okD T.F__law_told sc__law_told (fun ds c Q E h => ?_) (fun cdv A outer s H E G0 c0 ED good => ⟨_, _, (pds_cons (pds_set 1 sc__law_told.nd pd_non)
      (pds_cons (pds_set 2 sc__law_told.nd pd_non)
      (pds_cons (show PDS _ ((defBody s__law_told).getD 2 (.Pass ⟨0, 0, 0, 0⟩)) _ _ from by
        refine' pds_try_keep (i := 3) good sc__law_told.nd ?hc rfl ?hb ?hsu
        case hc => exact ⟨rfl, by decide, .inl T.m_LayoutError⟩
        case hb => exact fun pn1 xe1 E1 ED1 lo1 gt1 => pdss_cast (pds_one (pds_set 2 sc__law_told.nd (pd_callC gt1 ((ok_read T).mono (by omega)) (c_read_1 T) (fun _ => .nil) (pda_cons (pd_v 0) pda_nil)))) (by dsimp only <;> rfl) (by dsimp only <;> rfl)
        case hsu => exact fun a1 pn1 lo1 => pdss_cast (pds_one (pds_set 1 sc__law_told.nd (pd_v 3))) (by first | rfl | (dsimp only <;> rfl)) (by first | rfl | (dsimp only <;> rfl)))
      (pds_cons (pds_if (pdt_cm (pdc_isN (pd_v 1))) (pds_one (pds_ret (pd_lst (pda_cons pd_str (pda_cons (pd_prop (good.mono (j := 2) (by omega)) T.D_Doc.cl T.P_Doc_form (ok_Doc_form T) (b_Doc_form T) (pd_v 2)) pda_nil))))) pss_nil')
      (pds_cons (pds_if (pdt_not (pdt_val (pd_callB call_isO (br_isO (IC := IC0 a) (hI0 T)) T.z_isinstance bt_isinstance (pda_cons (pd_v 1) (pda_cons (pd_cls T.m_Unreadable) pda_nil))))) (pds_one (pds_ret (pd_lst (pda_cons pd_str pda_nil)))) pss_nil')
      (pds_one (pds_ret (pd_lst (pda_cons pd_str (pda_cons (pd_fldX1 (fx_at T) (pd_v 1)) pda_nil)))))))))), ?_⟩)
  · obtain ⟨d, rfl, _⟩ := h; rfl
  · rintro ds Qd ⟨d, rfl, ⟨s, rfl, hl, q⟩ | ⟨ns, pl, q⟩⟩
    · walk_at "w"
      refine ⟨_, rfl, .inl ⟨s, rfl, hl, fun f r' c' e hn => ?_, fun j c' e hn => ?_⟩⟩
      · have hq := q c' hn
        rw [due_ok e] at hq
        simp only [docD]
        walk_at "w"
        exact ⟨f, rfl, hq⟩
      · have hq := q c' hn
        rw [due_bad e] at hq
        refine ⟨true, T.em_Unreadable_LayoutError, Br.t rfl ?_⟩
        walk_at "w"
        refine isO.exc T.x_Unreadable.xc T.k_Unreadable_Unreadable ?_
        walk_at "w"
        exact ⟨CF_at_Unreadable, hq⟩
    · walk_at "w"
      refine ⟨_, rfl, .inr ⟨ns, pl, ?_⟩⟩
      have hq := q c0 rfl
      refine ⟨true, T.em_Unreadable_LayoutError, Br.t rfl ?_⟩
      walk_at "w"
      refine isO.exc T.x_Unreadable.xc T.k_Unreadable_Unreadable ?_
      walk_at "w"
      exact ⟨CF_at_Unreadable, hq⟩
omit T in
theorem cut_ex (s : Str) (lo hi : Option Int) : ∃ l : List Nat, cutS s lo hi = sOf l ∧ l.length ≤ s.length ∧ wt l ≤ wt s.cps.toList := by
  unfold cutS
  refine ⟨_, rfl, ?_, Nat.le_trans (wt_take _ _) (wt_drop _ _)⟩
  rw [List.length_take, List.length_drop, strLen]
  omega
omit T in
theorem item_str {g : Str} {k : Int} {c : CN} {Q : QD} (h : g.length ≤ 16777216) (k0 : 0 ≤ k) (k1 : k < g.length) (q : ∀ x, Q (.str ⟨#[x]⟩) c) : aItem (.str g) (.int k) c Q := by
  obtain ⟨x, hx, _⟩ := atI_lt (xs := g.cps.toList) (i := k) k0 (by rw [strLen]; exact k1)
  exact ⟨h, x, hx, q x⟩
def sp__law_bent : SpD := fun ds c Q _ => ∃ s : Str, ds = [.opq, .str s] ∧ s.length ≤ 100000 ∧ c.n + 3 ≤ LIM ∧ ∀ s' : Str, s'.length ≤ 2 * s.length + 1 → wt s'.cps.toList ≤ 2 * wt s.cps.toList + 2 → ∀ c' : CN, c.n ≤ c'.n → c'.n ≤ c.n + 3 → Q (.str s') c'
theorem ok__law_bent : FnOk P w K mg base (L2.CX P w) 5 a.f__law_bent a.d__law_bent ["_law_purse_here", "_law_string_here"] (spOf K sp__law_bent) := by
  refine okD T.F__law_bent sc__law_bent (fun ds c Q E h => ?_) (fun cdv A outer s H E G0 c0 ED good => ⟨_, _, (pds_cons (pds_set 2 sc__law_bent.nd pd_str)
      (pds_cons (pds_set 3 sc__law_bent.nd (pd_callC good ((ok__law_draw T).mono (by omega)) (c__law_draw_2 T) (fun _ => .nil) (pda_cons (pd_v 0) (pda_cons (pd_sum2 (pd_callB cr_len br_lenA T.z_len bt_len (pda_cons (pd_v 1) pda_nil)) pd_int) pda_nil))))
      (pds_cons (pds_set 4 sc__law_bent.nd (pd_callC good ((ok__law_draw T).mono (by omega)) (c__law_draw_2 T) (fun _ => .nil) (pda_cons (pd_v 0) (pda_cons pd_int pda_nil))))
      (pds_cons (pds_set 5 sc__law_bent.nd (pd_at (pd_v 2) (pd_callC good ((ok__law_draw T).mono (by omega)) (c__law_draw_2 T) (fun _ => .nil) (pda_cons (pd_v 0) (pda_cons (pd_callB cr_len br_lenA T.z_len bt_len (pda_cons (pd_v 2) pda_nil)) pda_nil)))))
      (pds_cons (pds_if (pdt_cm (pdc_lt (pd_v 4) pd_int)) (pds_one (pds_ret (pd_sum2 (pd_sum2 (pd_part2 (pd_v 1) pdo_none (pdo_some (pd_v 3))) (pd_v 5)) (pd_part2 (pd_v 1) (pdo_some (pd_v 3)) pdo_none)))) pss_nil')
      (pds_cons (pds_if (pdt_cm (pdc_eqD good (pd_v 4) pd_int)) (pds_one (pds_ret (pd_sum2 (pd_part2 (pd_v 1) pdo_none (pdo_some (pd_v 3))) (pd_part2 (pd_v 1) (pdo_some (pd_sum2 (pd_v 3) pd_int)) pdo_none)))) pss_nil')
      (pds_cons (pds_if (pdt_cm (pdc_eqD good (pd_v 4) pd_int)) (pds_one (pds_ret (pd_sum2 (pd_sum2 (pd_part2 (pd_v 1) pdo_none (pdo_some (pd_v 3))) (pd_v 5)) (pd_part2 (pd_v 1) (pdo_some (pd_sum2 (pd_v 3) pd_int)) pdo_none)))) pss_nil')
      (pds_one (pds_ret (pd_at (pd_lst (pda_cons (pd_part2 (pd_v 1) pdo_none (pdo_some (pd_v 3))) (pda_cons (pd_sum2 (pd_part2 (pd_v 1) pdo_none (pdo_some (pd_v 3))) (pd_part2 (pd_v 1) (pdo_some (pd_fdiv (pd_v 3) pd_int)) pdo_none)) pda_nil))) (pd_mod (pd_callTy call_int1 br_intA T.z_int bt_int (pda_cons (pd_v 4) pda_nil)) pd_int))))))))))), ?_⟩)
  · obtain ⟨s, rfl, _⟩ := h; rfl
  · rintro ds Qd ⟨s, rfl, hl, hc, q⟩
    walk_at "w"
    refine ⟨by omega, (s.length : Int) + 1, rfl, by omega, by omega, by omega, fun i c1 i0 i1 l1 l2 => ?_⟩
    walk_at "w"
    refine ⟨6, rfl, by decide, by decide, by omega, fun j c2 j0 j1 l3 l4 => ?_⟩
    walk_at "w"
    refine ⟨by decide, _, rfl, by decide, by decide, by omega, fun k c3 k0 k1 l5 l6 => ?_⟩
    walk_at "w"
    refine item_str (by decide) k0 k1 fun x => ?_
    have w1 := wt_one x
    have one : (⟨#[x]⟩ : Str) = sOf [x] := rfl
    obtain ⟨p, ep, pl, pw⟩ := cut_ex s none (some i)
    obtain ⟨r1, e1, rl1, rw1⟩ := cut_ex s (some i) none
    obtain ⟨r2, e2, rl2, rw2⟩ := cut_ex s (some (i + 1)) none
    obtain ⟨r3, e3, rl3, rw3⟩ := cut_ex s (some (i / 2)) none
    rw [ep, e1, e2, e3, one]
    have fin : ∀ l : List Nat, l.length ≤ 2 * s.length + 1 → wt l ≤ 2 * wt s.cps.toList + 2 → Qd (.str (sOf l)) c3 := fun l h1 h2 => q (sOf l) (by rw [sOf_len]; exact h1) (by rw [sOf_cps]; exact h2) c3 (by omega) (by omega)
    refine Br.by (fun _ => ?_) fun _ => Br.by (fun _ => ?_) fun _ => Br.by (fun _ => ?_) fun _ => ?_
    · walk_at "w"
      walk_at "so"
      refine ⟨by omega, by omega, by omega, by omega, fin _ ?_ ?_⟩
      · simp only [List.length_append, List.length_cons]; omega
      · have := wt_app [x] r1
        rw [List.singleton_append] at this
        rw [wt_app, this]; omega
    · simp only [sOf_len, List.length_append, List.length_cons, List.length_nil, sOf_app]
      refine ⟨by omega, by omega, by omega, fin _ ?_ ?_⟩
      · simp only [List.length_append, List.length_cons, List.length_nil]; omega
      · simp only [wt_app]; omega
    · walk_at "w"
      walk_at "so"
      refine ⟨by omega, by omega, by omega, by omega, fin _ ?_ ?_⟩
      · simp only [List.length_append, List.length_cons]; omega
      · have := wt_app [x] r2
        rw [List.singleton_append] at this
        rw [wt_app, this]; omega
    · simp only [sOf_len, List.length_append, List.length_cons, List.length_nil, sOf_app]
      refine ⟨by omega, by omega, ?_, by omega, by omega, by decide, ?_⟩
      · exact ⟨by decide, by decide⟩
      · rcases (by omega : j % 2 = 0 ∨ j % 2 = 1) with e | e
        · rw [e]; exact atP.mk rfl (fin _ (by omega) (by omega))
        · rw [e]; exact atP.mk rfl (fin _ (by simp only [List.length_append]; omega) (by simp only [wt_app]; omega))
omit T in
section
def strs38 : List Str := ["", "a", "say \"ab\"", "\\", "\\\"", "x + y | z", "<2 a>", "[]{}!_", " ", "~", "Ab Z", "a\\b\\c", "\"\"\\\\", "it's \"x\""]
def names38 : List Str := ["a", "b", "abcdefgh"]
theorem strs38_ok : strs38.all (fun x => strSB x && decide (x.length ≤ 16) && decide (wt x.cps.toList ≤ 2)) = true := by decide +kernel
theorem names38_ok : names38.all (fun x => strSB x && nameB x) = true := by decide +kernel
theorem pool38 : Pool strs38 names38 := by
  refine ⟨by decide, by decide, fun x hx => ?_, by decide, fun x hx => ?_⟩
  · have := List.all_eq_true.mp strs38_ok x hx
    simp only [Bool.and_eq_true, decide_eq_true_eq] at this
    exact ⟨⟨strSB_ok this.1.1, this.1.2⟩, this.2⟩
  · have := List.all_eq_true.mp names38_ok x hx
    simp only [Bool.and_eq_true] at this
    exact ⟨strSB_ok this.1, this.2⟩
def odd38 : List Str := [(Str.ofString ""), (Str.ofString "<41 a>"), (Str.ofString "<05 a>"), (Str.ofString "<5a>"), (Str.ofString "<10 a"), (Str.ofString "<400 a>"), (Str.ofString "abcdefghi"), (Str.ofString "(a+b)"), (Str.ofString "(a + b + c)"), (Str.ofString "[a"), (Str.ofString "\"\\a\""), (Str.ofString "_a"), (Str.ofString "_"), (Str.ofString "a b"), (Str.ofString "(a | b)"), (Str.ofString "<0 a>"), (Str.ofString "<40 !>"), (Str.ofString " a"), (Str.ofString "(((("), (Str.ofString "{<[("), (Str.ofString "a "), (Str.ofString "A"), (Str.ofString "(a  + b)"),
  (Str.ofString "_\""), (Str.ofString "<9 "), (Str.ofString "<-1 a>"), (Str.ofString "(abcdefghi + a)"), (Str.ofString "(a | b | c)"), (Str.ofString "a + b"), (Str.ofString "<00 a>"), (Str.ofString "_!"), (Str.ofString "[]"), (Str.ofString "`"), (Str.ofString "[`a]"), (Str.ofString "<: a>"), (Str.ofString "<1/ a>"), (Str.ofString "\"it\\'s\""), (Str.ofString "\"\\n\""),
  Txt.mul (Str.ofString "[") 300, Txt.mul (Str.ofString "(") 150, Txt.mul (Str.ofString "{") 140 ++ (Str.ofString "a") ++ Txt.mul (Str.ofString "}") 139, (Str.ofString "<3 >"), (Str.ofString "< 3 a>"), (Str.ofString "\"a\\b\""), (Str.ofString "\"a\" ")]
theorem odd38_ok : odd38.all (fun x => decide (x.length ≤ 400) && decide (wt x.cps.toList ≤ 515)) = true := by decide +kernel
theorem tw_le : ∀ {k m : Nat}, k ≤ m → tw k ≤ tw m
  | k, 0, h => by rw [Nat.le_zero.mp h]; exact Nat.le_refl _
  | k, m + 1, h => by
    rcases Nat.lt_or_ge k (m + 1) with h1 | h1
    · have := tw_le (k := k) (m := m) (by omega); have := tw_pos m; simp only [tw]; omega
    · rw [show k = m + 1 by omega]; exact Nat.le_refl _
end
omit T in
theorem neU_same {d : D} {c : CN} {Q : QD} (h : PU 600 d) (q : Q (.bl false) c) : aNeU d d c Q := ⟨h, h, by rw [h.self]; exact q⟩
def sp_law : SpD := fun ds c Q _ => ∃ ns : List Int, ds = [.scr ns] ∧ ns.length ≤ 63 ∧ c.n + 100000 ≤ LIM ∧ ∀ c', Q (.bl true) c'
theorem ok_law : FnOk P w K mg base (L2.CX P w) 185 a.f_law a.d_law ["_law_script"] (spOf K sp_law) := by
  refine okD T.F_law sc_law (fun ds c Q E h => ?_) (fun cdv A outer s H E G0 c0 ED good => ⟨_, _, (pds_cons (pds_set 1 sc_law.nd (pd_lst (pda_cons pd_str (pda_cons pd_str (pda_cons pd_str (pda_cons pd_str (pda_cons pd_str (pda_cons pd_str (pda_cons pd_str (pda_cons pd_str (pda_cons pd_str (pda_cons pd_str (pda_cons pd_str pda_nil)))))))))))))
      (pds_cons (pds_set 1 sc_law.nd (pd_sum2 (pd_v 1) (pd_lst (pda_cons pd_str (pda_cons pd_str (pda_cons pd_str pda_nil))))))
      (pds_cons (pds_set 2 sc_law.nd (pd_lst (pda_cons pd_str (pda_cons pd_str (pda_cons pd_str (pda_cons pd_str (pda_cons pd_str (pda_cons pd_str (pda_cons pd_str (pda_cons pd_str (pda_cons pd_str (pda_cons pd_str pda_nil))))))))))))
      (pds_cons (pds_set 2 sc_law.nd (pd_sum2 (pd_v 2) (pd_lst (pda_cons pd_str (pda_cons pd_str (pda_cons pd_str (pda_cons pd_str (pda_cons pd_str (pda_cons pd_str (pda_cons pd_str (pda_cons pd_str (pda_cons pd_str (pda_cons pd_str (pda_cons pd_str (pda_cons pd_str pda_nil)))))))))))))))
      (pds_cons (pds_set 2 sc_law.nd (pd_sum2 (pd_v 2) (pd_lst (pda_cons pd_str (pda_cons pd_str (pda_cons pd_str (pda_cons pd_str (pda_cons pd_str (pda_cons pd_str (pda_cons pd_str (pda_cons pd_str (pda_cons pd_str (pda_cons pd_str pda_nil)))))))))))))
      (pds_cons (pds_set 2 sc_law.nd (pd_sum2 (pd_v 2) (pd_lst (pda_cons pd_str (pda_cons pd_str (pda_cons pd_str (pda_cons pd_str (pda_cons pd_str (pda_cons pd_str pda_nil)))))))))
      (pds_cons (pds_set 2 sc_law.nd (pd_sum2 (pd_v 2) (pd_lst (pda_cons (pd_times pd_str pd_int) (pda_cons (pd_times pd_str pd_int) (pda_cons (pd_sum2 (pd_sum2 (pd_times pd_str pd_int) pd_str) (pd_times pd_str pd_int)) (pda_cons pd_str (pda_cons pd_str (pda_cons pd_str (pda_cons pd_str pda_nil))))))))))
      (pds_cons (pds_for PassesOwn.leaving good.calm (pdi_range1 T.z_range (pda_cons (pd_sum2 pd_int (pd_callB (call_min2 good.calm) br_min2 T.z_min bt_min (pda_cons pd_int (pda_cons (pd_callB cr_len br_lenA T.z_len bt_len (pda_cons (pd_v 0) pda_nil)) pda_nil)))) pda_nil)) (pdg_name 3 sc_law.nd)
      (pds_cons (pds_set 4 sc_law.nd (pd_callC good ((ok__law_purse T).mono (by omega)) (c__law_purse_2 T) (fun _ => .nil) (pda_cons (pd_v 0) (pda_cons (pd_v 3) pda_nil))))
      (pds_cons (pds_for PassesOwn.leaving good.calm (pdi_range1 T.z_range (pda_cons pd_int pda_nil)) (pdg_name 5 sc_law.nd)
      (pds_cons (pds_set 6 sc_law.nd (pd_callC good ((ok_written T).mono (by omega)) (c_written_1 T) (fun _ => .nil) (pda_cons (pd_callC good ((ok__law_doc T 8).mono (by omega)) (c__law_doc_1 T) (fun _ => .nil) (pda_cons (pd_callC good ((ok__law_form T 7).mono (by omega)) (c__law_form_4 T) (fun _ => .nil) (pda_cons (pd_v 4) (pda_cons (pd_v 1) (pda_cons (pd_lst (pda_cons pd_str (pda_cons pd_str (pda_cons pd_str pda_nil)))) (pda_cons (pd_sum2 pd_int (pd_callC good ((ok__law_draw T).mono (by omega)) (c__law_draw_2 T) (fun _ => .nil) (pda_cons (pd_v 4) (pda_cons pd_int pda_nil)))) pda_nil))))) pda_nil)) pda_nil)))
      (pds_cons (pds_for PassesOwn.leaving good.calm (pdi_range1 T.z_range (pda_cons (pd_sum2 pd_int (pd_callC good ((ok__law_draw T).mono (by omega)) (c__law_draw_2 T) (fun _ => .nil) (pda_cons (pd_v 4) (pda_cons pd_int pda_nil)))) pda_nil)) (pdg_name 7 sc_law.nd)
      (pds_one (pds_set 6 sc_law.nd (pd_callC good ((ok__law_bent T).mono (by omega)) (c__law_bent_2 T) (fun _ => .nil) (pda_cons (pd_v 4) (pda_cons (pd_v 6) pda_nil))))))
      (pds_cons (pds_if (pdt_cm (pdc_eqD good (pd_callC good ((ok__law_draw T).mono (by omega)) (c__law_draw_2 T) (fun _ => .nil) (pda_cons (pd_v 4) (pda_cons pd_int pda_nil))) pd_int)) (pds_one (pds_set 6 sc_law.nd (pd_at (pd_v 2) (pd_callC good ((ok__law_draw T).mono (by omega)) (c__law_draw_2 T) (fun _ => .nil) (pda_cons (pd_v 4) (pda_cons pd_int pda_nil)))))) pss_nil')
      (pds_one (pds_if (pdw_pt (pdw_or (pdt_cm (pdc_neU good (by decide) (pd_callC good ((ok__law_told T).mono (by omega)) (c__law_told_1 T) (fun _ => .nil) (pda_cons (pd_v 6) pda_nil)) (pd_callC good ((ok__law_due T).mono (by omega)) (c__law_due_1 T) (fun _ => .nil) (pda_cons (pd_v 6) pda_nil)))) (pdw_or1 (pdt_cm (pdc_neU good (by decide) (pd_callC good ((ok__law_told T).mono (by omega)) (c__law_told_1 T) (fun _ => .nil) (pda_cons (pd_v 6) pda_nil)) (pd_callC good ((ok__law_due T).mono (by omega)) (c__law_due_1 T) (fun _ => .nil) (pda_cons (pd_v 6) pda_nil))))))) (pds_one (pds_ret pd_bl)) pss_nil'))))))
      (pds_one (pds_if (pdt_cm (pdc_neU good (by decide) (pd_callC good ((ok__law_told T).mono (by omega)) (c__law_told_1 T) (fun _ => .nil) (pda_cons (pd_at (pd_lst (pda_cons pd_non (pda_cons pd_int (pda_cons (pd_tup (pda_cons pd_str pda_nil)) (pda_cons (pd_lst (pda_cons pd_str pda_nil)) (pda_cons pd_bl pda_nil)))))) (pd_callC good ((ok__law_draw T).mono (by omega)) (c__law_draw_2 T) (fun _ => .nil) (pda_cons (pd_v 4) (pda_cons pd_int pda_nil)))) pda_nil)) (pd_lst (pda_cons pd_str (pda_cons pd_int pda_nil))))) (pds_one (pds_ret pd_bl)) pss_nil')))))
      (pds_one (pds_ret pd_bl)))))))))), ?_⟩)
  · obtain ⟨ns, rfl, _⟩ := h; rfl
  · rintro ds Qd ⟨ns, rfl, hl, hc, q⟩
    walk_at "w"
    refine ⟨by decide, by decide, by decide, by decide, by decide, by decide, by decide, by decide, by decide, by decide +kernel, by decide, by decide, by decide, by decide +kernel, by split <;> omega, by split <;> omega, ?_⟩
    refine ⟨fun k ρ c => (∃ s3 s4 s5 s6 s7, ρ = [.fz (.scr ns), .fz (.lst (strs38.map .str)), .fz (.lst (odd38.map .str)), s3, s4, s5, s6, s7]) ∧ c0.n ≤ c.n ∧ c.n ≤ c0.n + 1000 * k, ⟨⟨_, _, _, _, _, rfl⟩, by omega, by omega⟩, ?_, ?_⟩
    · rintro k x ρ c hx ⟨⟨s3, s4, s5, s6, s7, rfl⟩, g0, g1⟩
      obtain ⟨hk, rfl⟩ := upInts_get hx
      have hk64 : k ≤ 70 := by
        split at hk <;> omega
      walk_at "w"
      refine ⟨ns, k, by rw [Int.zero_add], by omega, ?_⟩
      refine ⟨by decide, by decide, ?_⟩
      refine ⟨fun j ρ c => (∃ s5 s6 s7, ρ = [.fz (.scr ns), .fz (.lst (strs38.map .str)), .fz (.lst (odd38.map .str)), .fz (.int (0 + (k : Nat))), .fz .opq, s5, s6, s7]) ∧ c0.n ≤ c.n ∧ c.n ≤ c0.n + 1000 * k + 150 * j, ⟨⟨_, _, _, rfl⟩, by omega, by omega⟩, ?_, ?_⟩
      · rintro j x ρ c hx ⟨⟨s5, s6, s7, rfl⟩, g0, g1⟩
        obtain ⟨hj, rfl⟩ := upInts_get hx
        have hj : j < 5 := hj
        walk_at "w"
        refine ⟨4, rfl, by decide, by decide, by omega, fun d c4 d0 d1 l3 l4 => ?_⟩
        walk_at "w"
        rw [show 1 + d = ((d.toNat + 1 : Nat) : Int) by omega]
        have t4 : tw (d.toNat + 1) ≤ 16 := tw_le (m := 4) (by omega)
        refine sp__law_form_of (ss := strs38) (ns := names38) (k := d.toNat + 1) (by omega) pool38 (by omega) fun f hf c5 l5 l6 => ?_
        have hdp := hf.dp
        have hwl := hf.wl
        have how := hf.ow
        walk_at "w"
        refine sp__law_doc_of hf.ok (by omega) ?_
        walk_at "w"
        refine ⟨.doc f, rfl, hf.ok, by omega, by omega, ?_⟩
        walk_at "w"
        refine ⟨3, rfl, by decide, by decide, by omega, fun m c6 m0 m1 l7 l8 => ?_⟩
        walk_at "w"
        refine ⟨by omega, by omega, ?_⟩
        refine ⟨fun i ρ c => (∃ (s : Str) (s7 : Sl), ρ = [.fz (.scr ns), .fz (.lst (strs38.map .str)), .fz (.lst (odd38.map .str)), .fz (.int (0 + (k : Nat))), .fz .opq, .fz (.int (0 + (j : Nat))), .fz (.str s), s7] ∧ s.length + 1 ≤ 961 * tw i ∧ wt s.cps.toList + 2 ≤ 64 * tw i) ∧ c0.n ≤ c.n ∧ c.n ≤ c0.n + 1000 * k + 150 * j + 99 + 3 * i, ⟨⟨_, _, rfl, by rw [sOf_len]; simp only [tw]; omega, by rw [sOf_cps]; simp only [tw]; omega⟩, by omega, by omega⟩, ?_, ?_⟩
        · rintro i x ρ c hx ⟨⟨s, s7, rfl, h1, h2⟩, g2, g3⟩
          obtain ⟨hi, rfl⟩ := upInts_get hx
          have hi3 : i < 3 := by omega
          have t3 : tw i ≤ 4 := tw_le (m := 2) (by omega)
          walk_at "w"
          refine ⟨s, rfl, by omega, by omega, fun s' e1 e2 c7 l9 l10 => ?_⟩
          walk_at "w"
          exact ⟨⟨_, _, rfl, by simp only [tw]; omega, by simp only [tw]; omega⟩, by omega, by omega⟩
        · rintro ρ c ⟨⟨s, s7, rfl, h1, h2⟩, g2, g3⟩
          rw [upInts_length] at h1 h2 g3
          have t3 : tw (1 + m).toNat ≤ 8 := tw_le (m := 3) (by omega)
          have once : ∀ {s : Str} {c8 : CN} {R : CN → Prop}, s.length ≤ 1000000 → wt s.cps.toList ≤ 515 → (∀ c9 : CN, c9.n = c8.n → R c9) →
              @Run (sp__law_told a) [.str s] c8 (fun x c1 => @Run sp__law_due [.str s] c1 (fun y c2 => aNeU x y c2 fun x c1 => @asB x fun b => @Br b (Qd (D.bl false) c1) (R c1)) ED) ED := fun {s c8 R} hl hw h =>
            ⟨_, rfl, .inl ⟨s, rfl, hl, fun c9 n9 => ⟨s, rfl, hl, hw, fun c10 n10 => neU_same (due_PU hw) (by walk_at "w"; exact h c10 (n10.trans n9))⟩⟩⟩
          walk_at "w"
          refine ⟨4, rfl, by decide, by decide, by omega, fun y c7 y0 y1 l9 l10 => ?_⟩
          walk_at "w"
          refine Br.by (fun _ => ?_) fun _ => ?_
          · refine ⟨45, rfl, by decide, by decide, by omega, fun z c8 z0 z1 l11 l12 => ?_⟩
            walk_at "w"
            refine pick (P := fun d => ∃ x : Str, d = .str x ∧ x.length ≤ 1000000 ∧ wt x.cps.toList ≤ 515) _ (fun v hv => ?_) z0 (by rw [List.length_map]; exact z1) fun v hv => ?_
            · obtain ⟨x, hx, rfl⟩ := List.mem_map.mp hv
              have := List.all_eq_true.mp odd38_ok x hx
              simp only [Bool.and_eq_true, decide_eq_true_eq] at this
              exact ⟨x, rfl, by omega, this.2⟩
            obtain ⟨x, rfl, hx1, hx2⟩ := hv
            exact once hx1 hx2 fun c9 n9 => once hx1 hx2 fun c10 n10 => ⟨⟨_, _, _, rfl⟩, by omega, by omega⟩
          · exact once (by omega) (by omega) fun c9 n9 => once (by omega) (by omega) fun c10 n10 => ⟨⟨_, _, _, rfl⟩, by omega, by omega⟩
      · rintro ρ c ⟨⟨s5, s6, s7, rfl⟩, g0, g1⟩
        have g1 : c.n ≤ c0.n + 1000 * k + 150 * 5 := g1
        walk_at "w"
        refine ⟨5, rfl, by decide, by decide, by omega, fun m c3 m0 m1 l1 l2 => ?_⟩
        walk_at "w"
        refine pick (P := fun d => Pl 2 d ∧ ∀ s, d ≠ .str s) _ (fun v hv => ?_) m0 m1 fun v hv => ?_
        · simp only [List.mem_cons, List.not_mem_nil, or_false] at hv
          rcases hv with rfl | rfl | rfl | rfl | rfl <;> exact ⟨plB_ok (by decide +kernel), fun s e => by cases e⟩
        walk_at "w"
        refine ⟨v, rfl, .inr ⟨hv.2, hv.1, fun c4 n4 => ?_⟩⟩
        walk_at "w"
        refine neU_same (at_PU (by decide +kernel)) ?_
        walk_at "w"
        exact ⟨⟨_, _, _, _, _, rfl⟩, by omega, by omega⟩
    · rintro ρ c ⟨⟨s3, s4, s5, s6, s7, rfl⟩, g0, g1⟩
      walk_at "w"
      exact q _
omit T in
theorem law_end (ns : List Int) (h : ns.length ≤ 63) : sp_law [.scr ns] 0 (fun d _ => d = .bl true) fun _ _ _ _ => False := ⟨ns, rfl, h, by decide, fun _ => rfl⟩
end
theorem facts {P : Program} {w : World} {K : PySem.W.Frag} {h : Heap} {mg : Str → Option Value} {f : Addr} (X : K.In h) (G : h.Ns mainGlobals mg) (hfa : mg ("law" : Str) = some (.ref f)) (c : SaysP fn exl K) :
    ∃ fd : FuncData, (∀ (s : Shared) (v : Value), BindsTo s fd ⟨[v], []⟩ [("_law_script", v)]) ∧ ∀ base : Heap, K.In base → base.Ns mainGlobals mg → FnOk P w K mg base (L2.CX P w) 185 f fd ["_law_script"] (spOf K sp_law) := by
  obtain ⟨d0, F0⟩ := c.def_ 0 (d := dd_is_string) rfl
  obtain ⟨d1, F1⟩ := c.def_ 1 (d := dd_is_integer) rfl
  obtain ⟨d2, F2⟩ := c.def_ 2 (d := dd_inner_forms) rfl
  obtain ⟨d3, F3⟩ := c.def_ 3 (d := dd_all_forms) rfl
  obtain ⟨d4, F4⟩ := c.def_ 4 (d := dd_is_name) rfl
  obtain ⟨d5, F5⟩ := c.def_ 5 (d := dd_Doc_form) rfl
  obtain ⟨d6, F6⟩ := c.def_ 6 (d := dd_Doc_parts) rfl
  obtain ⟨d7, F7⟩ := c.def_ 7 (d := dd_require_doc) rfl
  obtain ⟨d8, F8⟩ := c.def_ 8 (d := dd_Doc___add__) rfl
  obtain ⟨d9, F9⟩ := c.def_ 9 (d := dd_Doc___or__) rfl
  obtain ⟨d10, F10⟩ := c.def_ 10 (d := dd_Doc_nested) rfl
  obtain ⟨d11, F11⟩ := c.def_ 11 (d := dd_Doc_group) rfl
  obtain ⟨d12, F12⟩ := c.def_ 12 (d := dd_Doc_flattened) rfl
  obtain ⟨d13, F13⟩ := c.def_ 13 (d := dd_text) rfl
  obtain ⟨d14, F14⟩ := c.def_ 14 (d := dd_line) rfl
  obtain ⟨d15, F15⟩ := c.def_ 15 (d := dd_hole) rfl
  obtain ⟨d16, F16⟩ := c.def_ 16 (d := dd_Doc___eq__) rfl
  obtain ⟨d17, F17⟩ := c.def_ 17 (d := dd_quoted) rfl
  obtain ⟨d18, F18⟩ := c.def_ 18 (d := dd_written_form) rfl
  obtain ⟨d19, F19⟩ := c.def_ 19 (d := dd_written) rfl
  obtain ⟨d20, F20⟩ := c.def_ 20 (d := dd_Reader___init__) rfl
  obtain ⟨d21, F21⟩ := c.def_ 21 (d := dd_Reader_sign) rfl
  obtain ⟨d22, F22⟩ := c.def_ 22 (d := dd_Reader_take) rfl
  obtain ⟨d23, F23⟩ := c.def_ 23 (d := dd_Reader_taken_steps) rfl
  obtain ⟨d24, F24⟩ := c.def_ 24 (d := dd_Reader_string_in_quotes) rfl
  obtain ⟨d25, F25⟩ := c.def_ 25 (d := dd_Reader_taken_name) rfl
  obtain ⟨d26, F26⟩ := c.def_ 26 (d := dd_Reader_leaf) rfl
  obtain ⟨d27, F27⟩ := c.def_ 27 (d := dd_Reader_begin) rfl
  obtain ⟨d28, F28⟩ := c.def_ 28 (d := dd_Reader_close) rfl
  obtain ⟨d29, F29⟩ := c.def_ 29 (d := dd_Reader_whole) rfl
  obtain ⟨d30, F30⟩ := c.def_ 30 (d := dd_read) rfl
  obtain ⟨d31, F31⟩ := c.def_ 31 (d := dd__law_at) rfl
  obtain ⟨d32, F32⟩ := c.def_ 32 (d := dd__law_mixed) rfl
  obtain ⟨d33, F33⟩ := c.def_ 33 (d := dd__law_purse) rfl
  obtain ⟨d34, F34⟩ := c.def_ 34 (d := dd__law_draw) rfl
  obtain ⟨d35, F35⟩ := c.def_ 35 (d := dd__law_leaf) rfl
  obtain ⟨d36, F36⟩ := c.def_ 36 (d := dd__law_form) rfl
  obtain ⟨d37, F37⟩ := c.def_ 37 (d := dd__law_doc) rfl
  obtain ⟨d38, F38⟩ := c.def_ 38 (d := dd__law_next) rfl
  obtain ⟨d39, F39⟩ := c.def_ 39 (d := dd__law_steps) rfl
  obtain ⟨d40, F40⟩ := c.def_ 40 (d := dd__law_string) rfl
  obtain ⟨d41, F41⟩ := c.def_ 41 (d := dd__law_single) rfl
  obtain ⟨d42, F42⟩ := c.def_ 42 (d := dd__law_pair) rfl
  obtain ⟨d43, F43⟩ := c.def_ 43 (d := dd__law_part) rfl
  obtain ⟨d44, F44⟩ := c.def_ 44 (d := dd__law_due) rfl
  obtain ⟨d45, F45⟩ := c.def_ 45 (d := dd__law_told) rfl
  obtain ⟨d46, F46⟩ := c.def_ 46 (d := dd__law_bent) rfl
  obtain ⟨d47, F47⟩ := c.def_ 47 (d := dd_law) rfl
  obtain ⟨d48, F48⟩ := c.def_ 48 (d := dd_init_Doc) rfl
  obtain ⟨d49, F49⟩ := c.def_ 49 (d := dd_init_InvalidName) rfl
  obtain ⟨d50, F50⟩ := c.def_ 50 (d := dd_init_InvalidSteps) rfl
  obtain ⟨d51, F51⟩ := c.def_ 51 (d := dd_init_InvalidText) rfl
  obtain ⟨d52, F52⟩ := c.def_ 52 (d := dd_init_NotADocument) rfl
  obtain ⟨d53, F53⟩ := c.def_ 53 (d := dd_init_Unreadable) rfl
  have e := hfa.symm.trans (He.glo_ok X G (x := "law") (c.look 80 rfl))
  cases e
  have b := FunD.bindsA (ps := ["_law_script"]) F47 fun _ _ _ _ _ _ us hl => match us, hl with | [_], _ => rfl
  have T : Txt K mg ⟨He.ga K "LayoutError", He.ga K "InvalidText", He.ga K "InvalidSteps", He.ga K "InvalidName", He.ga K "NotADocument", He.ga K "Unreadable", He.ga K "Doc", He.ga K "Reader", He.ma K (He.ga K "InvalidText") "__init__", He.ma K (He.ga K "InvalidSteps") "__init__", He.ma K (He.ga K "InvalidName") "__init__", He.ma K (He.ga K "NotADocument") "__init__", He.ma K (He.ga K "Unreadable") "__init__", He.ma K (He.ga K "Doc") "__init__", He.ga K "is_string", He.ga K "is_integer", He.ga K "inner_forms", He.ga K "all_forms", He.ga K "is_name", ppA K "Doc" "form", pgA K "Doc" "form", ppA K "Doc" "parts", pgA K "Doc" "parts", He.ga K "require_doc", He.ma K (He.ga K "Doc") "__add__", He.ma K (He.ga K "Doc") "__or__", He.ma K (He.ga K "Doc") "nested", He.ma K (He.ga K "Doc") "group", He.ma K (He.ga K "Doc") "flattened", He.ga K "text", He.ga K "line", He.ga K "hole", He.ma K (He.ga K "Doc") "__eq__", He.ga K "quoted", He.ga K "written_form", He.ga K "written", He.ma K (He.ga K "Reader") "__init__", He.ma K (He.ga K "Reader") "sign", He.ma K (He.ga K "Reader") "take", He.ma K (He.ga K "Reader") "taken_steps", He.ma K (He.ga K "Reader") "string_in_quotes", He.ma K (He.ga K "Reader") "taken_name", He.ma K (He.ga K "Reader") "leaf", He.ma K (He.ga K "Reader") "begin", He.ma K (He.ga K "Reader") "close", He.ma K (He.ga K "Reader") "whole", He.ga K "read", He.ga K "_law_at", He.ga K "_law_mixed", He.ga K "_law_purse", He.ga K "_law_draw", He.ga K "_law_leaf", He.ga K "_law_form", He.ga K "_law_doc", He.ga K "_law_next", He.ga K "_law_steps", He.ga K "_law_string", He.ga K "_law_single", He.ga K "_law_pair", He.ga K "_law_part", He.ga K "_law_due", He.ga K "_law_told", He.ga K "_law_bent", He.ga K "law", d0, d1, d2, d3, d4, d5, d6, d7, d8, d9, d10, d11, d12, d13, d14, d15, d16, d17, d18, d19, d20, d21, d22, d23, d24, d25, d26, d27, d28, d29, d30, d31, d32, d33, d34, d35, d36, d37, d38, d39, d40, d41, d42, d43, d44, d45, d46, d47, d48, d49, d50, d51, d52, d53⟩ := ⟨He.glo_ok X G (c.look 0 rfl), He.glo_ok X G (c.look 1 rfl), He.glo_ok X G (c.look 2 rfl), He.glo_ok X G (c.look 3 rfl), He.glo_ok X G (c.look 4 rfl), He.glo_ok X G (c.look 5 rfl), He.glo_ok X G (c.look 6 rfl), He.glo_ok X G (c.look 7 rfl), xclsB_ok (He.glo_ok X G (c.look 1 rfl)) (c.look 8 rfl), xclsB_ok (He.glo_ok X G (c.look 2 rfl)) (c.look 9 rfl), xclsB_ok (He.glo_ok X G (c.look 3 rfl)) (c.look 10 rfl), xclsB_ok (He.glo_ok X G (c.look 4 rfl)) (c.look 11 rfl), xclsB_ok (He.glo_ok X G (c.look 5 rfl)) (c.look 12 rfl), dclsB_ok X G (c.look 13 rfl), opsB_ok (c.look 14 rfl), dclsB_ok X G (c.look 15 rfl), dclsB_ok X G (c.look 16 rfl), dclsB_ok X G (c.look 17 rfl), ktB_ok (c.look 18 rfl), kxB_ok (c.look 19 rfl), kxB_ok (c.look 20 rfl), He.exm_ok (c.look 21 rfl), He.free_ok X G (c.look 22 rfl), He.free_ok X G (c.look 23 rfl), He.free_ok X G (c.look 24 rfl), He.free_ok X G (c.look 25 rfl), He.free_ok X G (c.look 26 rfl), He.free_ok X G (c.look 27 rfl), He.free_ok X G (c.look 28 rfl), He.free_ok X G (c.look 29 rfl), He.free_ok X G (c.look 30 rfl), He.str_ok X G (c.look 31 rfl), He.str_ok X G (c.look 32 rfl), He.int_ok X G (c.look 33 rfl), He.int_ok X G (c.look 34 rfl), He.glo_ok X G (c.look 35 rfl), He.glo_ok X G (c.look 36 rfl), He.glo_ok X G (c.look 37 rfl), He.glo_ok X G (c.look 38 rfl), He.glo_ok X G (c.look 39 rfl), propB_ok (c.look 40 rfl), He.glo_ok X G (c.look 41 rfl), He.meth_ok (c.look 42 rfl), He.meth_ok (c.look 43 rfl), He.meth_ok (c.look 44 rfl), He.meth_ok (c.look 45 rfl), He.meth_ok (c.look 46 rfl), He.glo_ok X G (c.look 47 rfl), He.glo_ok X G (c.look 48 rfl), He.glo_ok X G (c.look 49 rfl), He.meth_ok (c.look 50 rfl), He.glo_ok X G (c.look 51 rfl), He.glo_ok X G (c.look 52 rfl), He.glo_ok X G (c.look 53 rfl), He.meth_ok (c.look 54 rfl), He.meth_ok (c.look 55 rfl), He.meth_ok (c.look 56 rfl), He.meth_ok (c.look 57 rfl), He.meth_ok (c.look 58 rfl), He.meth_ok (c.look 59 rfl), He.meth_ok (c.look 60 rfl), He.meth_ok (c.look 61 rfl), He.meth_ok (c.look 62 rfl), He.glo_ok X G (c.look 63 rfl), He.glo_ok X G (c.look 64 rfl), He.glo_ok X G (c.look 65 rfl), He.glo_ok X G (c.look 66 rfl), He.glo_ok X G (c.look 67 rfl), He.glo_ok X G (c.look 68 rfl), He.glo_ok X G (c.look 69 rfl), He.glo_ok X G (c.look 70 rfl), He.glo_ok X G (c.look 71 rfl), He.glo_ok X G (c.look 72 rfl), He.glo_ok X G (c.look 73 rfl), He.glo_ok X G (c.look 74 rfl), He.glo_ok X G (c.look 75 rfl), He.glo_ok X G (c.look 76 rfl), He.glo_ok X G (c.look 77 rfl), He.glo_ok X G (c.look 78 rfl), He.glo_ok X G (c.look 79 rfl), He.glo_ok X G (c.look 80 rfl), F0, F1, F2, F3, F4, F5, F6, F7, F8, F9, F10, F11, F12, F13, F14, F15, F16, F17, F18, F19, F20, F21, F22, F23, F24, F25, F26, F27, F28, F29, F30, F31, F32, F33, F34, F35, F36, F37, F38, F39, F40, F41, F42, F43, F44, F45, F46, F47, F48, F49, F50, F51, F52, F53⟩
  exact ⟨d47, fun s v => b s [v] rfl, fun base _ _ => ok_law T⟩
end K38
open PySem PySem.W PySem.Calls PyProof.Rows
set_option maxRecDepth 100000 in
set_option maxHeartbeats 0 in
theorem PySem.Challenge.cw_layoutsets_k38_strings_that_are_no_docum_holds : PySem.Challenge.rw_layoutsets_k38_strings_that_are_no_docum.Holds := by
  w_on; o_law
  refine HandSHeadRun.head_any (r := OpenLaw.row PySem.Challenge.rw_layoutsets_k38_strings_that_are_no_docum) (q := view (OpenLaw.row PySem.Challenge.rw_layoutsets_k38_strings_that_are_no_docum).prog [48]) (H := K38.hk) (ob := K38.ob) (M := 9000) (loose := K38.loose) (d := HandSHeadRun.topDef (OpenLaw.row PySem.Challenge.rw_layoutsets_k38_strings_that_are_no_docum).prog 48) (kwd := []) K38.ob_eq
    (by kernel_rfl) (fun s => by kernel_rfl) K38.run (by kernel_rfl) (by kernel_rfl) (by kernel_rfl) (by rfl) (by first | assumption | decide +kernel) (by decide +kernel) ⟨rfl, rfl, rfl, rfl, rfl, by decide +kernel⟩ ?hw ?hc
  case hw => w_witness2
  case hc =>
    refine PL.walk_at_world (l := PySem.Challenge.rw_layoutsets_k38_strings_that_are_no_docum) (n := 63) (k := 185) (x := "_law_script") rfl (by decide) (by kernel_rfl) ⟨rfl, by decide, by decide⟩ ?F
    intro w mg fa h Y G hmg0
    obtain ⟨K, KX, c⟩ := Y
    have hmg : mg ("law" : PySem.Str) = some (.ref fa) := by
      have e : (HandSHeadRun.topDef (OpenLaw.row PySem.Challenge.rw_layoutsets_k38_strings_that_are_no_docum).prog 48).name = ("law" : PySem.Str) := by kernel_rfl
      rw [← e]
      exact hmg0
    obtain ⟨fd, hb, hF⟩ := K38.facts (P := (PySem.Challenge.rw_layoutsets_k38_strings_that_are_no_docum).prog) (w := w) KX G hmg c
    exact ⟨K, fd, K38.sp_law, KX, hb, K38.law_end, hF⟩
