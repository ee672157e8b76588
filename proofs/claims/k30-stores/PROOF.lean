import PyProof.Rows.All
import Wide.All
import OpenK.AllK
import Wide.FinOn
import HandS.ForMost
import KE.KeyNested
import HandS.Lambda
import HandS.Slots
import KE.KDictCopyH
import KE.GoesMore
import KE.GoesEnum
import PyProof.EnumMake
import HandS.More
import KE.DataEq
import KE.KEqNest
import PyProof.NeKinds
import HandS.Wide
import HandS.TupAny
import HandS.Style
import HandS.Conv
import KE.SortData
import HandS.TupMul
import HandS.DictTup
import KE.KDictSum
import HandS.Small
import HandS.IsInst
import HandS.Strs
import KE.DataFind
import HandS.Star
import KE.KItemsList
import HandS.DictComp
import HandS.MapObj
import KE.DataMinMax
import HandS.Text
import HandS.FStr
import HandS.SetKeys
import HandS.RaiseMore
import KE.KDictPairs
import HandS.Property
import HandS.EndBits
import KE.KSortKey
import HandS.SortRule
import HandS.SortInts
import PyProof.ReprBulk
import KE.SortLaws
import HandS.SetFor
import HandS.SetTxt0
import PyProof.DictUpdate
import HandS.Dict
import PyProof.Rows.RuleB_mul
import KE.KDictDisplayH
import KE.KRevSl
import HandS.TupLe
import PySem.Challenge.RW_belowall_k30_stores
set_option Elab.async false
set_option linter.all false
set_option maxRecDepth 100000
/-! VL0: data trees over the hand layer's abstract heap; what is owned; results. -/
namespace VL
open PySem L2
abbrev D := PyData
/-- what is shown: at an address (left) what may be read there; at an address (right) the number of a tracked thing -/
def Gp := Sum Addr Addr → Option HO
instance : Coe Addr (Sum Addr Addr) := ⟨Sum.inl⟩
instance : CoeFun Gp (fun _ => Sum Addr Addr → Option HO) := ⟨fun G => G⟩
def Gp.hp (G : Gp) : Hp := fun a => G (.inl a)
instance : Coe Gp Hp := ⟨Gp.hp⟩
def SameG (G G' : Gp) : Prop := ∀ a o, G a = some o → G' a = some o
theorem SameG.refl (G : Gp) : SameG G G := fun _ _ h => h
theorem SameG.trans {G G1 G2 : Gp} (s : SameG G G1) (t : SameG G1 G2) : SameG G G2 := fun a o h => t a o (s a o h)
/-- what is shown stands so -/
def Sh (G : Gp) (H : Hp) : Prop := ∀ (a : Addr) o, G a = some o → H a = some o
theorem Sh.trans {G : Gp} {H H' : Hp} (s : Sh G H) (t : Same H H') : Sh G H' := fun a o h => t a o (s a o h)
theorem SameG.sh {G G1 : Gp} {H : Hp} (s : SameG G G1) (t : Sh G1 H) : Sh G H := fun a o h => t a o (s _ o h)
theorem Sh.free {G : Gp} {H : Hp} {a : Addr} (s : Sh G H) (h : H a = none) : G a = none := by
  cases q : G (.inl a) with
  | none => rfl
  | some o => rw [s a o q] at h; cases h
def updG (G : Gp) (a : Addr) (o : HO) : Gp := fun b => if b = .inl a then some o else G b
theorem updG_same {G : Gp} {a : Addr} {o : HO} : updG G a o (.inl a) = some o := by unfold updG; rw [if_pos rfl]
theorem updG_ne {G : Gp} {a : Addr} {b : Sum Addr Addr} {o : HO} (h : b ≠ .inl a) : updG G a o b = G b := by unfold updG; rw [if_neg h]
theorem updG_inl {G : Gp} {a b : Addr} {o : HO} (h : b ≠ a) : updG G a o (.inl b) = G (.inl b) := updG_ne fun z => h (Sum.inl.inj z)
theorem updG_tag {G : Gp} {a b : Addr} {o : HO} : updG G a o (.inr b) = G (.inr b) := updG_ne (by intro z; cases z)
theorem neG {G : Gp} {a : Sum Addr Addr} {b : Addr} {o : HO} (h : G a = some o) (h' : G (.inl b) = none) : a ≠ .inl b := by
  intro e; subst e; rw [h] at h'; cases h'
theorem ne_G {G : Gp} {a b : Addr} {o : HO} (h : G (.inl a) = some o) (h' : G (.inl b) = none) : a ≠ b := fun e => by
  subst e; rw [h] at h'; cases h'
/-- no new tracked thing -/
def NT (G G' : Gp) : Prop := ∀ a : Addr, G' (.inr a) = G (.inr a)
theorem NT.refl (G : Gp) : NT G G := fun _ => rfl
theorem NT.trans {G G1 G2 : Gp} (s : NT G G1) (t : NT G1 G2) : NT G G2 := fun a => (t a).trans (s a)
/-- a tracked thing's number, as data -/
def rfD (x : Nat) : D := .dict [(.tuple [.list []], .int x)]
/-- a field that is not set -/
def unD : D := .dict [(.tuple [.list [.none]], .none)]
/-- all tracked things, to be read -/
def stD (objs : List D) : D := .dict [(.tuple [.list [.bool true]], .list objs)]
/-- what stays the same throughout: the fixed objects, the world, the globals -/
structure KW where
  fr : PySem.W.Frag
  w : World
  mg : Str → Option Value
abbrev _root_.L2.Cx.kw (X : Cx) : KW := ⟨X.K, X.w, X.mg⟩
/-- a tuple that bears no dict of its own -/
def SqP (K : KW) (G : Gp) (a : Addr) (vs : List V) : Prop :=
  (∃ o, G a = some (.frz o (.tup vs)) ∧ o.cls = .type "tuple" ∧ o.dict = none) ∨
    ∃ (o : Obj) (its : Array Value) (n : Nat), K.fr.lookup a = some o ∧ o.cls = .type "tuple" ∧ o.dict = none ∧ o.data = .seq its n ∧ its.size ≤ sizeLine ∧ Vals vs its.toList
theorem SqP.sqT {K : KW} {G : Gp} {a : Addr} {vs : List V} (h : SqP K G a vs)  : SqT K.fr G a vs := by
  rcases h with ⟨o, h, _⟩ | ⟨o, its, n, h1, h2, _, h3, h4, h5⟩
  · exact .inl (.inr ⟨o, h⟩)
  · exact .inr ⟨o, its, n, h1, h2, h3, h4, h5⟩
def kD : Key → D
  | .inl i => .int i
  | .inr x => .str x
/-- a dict whose keys are tuples (each at its address) -/
def dnO (w : World) (a : Addr) (xs : List (NestedKey × Addr × V)) : HO := .ext fun h => (a == sysModules) = false ∧ ∃ us : List (NestedKey × Addr × Value), Paired (fun p q => p.1 = q.1 ∧ p.2.1 = q.2.1 ∧ RelV p.2.2 q.2.2) xs us ∧ (us.map (·.1)).Nodup ∧ us.length ≤ sizeLine ∧
  ∃ o es ep, h.get? a = some o ∧ o.ExactDict ∧ o.data = .dict es ep ∧ es.toList = us.map fun x => ⟨x.1.hash w, .ref x.2.1, x.2.2⟩
mutual
/-- the value v stands for the data d, by what G holds -/
inductive Rep (K : KW) (G : Gp) : V → D → Prop where
  | non : Rep K G .non .none
  | bl (b : Bool) : Rep K G (.bl b) (.bool b)
  | int (i : Int) : Rep K G (.int i) (.int i)
  | str (x : Str) : Rep K G (.str x) (.str x)
  | tup {a : Addr} {vs : List V} {ds : List D} : SqP K G a vs → RepL K G vs ds → Rep K G (.ref a) (.tuple ds)
  | lst {a : Addr} {vs : List V} {ds : List D} : G a = some (.lst vs) → RepL K G vs ds → Rep K G (.ref a) (.list ds)
  | dk {a : Addr} {o : Obj} {u : HO} {ds : List (D × D)} : G a = some (.frz o u) → DcR K G a u ds → Rep K G (.ref a) (.dict ds)
  | rf {a : Addr} {x : Nat} : G (.inr a) = some (.own x) → Rep K G (.ref a) (rfD x)
  | sto {as : List Addr} {objs : List D} : (∀ x a, as[x]? = some a → G (.inr a) = some (.own x)) → RepOL K G as objs → Rep K G (.int 0) (stD objs)
/-- a tracked thing that is shown: a list; a dict; an instance (its class's name ahead of its fields) -/
inductive RepO (K : KW) (G : Gp) : Addr → D → Prop where
  | lst {a : Addr} {vs : List V} {ds : List D} : G a = some (.lst vs) → RepL K G vs ds → RepO K G a (.list ds)
  | dk {a : Addr} {o : Obj} {u : HO} {ds : List (D × D)} : G a = some (.frz o u) → DcR K G a u ds → RepO K G a (.dict ds)
  | ins {a C dx : Addr} {c : Str} {vs : List (Option V)} {ds : List D} : K.mg c = some (.ref C) → SlX.Slt G.hp a C dx vs → FldR K G vs ds → RepO K G a (.tuple (.str c :: ds))
inductive RepOL (K : KW) (G : Gp) : List Addr → List D → Prop where
  | nil : RepOL K G [] []
  | cons {a : Addr} {d : D} {as : List Addr} {ds : List D} : RepO K G a d → RepOL K G as ds → RepOL K G (a :: as) (d :: ds)
inductive FldR (K : KW) (G : Gp) : List (Option V) → List D → Prop where
  | nil : FldR K G [] []
  | cons {v : V} {d : D} {vs : List (Option V)} {ds : List D} : Rep K G v d → FldR K G vs ds → FldR K G (some v :: vs) (d :: ds)
  | un {vs : List (Option V)} {ds : List D} : FldR K G vs ds → FldR K G (Option.none :: vs) (unD :: ds)
inductive RepL (K : KW) (G : Gp) : List V → List D → Prop where
  | nil : RepL K G [] []
  | cons {v : V} {d : D} {vs : List V} {ds : List D} : Rep K G v d → RepL K G vs ds → RepL K G (v :: vs) (d :: ds)
inductive RepK (K : KW) (G : Gp) : List (Key × V) → List (D × D) → Prop where
  | nil : RepK K G [] []
  | cons {k : Key} {v : V} {d : D} {vs : List (Key × V)} {ds : List (D × D)} : Rep K G v d → RepK K G vs ds → RepK K G ((k, v) :: vs) ((kD k, d) :: ds)
inductive RepN (K : KW) (G : Gp) : List (NestedKey × Addr × V) → List (D × D) → Prop where
  | nil : RepN K G [] []
  | cons {ks : List NestedKey} {b : Addr} {v : V} {d : D} {vs : List (NestedKey × Addr × V)} {ds : List (D × D)} : Rep K G (.ref b) (NestedKey.data (.tup ks)) → (NestedKey.tup ks).depth ≤ 8 → Rep K G v d → RepN K G vs ds → RepN K G ((.tup ks, b, v) :: vs) ((NestedKey.data (.tup ks), d) :: ds)
/-- what a dict's object holds -/
inductive DcR (K : KW) (G : Gp) : Addr → HO → List (D × D) → Prop where
  | k {a : Addr} {kvs : List (Key × V)} {ds : List (D × D)} : RepK K G kvs ds → DcR K G a (.dK kvs) ds
  | n {a : Addr} {p : NestedKey × Addr × V} {xs : List (NestedKey × Addr × V)} {ds : List (D × D)} : RepN K G (p :: xs) ds → DcR K G a (dnO K.w a (p :: xs)) ds
end
theorem DcR.mut {K : KW} {G : Gp} {a : Addr} {u : HO} {ds : List (D × D)} (h : DcR K G a u ds) : Mut (some u) := by cases h <;> trivial
/-! ### tables of code objects (for lambdas): of those code objects that stand twice among the fixed objects (the second time as a mark) -/
def marked (K : PySem.W.Frag) (c : Addr) : Bool := decide (2 ≤ (K.filter fun x => x.1 == c).length)
def codeTab (K : PySem.W.Frag) (c : Addr) : Option (Addr × Str) := match K.lookup c with
  | some ⟨.type "code", _, .fields us, _⟩ => match us[1]?, us[11]?, us.getD 18 Value.none, us.getD 7 Value.none, us.getD 9 Value.none, us.getD 10 Value.none with
    | some (Value.str q _), some (Value.ref P), Value.str _ _, Value.int _ _, Value.bool _, Value.int _ _ => if c ≠ P ∧ (K.lookup P).isNone = true ∧ marked K c = true then some (P, q) else none
    | _, _, _, _, _, _ => none
  | _ => none
def lamN (q : Str) : Str := q ++ ".<locals>." ++ "<lambda>"
def tabsOf (K : PySem.W.Frag) : List (Addr × Str) := K.filterMap fun x => (codeTab K x.1).map fun y => (y.1, lamN y.2)
/-- neither a table nor a code object -/
def HK (a : Addr) (u : Option HO) : Prop := (∀ ps, u ≠ some (.tbl ps)) ∧ ∀ q, u ≠ some (LamX.CodeO a q)
theorem HK.no {a : Addr} : HK a none := ⟨fun _ z => (nomatch z), fun _ z => nomatch z⟩
theorem HK.lst {a : Addr} {xs : List V} : HK a (some (.lst xs)) := ⟨fun _ z => (nomatch z), fun _ z => by unfold LamX.CodeO at z; cases z⟩
theorem HK.dK {a : Addr} {xs : List (Key × V)} : HK a (some (.dK xs)) := ⟨fun _ z => (nomatch z), fun _ z => by unfold LamX.CodeO at z; cases z⟩
theorem HK.frz {a : Addr} {o : Obj} {u : HO} : HK a (some (.frz o u)) := ⟨fun _ z => (nomatch z), fun _ z => by unfold LamX.CodeO at z; cases z⟩
theorem HK.dn {w : World} {a : Addr} {xs : List (NestedKey × Addr × V)} : HK a (some (dnO w a xs)) := ⟨fun _ z => (nomatch z), fun q z => by
  unfold LamX.CodeO dnO at z
  have e := HO.ext.inj (Option.some.inj z)
  let oc : Obj := { cls := .none, data := .fields #[.none, .str q 0] }
  let h0 : Heap := { objs := Array.replicate (a + 1) oc }
  have g : h0.get? a = some oc := by
    unfold Heap.get?
    simp only [h0, Array.getElem?_replicate]
    rw [if_pos (Nat.lt_succ_self a)]
  have y : (∃ (oc : Obj) (vs : Array Value) (t : Tok), h0.get? a = some oc ∧ oc.data = .fields vs ∧ vs[1]? = some (.str q t)) := ⟨oc, _, 0, g, rfl, rfl⟩
  rw [← congrFun e h0] at y
  obtain ⟨_, _, _, _, _, o, es, ep, e1, _, e2, _⟩ := y
  rw [g] at e1
  cases e1
  cases e2⟩
theorem DcR.hk {K : KW} {G : Gp} {a : Addr} {u : HO} {ds : List (D × D)} (h : DcR K G a u ds) : HK a (some u) := by
  cases h with
  | k _ => exact .dK
  | n _ => exact .dn
theorem DcR.notT {K : KW} {G : Gp} {a : Addr} {u : HO} {ds : List (D × D)} (h : DcR K G a u ds) : (∀ xs, u ≠ .tup xs) ∧ ∀ o v, u ≠ .frz o v := by
  cases h with
  | k _ => exact ⟨fun xs z => (nomatch z), fun o v z => (nomatch z)⟩
  | n _ => exact ⟨fun xs z => (nomatch z), fun o v z => (nomatch z)⟩
/-! ### dicts whose keys are truths -/
inductive RepB (K : KW) (G : Gp) : List (Bool × V) → List (D × D) → Prop where
  | nil : RepB K G [] []
  | cons {b : Bool} {v : V} {d : D} {vs : List (Bool × V)} {ds : List (D × D)} : Rep K G v d → RepB K G vs ds → RepB K G ((b, v) :: vs) ((.bool b, d) :: ds)
def lfB (b : Bool) : Leaf := .num (if b = true then 1 else 0)
def bdO (w : World) (a : Addr) (xs : List (Bool × V)) : HO := .ext fun h => (a == sysModules) = false ∧ xs.length ≤ 100 ∧ ∃ (P : Program) (us : List (Leaf × Value)), Paired (fun p q => lfB p.1 = q.1 ∧ RelV p.2 q.2) xs us ∧ h.DictOf (leafKind P w) a us
inductive BdR (K : KW) (G : Gp) : Addr → HO → List (D × D) → Prop where
  | e {a : Addr} : BdR K G a (.dK []) []
  | b {a : Addr} {xs : List (Bool × V)} {ds : List (D × D)} : RepB K G xs ds → BdR K G a (bdO K.w a xs) ds
theorem HK.bd {w : World} {a : Addr} {xs : List (Bool × V)} : HK a (some (bdO w a xs)) := ⟨fun _ z => (nomatch z), fun q z => by
  unfold LamX.CodeO bdO at z
  have e := HO.ext.inj (Option.some.inj z)
  let oc : Obj := { cls := .none, data := .fields #[.none, .str q 0] }
  let h0 : Heap := { objs := Array.replicate (a + 1) oc }
  have g : h0.get? a = some oc := by
    unfold Heap.get?
    simp only [h0, Array.getElem?_replicate]
    rw [if_pos (Nat.lt_succ_self a)]
  have y : (∃ (oc : Obj) (vs : Array Value) (t : Tok), h0.get? a = some oc ∧ oc.data = .fields vs ∧ vs[1]? = some (.str q t)) := ⟨oc, _, 0, g, rfl, rfl⟩
  rw [← congrFun e h0] at y
  obtain ⟨_, _, _, _, _, o, es, ep, e1, _, e2, _⟩ := y
  rw [g] at e1
  cases e1
  cases e2⟩
theorem BdR.hk {K : KW} {G : Gp} {a : Addr} {u : HO} {ds : List (D × D)} (h : BdR K G a u ds) : HK a (some u) := by
  cases h with
  | e => exact .dK
  | b _ => exact .bd
theorem BdR.notT {K : KW} {G : Gp} {a : Addr} {u : HO} {ds : List (D × D)} (h : BdR K G a u ds) : (∀ xs, u ≠ .tup xs) ∧ ∀ o v, u ≠ .frz o v := by
  cases h with
  | e => exact ⟨fun xs z => (nomatch z), fun o v z => (nomatch z)⟩
  | b _ => exact ⟨fun xs z => (nomatch z), fun o v z => (nomatch z)⟩
theorem BdR.mut {K : KW} {G : Gp} {a : Addr} {u : HO} {ds : List (D × D)} (h : BdR K G a u ds) : Mut (some u) := by cases h <;> trivial
section
variable {K : KW} {G G' : Gp} {H H' : Hp}
theorem sqT_sh (s : Sh G H) {a : Addr} {xs : List V} (h : SqT K.fr G a xs) : SqT K.fr H a xs := by
  rcases h with (h | ⟨o, h⟩) | h
  · exact .inl (.inl (s _ _ h))
  · exact .inl (.inr ⟨o, s _ _ h⟩)
  · exact .inr h
theorem sqL_sh (s : Sh G H) {a : Addr} {xs : List V} (h : SqL K.fr G a xs) : SqL K.fr H a xs := by
  rcases h with (h | ⟨o, h⟩) | h
  · exact .inl (.inl (s _ _ h))
  · exact .inl (.inr ⟨o, s _ _ h⟩)
  · exact .inr h
theorem sqP_mono (s : SameG G G') {a : Addr} {xs : List V} (h : SqP K G a xs) : SqP K G' a xs := by
  rcases h with ⟨o, h, q⟩ | h
  · exact .inl ⟨o, s _ _ h, q⟩
  · exact .inr h
mutual
theorem Rep.mono (s : SameG G G') : ∀ {v : V} {d : D}, Rep K G v d → Rep K G' v d
  | _, _, .non => .non
  | _, _, .bl b => .bl b
  | _, _, .int i => .int i
  | _, _, .str x => .str x
  | _, _, .tup h r => .tup (sqP_mono s h) (RepL.mono s r)
  | _, _, .lst h r => .lst (s _ _ h) (RepL.mono s r)
  | _, _, .dk h r => .dk (s _ _ h) (DcR.mono s r)
  | _, _, .rf h => .rf (s _ _ h)
  | _, _, .sto h r => .sto (fun x a e => s _ _ (h x a e)) (RepOL.mono s r)
theorem RepO.mono (s : SameG G G') : ∀ {a : Addr} {d : D}, RepO K G a d → RepO K G' a d
  | _, _, .lst h r => .lst (s _ _ h) (RepL.mono s r)
  | _, _, .dk h r => .dk (s _ _ h) (DcR.mono s r)
  | _, _, .ins hc h r => .ins hc (h.imp (fun y => ⟨s _ _ y.1, y.2⟩) fun y => ⟨s _ _ y.1, s _ _ y.2⟩) (FldR.mono s r)
theorem RepOL.mono (s : SameG G G') : ∀ {a : List Addr} {d : List D}, RepOL K G a d → RepOL K G' a d
  | _, _, .nil => .nil
  | _, _, .cons h r => .cons (RepO.mono s h) (RepOL.mono s r)
theorem FldR.mono (s : SameG G G') : ∀ {vs : List (Option V)} {ds : List D}, FldR K G vs ds → FldR K G' vs ds
  | _, _, .nil => .nil
  | _, _, .cons h t => .cons (Rep.mono s h) (FldR.mono s t)
  | _, _, .un t => .un (FldR.mono s t)
theorem RepL.mono (s : SameG G G') : ∀ {v : List V} {d : List D}, RepL K G v d → RepL K G' v d
  | _, _, .nil => .nil
  | _, _, .cons h r => .cons (Rep.mono s h) (RepL.mono s r)
theorem RepK.mono (s : SameG G G') : ∀ {v : List (Key × V)} {d : List (D × D)}, RepK K G v d → RepK K G' v d
  | _, _, .nil => .nil
  | _, _, .cons h r => .cons (Rep.mono s h) (RepK.mono s r)
theorem RepN.mono (s : SameG G G') : ∀ {v : List (NestedKey × Addr × V)} {d : List (D × D)}, RepN K G v d → RepN K G' v d
  | _, _, .nil => .nil
  | _, _, .cons hk hd h r => .cons (Rep.mono s hk) hd (Rep.mono s h) (RepN.mono s r)
theorem DcR.mono (s : SameG G G') : ∀ {a : Addr} {u : HO} {d : List (D × D)}, DcR K G a u d → DcR K G' a u d
  | _, _, _, .k r => .k (RepK.mono s r)
  | _, _, _, .n r => .n (RepN.mono s r)
end
theorem RepL.length : ∀ {v : List V} {d : List D}, RepL K G v d → v.length = d.length
  | _, _, .nil => rfl
  | _, _, .cons _ r => by simp [RepL.length r]
theorem RepL.get : ∀ {vs : List V} {ds : List D} {i : Nat} {d : D}, RepL K G vs ds → ds[i]? = some d → ∃ v, vs[i]? = some v ∧ Rep K G v d
  | _, _, _, _, .nil, e => by simp at e
  | _, _, 0, _, .cons h _, e => by simp at e; subst e; exact ⟨_, rfl, h⟩
  | _, _, i + 1, d, .cons _ r, e => by
    obtain ⟨v, h1, h2⟩ := RepL.get (i := i) (d := d) r (by simpa using e)
    exact ⟨v, by simpa using h1, h2⟩
theorem RepL.getV : ∀ {vs : List V} {ds : List D} {i : Nat} {v : V}, RepL K G vs ds → vs[i]? = some v → ∃ d, ds[i]? = some d ∧ Rep K G v d
  | _, _, _, _, .nil, e => by simp at e
  | _, _, 0, _, .cons h _, e => by simp at e; subst e; exact ⟨_, rfl, h⟩
  | _, _, i + 1, d, .cons _ r, e => by
    obtain ⟨v, h1, h2⟩ := RepL.getV (i := i) (v := d) r (by simpa using e)
    exact ⟨v, by simpa using h1, h2⟩
theorem RepL.append : ∀ {vs us : List V} {ds es : List D}, RepL K G vs ds → RepL K G us es → RepL K G (vs ++ us) (ds ++ es)
  | _, _, _, _, .nil, s => s
  | _, _, _, _, .cons r t, s => .cons r (RepL.append t s)
theorem RepL.take : ∀ {vs : List V} {ds : List D} (n : Nat), RepL K G vs ds → RepL K G (vs.take n) (ds.take n)
  | _, _, 0, _ => .nil
  | _, _, _ + 1, .nil => .nil
  | _, _, n + 1, .cons r t => .cons r (RepL.take n t)
theorem RepL.drop : ∀ {vs : List V} {ds : List D} (n : Nat), RepL K G vs ds → RepL K G (vs.drop n) (ds.drop n)
  | _, _, 0, r => r
  | _, _, _ + 1, .nil => .nil
  | _, _, n + 1, .cons _ t => RepL.drop n t
theorem RepL.set : ∀ {vs : List V} {ds : List D} (n : Nat) {v : V} {d : D}, RepL K G vs ds → Rep K G v d → RepL K G (vs.set n v) (ds.set n d)
  | _, _, 0, _, _, .cons _ t, h => .cons h t
  | _, _, _, _, _, .nil, h => .nil
  | _, _, n + 1, _, _, .cons r t, h => .cons r (RepL.set n t h)
theorem RepL.reverse {vs : List V} {ds : List D} (h : RepL K G vs ds) : RepL K G vs.reverse ds.reverse := by
  induction vs generalizing ds with
  | nil => cases h; exact .nil
  | cons v vs ih =>
    cases h with
    | cons h r => simp only [List.reverse_cons]; exact (ih r).append (.cons h .nil)
end
def isRf : List (D × D) → Bool
  | (.tuple (.list _ :: _), _) :: _ => true
  | _ => false
theorem isRf_k {K : KW} {G : Gp} {kvs : List (Key × V)} {ds : List (D × D)} (h : RepK K G kvs ds) : isRf ds = false := by
  cases h with
  | nil => rfl
  | cons h t =>
    rename_i k _ _ _ _
    cases k <;> rfl
theorem isRf_n {K : KW} {G : Gp} {kvs : List (NestedKey × Addr × V)} {ds : List (D × D)} (h : RepN K G kvs ds) : isRf ds = false := by
  cases h with
  | nil => rfl
  | cons hk hd h t =>
    rename_i ks _ _ _ _ _
    cases ks with
    | nil => rfl
    | cons k ks => cases k <;> rfl
theorem isRf_d {K : KW} {G : Gp} {a : Addr} {u : HO} {ds : List (D × D)} (h : DcR K G a u ds) : isRf ds = false := by
  cases h with
  | k h => exact isRf_k h
  | n h => exact isRf_n h
/- no tracked thing's number stands in it -/
def noTL : D → Bool
  | .tuple (.list _ :: _) => false
  | _ => true
mutual
def noRf : D → Bool
  | .list xs => noRfL xs
  | .tuple xs => noRfL xs
  | .dict kvs => noRfK kvs
  | _ => true
def noRfL : List D → Bool
  | [] => true
  | x :: xs => noRf x && noRfL xs
def noRfK : List (D × D) → Bool
  | [] => true
  | (k, x) :: xs => noTL k && noRf x && noRfK xs
end
theorem noRf_rf (x : Nat) : noRf (rfD x) = false := rfl
theorem noRf_st (objs : List D) : noRf (stD objs) = false := by simp [stD, noRf, noRfK, noTL]
/- no object that can change stands in it -/
mutual
def immut : D → Bool
  | .none => true
  | .bool _ => true
  | .int _ => true
  | .str _ => true
  | .tuple xs => immutL xs
  | _ => false
def immutL : List D → Bool
  | [] => true
  | x :: xs => immut x && immutL xs
end
/- nothing in it is changed any more: the same, and dicts that are frozen -/
mutual
def immutF : D → Bool
  | .tuple xs => immutFL xs
  | .dict kvs => immutFK kvs
  | .list _ => false
  | _ => true
def immutFL : List D → Bool
  | [] => true
  | x :: xs => immutF x && immutFL xs
def immutFK : List (D × D) → Bool
  | [] => true
  | (_, x) :: xs => immutF x && immutFK xs
end
mutual
theorem immut_F : ∀ {d : D}, immut d = true → immutF d = true
  | .none, _ => by simp [immutF]
  | .bool _, _ => by simp [immutF]
  | .int _, _ => by simp [immutF]
  | .str _, _ => by simp [immutF]
  | .tuple xs, h => by
    simp only [immut] at h
    simp only [immutF]
    exact immutL_F h
  | .list _, h => by simp [immut] at h
  | .dict _, h => by simp [immut] at h
theorem immutL_F : ∀ {ds : List D}, immutL ds = true → immutFL ds = true
  | [], _ => by simp [immutFL]
  | d :: ds, h => by
    simp only [immutL, Bool.and_eq_true] at h
    simp only [immutFL, Bool.and_eq_true]
    exact ⟨immut_F h.1, immutL_F h.2⟩
end
mutual
theorem nk_immutF : ∀ k : NestedKey, immutF k.data = true
  | .none => by simp [NestedKey.data, immutF]
  | .num _ => by simp [NestedKey.data, immutF]
  | .text _ => by simp [NestedKey.data, immutF]
  | .tup ks => by simp only [NestedKey.data, immutF]; exact nk_immutFs ks
theorem nk_immutFs : ∀ ks : List NestedKey, immutFL (NestedKey.datas ks) = true
  | [] => by simp [NestedKey.datas, immutFL]
  | k :: ks => by simp [NestedKey.datas, immutFL, nk_immutF k, nk_immutFs ks]
end
/-- only the tuples (and what never changes) of a heap -/
def tups (G : Gp) : Gp := fun a => match a, G a with
  | .inr _, o => o
  | .inl _, some (.tup xs) => some (.tup xs)
  | .inl _, some (.frz o u) => some (.frz o u)
  | .inl _, _ => none
/-- so of a heap -/
def tupsH (H : Hp) : Hp := fun a => match H a with
  | some (.tup xs) => some (.tup xs)
  | some (.frz o u) => some (.frz o u)
  | _ => none
section
variable {K : KW} {G G' : Gp} {H H' : Hp}
theorem tups_same : SameG (tups G) G := fun a o h => by
  unfold tups at h
  split at h
  · exact h
  · rename_i e; rw [e]; exact h
  · rename_i e; rw [e]; exact h
  · cases h
theorem sqP_tups {a : Addr} {xs : List V} (h : SqP K G a xs) : SqP K (tups G) a xs := by
  rcases h with ⟨o, h, q⟩ | h
  · exact .inl ⟨o, by unfold tups; rw [h], q⟩
  · exact .inr h
mutual
theorem Rep.tupsF : ∀ {v : V} {d : D}, Rep K G v d → immutF d = true → Rep K (VL.tups G) v d
  | _, _, .non, _ => .non
  | _, _, .bl b, _ => .bl b
  | _, _, .int i, _ => .int i
  | _, _, .str x, _ => .str x
  | _, _, .tup h r, e => .tup (sqP_tups h) (RepL.tupsF r (by simpa [immutF] using e))
  | _, _, .lst h r, e => by simp [immutF] at e
  | _, _, .dk h r, e => .dk (by unfold VL.tups; rw [h]) (DcR.tupsF r (by simpa [immutF] using e))
  | _, _, .rf h, _ => .rf h
  | _, _, .sto _ _, e => by simp [stD, immutF, immutFK] at e
theorem RepL.tupsF : ∀ {v : List V} {d : List D}, RepL K G v d → immutFL d = true → RepL K (VL.tups G) v d
  | _, _, .nil, _ => .nil
  | _, _, .cons h r, e => by
    simp only [immutFL, Bool.and_eq_true] at e
    exact .cons (Rep.tupsF h e.1) (RepL.tupsF r e.2)
theorem RepK.tupsF : ∀ {v : List (Key × V)} {d : List (D × D)}, RepK K G v d → immutFK d = true → RepK K (VL.tups G) v d
  | _, _, .nil, _ => .nil
  | _, _, .cons h r, e => by
    simp only [immutFK, Bool.and_eq_true] at e
    exact .cons (Rep.tupsF h e.1) (RepK.tupsF r e.2)
theorem RepN.tupsF : ∀ {v : List (NestedKey × Addr × V)} {d : List (D × D)}, RepN K G v d → immutFK d = true → RepN K (VL.tups G) v d
  | _, _, .nil, _ => .nil
  | _, _, .cons hk hd h r, e => by
    simp only [immutFK, Bool.and_eq_true] at e
    exact .cons (Rep.tupsF hk (nk_immutF _)) hd (Rep.tupsF h e.1) (RepN.tupsF r e.2)
theorem DcR.tupsF : ∀ {a : Addr} {u : HO} {d : List (D × D)}, DcR K G a u d → immutFK d = true → DcR K (VL.tups G) a u d
  | _, _, _, .k r, e => .k (RepK.tupsF r e)
  | _, _, _, .n r, e => .n (RepN.tupsF r e)
end
theorem Rep.tups {v : V} {d : D} (r : Rep K G v d) (e : immut d = true) : Rep K (VL.tups G) v d := r.tupsF (immut_F e)
end
theorem RepB.mono {K : KW} {G G' : Gp} (s : SameG G G') : ∀ {vs : List (Bool × V)} {ds : List (D × D)}, RepB K G vs ds → RepB K G' vs ds
  | _, _, .nil => .nil
  | _, _, .cons h r => .cons (h.mono s) (r.mono s)
theorem BdR.mono {K : KW} {G G' : Gp} (s : SameG G G') {a : Addr} {u : HO} {ds : List (D × D)} (h : BdR K G a u ds) : BdR K G' a u ds := by
  cases h with
  | e => exact .e
  | b r => exact .b (r.mono s)
/-- a tracked thing at a: a list; a dict; an instance (its class's name ahead of its fields) -/
inductive ObjR (K : KW) (H : Hp) (G : Gp) (L : List Addr) : Addr → D → Prop where
  | lst {a : Addr} {vs : List V} {ds : List D} : H a = some (.lst vs) → RepL K G vs ds → ObjR K H G L a (.list ds)
  | dct {a : Addr} {u : HO} {ds : List (D × D)} : H a = some u → DcR K G a u ds → ObjR K H G L a (.dict ds)
  | ins {a C dx : Addr} {c : Str} {vs : List (Option V)} {ds : List D} : K.mg c = some (.ref C) → SlX.Slt H a C dx vs → dx ∈ L → (H dx = some (.own a) ∨ H dx = some (.xd [])) → FldR K G vs ds → ObjR K H G L a (.tuple (.str c :: ds))
/-- the tracked things -/
structure StO (K : KW) (H : Hp) (G : Gp) (L : List Addr) (objs : List D) : Prop where
  tags : ∃ as : List Addr, as.length = objs.length ∧ (∀ x a, as[x]? = some a ↔ G (.inr a) = some (.own x)) ∧ (∀ (a : Addr) u, G (.inr a) = some u → ∃ x, u = .own x) ∧ ∀ (x : Nat) a o, as[x]? = some a → objs[x]? = some o → a ∈ L ∧ ObjR K H G L a o
  ob : ∀ a ∈ L, G a = none ∧ (H a).isSome = true ∧ (∀ xs, H a ≠ some (.tup xs)) ∧ HK a (H a) ∧ ∀ o u, H a ≠ some (.frz o u)
mutual
/-- owned to a depth: the objects at L, in H but hidden from G, are reached from here alone -/
inductive Own (K : KW) (H : Hp) (G : Gp) : Nat → V → D → List Addr → Prop where
  | rep {v : V} {d : D} : Rep K G v d → Own K H G 0 v d []
  | imm {n : Nat} {v : V} {d : D} : immut d = true → Rep K G v d → Own K H G n v d []
  | lst {n : Nat} {a : Addr} {vs : List V} {ds : List D} {L : List Addr} : H a = some (.lst vs) → G a = none → OwnL K H G n vs ds L → Own K H G (n + 1) (.ref a) (.list ds) (a :: L)
  | tup {n : Nat} {a : Addr} {vs : List V} {ds : List D} {L : List Addr} : SqP K G a vs → OwnL K H G (n + 1) vs ds L → Own K H G (n + 1) (.ref a) (.tuple ds) L
  | dk {a : Addr} {u : HO} {ds : List (D × D)} : H a = some u → G a = none → DcR K G a u ds → Own K H G 100 (.ref a) (.dict ds) [a]
  | st {L : List Addr} {objs : List D} : StO K H G L objs → Own K H G 200 (.int 0) (stD objs) L
  | bd {a : Addr} {u : HO} {ds : List (D × D)} : H a = some u → G a = none → BdR K G a u ds → Own K H G 150 (.ref a) (.dict ds) [a]
inductive OwnL (K : KW) (H : Hp) (G : Gp) : Nat → List V → List D → List Addr → Prop where
  | nil {n : Nat} : OwnL K H G n [] [] []
  | cons {n : Nat} {v : V} {d : D} {vs : List V} {ds : List D} {L M : List Addr} : Own K H G n v d L → OwnL K H G n vs ds M → OwnL K H G n (v :: vs) (d :: ds) (L ++ M)
end
section
variable {K : KW} {G G' : Gp} {H H' : Hp}
theorem ObjR.mono (s : SameG G G') {L : List Addr} {a : Addr} {d : D} (k : ∀ b ∈ L, H' b = H b) (ha : a ∈ L) (h : ObjR K H G L a d) : ObjR K H' G' L a d := by
  cases h with
  | lst h r => exact .lst (by rw [k a ha]; exact h) (r.mono s)
  | dct h r => exact .dct (by rw [k a ha]; exact h) (r.mono s)
  | ins hc h hd hx r =>
    exact .ins hc (h.imp (fun y => ⟨by rw [k a ha]; exact y.1, y.2⟩) fun y => ⟨by rw [k a ha]; exact y.1, by rw [k _ hd]; exact y.2⟩) hd (by rw [k _ hd]; exact hx) (r.mono s)
theorem StO.mono (s : SameG G G') (tg : NT G G') {L : List Addr} {objs : List D} (h : StO K H G L objs) (k : ∀ a ∈ L, H' a = H a ∧ G' a = none) : StO K H' G' L objs where
  tags := by
    obtain ⟨as, h1, h2, h3, h4⟩ := h.tags
    refine ⟨as, h1, fun x a => by rw [tg a]; exact h2 x a, fun a u e => h3 a u (by rw [tg a] at e; exact e), fun x a o e1 e2 => ?_⟩
    obtain ⟨m, r⟩ := h4 x a o e1 e2
    exact ⟨m, r.mono s (fun b hb => (k b hb).1) m⟩
  ob := fun a m => by
    obtain ⟨_, h2, h3, h4⟩ := h.ob a m
    rw [(k a m).1]
    exact ⟨(k a m).2, h2, h3, h4⟩
/- H keeps what stands at L, and its tuples -/
mutual
theorem Own.mono (s : SameG G G') : ∀ {n : Nat} {v : V} {d : D} {L : List Addr}, (n < 200 ∨ NT G G') → Own K H G n v d L → (∀ a ∈ L, H' a = H a ∧ G' a = none) → Own K H' G' n v d L
  | _, _, _, _, _, .rep r, _ => .rep (r.mono s)
  | _, _, _, _, _, .imm e r, _ => .imm e (r.mono s)
  | _, _, _, _, tg, .lst h g r, k => .lst (by rw [(k _ List.mem_cons_self).1]; exact h) (k _ List.mem_cons_self).2 (OwnL.mono s (tg.imp (by omega) id) r fun a m => k a (List.mem_cons_of_mem _ m))
  | _, _, _, _, tg, .tup h r, k => .tup (sqP_mono s h) (OwnL.mono s tg r k)
  | _, _, _, _, _, .dk h g r, k => .dk (by rw [(k _ List.mem_cons_self).1]; exact h) (k _ List.mem_cons_self).2 (r.mono s)
  | _, _, _, _, _, .bd h g r, k => .bd (by rw [(k _ List.mem_cons_self).1]; exact h) (k _ List.mem_cons_self).2 (r.mono s)
  | _, _, _, _, tg, .st h, k => .st (h.mono s (tg.elim (fun z => absurd z (by decide)) id) k)
theorem OwnL.mono (s : SameG G G') : ∀ {n : Nat} {v : List V} {d : List D} {L : List Addr}, (n < 200 ∨ NT G G') → OwnL K H G n v d L → (∀ a ∈ L, H' a = H a ∧ G' a = none) → OwnL K H' G' n v d L
  | _, _, _, _, _, .nil, _ => .nil
  | _, _, _, _, tg, .cons h r, k => .cons (Own.mono s tg h fun a m => k a (List.mem_append_left _ m)) (OwnL.mono s tg r fun a m => k a (List.mem_append_right _ m))
end
/-- the heap G with what H holds at L -/
def shw (G : Gp) (H : Hp) (L : List Addr) : Gp := fun a => match G a, a with
  | some o, _ => some o
  | none, .inl a => if a ∈ L then H a else none
  | none, .inr _ => none
theorem shw_l {L : List Addr} : SameG G (shw G H L) := fun a o e => by unfold shw; rw [e]
theorem shw_nt {L : List Addr} : NT G (shw G H L) := fun a => by
  unfold shw
  cases q : G (.inr a) <;> rfl
theorem shw_inl {L : List Addr} {a : Addr} (g : G a = none) : shw G H L (.inl a) = if a ∈ L then H a else none := by unfold shw; rw [g]
theorem shw_h {L : List Addr} (s : Sh G H) : Sh (shw G H L) H := fun a o e => by
  cases q : G (.inl a) with
  | some u =>
    have e2 : shw G H L (.inl a) = some u := by unfold shw; rw [q]
    rw [e2] at e
    rw [← e]; exact s _ _ q
  | none =>
    rw [shw_inl q] at e
    split at e
    · exact e
    · cases e
theorem shw_at {L : List Addr} {a : Addr} (hm : a ∈ L) (g : G a = none) : shw G H L a = H a := by rw [shw_inl g, if_pos hm]
theorem shw_not {L : List Addr} {a : Addr} (hm : a ∉ L) : shw G H L (.inl a) = G (.inl a) := by
  cases q : G (.inl a) with
  | some u => unfold shw; rw [q]
  | none => rw [shw_inl q, if_neg hm]
/- what is owned is there to be read, once it is shown -/
mutual
theorem Own.read (s : Sh G H) {M : List Addr} : ∀ {n : Nat} {v : V} {d : D} {L : List Addr}, n < 100 → Own K H G n v d L → (∀ a ∈ L, a ∈ M) → Rep K (shw G H M) v d
  | _, _, _, _, _, .rep r, _ => r.mono shw_l
  | _, _, _, _, _, .imm _ r, _ => r.mono shw_l
  | _, _, _, _, hn, .lst h g r, k => .lst ((shw_at (k _ List.mem_cons_self) g).trans h) (OwnL.read s (by omega) r fun a m => k a (List.mem_cons_of_mem _ m))
  | _, _, _, _, hn, .tup h r, k => .tup (sqP_mono shw_l h) (OwnL.read s hn r k)
  | _, _, _, _, hn, .dk h g r, k => absurd hn (by decide)
  | _, _, _, _, hn, .bd h g r, k => absurd hn (by decide)
  | _, _, _, _, hn, .st h, k => absurd hn (by decide)
theorem OwnL.read (s : Sh G H) {M : List Addr} : ∀ {n : Nat} {v : List V} {d : List D} {L : List Addr}, n < 100 → OwnL K H G n v d L → (∀ a ∈ L, a ∈ M) → RepL K (shw G H M) v d
  | _, _, _, _, _, .nil, _ => .nil
  | _, _, _, _, hn, .cons h r, k => .cons (Own.read s hn h fun a m => k a (List.mem_append_left _ m)) (OwnL.read s hn r fun a m => k a (List.mem_append_right _ m))
end
/- what stands at the owned places is no table -/
mutual
theorem Own.hk : ∀ {n : Nat} {v : V} {d : D} {L : List Addr}, Own K H G n v d L → ∀ a ∈ L, HK a (H a)
  | _, _, _, _, .rep r, _, m => by cases m
  | _, _, _, _, .imm _ r, _, m => by cases m
  | _, _, _, _, .lst h g r, a, m => by
    rcases List.mem_cons.mp m with rfl | m
    · rw [h]; exact .lst
    · exact OwnL.hk r a m
  | _, _, _, _, .tup h r, a, m => OwnL.hk r a m
  | _, _, _, _, .dk h g r, a, m => by
    rw [List.mem_singleton.mp m, h]
    exact r.hk
  | _, _, _, _, .bd h g r, a, m => by
    rw [List.mem_singleton.mp m, h]
    exact r.hk
  | _, _, _, _, .st h, a, m => (h.ob a m).2.2.2.1
theorem OwnL.hk : ∀ {n : Nat} {v : List V} {d : List D} {L : List Addr}, OwnL K H G n v d L → ∀ a ∈ L, HK a (H a)
  | _, _, _, _, .nil, _, m => by cases m
  | _, _, _, _, .cons h r, a, m => (List.mem_append.mp m).elim (Own.hk h a) (OwnL.hk r a)
end
/- what stands at the owned places is a list or a dict, hidden -/
mutual
theorem Own.objs : ∀ {n : Nat} {v : V} {d : D} {L : List Addr}, Own K H G n v d L → ∀ a ∈ L, G a = none ∧ (H a).isSome = true ∧ ∀ xs, H a ≠ some (.tup xs)
  | _, _, _, _, .rep r, _, m => by cases m
  | _, _, _, _, .imm _ r, _, m => by cases m
  | _, _, _, _, .lst h g r, a, m => by
    rcases List.mem_cons.mp m with rfl | m
    · exact ⟨g, by rw [h]; rfl, fun xs => by rw [h]; exact fun z => by cases z⟩
    · exact OwnL.objs r a m
  | _, _, _, _, .tup h r, a, m => OwnL.objs r a m
  | _, _, _, _, .dk h g r, a, m => by
    rw [List.mem_singleton.mp m]
    exact ⟨g, by rw [h]; rfl, fun xs => by rw [h]; exact fun z => r.notT.1 xs (Option.some.inj z)⟩
  | _, _, _, _, .bd h g r, a, m => by
    rw [List.mem_singleton.mp m]
    exact ⟨g, by rw [h]; rfl, fun xs => by rw [h]; exact fun z => r.notT.1 xs (Option.some.inj z)⟩
  | _, _, _, _, .st h, a, m => ⟨(h.ob a m).1, (h.ob a m).2.1, (h.ob a m).2.2.1⟩
theorem OwnL.objs : ∀ {n : Nat} {v : List V} {d : List D} {L : List Addr}, OwnL K H G n v d L → ∀ a ∈ L, G a = none ∧ (H a).isSome = true ∧ ∀ xs, H a ≠ some (.tup xs)
  | _, _, _, _, .nil, _, m => by cases m
  | _, _, _, _, .cons h r, a, m => (List.mem_append.mp m).elim (Own.objs h a) (OwnL.objs r a)
end
end
end VL
set_option Elab.async false
set_option linter.all false
set_option maxRecDepth 100000
/-! VL1: the state's reading over data; expressions. -/
namespace VL
open PySem L2
/-- a slot: unknown; owned to a depth (0: just read); a parameter's object, owned, that is handed back -/
inductive Kd where
  | un | ow (n : Nat) | io (n : Nat)
  deriving DecidableEq
def Kd.dep : Kd → Option Nat
  | .un => none
  | .ow n => some n
  | .io n => some n
abbrev Ctx := List Kd
/-- the entry's heaps; what of it may change; the objects handed in to be changed -/
structure Gh where
  H0 : Hp
  G0 : Gp
  A : List Addr
  io : Nat → Option V
  st : Bool := false
def At (Γ : Ctx) (i n : Nat) : Prop := ∃ k, Γ[i]? = some k ∧ k.dep = some n
/-- what this def may change: what it made, what was handed in so -/
def Gh.own (O : Gh) (a : Addr) : Prop := O.H0 a = none ∨ a ∈ O.A
theorem HK.of_none {H : Hp} {a : Addr} (h : H a = none) : HK a (H a) := by rw [h]; exact .no
theorem HK.of_lst {H : Hp} {a : Addr} {xs : List V} (h : H a = some (.lst xs)) : HK a (H a) := by rw [h]; exact .lst
theorem HK.of_dK {H : Hp} {a : Addr} {xs : List (Key × V)} (h : H a = some (.dK xs)) : HK a (H a) := by rw [h]; exact .dK
/-- the heap without the tables -/
def nt (K : KW) (H : Hp) : Hp := fun a => if a ∈ (tabsOf K.fr).map (·.1) then none else H a
theorem nt_some {K : KW} {H : Hp} {a : Addr} {o : HO} (h : nt K H a = some o) : H a = some o := by
  unfold nt at h
  split at h
  · cases h
  · exact h
theorem nt_none {K : KW} {H : Hp} {a : Addr} (h : nt K H a = none) : H a = none ∨ ∃ p ∈ tabsOf K.fr, p.1 = a := by
  unfold nt at h
  split at h
  · rename_i m
    obtain ⟨p, hp, e⟩ := List.mem_map.mp m
    exact .inr ⟨p, hp, e⟩
  · exact .inl h
theorem nt_at {K : KW} {H : Hp} {p : Addr × Str} (m : p ∈ tabsOf K.fr) : nt K H p.1 = none := by
  unfold nt
  rw [if_pos (List.mem_map.mpr ⟨p, m, rfl⟩)]
/-- what was there and may not be changed is kept; the tables stand -/
structure PresR (K : KW) (O : Gh) (H : Hp) (G : Gp) : Prop where
  keep : ∀ b o, O.H0 b = some o → b ∉ O.A → H b = some o
  tab : LamX.Tabs (tabsOf K.fr) H
  tg : ∀ p ∈ tabsOf K.fr, G p.1 = none
  to : ∀ p ∈ tabsOf K.fr, O.H0 p.1 = none
  ntg : O.st = false → NT O.G0 G
  tgu : ∀ (a b : Addr) x, G (.inr a) = some (.own x) → G (.inr b) = some (.own x) → a = b
instance {K : KW} {O : Gh} {H : Hp} {G : Gp} : CoeFun (PresR K O H G) (fun _ => ∀ b o, O.H0 b = some o → b ∉ O.A → H b = some o) := ⟨PresR.keep⟩
section
variable {K : KW} {O : Gh} {H H' : Hp} {G G' : Gp}
theorem PresR.at (S : PresR K O H G) {p : Addr × Str} (m : p ∈ tabsOf K.fr) : ∃ ps, H p.1 = some (.tbl ps) := by
  obtain ⟨ps, h, _⟩ := S.tab p m
  exact ⟨ps, h⟩
/-- what is no table stands at none -/
theorem PresR.off (S : PresR K O H G) {a : Addr} (h : HK a (H a)) {p : Addr × Str} (m : p ∈ tabsOf K.fr) : p.1 ≠ a := fun z => by
  obtain ⟨ps, e⟩ := S.at m
  rw [z] at e
  exact h.1 ps e
theorem PresR.nt (S : PresR K O H G) {a : Addr} {o : HO} (h : H a = some o) (k : HK a (some o)) : nt K H a = some o := by
  unfold VL.nt
  rw [if_neg]
  · exact h
  · intro z
    obtain ⟨p, m, e⟩ := List.mem_map.mp z
    exact S.off (by rw [h]; exact k) m e
theorem PresR.nt_no (S : PresR K O H G) {a : Addr} (h : VL.nt K H a = none) (k : HK a (H a)) : H a = none := by
  rcases nt_none h with z | ⟨p, m, e⟩
  · exact z
  · exact absurd e (S.off k m)
theorem PresR.same (S : PresR K O H G) (hh : Same H H') (new : ∀ (a : Addr) o, G' a = some o → G a = none → H a = none) (tg : NT G G') : PresR K O H' G' where
  keep := fun b o e hb => hh _ _ (S.keep b o e hb)
  tab := S.tab.ext hh
  tg := fun p m => by
    cases q : G' p.1 with
    | none => rfl
    | some u =>
      obtain ⟨ps, e⟩ := S.at m
      rw [new _ _ q (S.tg p m)] at e
      cases e
  to := S.to
  ntg := fun z => (S.ntg z).trans tg
  tgu := fun a b x e1 e2 => S.tgu a b x ((tg a).symm.trans e1) ((tg b).symm.trans e2)
theorem PresR.new {p : Addr} {o : HO} (S : PresR K O H G) (hp : H p = none) : PresR K O (upd H p o) G :=
  S.same (fun b u e => by rw [upd_ne (ne_of_none e hp)]; exact e) (fun a o e n => by rw [n] at e; cases e) (NT.refl _)
/-- a place that is owned is written -/
theorem PresR.put {p : Addr} {o : HO} (S : PresR K O H G) (ho : O.own p) (k : HK p (H p)) : PresR K O (upd H p o) G where
  keep := fun b u e hb => by
    have ne : b ≠ p := fun z => by
      subst z
      rcases ho with z | z
      · rw [z] at e; cases e
      · exact hb z
    rw [upd_ne ne]
    exact S.keep b u e hb
  tab := fun q m => by
    obtain ⟨ps, h1, h2, h3⟩ := S.tab q m
    refine ⟨ps, by rw [upd_ne (S.off k m)]; exact h1, h2, fun pos cv hc => ?_⟩
    obtain ⟨c, e1, e2⟩ := h3 pos cv hc
    refine ⟨c, e1, ?_⟩
    have ne : c ≠ p := fun z => by
      subst z
      exact k.2 _ e2
    rw [upd_ne ne]
    exact e2
  tg := S.tg
  to := S.to
  ntg := S.ntg
  tgu := S.tgu
/-- what is owned is shown -/
theorem PresR.shw {M : List Addr} (S : PresR K O H G) (k : ∀ a ∈ M, HK a (H a)) : PresR K O H (shw G H M) where
  keep := S.keep
  tab := S.tab
  tg := fun p m => by
    rw [shw_not fun z => S.off (k _ z) m rfl]
    exact S.tg p m
  to := S.to
  ntg := fun z => (S.ntg z).trans shw_nt
  tgu := fun a b x e1 e2 => S.tgu a b x ((shw_nt (G := G) (H := H) (L := M) a).symm.trans e1) ((shw_nt (G := G) (H := H) (L := M) b).symm.trans e2)
/-- G grows by a place that is no table -/
theorem PresR.updG {p : Addr} {o : HO} (S : PresR K O H G) (k : HK p (H p)) : PresR K O H (updG G p o) where
  keep := S.keep
  tab := S.tab
  tg := fun q m => by
    rw [updG_inl (S.off k m)]
    exact S.tg q m
  to := S.to
  ntg := fun z => (S.ntg z).trans fun _ => updG_tag
  tgu := fun a b x e1 e2 => S.tgu a b x ((updG_tag (G := G) (a := p) (o := o)).symm.trans e1) ((updG_tag (G := G) (a := p) (o := o)).symm.trans e2)
theorem PresR.less (S : PresR K O H G) (h : ∀ a : Addr, G a = none → G' a = none) (tg : NT G G') : PresR K O H G' := ⟨S.keep, S.tab, fun p m => h _ (S.tg p m), S.to, fun z => (S.ntg z).trans tg, fun a b x e1 e2 => S.tgu a b x ((tg a).symm.trans e1) ((tg b).symm.trans e2)⟩
/-- taken as an entry -/
theorem PresR.reg {A : List Addr} {io : Nat → Option V} {st : Bool} (S : PresR K O H G) : PresR K ⟨VL.nt K H, G, A, io, st⟩ H G where
  keep := fun b o e _ => nt_some e
  tab := S.tab
  tg := S.tg
  to := fun p m => nt_at m
  ntg := fun _ => NT.refl _
  tgu := S.tgu
/-- behind a stretch of its own -/
theorem PresR.unreg {A : List Addr} {io : Nat → Option V} {st : Bool} {Gm : Gp} (S : PresR K O H G) (S' : PresR K ⟨VL.nt K H, Gm, A, io, st⟩ H' G') (hm : NT G Gm) (hs : st = true → O.st = true) (hA : ∀ a ∈ A, O.own a) : PresR K O H' G' where
  keep := fun b o e hb => by
    refine S'.keep b o ?_ fun hm => ?_
    · show VL.nt K H b = some o
      unfold VL.nt
      rw [if_neg]
      · exact S.keep b o e hb
      · intro z
        obtain ⟨p, m, rfl⟩ := List.mem_map.mp z
        rw [S.to p m] at e
        cases e
    · rcases hA b hm with z | z
      · change O.H0 b = some o at e; rw [z] at e; cases e
      · exact hb z
  tab := S'.tab
  tg := S'.tg
  to := S.to
  ntg := fun z => ((S.ntg z).trans hm).trans (S'.ntg (by
    cases q : st with
    | false => rfl
    | true => rw [hs q] at z; cases z))
  tgu := S'.tgu
end
structure StR (K : KW) (O : Gh) (Γ : Ctx) (H : Hp) (G : Gp) (σ : St) (env : List D) (L : Nat → List Addr) : Prop where
  gh : Sh G H
  ls : σ.length = env.length
  lg : Γ.length = env.length
  slot : ∀ i n, At Γ i n → ∃ v d, σ[i]? = some (some v) ∧ env[i]? = some d ∧ Own K H G n v d (L i)
  nd : ∀ i n, At Γ i n → (L i).Nodup
  dj : ∀ i j n m, At Γ i n → At Γ j m → i ≠ j → ∀ a ∈ L i, a ∉ L j
  new : ∀ i n, At Γ i n → ∀ a ∈ L i, O.own a
  pres : PresR K O H G
  gn : ∀ (a : Addr) o, G a = some o → (O.G0 a).isSome = true ∨ O.own a
  io : ∀ i n, Γ[i]? = some (.io n) → ∃ v, O.io i = some v ∧ σ[i]? = some (some v) ∧ (n = 200 → O.st = true)
/-- a value that has come, owned to the depth n -/
def VR (K : KW) (O : Gh) (Γ : Ctx) (H : Hp) (G : Gp) (L : Nat → List Addr) (n : Nat) (v : V) (d : D) : Prop :=
  ∃ M, Own K H G n v d M ∧ M.Nodup ∧ (∀ a ∈ M, O.own a) ∧ ∀ i m, At Γ i m → ∀ a ∈ M, a ∉ L i
/-- what a step that changes nothing but makes new things leaves -/
structure Res (K : KW) (G : Gp) (H : Hp) (n : Nat) (v : V) (d : D) (G' : Gp) (H' : Hp) : Prop where
  gg : SameG G G'
  gh : Sh G' H'
  hh : Same H H'
  new : ∀ (a : Addr) o, G' a = some o → G a = none → H a = none
  nt : NT G G'
  own : ∃ L, Own K H' G' n v d L ∧ L.Nodup ∧ ∀ a ∈ L, H a = none
section
variable {K : KW} {O : Gh} {Γ : Ctx} {H H' : Hp} {G G' : Gp} {σ : St} {env : List D} {L : Nat → List Addr} {n : Nat} {v : V} {d : D}
theorem Own.zero {M : List Addr} (h : Own K H G 0 v d M) : M = [] ∧ Rep K G v d := by
  cases h with
  | rep r => exact ⟨rfl, r⟩
  | imm _ r => exact ⟨rfl, r⟩
theorem Res.of_rep (s : Sh G H) (r : Rep K G v d) : Res K G H 0 v d G H := ⟨(fun _ _ e => e), s, (fun _ _ e => e), fun a o e n => (by rw [n] at e; cases e), NT.refl _, [], .rep r, List.nodup_nil, fun a m => (by cases m)⟩
theorem ownL0 {H1 : Hp} : ∀ {vs : List V} {ds : List D}, RepL K G vs ds → OwnL K H1 G 0 vs ds []
  | _, _, .nil => .nil
  | _, _, .cons h t => OwnL.cons (L := []) (M := []) (.rep h) (ownL0 t)
theorem repL0 {H1 : Hp} : ∀ {vs : List V} {ds : List D} {M : List Addr}, OwnL K H1 G 0 vs ds M → M = [] ∧ RepL K G vs ds
  | _, _, _, .nil => ⟨rfl, .nil⟩
  | _, _, _, .cons h t => by
    obtain ⟨rfl, r⟩ := h.zero
    obtain ⟨rfl, q⟩ := repL0 t
    exact ⟨rfl, .cons r q⟩
/-- a new list (its items as they are) -/
theorem Res.newL {p : Addr} {vs : List V} {ds : List D} (s : Sh G H) (hp : H p = none) (r : RepL K G vs ds) : Res K G H 1 (.ref p) (.list ds) G (upd H p (.lst vs)) := by
  have hg : G p = none := s.free hp
  have hh : Same H (upd H p (.lst vs)) := fun b o e => by rw [upd_ne (ne_of_none e hp)]; exact e
  exact ⟨(fun _ _ e => e), s.trans hh, hh, fun a o e n => (by rw [n] at e; cases e), NT.refl _, [p], .lst upd_same hg (ownL0 r), by simp, fun a m => by rw [List.mem_singleton.mp m]; exact hp⟩
/-- a new tuple -/
theorem Res.newT {p : Addr} {o : Obj} {vs : List V} {ds : List D} (s : Sh G H) (hp : H p = none) (hc : o.cls = .type "tuple") (hd : o.dict = none) (r : RepL K G vs ds) : Res K G H 0 (.ref p) (.tuple ds) (updG G p (.frz o (.tup vs))) (upd H p (.frz o (.tup vs))) := by
  have hg : G p = none := s.free hp
  have gg : SameG G (updG G p (.frz o (.tup vs))) := fun b o e => by rw [updG_ne (neG e hg)]; exact e
  have hh : Same H (upd H p (.frz o (.tup vs))) := fun b o e => by rw [upd_ne (ne_of_none e hp)]; exact e
  refine ⟨gg, fun b o e => ?_, hh, fun a o e n => ?_, fun _ => updG_tag, [], .rep (.tup (.inl ⟨o, updG_same, hc, hd⟩) (r.mono gg)), List.nodup_nil, fun a m => (by cases m)⟩
  · by_cases hb : b = p
    · subst hb; rw [updG_same] at e; rw [upd_same]; exact e
    · rw [updG_inl hb] at e; rw [upd_ne hb]; exact s _ _ e
  · by_cases hb : a = p
    · subst hb; exact hp
    · rw [updG_inl hb, n] at e; cases e
/-- a new dict -/
theorem Res.newD {p : Addr} {kvs : List (Key × V)} {ds : List (D × D)} (s : Sh G H) (hp : H p = none) (r : RepK K G kvs ds) : Res K G H 100 (.ref p) (.dict ds) G (upd H p (.dK kvs)) := by
  have hg : G p = none := s.free hp
  have hh : Same H (upd H p (.dK kvs)) := fun b o e => by rw [upd_ne (ne_of_none e hp)]; exact e
  exact ⟨(fun _ _ e => e), s.trans hh, hh, fun a o e n => (by rw [n] at e; cases e), NT.refl _, [p], .dk upd_same hg (.k r), by simp, fun a m => by rw [List.mem_singleton.mp m]; exact hp⟩
theorem VR.rep (h : VR K O Γ H G L 0 v d) : Rep K G v d := by
  obtain ⟨M, o, _⟩ := h
  exact o.zero.2
theorem VR.of_rep (r : Rep K G v d) : VR K O Γ H G L 0 v d := ⟨[], .rep r, List.nodup_nil, fun a m => (by cases m), fun _ _ _ a m => (by cases m)⟩
/-- ahead of its new things the state stands -/
theorem StR.res (S : StR K O Γ H G σ env L) (R : Res K G H n v d G' H') : StR K O Γ H' G' σ env L ∧ VR K O Γ H' G' L n v d := by
  have ob : ∀ i m, At Γ i m → ∀ a ∈ L i, G a = none ∧ (H a).isSome = true := fun i m hi a ha => by
    obtain ⟨_, _, _, _, o⟩ := S.slot i m hi
    exact ⟨(o.objs a ha).1, (o.objs a ha).2.1⟩
  have hk : ∀ a, (H a).isSome = true → H' a = H a := fun a e => by
    cases q : H a with
    | none => rw [q] at e; cases e
    | some o => rw [R.hh _ _ q]
  refine ⟨⟨R.gh, S.ls, S.lg, fun i m hi => ?_, S.nd, S.dj, S.new, S.pres.same R.hh R.new R.nt, fun a o e => ?_, S.io⟩, ?_⟩
  · obtain ⟨v', d', e1, e2, o⟩ := S.slot i m hi
    refine ⟨v', d', e1, e2, o.mono R.gg (.inr R.nt) fun a ha => ⟨hk a (ob i m hi a ha).2, ?_⟩⟩
    cases q : G' a with
    | none => rfl
    | some u =>
      have z := R.new a u q (ob i m hi a ha).1
      have y := (ob i m hi a ha).2
      rw [z] at y; cases y
  · cases q : G a with
    | some u => exact S.gn a u q
    | none =>
      have z := R.new a o e q
      cases r : O.H0 a with
      | none => exact .inr (.inl r)
      | some u =>
        by_cases hm : a ∈ O.A
        · exact .inr (.inr hm)
        · rw [S.pres a u r hm] at z; cases z
  · obtain ⟨M, o, nd, fr⟩ := R.own
    refine ⟨M, o, nd, fun a ha => ?_, fun i m hi a ha hl => ?_⟩
    · cases r : O.H0 a with
      | none => exact .inl r
      | some u =>
        by_cases hm : a ∈ O.A
        · exact .inr hm
        · have z := fr a ha
          rw [S.pres a u r hm] at z; cases z
    · have y := (ob i m hi a hl).2
      rw [fr a ha] at y; cases y
/-- an owned value that has come is shown -/
theorem StR.shown (S : StR K O Γ H G σ env L) (hn : n < 100) (hv : VR K O Γ H G L n v d) : ∃ G', SameG G G' ∧ StR K O Γ H G' σ env L ∧ Rep K G' v d := by
  obtain ⟨M, o, nd, ow, dj⟩ := hv
  refine ⟨shw G H M, shw_l, ⟨shw_h S.gh, S.ls, S.lg, fun i m hi => ?_, S.nd, S.dj, S.new, S.pres.shw o.hk, fun a u e => ?_, S.io⟩, Own.read S.gh hn o fun _ h => h⟩
  · obtain ⟨v', d', e1, e2, o'⟩ := S.slot i m hi
    refine ⟨v', d', e1, e2, o'.mono shw_l (.inr shw_nt) fun a ha => ⟨rfl, ?_⟩⟩
    rw [shw_not fun hm => dj i m hi a hm ha]
    exact (o'.objs a ha).1
  · by_cases hm : a ∈ M
    · exact .inr (ow a hm)
    · rw [shw_not hm] at e; exact S.gn a u e
end
/-! ### expressions over data -/
abbrev Ex := List D → Option (D × List D)
abbrev Bx := List D → Option (Bool × List D)
def tM (K : KW) (Γ : Ctx) (f : Ex) (n : Nat) : TE := fun σ H Q => ∃ (O : Gh) (G : Gp) (env : List D) (L : Nat → List Addr) (r : D) (env' : List D), StR K O Γ H G σ env L ∧ f env = some (r, env') ∧
  ∀ v H' G' L', StR K O Γ H' G' σ env' L' → SameG G G' → VR K O Γ H' G' L' n v r → Q v H'
def tMT (K : KW) (Γ : Ctx) (f : Bx) : TT := fun σ H Q => ∃ (O : Gh) (G : Gp) (env : List D) (L : Nat → List Addr) (r : Bool) (env' : List D), StR K O Γ H G σ env L ∧ f env = some (r, env') ∧
  ∀ H' G' L', StR K O Γ H' G' σ env' L' → SameG G G' → Q r H'
def evs : List Ex → List D → Option (List D × List D)
  | [], env => some ([], env)
  | f :: r, env => (f env).bind fun p => (evs r p.2).map fun q => (p.1 :: q.1, q.2)
def tMA (K : KW) (Γ : Ctx) (fs : List Ex) : TA := fun σ H Q => ∃ (O : Gh) (G : Gp) (env : List D) (L : Nat → List Addr) (rs : List D) (env' : List D), StR K O Γ H G σ env L ∧ evs fs env = some (rs, env') ∧
  ∀ vs H' G' L', StR K O Γ H' G' σ env' L' → SameG G G' → RepL K G' vs rs → Q vs H'
theorem evs_len : ∀ {fs : List Ex} {env : List D} {rs env' : List D}, evs fs env = some (rs, env') → rs.length = fs.length
  | [], _, _, _, h => by cases h; rfl
  | f :: r, env, _, _, h => by
    simp only [evs] at h
    cases e : f env with
    | none => rw [e] at h; cases h
    | some p =>
      rw [e] at h
      simp only [Option.bind_some] at h
      cases e2 : evs r p.2 with
      | none => rw [e2] at h; cases h
      | some q =>
        rw [e2] at h
        simp only [Option.map_some, Option.some.injEq] at h
        cases h
        simp [evs_len (fs := r) (rs := q.1) (env' := q.2) e2]
theorem _root_.L2.PE.imp {X : Cx} {e : Expr} {t t' : TE} (h : PE X e t) (k : ∀ σ H Q, t' σ H Q → t σ H Q) : PE X e t' := ⟨fun pins s σ H Q I q => h.run pins s σ H Q I (k σ H Q q)⟩
theorem _root_.L2.PT.imp {X : Cx} {e : Expr} {t t' : TT} (h : PT X e t) (k : ∀ σ H Q, t' σ H Q → t σ H Q) : PT X e t' := ⟨fun pins s σ H Q I q => h.run pins s σ H Q I (k σ H Q q)⟩
theorem _root_.L2.PW.imp {X : Cx} {e : Expr} {t t' : TT} (h : PW X e t) (k : ∀ σ H Q, t' σ H Q → t σ H Q) : PW X e t' := ⟨fun whole pins s σ H Q I q => h.run whole pins s σ H Q I (k σ H Q q)⟩
theorem _root_.L2.PA.imp {X : Cx} {e : List Expr} {t t' : TA} (h : PA X e t) (k : ∀ σ H Q, t' σ H Q → t σ H Q) : PA X e t' := ⟨fun pos pins s σ H Q I q => h.run pos pins s σ H Q I (k σ H Q q)⟩
theorem _root_.L2.PS.imp {X : Cx} {e : Stmt} {t t' : TS} (h : PS X e t) (k : ∀ D σ H, t' D σ H → t D σ H) : PS X e t' := ⟨fun pins s σ H D I q => h.run pins s σ H D I (k D σ H q)⟩
theorem _root_.L2.PSs.imp {X : Cx} {e : List Stmt} {t t' : TS} (h : PSs X e t) (k : ∀ D σ H, t' D σ H → t D σ H) : PSs X e t' := ⟨fun pins s σ H D I q => h.run pins s σ H D I (k D σ H q)⟩
def eVar (i : Nat) : Ex := fun env => (env[i]?).map fun d => (d, env)
def eC (d : D) : Ex := fun env => some (d, env)
def eUn (F : D → Option D) (a : Ex) : Ex := fun env => (a env).bind fun p => (F p.1).map fun r => (r, p.2)
def eBin (F : D → D → Option D) (a b : Ex) : Ex := fun env => (a env).bind fun p => (b p.2).bind fun q => (F p.1 q.1).map fun r => (r, q.2)
def eNs (F : List D → Option D) (as : List Ex) : Ex := fun env => (evs as env).bind fun p => (F p.1).map fun r => (r, p.2)
def eAnd (a b : Ex) : Ex := fun env => (a env).bind fun p => match p.1 with
  | .bool true => b p.2
  | .bool false => some (.bool false, p.2)
  | _ => none
def eOr (a b : Ex) : Ex := fun env => (a env).bind fun p => match p.1 with
  | .bool true => some (.bool true, p.2)
  | .bool false => b p.2
  | _ => none
def eIf (c : Bx) (a b : Ex) : Ex := fun env => (c env).bind fun p => if p.1 = true then a p.2 else b p.2
def asB (a : Ex) : Bx := fun env => (a env).bind fun p => match p.1 with
  | .bool b => some (b, p.2)
  | _ => none
def bAnd (a b : Bx) : Bx := fun env => (a env).bind fun p => if p.1 = true then b p.2 else some (false, p.2)
def bOr (a b : Bx) : Bx := fun env => (a env).bind fun p => if p.1 = true then some (true, p.2) else b p.2
def bNot (a : Bx) : Bx := fun env => (a env).map fun p => (!p.1, p.2)
def notD : D → Option D
  | .bool b => some (.bool (!b))
  | _ => none
/-- a two-place operation over data -/
def rD (K : KW) (n : Nat) (F : D → D → Option D) : R2 := fun x y H Q => ∃ d e z G, Sh G H ∧ Rep K G x d ∧ Rep K G y e ∧ F d e = some z ∧ ∀ v G' H', Res K G H n v z G' H' → Q v H'
def cD (K : KW) (n : Nat) (F : List D → Option D) : List V → Hp → VK → Prop := fun xs H Q => ∃ ds z G, Sh G H ∧ RepL K G xs ds ∧ F ds = some z ∧ ∀ v G' H', Res K G H n v z G' H' → Q v H'
section
variable {X : Cx} {Γ : Ctx} {a b c : Expr} {pos : Pos} {fa fb : Ex} {n m : Nat}
theorem m_weak (h : PE X a (tM X.kw Γ fa n)) (hn : n < 100 := by decide) : PE X a (tM X.kw Γ fa 0) := h.imp fun σ H Q ⟨O, G, env, L, r, env1, S, e, k⟩ =>
  ⟨O, G, env, L, r, env1, S, e, fun v H1 G1 L1 S1 s1 v1 => by
    obtain ⟨G2, s2, S2, r2⟩ := S1.shown hn v1
    exact k v H1 G2 L1 S2 (s1.trans s2) (.of_rep r2)⟩
theorem m_var (i : Nat) {x : Str} (hN : X.N[i]? = some x := by rfl) (hv : Vis X.env.scope x := by first | exact Or.inl rfl | exact Or.inr (Or.inl rfl) | exact Or.inr (Or.inr rfl)) (hg : Γ[i]? = some (.ow 0) := by rfl) (hd : (x == ("__debug__" : Str)) = false := by decide)
    (hcd : (x == ("__classdict__" : Str)) = false := by decide) : PE X (.Name x pos) (tM X.kw Γ (eVar i) 0) :=
  (pe_var hN hv hd hcd).imp fun σ H Q ⟨O, G, env, L, r, env1, S, e, k⟩ => by
    obtain ⟨v, d, e1, e2, o⟩ := S.slot i 0 ⟨_, hg, rfl⟩
    simp only [eVar, e2, Option.map_some, Option.some.injEq, Prod.mk.injEq] at e
    obtain ⟨rfl, rfl⟩ := e
    exact ⟨v, e1, k v H G L S (fun _ _ e => e) (.of_rep o.zero.2)⟩
theorem m_con {v : V} {d : D} (h : PE X a (tC v)) (r : ∀ G, Rep X.kw G v d) : PE X a (tM X.kw Γ (eC d) 0) := h.imp fun σ H Q ⟨O, G, env, L, z, env1, S, e, k⟩ => by
  simp only [eC, Option.some.injEq, Prod.mk.injEq] at e
  obtain ⟨rfl, rfl⟩ := e
  exact k v H G L S (fun _ _ e => e) (.of_rep (r G))
theorem m_int {i j} : PE X (.Constant (.int i) j pos) (tM X.kw Γ (eC (.int i)) 0) := m_con pe_int fun _ => .int i
theorem m_bl {i j} : PE X (.Constant (.bool i) j pos) (tM X.kw Γ (eC (.bool i)) 0) := m_con pe_bl fun _ => .bl i
theorem m_non {j} : PE X (.Constant .none j pos) (tM X.kw Γ (eC .none) 0) := m_con pe_non fun _ => .non
theorem eBin_some {F : D → D → Option D} {env env2 : List D} {r : D} (e : eBin F fa fb env = some (r, env2)) : ∃ x env1 y, fa env = some (x, env1) ∧ fb env1 = some (y, env2) ∧ F x y = some r := by
  unfold eBin at e
  cases h1 : fa env with
  | none => rw [h1] at e; cases e
  | some p =>
    rw [h1] at e
    simp only [Option.bind_some] at e
    cases h2 : fb p.2 with
    | none => rw [h2] at e; cases e
    | some q =>
      rw [h2] at e
      simp only [Option.bind_some] at e
      cases h3 : F p.1 q.1 with
      | none => rw [h3] at e; cases e
      | some z =>
        rw [h3] at e
        simp only [Option.map_some, Option.some.injEq, Prod.mk.injEq] at e
        obtain ⟨rfl, rfl⟩ := e
        exact ⟨p.1, p.2, q.1, rfl, h2, h3⟩
theorem eUn_some {F : D → Option D} {env env2 : List D} {r : D} (e : eUn F fa env = some (r, env2)) : ∃ x, fa env = some (x, env2) ∧ F x = some r := by
  unfold eUn at e
  cases h1 : fa env with
  | none => rw [h1] at e; cases e
  | some p =>
    rw [h1] at e
    simp only [Option.bind_some] at e
    cases h3 : F p.1 with
    | none => rw [h3] at e; cases e
    | some z =>
      rw [h3] at e
      simp only [Option.map_some, Option.some.injEq, Prod.mk.injEq] at e
      obtain ⟨rfl, rfl⟩ := e
      exact ⟨p.1, rfl, h3⟩
theorem eNs_some {F : List D → Option D} {fs : List Ex} {env env2 : List D} {r : D} (e : eNs F fs env = some (r, env2)) : ∃ xs, evs fs env = some (xs, env2) ∧ F xs = some r := by
  unfold eNs at e
  cases h1 : evs fs env with
  | none => rw [h1] at e; cases e
  | some p =>
    rw [h1] at e
    simp only [Option.bind_some] at e
    cases h3 : F p.1 with
    | none => rw [h3] at e; cases e
    | some z =>
      rw [h3] at e
      simp only [Option.map_some, Option.some.injEq, Prod.mk.injEq] at e
      obtain ⟨rfl, rfl⟩ := e
      exact ⟨p.1, rfl, h3⟩
theorem tOp_of {F : D → D → Option D} {σ : St} {H : Hp} {Q : VK} (h : tM X.kw Γ (eBin F fa fb) n σ H Q) : tOp (rD X.kw n F) (tM X.kw Γ fa 0) (tM X.kw Γ fb 0) σ H Q := by
  obtain ⟨O, G, env, L, r, env2, S, e, k⟩ := h
  obtain ⟨x, env1, y, e1, e2, e3⟩ := eBin_some e
  exact ⟨O, G, env, L, x, env1, S, e1, fun v H1 G1 L1 S1 s1 v1 => ⟨O, G1, env1, L1, y, env2, S1, e2, fun u H2 G2 L2 S2 s2 v2 =>
    ⟨x, y, r, G2, S2.gh, v1.rep.mono s2, v2.rep, e3, fun w G3 H3 R => k w H3 G3 L2 (S2.res R).1 ((s1.trans s2).trans R.gg) (S2.res R).2⟩⟩⟩
theorem m_bin {op : Operator} {F : D → D → Option D} (ho : OpR X (binaryOp op) (rD X.kw n F)) (ha : PE X a (tM X.kw Γ fa 0)) (hb : PE X b (tM X.kw Γ fb 0)) : PE X (.BinOp a op b pos) (tM X.kw Γ (eBin F fa fb) n) :=
  (pe_op ho ha hb).imp fun σ H Q h => tOp_of h
theorem m_cmp {op : CmpOp} {F : D → D → Option D} (ho : OpR X (compareOp op) (rD X.kw n F)) (ha : PE X a (tM X.kw Γ fa 0)) (hb : PE X b (tM X.kw Γ fb 0)) (hm : behindInMarks op b = false) : PE X (.Compare a [op] [b] pos) (tM X.kw Γ (eBin F fa fb) n) :=
  (pe_cmpR ho ha hb hm).imp fun σ H Q h => tOp_of h
theorem tTest_of {f : Ex} {σ : St} {H : Hp} {Q : Bool → Hp → Prop} (h : tMT X.kw Γ (asB f) σ H Q) : tTest (tM X.kw Γ f 0) σ H Q := by
  obtain ⟨O, G, env, L, r, env2, S, e, k⟩ := h
  unfold asB at e
  cases h1 : f env with
  | none => rw [h1] at e; cases e
  | some p =>
    rw [h1] at e
    simp only [Option.bind_some] at e
    obtain ⟨x, env1⟩ := p
    cases x with
    | bool b =>
      simp only [Option.some.injEq, Prod.mk.injEq] at e
      obtain ⟨rfl, rfl⟩ := e
      refine ⟨O, G, env, L, .bool b, env1, S, h1, fun v H1 G1 L1 S1 s1 v1 => ?_⟩
      have := v1.rep
      cases this
      exact ⟨b, rfl, k H1 G1 L1 S1 s1⟩
    | _ => cases e
theorem b_cmp {op : CmpOp} {F : D → D → Option D} (ho : OpR X (compareOp op) (rD X.kw 0 F)) (ha : PE X a (tM X.kw Γ fa 0)) (hb : PE X b (tM X.kw Γ fb 0)) (hm : behindInMarks op b = false) : PT X (.Compare a [op] [b] pos) (tMT X.kw Γ (asB (eBin F fa fb))) :=
  (pt_cmpR ho ha hb hm).imp fun σ H Q h => by
    obtain ⟨O, G, env, L, r, env2, S, e, k⟩ := tTest_of h
    exact tOp_of ⟨O, G, env, L, r, env2, S, e, k⟩
theorem b_val (h : PE X a (tM X.kw Γ fa 0)) (he : ∀ whole, isTrue a X.env whole = (do let v ← whole; standAt a.pos; holding [v] (truthy v)) := by intro _; rfl) : PT X a (tMT X.kw Γ (asB fa)) :=
  (pt_val h he).imp fun σ H Q h => tTest_of h
theorem b_and1 {ga : Bx} (ha : PT X a (tMT X.kw Γ ga)) : PW X (.BoolOp .And [a] pos) (tMT X.kw Γ ga) := pw_and1 ha
theorem b_or1 {ga : Bx} (ha : PT X a (tMT X.kw Γ ga)) : PW X (.BoolOp .Or [a] pos) (tMT X.kw Γ ga) := pw_or1 ha
theorem bx_and {ga gb : Bx} {env env2 : List D} {r : Bool} (e : bAnd ga gb env = some (r, env2)) : ∃ b env1, ga env = some (b, env1) ∧ (if b = true then gb env1 = some (r, env2) else r = false ∧ env2 = env1) := by
  unfold bAnd at e
  cases h1 : ga env with
  | none => rw [h1] at e; cases e
  | some p =>
    rw [h1] at e
    simp only [Option.bind_some] at e
    refine ⟨p.1, p.2, rfl, ?_⟩
    split
    · rename_i q; rw [if_pos q] at e; exact e
    · rename_i q; rw [if_neg q] at e; simp only [Option.some.injEq, Prod.mk.injEq] at e; exact ⟨e.1.symm, e.2.symm⟩
theorem bx_or {ga gb : Bx} {env env2 : List D} {r : Bool} (e : bOr ga gb env = some (r, env2)) : ∃ b env1, ga env = some (b, env1) ∧ (if b = true then r = true ∧ env2 = env1 else gb env1 = some (r, env2)) := by
  unfold bOr at e
  cases h1 : ga env with
  | none => rw [h1] at e; cases e
  | some p =>
    rw [h1] at e
    simp only [Option.bind_some] at e
    refine ⟨p.1, p.2, rfl, ?_⟩
    split
    · rename_i q; rw [if_pos q] at e; simp only [Option.some.injEq, Prod.mk.injEq] at e; exact ⟨e.1.symm, e.2.symm⟩
    · rename_i q; rw [if_neg q] at e; exact e
theorem b_and {rest : List Expr} {ga gb : Bx} (ha : PT X a (tMT X.kw Γ ga)) (hb : PW X (.BoolOp .And (b :: rest) pos) (tMT X.kw Γ gb)) : PW X (.BoolOp .And (a :: b :: rest) pos) (tMT X.kw Γ (bAnd ga gb)) :=
  (pw_and ha hb).imp fun σ H Q ⟨O, G, env, L, r, env2, S, e, k⟩ => by
    obtain ⟨b, env1, e1, e2⟩ := bx_and e
    refine ⟨O, G, env, L, b, env1, S, e1, fun H1 G1 L1 S1 s1 => ?_⟩
    by_cases hb : b = true
    · rw [if_pos hb] at e2 ⊢
      exact ⟨O, G1, env1, L1, r, env2, S1, e2, fun H2 G2 L2 S2 s2 => k H2 G2 L2 S2 (s1.trans s2)⟩
    · rw [if_neg hb] at e2 ⊢
      obtain ⟨rfl, rfl⟩ := e2
      exact k H1 G1 L1 S1 s1
theorem b_or {rest : List Expr} {ga gb : Bx} (ha : PT X a (tMT X.kw Γ ga)) (hb : PW X (.BoolOp .Or (b :: rest) pos) (tMT X.kw Γ gb)) : PW X (.BoolOp .Or (a :: b :: rest) pos) (tMT X.kw Γ (bOr ga gb)) :=
  (pw_or ha hb).imp fun σ H Q ⟨O, G, env, L, r, env2, S, e, k⟩ => by
    obtain ⟨b, env1, e1, e2⟩ := bx_or e
    refine ⟨O, G, env, L, b, env1, S, e1, fun H1 G1 L1 S1 s1 => ?_⟩
    by_cases hb : b = true
    · rw [if_pos hb] at e2 ⊢
      obtain ⟨rfl, rfl⟩ := e2
      exact k H1 G1 L1 S1 s1
    · rw [if_neg hb] at e2 ⊢
      exact ⟨O, G1, env1, L1, r, env2, S1, e2, fun H2 G2 L2 S2 s2 => k H2 G2 L2 S2 (s1.trans s2)⟩
theorem b_not {ga : Bx} (ha : PT X a (tMT X.kw Γ ga)) : PT X (.UnaryOp .Not a pos) (tMT X.kw Γ (bNot ga)) :=
  (pt_not ha).imp fun σ H Q ⟨O, G, env, L, r, env2, S, e, k⟩ => by
    unfold bNot at e
    cases h1 : ga env with
    | none => rw [h1] at e; cases e
    | some p =>
      rw [h1] at e
      simp only [Option.map_some, Option.some.injEq, Prod.mk.injEq] at e
      obtain ⟨rfl, rfl⟩ := e
      exact ⟨O, G, env, L, p.1, p.2, S, h1, fun H1 G1 L1 S1 s1 => k H1 G1 L1 S1 s1⟩
theorem m_if {gc : Bx} (hc : PT X c (tMT X.kw Γ gc)) (ha : PE X a (tM X.kw Γ fa n)) (hb : PE X b (tM X.kw Γ fb n)) : PE X (.IfExp c a b pos) (tM X.kw Γ (eIf gc fa fb) n) :=
  (pe_ifExp hc ha hb).imp fun σ H Q ⟨O, G, env, L, r, env2, S, e, k⟩ => by
    unfold eIf at e
    cases h1 : gc env with
    | none => rw [h1] at e; cases e
    | some p =>
      rw [h1] at e
      simp only [Option.bind_some] at e
      refine ⟨O, G, env, L, p.1, p.2, S, h1, fun H1 G1 L1 S1 s1 => ?_⟩
      by_cases hb : p.1 = true
      · rw [if_pos hb] at e ⊢
        exact ⟨O, G1, p.2, L1, r, env2, S1, e, fun v H2 G2 L2 S2 s2 => k v H2 G2 L2 S2 (s1.trans s2)⟩
      · rw [if_neg hb] at e ⊢
        exact ⟨O, G1, p.2, L1, r, env2, S1, e, fun v H2 G2 L2 S2 s2 => k v H2 G2 L2 S2 (s1.trans s2)⟩
theorem m_and {rest : List Expr} (ha : PE X a (tM X.kw Γ fa 0)) (hb : PE X (.BoolOp .And (b :: rest) pos) (tM X.kw Γ fb 0)) : PE X (.BoolOp .And (a :: b :: rest) pos) (tM X.kw Γ (eAnd fa fb) 0) :=
  (pe_and ha hb).imp fun σ H Q ⟨O, G, env, L, r, env2, S, e, k⟩ => by
    unfold eAnd at e
    cases h1 : fa env with
    | none => rw [h1] at e; cases e
    | some p =>
      rw [h1] at e
      simp only [Option.bind_some] at e
      obtain ⟨x, env1⟩ := p
      cases x with
      | bool t =>
        refine ⟨O, G, env, L, .bool t, env1, S, h1, fun v H1 G1 L1 S1 s1 v1 => ?_⟩
        have := v1.rep
        cases this
        cases t with
        | true => exact ⟨true, rfl, by rw [if_pos rfl]; exact ⟨O, G1, env1, L1, r, env2, S1, e, fun v H2 G2 L2 S2 s2 => k v H2 G2 L2 S2 (s1.trans s2)⟩⟩
        | false =>
          simp only [Option.some.injEq, Prod.mk.injEq] at e
          obtain ⟨rfl, rfl⟩ := e
          exact ⟨false, rfl, by rw [if_neg (by decide)]; exact k _ H1 G1 L1 S1 s1 (.of_rep (.bl false))⟩
      | _ => cases e
theorem m_one {op} (ha : PE X a (tM X.kw Γ fa n)) : PE X (.BoolOp op [a] pos) (tM X.kw Γ fa n) := pe_one ha
/-! arguments -/
theorem a_nil : PA X [] (tMA X.kw Γ []) := pa_nil.imp fun σ H Q ⟨O, G, env, L, rs, env1, S, e, k⟩ => by
  simp only [evs, Option.some.injEq, Prod.mk.injEq] at e
  obtain ⟨rfl, rfl⟩ := e
  exact k [] H G L S (fun _ _ e => e) .nil
theorem a_cons {es : List Expr} {fs : List Ex} (ha : PE X a (tM X.kw Γ fa 0)) (hr : PA X es (tMA X.kw Γ fs)) (hs : starEach (a :: es) X.env = (false, eval a X.env) :: starEach es X.env := by rfl) : PA X (a :: es) (tMA X.kw Γ (fa :: fs)) :=
  (pa_cons ha hr hs).imp fun σ H Q ⟨O, G, env, L, rs, env2, S, e, k⟩ => by
    simp only [evs] at e
    cases h1 : fa env with
    | none => rw [h1] at e; cases e
    | some p =>
      rw [h1] at e
      simp only [Option.bind_some] at e
      cases h2 : evs fs p.2 with
      | none => rw [h2] at e; cases e
      | some q =>
        rw [h2] at e
        simp only [Option.map_some, Option.some.injEq, Prod.mk.injEq] at e
        obtain ⟨rfl, rfl⟩ := e
        exact ⟨O, G, env, L, p.1, p.2, S, h1, fun v H1 G1 L1 S1 s1 v1 => ⟨O, G1, p.2, L1, q.1, q.2, S1, h2, fun vs H2 G2 L2 S2 s2 r2 => k (v :: vs) H2 G2 L2 S2 (s1.trans s2) (.cons (v1.rep.mono s2) r2)⟩⟩
theorem small_size {n : Nat} (h : n ≤ 1000) : n ≤ sizeLine := Nat.le_trans h (by decide)
/-- a display of a tuple, its object known -/
def tTupP (t : TA) : TE := fun σ H Q => t σ H fun xs H1 => xs.length ≤ sizeLine ∧ ∀ p o, H1 p = none → o.cls = .type "tuple" → o.dict = none → Q (.ref p) (upd H1 p (.frz o (.tup xs)))
theorem pe_tupP {es : List Expr} {t : TA} {x1} (h : PA X es t) : PE X (.Tuple es x1 pos) (tTupP t) := by
  refine ⟨fun pins s σ H Q I hq => ?_⟩
  refine wpAny_Tuple_spliced (thn (h.run pos pins s σ H _ I hq) fun us s1 ⟨xs, H1, I1, r, z, q⟩ => ⟨by rw [← r.length]; exact z, ?_⟩)
  have hf : H1 s1.heap.objs.size = none := I1.hok.fresh (Nat.le_refl _)
  refine ⟨.ref s1.heap.objs.size, upd H1 s1.heap.objs.size (.frz _ (.tup xs)), I1.laid (t' := s1.toks) (fun b u e => Heap.get?_push_of_some _ e) (Nat.le_refl _) ⟨Heap.get?_push_size _ rfl, z, us, r, ⟨_, Heap.get?_push_size _ rfl, rfl, _, rfl⟩⟩, rfl, q _ _ hf rfl rfl⟩
theorem m_tup {es : List Expr} {fs : List Ex} {x1} (h : PA X es (tMA X.kw Γ fs)) (hl : fs.length ≤ 1000 := by decide) : PE X (.Tuple es x1 pos) (tM X.kw Γ (eNs (fun xs => some (.tuple xs)) fs) 0) :=
  (pe_tupP h).imp fun σ H Q ⟨O, G, env, L, r, env2, S, e, k⟩ => by
    obtain ⟨xs, e1, e2⟩ := eNs_some e
    cases e2
    refine ⟨O, G, env, L, xs, env2, S, e1, fun vs H1 G1 L1 S1 s1 r1 => ⟨by rw [r1.length, evs_len e1]; exact small_size hl, fun p o hp hc hd => ?_⟩⟩
    have R := Res.newT S1.gh hp hc hd r1
    exact k _ _ _ L1 (S1.res R).1 (s1.trans R.gg) (S1.res R).2
theorem m_lst {es : List Expr} {fs : List Ex} (h : PA X es (tMA X.kw Γ fs)) (hl : fs.length ≤ 1000 := by decide) : PE X (.List es pos) (tM X.kw Γ (eNs (fun xs => some (.list xs)) fs) 1) :=
  (pe_lst h).imp fun σ H Q ⟨O, G, env, L, r, env2, S, e, k⟩ => by
    obtain ⟨xs, e1, e2⟩ := eNs_some e
    cases e2
    refine ⟨O, G, env, L, xs, env2, S, e1, fun vs H1 G1 L1 S1 s1 r1 => ⟨by rw [r1.length, evs_len e1]; exact small_size hl, fun p hp => ?_⟩⟩
    have R := Res.newL S1.gh hp r1
    exact k _ _ _ L1 (S1.res R).1 (s1.trans R.gg) (S1.res R).2
/-- a call of a built-in, by its name -/
theorem tCB_of {F : List D → Option D} {fs : List Ex} {σ : St} {H : Hp} {Q : VK} (h : tM X.kw Γ (eNs F fs) n σ H Q) : tCB (cD X.kw n F) (tMA X.kw Γ fs) σ H Q := by
  obtain ⟨O, G, env, L, r, env2, S, e, k⟩ := h
  obtain ⟨xs, e1, e2⟩ := eNs_some e
  exact ⟨O, G, env, L, xs, env2, S, e1, fun vs H1 G1 L1 S1 s1 r1 => ⟨xs, r, G1, S1.gh, r1, e2, fun w G3 H3 R => k w H3 G3 L1 (S1.res R).1 (s1.trans R.gg) (S1.res R).2⟩⟩
theorem m_callB {es : List Expr} {fs : List Ex} {id : String} {x : Str} {p : Pos} {F : List D → Option D} (hc : CallR X (.builtin id) (cD X.kw n F)) (hg : Gl X x) (hm : X.mg x = none) (hv : bootBuiltins x = some (.builtin id)) (ha : PA X (a :: es) (tMA X.kw Γ fs)) (hn : x ≠ "__name__" := by decide) (hdb : (x == ("__debug__" : Str)) = false := by decide)
    (he : starEach (a :: es) X.env = (false, eval a X.env) :: starEach es X.env := by rfl) (hpl : (backTo pos (starEach es X.env)).any (·.1) = false := by rfl) : PE X (.Call (.Name x p) (a :: es) [] pos) (tM X.kw Γ (eNs F fs) n) :=
  (pe_callB hc hg hm hv ha hn hdb he hpl).imp fun σ H Q h => tCB_of h
theorem m_callTy {es : List Expr} {fs : List Ex} {T : String} {x : Str} {p : Pos} {F : List D → Option D} (hc : CallR X (.type T) (cD X.kw n F)) (hg : Gl X x) (hm : X.mg x = none) (hv : bootBuiltins x = some (.type T)) (ha : PA X (a :: es) (tMA X.kw Γ fs)) (hn : x ≠ "__name__" := by decide) (hdb : (x == ("__debug__" : Str)) = false := by decide)
    (he : starEach (a :: es) X.env = (false, eval a X.env) :: starEach es X.env := by rfl) (hpl : (backTo pos (starEach es X.env)).any (·.1) = false := by rfl) : PE X (.Call (.Name x p) (a :: es) [] pos) (tM X.kw Γ (eNs F fs) n) :=
  (pe_callTy hc hg hm hv ha hn hdb he hpl).imp fun σ H Q h => tCB_of h
/-- o[i] -/
theorem m_ix {F : D → D → Option D} (hr : IxR X (rD X.kw n F)) (ha : PE X a (tM X.kw Γ fa 0)) (hb : PE X b (tM X.kw Γ fb 0)) (hs : PlainIx b) : PE X (.Subscript a b pos) (tM X.kw Γ (eBin F fa fb) n) :=
  (pe_ix hr ha hb hs).imp fun σ H Q h => tOp_of h
end
end VL
set_option Elab.async false
set_option linter.all false
set_option maxRecDepth 100000
/-! VL2: borrowing; calls of defs. -/
namespace VL
open PySem L2
/- below a depth nothing can change -/
mutual
def imk : Nat → D → Bool
  | 0, d => immutF d
  | n + 1, .list xs => imkL n xs
  | n + 1, .dict kvs => decide (n + 1 = 100) && immutFK kvs
  | n + 1, .tuple xs => imkL (n + 1) xs
  | _ + 1, _ => true
def imkL : Nat → List D → Bool
  | _, [] => true
  | n, x :: xs => imk n x && imkL n xs
end
section
variable {K : KW} {H H' : Hp} {G G' : Gp}
/- what holds no object that changes stands by the tuples alone -/
mutual
theorem Own.cut (s : SameG (VL.tups G) G') : ∀ {n : Nat} {v : V} {d : D} {L : List Addr}, n < 200 → Own K H G n v d L → imk n d = true → (∀ a ∈ L, H' a = H a ∧ G' a = none) → Own K H' G' n v d L
  | _, _, d, _, hn, .rep r, e, _ => .rep ((r.tupsF (by unfold imk at e; exact e)).mono s)
  | _, _, _, _, hn, .imm e' r, e, _ => .imm e' ((r.tups e').mono s)
  | _, _, _, _, hn, .lst h g r, e, k => .lst (by rw [(k _ List.mem_cons_self).1]; exact h) (k _ List.mem_cons_self).2 (OwnL.cut s (by omega) r (by unfold imk at e; exact e) fun a m => k a (List.mem_cons_of_mem _ m))
  | _, _, _, _, hn, .tup h r, e, k => .tup (sqP_mono s (sqP_tups h)) (OwnL.cut s hn r (by unfold imk at e; exact e) k)
  | _, _, _, _, hn, .st h, e, k => absurd hn (by decide)
  | _, _, _, _, hn, .dk h g r, e, k => .dk (by rw [(k _ List.mem_cons_self).1]; exact h) (k _ List.mem_cons_self).2 ((r.tupsF (by unfold imk at e; rw [Bool.and_eq_true] at e; exact e.2)).mono s)
  | _, _, _, _, hn, .bd h g r, e, k => by
    unfold imk at e
    simp at e
theorem OwnL.cut (s : SameG (VL.tups G) G') : ∀ {n : Nat} {v : List V} {d : List D} {L : List Addr}, n < 200 → OwnL K H G n v d L → imkL n d = true → (∀ a ∈ L, H' a = H a ∧ G' a = none) → OwnL K H' G' n v d L
  | _, _, _, _, _, .nil, _, _ => .nil
  | _, _, _, _, hn, .cons h r, e, k => by
    unfold imkL at e
    rw [Bool.and_eq_true] at e
    exact .cons (Own.cut s hn h e.1 fun a m => k a (List.mem_append_left _ m)) (OwnL.cut s hn r e.2 fun a m => k a (List.mem_append_right _ m))
end
mutual
theorem Own.notT : ∀ {n : Nat} {v : V} {d : D} {L : List Addr}, n < 200 → Own K H G n v d L → ∀ a ∈ L, tupsH H a = none
  | _, _, _, _, _, .rep r, _, m => by cases m
  | _, _, _, _, _, .imm _ r, _, m => by cases m
  | _, _, _, _, hn, .lst h g r, a, m => by
    rcases List.mem_cons.mp m with rfl | m
    · unfold tupsH; rw [h]
    · exact OwnL.notT (by omega) r a m
  | _, _, _, _, hn, .tup h r, a, m => OwnL.notT hn r a m
  | _, _, _, _, hn, .st h, a, m => absurd hn (by decide)
  | _, _, _, _, hn, .dk h g r, a, m => by
    rw [List.mem_singleton.mp m]
    unfold tupsH; rw [h]
    have := r.notT
    split
    · rename_i e; exact absurd (Option.some.inj e) (this.1 _)
    · rename_i e; exact absurd (Option.some.inj e) (this.2 _ _)
    · rfl
  | _, _, _, _, hn, .bd h g r, a, m => by
    rw [List.mem_singleton.mp m]
    unfold tupsH; rw [h]
    have := r.notT
    split
    · rename_i e; exact absurd (Option.some.inj e) (this.1 _)
    · rename_i e; exact absurd (Option.some.inj e) (this.2 _ _)
    · rfl
theorem OwnL.notT : ∀ {n : Nat} {v : List V} {d : List D} {L : List Addr}, n < 200 → OwnL K H G n v d L → ∀ a ∈ L, tupsH H a = none
  | _, _, _, _, _, .nil, _, m => by cases m
  | _, _, _, _, hn, .cons h r, a, m => (List.mem_append.mp m).elim (Own.notT hn h a) (OwnL.notT hn r a)
end
end
/-! ### borrowing: an expression that only reads what is owned -/
def bwK : Kd → Kd → Bool
  | _, .un => true
  | .ow n, .ow 0 => decide (n < 100)
  | .io n, .ow 0 => decide (n < 100)
  | _, _ => false
def bwB : Ctx → Ctx → Bool
  | [], [] => true
  | k :: Γ, q :: Δ => bwK k q && bwB Γ Δ
  | _, _ => false
theorem bwB_len : ∀ {Γ Δ : Ctx}, bwB Γ Δ = true → Δ.length = Γ.length
  | [], [], _ => rfl
  | k :: Γ, q :: Δ, h => by
    simp only [bwB, Bool.and_eq_true] at h
    simp [bwB_len h.2]
  | [], _ :: _, h => by simp [bwB] at h
  | _ :: _, [], h => by simp [bwB] at h
theorem bwB_get : ∀ {Γ Δ : Ctx} {i : Nat} {q : Kd}, bwB Γ Δ = true → Δ[i]? = some q → q = .un ∨ (q = .ow 0 ∧ ∃ n, At Γ i n ∧ n < 100)
  | [], [], i, q, _, e => by simp at e
  | k :: Γ, q' :: Δ, 0, q, h, e => by
    simp only [bwB, Bool.and_eq_true] at h
    simp only [List.getElem?_cons_zero, Option.some.injEq] at e
    subst e
    cases q' with
    | un => exact .inl rfl
    | ow n =>
      cases n with
      | zero =>
        refine .inr ⟨rfl, ?_⟩
        cases k with
        | un => simp [bwK] at h
        | ow m => exact ⟨m, ⟨.ow m, rfl, rfl⟩, by simpa [bwK] using h.1⟩
        | io m => exact ⟨m, ⟨.io m, rfl, rfl⟩, by simpa [bwK] using h.1⟩
      | succ n => cases k <;> simp [bwK] at h
    | io n => cases k <;> simp [bwK] at h
  | k :: Γ, q' :: Δ, i + 1, q, h, e => by
    simp only [bwB, Bool.and_eq_true] at h
    have := bwB_get (i := i) h.2 (by simpa using e)
    rcases this with z | ⟨z, n, ⟨k', e1, e2⟩, hn⟩
    · exact .inl z
    · exact .inr ⟨z, n, ⟨k', by simpa using e1, e2⟩, hn⟩
  | [], _ :: _, _, _, h, _ => by simp [bwB] at h
  | _ :: _, [], _, _, h, _ => by simp [bwB] at h
def eBor (n : Nat) (f : Ex) : Ex := fun env => (f env).bind fun p => if imk n p.1 = true then some (p.1, env) else none
theorem eBor_some {n : Nat} {f : Ex} {env env2 : List D} {r : D} (e : eBor n f env = some (r, env2)) : ∃ env1, f env = some (r, env1) ∧ imk n r = true ∧ env2 = env := by
  unfold eBor at e
  cases h1 : f env with
  | none => rw [h1] at e; cases e
  | some p =>
    rw [h1] at e
    simp only [Option.bind_some] at e
    split at e
    · rename_i q
      simp only [Option.some.injEq, Prod.mk.injEq] at e
      obtain ⟨rfl, rfl⟩ := e
      exact ⟨p.2, rfl, q, rfl⟩
    · cases e
/-- the slots that are borrowed -/
def bwL (Δ : Ctx) (L : Nat → List Addr) : List Addr := ((List.range Δ.length).filter fun i => decide (Δ[i]? = some (.ow 0))).flatMap L
theorem mem_bwL {Δ : Ctx} {L : Nat → List Addr} {a : Addr} : a ∈ bwL Δ L ↔ ∃ i, Δ[i]? = some (.ow 0) ∧ a ∈ L i := by
  unfold bwL
  rw [List.mem_flatMap]
  constructor
  · rintro ⟨i, hi, ha⟩
    rw [List.mem_filter] at hi
    exact ⟨i, of_decide_eq_true hi.2, ha⟩
  · rintro ⟨i, hi, ha⟩
    refine ⟨i, List.mem_filter.mpr ⟨List.mem_range.mpr (List.getElem?_eq_some_iff.mp hi).1, decide_eq_true hi⟩, ha⟩
section
variable {K : KW} {O : Gh} {Γ Δ : Ctx} {H H' : Hp} {G G' : Gp} {σ : St} {env : List D} {L : Nat → List Addr} {n : Nat} {v : V} {d : D}
theorem At.uniq {i n m : Nat} (a : At Γ i n) (b : At Γ i m) : n = m := by
  obtain ⟨k, e1, e2⟩ := a
  obtain ⟨q, e3, e4⟩ := b
  rw [e1] at e3; cases e3; rw [e2] at e4; cases e4; rfl
/-- the state with what is borrowed shown, for an expression that changes nothing -/
theorem StR.lend (S : StR K O Γ H G σ env L) (hb : bwB Γ Δ = true) : StR K ⟨nt K H, shw G H (bwL Δ L), [], fun _ => none, false⟩ Δ H (shw G H (bwL Δ L)) σ env (fun _ => []) := by
  have z : ∀ i m, At Δ i m → m = 0 ∧ ∃ n, (At Γ i n ∧ n < 100) ∧ Δ[i]? = some (.ow 0) := fun i m ⟨k, e1, e2⟩ => by
    rcases bwB_get hb e1 with rfl | ⟨rfl, n, hn⟩
    · cases e2
    · cases e2; exact ⟨rfl, n, hn, e1⟩
  refine ⟨shw_h S.gh, S.ls, (bwB_len hb).trans S.lg, fun i m hi => ?_, fun _ _ _ => List.nodup_nil, fun _ _ _ _ _ _ _ a m => (by cases m), fun _ _ _ a m => (by cases m), (S.pres.shw fun a ha => ?_).reg, fun a o e => .inl (by show (shw G H _ a).isSome = true; rw [e]; rfl), fun i m e => ?_⟩
  · obtain ⟨rfl, n, hn, e0⟩ := z i m hi
    obtain ⟨v, d, e1, e2, o⟩ := S.slot i n hn.1
    exact ⟨v, d, e1, e2, .rep (Own.read S.gh hn.2 o fun a ha => mem_bwL.mpr ⟨i, e0, ha⟩)⟩
  · obtain ⟨i, e, hl⟩ := mem_bwL.mp ha
    rcases bwB_get hb e with z | ⟨_, n, hn, _⟩
    · cases z
    · obtain ⟨_, _, _, _, o⟩ := S.slot i n hn
      exact o.hk a hl
  · rcases bwB_get hb e with q | ⟨q, _⟩ <;> cases q
/-- behind it all is as it was -/
theorem StR.back {env1 : List D} {L1 : Nat → List Addr} {Gb : Gp} (S : StR K O Γ H G σ env L) (hb : bwB Γ Δ = true) (S1 : StR K ⟨nt K H, shw G H (bwL Δ L), [], fun _ => none, false⟩ Δ H' Gb σ env1 L1) (hs : SameG (shw G H (bwL Δ L)) Gb)
    (hv : VR K ⟨nt K H, shw G H (bwL Δ L), [], fun _ => none, false⟩ Δ H' Gb L1 n v d) (hi : imk n d = true) (hn : n < 200) : ∃ G', SameG G G' ∧ StR K O Γ H' G' σ env L ∧ VR K O Γ H' G' L n v d ∧ NT G G' := by
  have hh : ∀ b o, H b = some o → HK b (some o) → H' b = some o := fun b o e k => S1.pres b o (S.pres.nt e k) (by simp)
  have hkM : ∀ a ∈ bwL Δ L, HK a (H a) := fun a ha => by
    obtain ⟨i, e, hl⟩ := mem_bwL.mp ha
    rcases bwB_get hb e with z | ⟨_, n, hn, _⟩
    · cases z
    · obtain ⟨_, _, _, _, o⟩ := S.slot i n hn
      exact o.hk a hl
  have inM : ∀ a, a ∈ bwL Δ L → G a = none ∧ (H a).isSome = true ∧ tupsH H a = none := fun a ha => by
    obtain ⟨i, e, hl⟩ := mem_bwL.mp ha
    rcases bwB_get hb e with z | ⟨_, n, hn, _⟩
    · cases z
    · obtain ⟨_, _, _, _, o⟩ := S.slot i n hn
      exact ⟨(o.objs a hl).1, (o.objs a hl).2.1, o.notT (by omega) a hl⟩
  have hk : ∀ a, (H a).isSome = true → HK a (H a) → H' a = H a := fun a e k => by
    cases q : H a with
    | none => rw [q] at e; cases e
    | some o => rw [hh _ _ q (by rw [← q]; exact k)]
  have gnew : ∀ (a : Addr) o, Gb a = some o → a ∉ bwL Δ L → G a = none → H a = none := fun a o e hm hg => by
    rcases S1.gn a o e with q | q | q
    · change (shw G H (bwL Δ L) a).isSome = true at q
      rw [shw_not hm, hg] at q; cases q
    · rcases nt_none q with z | ⟨p, m, rfl⟩
      · exact z
      · rw [S1.pres.tg p m] at e; cases e
    · cases q
  let G2 : Gp := fun a => match a with
    | .inl a => if a ∈ bwL Δ L then none else Gb a
    | .inr a => Gb (.inr a)
  have g2n : ∀ a : Addr, a ∈ bwL Δ L → G2 a = none := fun a h => by show (if _ then _ else _) = _; rw [if_pos h]
  have g2y : ∀ a : Addr, a ∉ bwL Δ L → G2 a = Gb a := fun a h => by show (if _ then _ else _) = _; rw [if_neg h]
  have ntb : NT G G2 := (shw_nt (H := H) (L := bwL Δ L)).trans (S1.pres.ntg rfl)
  have gg : SameG G G2 := fun x o e => by
    rcases x with a | b
    rotate_left
    · exact hs _ _ (shw_l _ _ e)
    have hm : a ∉ bwL Δ L := fun h => by rw [(inM a h).1] at e; cases e
    rw [g2y a hm]
    exact hs _ _ (shw_l _ _ e)
  have gh2 : Sh G2 H' := fun a o e => by
    by_cases hm : a ∈ bwL Δ L
    · rw [g2n a hm] at e; cases e
    · rw [g2y a hm] at e; exact S1.gh _ _ e
  have hid : ∀ i m, At Γ i m → ∀ a ∈ L i, G2 a = none := fun i m hi a ha => by
    obtain ⟨_, _, _, _, o⟩ := S.slot i m hi
    by_cases hm : a ∈ bwL Δ L
    · exact g2n a hm
    · rw [g2y a hm]
      cases q : Gb a with
      | none => rfl
      | some u =>
        have z := gnew a u q hm (o.objs a ha).1
        have y := (o.objs a ha).2.1
        rw [z] at y; cases y
  obtain ⟨M, om, nd, ow, _⟩ := hv
  have mfr : ∀ a ∈ M, H a = none := fun a ha => by
    rcases ow a ha with q | q
    · rcases nt_none q with z | ⟨p, m, e⟩
      · exact z
      · exact absurd e (S1.pres.off (om.hk a ha) m)
    · cases q
  refine ⟨G2, gg, ⟨gh2, S.ls, S.lg, fun i m hi => ?_, S.nd, S.dj, S.new, (S.pres.unreg S1.pres shw_nt (fun z => by cases z) fun a m => by cases m).less (fun a e => ?_) (fun _ => rfl), fun a o e => ?_, S.io⟩, ⟨M, ?_, nd, fun a ha => ?_, fun i m hi a ha hl => ?_⟩, ntb⟩
  · obtain ⟨v', d', e1, e2, o⟩ := S.slot i m hi
    exact ⟨v', d', e1, e2, o.mono gg (.inr ntb) fun a ha => ⟨hk a (o.objs a ha).2.1 (o.hk a ha), hid i m hi a ha⟩⟩
  · by_cases hm : a ∈ bwL Δ L
    · exact g2n a hm
    · rw [g2y a hm]; exact e
  · by_cases hm : a ∈ bwL Δ L
    · rw [g2n a hm] at e; cases e
    · rw [g2y a hm] at e
      cases q : G a with
      | some u => exact S.gn a u q
      | none =>
        have z := gnew a o e hm q
        cases r : O.H0 a with
        | none => exact .inr (.inl r)
        | some u =>
          by_cases hA : a ∈ O.A
          · exact .inr (.inr hA)
          · rw [S.pres a u r hA] at z; cases z
  · refine om.cut (fun x o e => ?_) hn hi fun a ha => ⟨rfl, ?_⟩
    · rcases x with a | b
      rotate_left
      · exact tups_same _ _ e
      have e' : Gb (.inl a) = some o := tups_same _ _ e
      by_cases hm : a ∈ bwL Δ L
      · have q1 := (inM a hm).2.2
        have q2 : H a = some o := by rw [← hk a (inM a hm).2.1 (hkM a hm)]; exact S1.gh _ _ e'
        unfold VL.tups at e
        unfold tupsH at q1
        simp only [e'] at e
        rw [q2] at q1
        cases o <;> first | (simp at e; done) | (simp at q1; done)
      · rw [g2y a hm]; exact e'
    · have hm : a ∉ bwL Δ L := fun h => by have := (inM a h).2.1; rw [mfr a ha] at this; cases this
      rw [g2y a hm]
      exact (om.objs a ha).1
  · cases r : O.H0 a with
    | none => exact .inl r
    | some u =>
      by_cases hA : a ∈ O.A
      · exact .inr hA
      · have z := mfr a ha
        rw [S.pres a u r hA] at z; cases z
  · obtain ⟨_, _, _, _, o⟩ := S.slot i m hi
    have y := (o.objs a hl).2.1
    rw [mfr a ha] at y; cases y
end
theorem m_bor {X : Cx} {Γ : Ctx} (Δ : Ctx) {a : Expr} {f : Ex} {n : Nat} (h : PE X a (tM X.kw Δ f n)) (hb : bwB Γ Δ = true := by rfl) (hn : n < 200 := by decide) : PE X a (tM X.kw Γ (eBor n f) n) :=
  h.imp fun σ H Q ⟨O, G, env, L, r, env1, S, e, k⟩ => by
    obtain ⟨env0, e1, e2, rfl⟩ := eBor_some e
    refine ⟨_, _, env1, _, r, env0, S.lend hb, e1, fun v H1 G1 L1 S1 s1 v1 => ?_⟩
    obtain ⟨G2, gg, S2, v2, _⟩ := S.back hb S1 s1 v1 e2 hn
    exact k v H1 G2 L S2 gg v2
def bBor (f : Bx) : Bx := fun env => (f env).map fun p => (p.1, env)
theorem b_bor {X : Cx} {Γ : Ctx} (Δ : Ctx) {a : Expr} {f : Bx} (h : PT X a (tMT X.kw Δ f)) (hb : bwB Γ Δ = true := by rfl) : PT X a (tMT X.kw Γ (bBor f)) :=
  h.imp fun σ H Q ⟨O, G, env, L, r, env1, S, e, k⟩ => by
    unfold bBor at e
    cases h1 : f env with
    | none => rw [h1] at e; cases e
    | some p =>
      rw [h1] at e
      simp only [Option.map_some, Option.some.injEq, Prod.mk.injEq] at e
      obtain ⟨rfl, rfl⟩ := e
      refine ⟨_, _, env, _, p.1, p.2, S.lend hb, h1, fun H1 G1 L1 S1 s1 => ?_⟩
      obtain ⟨G2, gg, S2, _, _⟩ := S.back (n := 0) (v := .non) (d := .none) hb S1 s1 (.of_rep .non) rfl (by decide)
      exact k H1 G2 L S2 gg
end VL
set_option Elab.async false
set_option linter.all false
set_option maxRecDepth 100000
/-! VLG: promises of defs that hold where no repr is under way (A.guards = some []). -/
namespace VL
open PySem PySem.Spec PyProof.Rows L2
structure FnG (P : Program) (w : World) (K : PySem.W.Frag) (mg : Str → Option Value) (base : Heap) (CX : CXT) (k : Nat) (f : Addr) (fd : FuncData) (ps : List Str) (sp : Sp) : Prop where
  len : ∀ vs H Q E, sp vs H Q E → vs.length = ps.length
  run : ∀ (A : Around) (outer : List Env) (s : Shared) (H : Hp) (args : Args) (us : List Value) (vs : List V) (Q : VK) (E : XK), A.guards = some [] → Room k A → Env0 P w K mg base A outer s H → BindsTo s fd args (ps.zip us) → Vals vs us → sp vs H Q E →
    codeAny (model P w) A (.call (.ref f) args) (CR CX outer P w H s Q E) s
section
variable {P : Program} {w : World} {K : PySem.W.Frag} {mg : Str → Option Value} {base : Heap} {CX : CXT}
theorem FnG.of {x qual : Str} {st : Stmt} {f : Addr} {fd : FuncData} {N ps : List Str} {k : Nat} {sp : Sp} (F : Fun K x qual st f fd) (Sc : FnScope N ps (defScope st)) (len : ∀ vs H Q E, sp vs H Q E → vs.length = ps.length)
    (body : ∀ (cdv : Value) (A : Around) (outer : List Env) (s : Shared) (H : Hp) (vs : List V) (Q : VK) (E : XK), fd.code = cdv → A.guards = some [] → Room k (A.deeper (envOfC qual (defScope st) s.heap.objs.size f cdv)) → sp vs H Q E →
      ∃ t, PSs (cxOf CX P w K mg base N qual (defScope st) f cdv A outer s H E) (defBody st) t ∧ t { nx := fun _ H' => Q .non H', rt := Q } (L2.start N vs) H) : FnG P w K mg base CX (k + 1) f fd ps sp := by
  obtain ⟨oc, od, kV, doc, pm, an, cdv, ct, osl, efd, lk, hcd⟩ := F.ex
  subst efd
  refine ⟨len, fun A outer s H args us vs Q E hgd hr e0 hb rv hsp => ?_⟩
  have hK : K.In s.heap := e0.mod.kin.keeps fun b o e => (e0.bs b o e).1
  have hlim : s.heap.NoLimit := e0.mod.nolimit.keeps fun b o e => (e0.bs b o e).1
  have hkd : ∀ y ∈ ps.zip us, (defScope st).names.lookup y.1 = some .local ∨ ((defScope st).names.lookup y.1 = some .cell ∧ ((cellsFrom (s.heap.objs.size + 1) (defScope st).names []).lookup y.1).isSome = true) := by
    intro y hy
    rcases Sc.par y.1 (List.of_mem_zip (a := y.1) (b := y.2) hy).1 with z | z
    · exact Or.inl z
    · exact Or.inr ⟨z, PySem.W.cellsFrom_some _ _ _ (Or.inl z)⟩
  refine codeAny_call_function hr.depth (hK _ _ lk) rfl Sc.co Sc.gen rfl (PySem.W.codeRec_of hK hcd) (hb _ _ _ _ (wpAny_newFunctionEnv_cells Sc.kind hkd fun env he s1 inC => ?_))
  subst he
  refine ⟨hlim.keeps inC.toInCall.keep, codeAny_func ?_⟩
  obtain ⟨t, pt, qt⟩ := body cdv A outer s H vs Q E rfl hgd (hr.deeper _) hsp
  have I0 := inv_start (CX := CX) (P := P) (w := w) (K := K) (mg := mg) (base := base) (E := E) Sc hr.hd e0 (len _ _ _ _ hsp) rv inC
  refine wpAny_mono (pt.run [] s1 (L2.start N vs) H _ I0 qt) (fun fl s2 hfl => ?_) fun e s2 he => he
  cases fl with
  | brk => obtain ⟨_, _, _, z⟩ := hfl; exact False.elim z
  | cont => obtain ⟨_, _, _, z⟩ := hfl; exact False.elim z
  | next =>
    obtain ⟨σ2, H2, J, q⟩ := hfl
    exact ⟨V.non, H2, J.os, J.bare, J.base, J.hok, rfl, q⟩
  | ret u =>
    obtain ⟨v, σ2, H2, J, rv2, q⟩ := hfl
    exact ⟨v, H2, J.os, J.bare, J.base, J.hok, rv2, q⟩
end
section
variable {X : Cx} {CX : CXT} {k : Nat} {f : Addr} {fd : FuncData} {ps : List Str} {sp : Sp} {E : XK} {x : Str} {p pos : Pos} {e : Expr} {es : List Expr} {t : TA}
/-- f(e, ..), every parameter given -/
theorem pe_callG (F : FnG X.prog X.w X.K X.mg X.base CX k f fd ps sp) (hgd : X.A.guards = some []) (hr : Room k X.A) (hg : Gl X x) (hm : X.mg x = some (.ref f)) (hk : PySem.W.keepIn X.K (.ref f) = true) (hb : Binds X.K fd ps []) (hx : Passes CX X E)
    (ha : PA X (e :: es) t) (hdb : (x == ("__debug__" : Str)) = false := by decide) (he : starEach (e :: es) X.env = (false, eval e X.env) :: starEach es X.env := by rfl) (hpl : (backTo pos (starEach es X.env)).any (·.1) = false := by rfl) :
    PE X (.Call (.Name x p) (e :: es) [] pos) (fun σ H Q => t σ H fun vs H1 => sp vs H1 Q E) := by
  constructor
  intro pins s σ H Q I h
  apply wpAny_Call_Name_kw
  refine ld_glob I hg hm (PySem.W.callWith_K (h₀ := X.base) I.ok.mod.kin hk (thn (ha.run pos pins s σ H _ I h) ?_) he hpl) hdb
  rintro us s1 ⟨vs, H1, I1, rv, q⟩
  refine ⟨I1.kIn, wpAny_call (codeAny_mono (F.run X.A X.stack s1 H1 ⟨us, []⟩ us vs Q E hgd hr I1.env0 ?_ rv q) ?_)⟩
  · have hb' := hb s1 us I1.kIn
    simp only [List.append_nil] at hb'
    exact hb' (by rw [← rv.length]; exact F.len _ _ _ _ q)
  · intro r s2 hr2
    cases r with
    | error ex => exact hx pins σ H1 s1 ex s2 I1 hr2
    | ok fl =>
      cases fl with
      | ret u => exact I1.after hr2
      | next => exact False.elim hr2
      | brk => exact False.elim hr2
      | cont => exact False.elim hr2
end
/-! ### the law itself -/
end VL
set_option Elab.async false
set_option linter.all false
set_option maxRecDepth 100000
/-! VL3: calls of defs, with parameters that are handed in to be changed. -/
namespace VL
open PySem L2
inductive Arg where
  | v (f : Ex) | io (i : Nat)
def Arg.isIo (i : Nat) : Arg → Bool
  | .v _ => false
  | .io j => i == j
def evArgs : List Arg → List D → Option (List D × List D)
  | [], env => some ([], env)
  | .v f :: r, env => (f env).bind fun p => (evArgs r p.2).map fun q => (p.1 :: q.1, q.2)
  | .io i :: r, env => (evArgs r env).bind fun q => (q.2[i]?).map fun d => (d :: q.1, q.2)
def ixOf (as : List Arg) (i : Nat) : Option Nat := as.findIdx? (Arg.isIo i)
def wb (as : List Arg) (ds env : List D) : List D := env.mapIdx fun i d => match ixOf as i with
  | some j => ds.getD j d
  | none => d
inductive ArgR (K : KW) (G : Gp) (σ : St) (env : List D) : List Arg → List V → List D → Prop where
  | nil : ArgR K G σ env [] [] []
  | v {f : Ex} {as : List Arg} {v : V} {d : D} {vs : List V} {ds : List D} : Rep K G v d → ArgR K G σ env as vs ds → ArgR K G σ env (.v f :: as) (v :: vs) (d :: ds)
  | io {i : Nat} {as : List Arg} {v : V} {d : D} {vs : List V} {ds : List D} : σ[i]? = some (some v) → env[i]? = some d → ArgR K G σ env as vs ds → ArgR K G σ env (.io i :: as) (v :: vs) (d :: ds)
def tMG (K : KW) (Γ : Ctx) (as : List Arg) : TA := fun σ H Q => ∃ (O : Gh) (G : Gp) (env : List D) (L : Nat → List Addr) (ds : List D) (env' : List D), StR K O Γ H G σ env L ∧ evArgs as env = some (ds, env') ∧
  ∀ vs H' G' L', StR K O Γ H' G' σ env' L' → SameG G G' → ArgR K G' σ env' as vs ds → Q vs H'
theorem ArgR.len {K : KW} {G : Gp} {σ : St} {env : List D} : ∀ {as : List Arg} {vs : List V} {ds : List D}, ArgR K G σ env as vs ds → vs.length = as.length ∧ ds.length = as.length
  | _, _, _, .nil => ⟨rfl, rfl⟩
  | _, _, _, .v _ t => ⟨by simp [t.len.1], by simp [t.len.2]⟩
  | _, _, _, .io _ _ t => ⟨by simp [t.len.1], by simp [t.len.2]⟩
theorem ArgR.get {K : KW} {G : Gp} {σ : St} {env : List D} : ∀ {as : List Arg} {vs : List V} {ds : List D} {j : Nat} {a : Arg}, ArgR K G σ env as vs ds → as[j]? = some a →
    ∃ v d, vs[j]? = some v ∧ ds[j]? = some d ∧ (∀ f, a = .v f → Rep K G v d) ∧ (∀ i, a = .io i → σ[i]? = some (some v) ∧ env[i]? = some d)
  | _, _, _, _, _, .nil, e => by simp at e
  | _, _, _, 0, a, .v h t, e => by
    simp only [List.getElem?_cons_zero, Option.some.injEq] at e
    subst e
    exact ⟨_, _, rfl, rfl, fun _ _ => h, fun _ z => (by cases z)⟩
  | _, _, _, 0, a, .io h h' t, e => by
    simp only [List.getElem?_cons_zero, Option.some.injEq] at e
    subst e
    exact ⟨_, _, rfl, rfl, fun _ z => (by cases z), fun _ z => (by cases z; exact ⟨h, h'⟩)⟩
  | _, _, _, j + 1, a, .v h t, e => by
    obtain ⟨v, d, e1, e2, q⟩ := ArgR.get (j := j) (a := a) t (by simpa using e)
    exact ⟨v, d, by simpa using e1, by simpa using e2, q⟩
  | _, _, _, j + 1, a, .io h h' t, e => by
    obtain ⟨v, d, e1, e2, q⟩ := ArgR.get (j := j) (a := a) t (by simpa using e)
    exact ⟨v, d, by simpa using e1, by simpa using e2, q⟩
section
variable {X : Cx} {Γ : Ctx} {a : Expr} {pos : Pos} {fa : Ex}
theorem g_nil : PA X [] (tMG X.kw Γ []) := pa_nil.imp fun σ H Q ⟨O, G, env, L, rs, env1, S, e, k⟩ => by
  simp only [evArgs, Option.some.injEq, Prod.mk.injEq] at e
  obtain ⟨rfl, rfl⟩ := e
  exact k [] H G L S (fun _ _ e => e) .nil
theorem g_v {es : List Expr} {as : List Arg} (ha : PE X a (tM X.kw Γ fa 0)) (hr : PA X es (tMG X.kw Γ as)) (hs : starEach (a :: es) X.env = (false, eval a X.env) :: starEach es X.env := by rfl) : PA X (a :: es) (tMG X.kw Γ (.v fa :: as)) :=
  (pa_cons ha hr hs).imp fun σ H Q ⟨O, G, env, L, rs, env2, S, e, k⟩ => by
    simp only [evArgs] at e
    cases h1 : fa env with
    | none => rw [h1] at e; cases e
    | some p =>
      rw [h1] at e
      simp only [Option.bind_some] at e
      cases h2 : evArgs as p.2 with
      | none => rw [h2] at e; cases e
      | some q =>
        rw [h2] at e
        simp only [Option.map_some, Option.some.injEq, Prod.mk.injEq] at e
        obtain ⟨rfl, rfl⟩ := e
        exact ⟨O, G, env, L, p.1, p.2, S, h1, fun v H1 G1 L1 S1 s1 v1 => ⟨O, G1, p.2, L1, q.1, q.2, S1, h2, fun vs H2 G2 L2 S2 s2 r2 => k (v :: vs) H2 G2 L2 S2 (s1.trans s2) (.v (v1.rep.mono s2) r2)⟩⟩
theorem g_io (i : Nat) {x : Str} {es : List Expr} {as : List Arg} (hr : PA X es (tMG X.kw Γ as)) (hN : X.N[i]? = some x := by rfl) (hv : Vis X.env.scope x := by first | exact Or.inl rfl | exact Or.inr (Or.inl rfl) | exact Or.inr (Or.inr rfl)) (hg : ((Γ[i]?).bind Kd.dep).isSome = true := by rfl)
    (hd : (x == ("__debug__" : Str)) = false := by decide) (hcd : (x == ("__classdict__" : Str)) = false := by decide) (hs : starEach (.Name x pos :: es) X.env = (false, eval (.Name x pos) X.env) :: starEach es X.env := by rfl) : PA X (.Name x pos :: es) (tMG X.kw Γ (.io i :: as)) :=
  (pa_cons (pe_var hN hv hd hcd) hr hs).imp fun σ H Q ⟨O, G, env, L, rs, env2, S, e, k⟩ => by
    obtain ⟨n, hn⟩ : ∃ n, At Γ i n := by
      cases q : Γ[i]? with
      | none => rw [q] at hg; cases hg
      | some z =>
        rw [q] at hg
        simp only [Option.bind_some] at hg
        cases q2 : z.dep with
        | none => rw [q2] at hg; cases hg
        | some n => exact ⟨n, z, q, q2⟩
    simp only [evArgs] at e
    cases h2 : evArgs as env with
    | none => rw [h2] at e; cases e
    | some q =>
      rw [h2] at e
      simp only [Option.bind_some] at e
      cases h3 : q.2[i]? with
      | none => rw [h3] at e; cases e
      | some d =>
        rw [h3] at e
        simp only [Option.map_some, Option.some.injEq, Prod.mk.injEq] at e
        obtain ⟨rfl, rfl⟩ := e
        obtain ⟨v, _, e1, _, _⟩ := S.slot i n hn
        exact ⟨v, e1, O, G, env, L, q.1, q.2, S, h2, fun vs H2 G2 L2 S2 s2 r2 => k (v :: vs) H2 G2 L2 S2 s2 (.io e1 h3 r2)⟩
end
/-- do the arguments fit the parameters -/
def okA (Γ : Ctx) : List Arg → Ctx → Bool
  | [], [] => true
  | .v _ :: as, .ow 0 :: Δ => okA Γ as Δ
  | .io i :: as, .io n :: Δ => decide ((Γ[i]?).bind Kd.dep = some n) && !(as.any (Arg.isIo i)) && okA Γ as Δ
  | _, _ => false
theorem okA_len {Γ : Ctx} : ∀ {as : List Arg} {Δ : Ctx}, okA Γ as Δ = true → Δ.length = as.length
  | [], [], _ => rfl
  | .v _ :: as, .ow 0 :: Δ, h => by simp only [okA] at h; simp [okA_len h]
  | .io i :: as, .io n :: Δ, h => by simp only [okA, Bool.and_eq_true] at h; simp [okA_len h.2]
  | [], _ :: _, h => by simp [okA] at h
  | .v _ :: _, [], h => by simp [okA] at h
  | .v _ :: _, .un :: _, h => by simp [okA] at h
  | .v _ :: _, .ow (_ + 1) :: _, h => by simp [okA] at h
  | .v _ :: _, .io _ :: _, h => by simp [okA] at h
  | .io _ :: _, [], h => by simp [okA] at h
  | .io _ :: _, .un :: _, h => by simp [okA] at h
  | .io _ :: _, .ow _ :: _, h => by simp [okA] at h
theorem at_of {Γ : Ctx} {i n : Nat} (h : (Γ[i]?).bind Kd.dep = some n) : At Γ i n := by
  cases q : Γ[i]? with
  | none => rw [q] at h; cases h
  | some z => rw [q] at h; exact ⟨z, q, h⟩
/-- by places: a read argument, or one to be changed, whose slot no other argument is -/
theorem okA_get {Γ : Ctx} : ∀ {as : List Arg} {Δ : Ctx} {j : Nat} {k : Kd}, okA Γ as Δ = true → Δ[j]? = some k →
    (∃ f, as[j]? = some (.v f) ∧ k = .ow 0) ∨ ∃ i n, as[j]? = some (.io i) ∧ k = .io n ∧ At Γ i n ∧ ∀ j', as[j']? = some (.io i) → j' = j
  | [], [], j, k, _, e => by simp at e
  | .v f :: as, .ow 0 :: Δ, 0, k, h, e => by
    simp only [List.getElem?_cons_zero, Option.some.injEq] at e
    exact .inl ⟨f, rfl, e.symm⟩
  | .v f :: as, .ow 0 :: Δ, j + 1, k, h, e => by
    simp only [okA] at h
    rcases okA_get (j := j) (k := k) h (by simpa using e) with ⟨f', e1, e2⟩ | ⟨i, n, e1, e2, e3, u⟩
    · exact .inl ⟨f', by simpa using e1, e2⟩
    · refine .inr ⟨i, n, by simpa using e1, e2, e3, fun j' e' => ?_⟩
      cases j' with
      | zero => simp at e'
      | succ j' => rw [u j' (by simpa using e')]
  | .io i :: as, .io n :: Δ, 0, k, h, e => by
    simp only [okA, Bool.and_eq_true, decide_eq_true_eq] at h
    simp only [List.getElem?_cons_zero, Option.some.injEq] at e
    refine .inr ⟨i, n, rfl, e.symm, at_of h.1.1, fun j' e' => ?_⟩
    cases j' with
    | zero => rfl
    | succ j' =>
      have hm : Arg.io i ∈ as := List.mem_of_getElem? (by simpa using e')
      have : as.any (Arg.isIo i) = true := List.any_eq_true.mpr ⟨_, hm, by simp [Arg.isIo]⟩
      rw [this] at h
      simp at h
  | .io i :: as, .io n :: Δ, j + 1, k, h, e => by
    simp only [okA, Bool.and_eq_true, decide_eq_true_eq] at h
    rcases okA_get (j := j) (k := k) h.2 (by simpa using e) with ⟨f', e1, e2⟩ | ⟨i', n', e1, e2, e3, u⟩
    · exact .inl ⟨f', by simpa using e1, e2⟩
    · refine .inr ⟨i', n', by simpa using e1, e2, e3, fun j' e' => ?_⟩
      cases j' with
      | zero =>
        simp only [List.getElem?_cons_zero, Option.some.injEq, Arg.io.injEq] at e'
        subst e'
        have hm : Arg.io i ∈ as := List.mem_of_getElem? e1
        have : as.any (Arg.isIo i) = true := List.any_eq_true.mpr ⟨_, hm, by simp [Arg.isIo]⟩
        rw [this] at h
        simp at h
      | succ j' => rw [u j' (by simpa using e')]
  | [], _ :: _, _, _, h, _ => by simp [okA] at h
  | .v _ :: _, [], _, _, h, _ => by simp [okA] at h
  | .v _ :: _, .un :: _, _, _, h, _ => by simp [okA] at h
  | .v _ :: _, .ow (_ + 1) :: _, _, _, h, _ => by simp [okA] at h
  | .v _ :: _, .io _ :: _, _, _, h, _ => by simp [okA] at h
  | .io _ :: _, [], _, _, h, _ => by simp [okA] at h
  | .io _ :: _, .un :: _, _, _, h, _ => by simp [okA] at h
  | .io _ :: _, .ow _ :: _, _, _, h, _ => by simp [okA] at h
theorem isIo_eq {i : Nat} {a : Arg} (h : Arg.isIo i a = true) : a = .io i := by
  cases a with
  | v f => simp [Arg.isIo] at h
  | io j => simp only [Arg.isIo, beq_iff_eq] at h; rw [h]
theorem ixOf_some {as : List Arg} {i j : Nat} (h : ixOf as i = some j) : as[j]? = some (.io i) := by
  unfold ixOf at h
  rw [List.findIdx?_eq_some_iff_getElem] at h
  obtain ⟨h1, h2, _⟩ := h
  rw [List.getElem?_eq_getElem h1, isIo_eq h2]
theorem ixOf_none {as : List Arg} {i : Nat} (h : ixOf as i = none) (j : Nat) : as[j]? ≠ some (.io i) := fun e => by
  unfold ixOf at h
  rw [List.findIdx?_eq_none_iff] at h
  have := h _ (List.mem_of_getElem? e)
  simp [Arg.isIo] at this
theorem wb_get {as : List Arg} {ds env : List D} {i : Nat} {d : D} (e : env[i]? = some d) : (wb as ds env)[i]? = some (match ixOf as i with | some j => ds.getD j d | none => d) := by
  unfold wb
  rw [List.getElem?_mapIdx, e]
  rfl
theorem wb_len {as : List Arg} {ds env : List D} : (wb as ds env).length = env.length := by unfold wb; simp
/-- are the tracked things handed in -/
def stC (Δ : Ctx) : Bool := Δ.any fun k => decide (k.dep = some 200)
/-- a def's promise: F of the arguments' data is the answer, and what the parameters hold then -/
def spM (K : KW) (Δ : Ctx) (n : Nat) (F : List D → Option (D × List D)) : Sp := fun vs H Q _ => ∃ (G : Gp) (ds : List D) (L : Nat → List Addr) (A : List Addr) (io : Nat → Option V) (z : D) (ds' : List D),
  StR K ⟨nt K H, G, A, io, stC Δ⟩ Δ H G (vs.map some) ds L ∧ F ds = some (z, ds') ∧ ∀ v H' G' L', StR K ⟨nt K H, G, A, io, stC Δ⟩ Δ H' G' (vs.map some) ds' L' → SameG G G' → VR K ⟨nt K H, G, A, io, stC Δ⟩ Δ H' G' L' n v z → Q v H'
def eCall (F : List D → Option (D × List D)) (as : List Arg) : Ex := fun env => (evArgs as env).bind fun p => (F p.1).map fun q => (q.1, wb as q.2 p.2)
theorem eCall_some {F : List D → Option (D × List D)} {as : List Arg} {env env2 : List D} {r : D} (e : eCall F as env = some (r, env2)) : ∃ ds env1 ds', evArgs as env = some (ds, env1) ∧ F ds = some (r, ds') ∧ env2 = wb as ds' env1 := by
  unfold eCall at e
  cases h1 : evArgs as env with
  | none => rw [h1] at e; cases e
  | some p =>
    rw [h1] at e
    simp only [Option.bind_some] at e
    cases h3 : F p.1 with
    | none => rw [h3] at e; cases e
    | some z =>
      rw [h3] at e
      simp only [Option.map_some, Option.some.injEq, Prod.mk.injEq] at e
      obtain ⟨rfl, rfl⟩ := e
      exact ⟨p.1, p.2, z.2, rfl, h3, rfl⟩
/-- the addresses handed in -/
def argL (as : List Arg) (L : Nat → List Addr) (j : Nat) : List Addr := match as[j]? with
  | some (.io i) => L i
  | _ => []
def argA (as : List Arg) (L : Nat → List Addr) : List Addr := as.flatMap fun a => match a with
  | .io i => L i
  | .v _ => []
theorem mem_argA {as : List Arg} {L : Nat → List Addr} {a : Addr} : a ∈ argA as L ↔ ∃ (j : Nat) (i : Nat), as[j]? = some (.io i) ∧ a ∈ L i := by
  unfold argA
  rw [List.mem_flatMap]
  constructor
  · rintro ⟨x, hx, ha⟩
    cases x with
    | v f => cases ha
    | io i =>
      obtain ⟨j, hj, e⟩ := List.mem_iff_getElem.mp hx
      exact ⟨j, i, by rw [List.getElem?_eq_getElem hj, e], ha⟩
  · rintro ⟨j, i, e, ha⟩
    exact ⟨.io i, List.mem_of_getElem? e, ha⟩
section
variable {K : KW} {O : Gh} {Γ Δ : Ctx} {H H' : Hp} {G G' : Gp} {σ : St} {env ds ds' : List D} {L L' : Nat → List Addr} {n : Nat} {v : V} {d : D} {as : List Arg} {vs : List V}
/-- the tracked things go along whole -/
def okSt (Γ : Ctx) (as : List Arg) (Δ : Ctx) : Bool := !stC Δ || (Γ.any (fun k => decide (k = .io 200)) && (List.range Γ.length).all fun i => ((Γ[i]?).bind Kd.dep).all (fun n => decide (n < 200)) || (ixOf as i).isSome)
theorem okSt_ix {Γ : Ctx} {as : List Arg} {Δ : Ctx} (h : okSt Γ as Δ = true) (hc : stC Δ = true) {i m : Nat} (hi : At Γ i m) : m < 200 ∨ (ixOf as i).isSome = true := by
  unfold okSt at h
  rw [hc] at h
  simp only [Bool.not_true, Bool.false_or, Bool.and_eq_true, List.all_eq_true, Bool.or_eq_true] at h
  obtain ⟨k, e1, e2⟩ := hi
  rcases h.2 i (List.mem_range.mpr (List.getElem?_eq_some_iff.mp e1).1) with z | z
  · rw [e1, Option.bind_some, e2] at z
    exact .inl (by simpa using z)
  · exact .inr z
theorem okSt_io {Γ : Ctx} {as : List Arg} {Δ : Ctx} (h : okSt Γ as Δ = true) (hc : stC Δ = true) : ∃ i : Nat, Γ[i]? = some (.io 200) := by
  unfold okSt at h
  rw [hc] at h
  simp only [Bool.not_true, Bool.false_or, Bool.and_eq_true, List.any_eq_true, decide_eq_true_eq] at h
  obtain ⟨⟨k, hk, rfl⟩, _⟩ := h
  obtain ⟨i, hi, e⟩ := List.mem_iff_getElem.mp hk
  exact ⟨i, by rw [List.getElem?_eq_getElem hi, e]⟩
theorem stC_of {Δ : Ctx} {j : Nat} {k : Kd} (h : Δ[j]? = some k) (hk : k.dep = some 200) : stC Δ = true := by
  unfold stC
  exact List.any_eq_true.mpr ⟨k, List.mem_of_getElem? h, by simp [hk]⟩
abbrev ghC (K : KW) (H : Hp) (G : Gp) (as : List Arg) (L : Nat → List Addr) (vs : List V) (st : Bool) : Gh := ⟨nt K H, G, argA as L, fun j => vs[j]?, st⟩
/-- the callee's beginning -/
theorem StR.enter (S : StR K O Γ H G σ env L) (ok : okA Γ as Δ = true) (A : ArgR K G σ env as vs ds) : StR K (ghC K H G as L vs (stC Δ)) Δ H G (vs.map some) ds (argL as L) := by
  have il : ∀ (j i : Nat), as[j]? = some (.io i) → argL as L j = L i := fun j i e => by unfold argL; rw [e]
  have vl : ∀ (j : Nat) f, as[j]? = some (.v f) → argL as L j = [] := fun j f e => by unfold argL; rw [e]
  have sh : ∀ j n, At Δ j n → (∃ f, as[j]? = some (.v f) ∧ n = 0) ∨ ∃ i, as[j]? = some (.io i) ∧ At Γ i n ∧ ∀ j', as[j']? = some (.io i) → j' = j := fun j n ⟨k, e1, e2⟩ => by
    rcases okA_get ok e1 with ⟨f, q1, rfl⟩ | ⟨i, m, q1, rfl, q2, u⟩
    · cases e2; exact .inl ⟨f, q1, rfl⟩
    · cases e2; exact .inr ⟨i, q1, q2, u⟩
  refine ⟨S.gh, by rw [List.length_map, A.len.1, A.len.2], by rw [okA_len ok, A.len.2], fun j n hj => ?_, fun j n hj => ?_, fun j j' n m hj hj' ne a ha ha' => ?_, fun j n hj a ha => ?_, S.pres.reg, fun a o e => .inl (by show (G a).isSome = true; rw [e]; rfl), fun j n e => ?_⟩
  · rcases sh j n hj with ⟨f, q1, rfl⟩ | ⟨i, q1, q2, _⟩
    · obtain ⟨v, d, e1, e2, r, _⟩ := A.get q1
      rw [vl j f q1]
      exact ⟨v, d, by rw [List.getElem?_map, e1]; rfl, e2, .rep (r f rfl)⟩
    · obtain ⟨v, d, e1, e2, _, r⟩ := A.get q1
      obtain ⟨z1, z2⟩ := r i rfl
      obtain ⟨v', d', y1, y2, o⟩ := S.slot i n q2
      rw [z1] at y1; cases y1
      rw [z2] at y2; cases y2
      rw [il j i q1]
      exact ⟨v, d, by rw [List.getElem?_map, e1]; rfl, e2, o⟩
  · rcases sh j n hj with ⟨f, q1, rfl⟩ | ⟨i, q1, q2, _⟩
    · rw [vl j f q1]; exact List.nodup_nil
    · rw [il j i q1]; exact S.nd i n q2
  · rcases sh j n hj with ⟨f, q1, rfl⟩ | ⟨i, q1, q2, u⟩
    · rw [vl j f q1] at ha; cases ha
    · rcases sh j' m hj' with ⟨f', q1', rfl⟩ | ⟨i', q1', q2', u'⟩
      · rw [vl j' f' q1'] at ha'; cases ha'
      · rw [il j i q1] at ha
        rw [il j' i' q1'] at ha'
        by_cases e : i = i'
        · subst e; exact ne (u' j q1)
        · exact S.dj i i' n m q2 q2' e a ha ha'
  · rcases sh j n hj with ⟨f, q1, rfl⟩ | ⟨i, q1, q2, _⟩
    · rw [vl j f q1] at ha; cases ha
    · rw [il j i q1] at ha
      exact .inr (mem_argA.mpr ⟨j, i, q1, ha⟩)
  · rcases okA_get ok e with ⟨f, q1, z⟩ | ⟨i, m, q1, _, q2, _⟩
    · cases z
    · obtain ⟨v, d, e1, e2, _, r⟩ := A.get q1
      exact ⟨v, e1, by rw [List.getElem?_map, e1]; rfl, fun z => stC_of e (by rw [← z]; rfl)⟩
def retL (as : List Arg) (L L' : Nat → List Addr) (i : Nat) : List Addr := match ixOf as i with
  | some j => L' j
  | none => L i
/-- the callee's end -/
theorem StR.leave (S : StR K O Γ H G σ env L) (ok : okA Γ as Δ = true) (os : okSt Γ as Δ = true) (A : ArgR K G σ env as vs ds) (S' : StR K (ghC K H G as L vs (stC Δ)) Δ H' G' (vs.map some) ds' L') (gg : SameG G G') (hv : VR K (ghC K H G as L vs (stC Δ)) Δ H' G' L' n v d) :
    StR K O Γ H' G' σ (wb as ds' env) (retL as L L') ∧ VR K O Γ H' G' (retL as L L') n v d := by
  have hk : ∀ a, (H a).isSome = true → HK a (H a) → a ∉ argA as L → H' a = H a := fun a e k hm => by
    cases q : H a with
    | none => rw [q] at e; cases e
    | some o => rw [S'.pres a o (S.pres.nt q (by rw [← q]; exact k)) hm]
  -- a slot is handed in, or not
  have io : ∀ i m, At Γ i m → (∃ j, ixOf as i = some j ∧ as[j]? = some (.io i) ∧ At Δ j m) ∨ (ixOf as i = none ∧ ∀ a ∈ L i, a ∉ argA as L) := fun i m hi => by
    cases q : ixOf as i with
    | some j =>
      have e := ixOf_some q
      refine .inl ⟨j, rfl, e, ?_⟩
      have hl : j < Δ.length := by rw [okA_len ok]; exact (List.getElem?_eq_some_iff.mp e).1
      rcases okA_get ok (List.getElem?_eq_getElem hl) with ⟨f, q1, _⟩ | ⟨i', m', q1, q2, q3, _⟩
      · rw [q1] at e; cases e
      · rw [q1] at e; cases e
        rw [hi.uniq q3]
        exact ⟨_, List.getElem?_eq_getElem hl, by rw [q2]; rfl⟩
    | none =>
      refine .inr ⟨rfl, fun a ha hm => ?_⟩
      obtain ⟨j, i', e, ha'⟩ := mem_argA.mp hm
      have hl : j < Δ.length := by rw [okA_len ok]; exact (List.getElem?_eq_some_iff.mp e).1
      rcases okA_get ok (List.getElem?_eq_getElem hl) with ⟨f, q1, _⟩ | ⟨i2, m', q1, q2, q3, _⟩
      · rw [q1] at e; cases e
      · have ei : i2 = i' := by rw [q1] at e; cases e; rfl
        subst ei
        by_cases z : i = i2
        · subst z; exact ixOf_none q j q1
        · exact S.dj i i2 m m' hi q3 z a ha ha'
  have rl1 : ∀ (i j : Nat), ixOf as i = some j → retL as L L' i = L' j := fun i j e => by unfold retL; rw [e]
  have rl0 : ∀ (i : Nat), ixOf as i = none → retL as L L' i = L i := fun i e => by unfold retL; rw [e]
  have ownO : ∀ a, (ghC K H G as L vs (stC Δ)).own a → O.own a := fun a h => by
    rcases h with h | h
    · cases r : O.H0 a with
      | none => exact .inl r
      | some u =>
        by_cases hA : a ∈ O.A
        · exact .inr hA
        · rcases nt_none (K := K) (H := H) (a := a) h with z | ⟨p, m, rfl⟩
          · rw [S.pres a u r hA] at z; cases z
          · rw [S.pres.to p m] at r; cases r
    · obtain ⟨j, i, e, ha⟩ := mem_argA.mp h
      have hl : j < Δ.length := by rw [okA_len ok]; exact (List.getElem?_eq_some_iff.mp e).1
      rcases okA_get ok (List.getElem?_eq_getElem hl) with ⟨f, q1, _⟩ | ⟨i2, m', q1, q2, q3, _⟩
      · rw [q1] at e; cases e
      · rw [q1] at e; cases e
        exact S.new i m' q3 a ha
  -- what is not handed in is not the callee's
  have apart : ∀ i m, At Γ i m → (∀ a ∈ L i, a ∉ argA as L) → ∀ a ∈ L i, ¬ (ghC K H G as L vs (stC Δ)).own a := fun i m hi h a ha q => by
    obtain ⟨_, _, _, _, o⟩ := S.slot i m hi
    rcases q with q | q
    · have q := S.pres.nt_no (a := a) q (o.hk a ha)
      have y := (o.objs a ha).2.1
      rw [q] at y; cases y
    · exact h a ha q
  have tgs : ∀ i m, At Γ i m → ixOf as i = none → m < 200 ∨ NT G G' := fun i m hi q => by
    cases z : stC Δ with
    | false => exact .inr (S'.pres.ntg z)
    | true =>
      rcases okSt_ix os z hi with y | y
      · exact .inl y
      · rw [q] at y; cases y
  have uniqJ : ∀ (i i' j : Nat), as[j]? = some (.io i) → as[j]? = some (.io i') → i = i' := fun i i' j e e' => by rw [e] at e'; cases e'; rfl
  refine ⟨⟨S'.gh, by rw [wb_len]; exact S.ls, by rw [wb_len]; exact S.lg, fun i m hi => ?_, fun i m hi => ?_, fun i i' m m' hi hi' ne a ha ha' => ?_, fun i m hi a ha => ?_, S.pres.unreg S'.pres (NT.refl _) (fun z => ?_) fun b hm => ?_, fun a o e => ?_, S.io⟩, ?_⟩
  · obtain ⟨v', d', e1, e2, o⟩ := S.slot i m hi
    rcases io i m hi with ⟨j, q, e, hj⟩ | ⟨q, hd⟩
    · obtain ⟨v2, d2, y1, y2, o2⟩ := S'.slot j m hj
      obtain ⟨v3, d3, w1, w2, _, r⟩ := A.get e
      rw [List.getElem?_map, w1] at y1
      simp only [Option.map_some, Option.some.injEq] at y1
      subst y1
      refine ⟨v3, d2, (r i rfl).1, ?_, by rw [rl1 i j q]; exact o2⟩
      rw [wb_get e2, q]
      simp only [List.getD, y2, Option.getD_some]
    · refine ⟨v', d', e1, by rw [wb_get e2, q], ?_⟩
      rw [rl0 i q]
      refine o.mono gg (tgs i m hi q) fun a ha => ⟨hk a (o.objs a ha).2.1 (o.hk a ha) (hd a ha), ?_⟩
      cases z : G' a with
      | none => rfl
      | some u =>
        rcases S'.gn a u z with y | y
        · change (G a).isSome = true at y
          rw [(o.objs a ha).1] at y; cases y
        · exact absurd y (apart i m hi hd a ha)
  · rcases io i m hi with ⟨j, q, e, hj⟩ | ⟨q, hd⟩
    · rw [rl1 i j q]; exact S'.nd j m hj
    · rw [rl0 i q]; exact S.nd i m hi
  · rcases io i m hi with ⟨j, q, e, hj⟩ | ⟨q, hd⟩
    · rw [rl1 i j q] at ha
      rcases io i' m' hi' with ⟨j', q', e', hj'⟩ | ⟨q', hd'⟩
      · rw [rl1 i' j' q'] at ha'
        have nj : j ≠ j' := fun z => by subst z; exact ne (uniqJ i i' j e e')
        exact S'.dj j j' m m' hj hj' nj a ha ha'
      · rw [rl0 i' q'] at ha'
        exact apart i' m' hi' hd' a ha' (S'.new j m hj a ha)
    · rw [rl0 i q] at ha
      rcases io i' m' hi' with ⟨j', q', e', hj'⟩ | ⟨q', hd'⟩
      · rw [rl1 i' j' q'] at ha'
        exact apart i m hi hd a ha (S'.new j' m' hj' a ha')
      · rw [rl0 i' q'] at ha'
        exact S.dj i i' m m' hi hi' ne a ha ha'
  · rcases io i m hi with ⟨j, q, e, hj⟩ | ⟨q, hd⟩
    · rw [rl1 i j q] at ha; exact ownO a (S'.new j m hj a ha)
    · rw [rl0 i q] at ha; exact S.new i m hi a ha
  · obtain ⟨i, e⟩ := okSt_io os z
    obtain ⟨_, _, _, q⟩ := S.io i 200 e
    exact q rfl
  · obtain ⟨j, i, ej, ha⟩ := mem_argA.mp hm
    have hl : j < Δ.length := by rw [okA_len ok]; exact (List.getElem?_eq_some_iff.mp ej).1
    rcases okA_get ok (List.getElem?_eq_getElem hl) with ⟨f, q1, _⟩ | ⟨i2, m', q1, q2, q3, _⟩
    · rw [q1] at ej; cases ej
    · rw [q1] at ej; cases ej
      exact S.new i m' q3 b ha
  · rcases S'.gn a o e with y | y
    · change (G a).isSome = true at y
      cases q : G a with
      | none => rw [q] at y; cases y
      | some u => exact S.gn a u q
    · exact .inr (ownO a y)
  · obtain ⟨M, om, nd, ow, dj⟩ := hv
    refine ⟨M, om, nd, fun a ha => ownO a (ow a ha), fun i m hi a ha hl => ?_⟩
    rcases io i m hi with ⟨j, q, e, hj⟩ | ⟨q, hd⟩
    · rw [rl1 i j q] at hl; exact dj j m hj a ha hl
    · rw [rl0 i q] at hl; exact apart i m hi hd a hl (ow a ha)
end
theorem m_call {X : Cx} {Γ Δ : Ctx} {k n : Nat} {f : Addr} {fd : FuncData} {ps : List Str} {F : List D → Option (D × List D)} {x : Str} {p pos : Pos} {a : Expr} {es : List Expr} {as : List Arg} {CX : CXT} {E : XK}
    (Fn : FnG X.prog X.w X.K X.mg X.base CX k f fd ps (spM X.kw Δ n F)) (hgd : X.A.guards = some []) (hr : Room k X.A) (hg : Gl X x) (hm : X.mg x = some (.ref f)) (hk : PySem.W.keepIn X.K (.ref f) = true) (hb : Binds X.K fd ps []) (hx : Passes CX X E)
    (ha : PA X (a :: es) (tMG X.kw Γ as)) (ok : okA Γ as Δ = true := by rfl) (os : okSt Γ as Δ = true := by rfl) (hdb : (x == ("__debug__" : Str)) = false := by decide) (he : starEach (a :: es) X.env = (false, eval a X.env) :: starEach es X.env := by rfl) (hpl : (backTo pos (starEach es X.env)).any (·.1) = false := by rfl) :
    PE X (.Call (.Name x p) (a :: es) [] pos) (tM X.kw Γ (eCall F as) n) :=
  (pe_callG Fn hgd hr hg hm hk hb hx ha hdb he hpl).imp fun σ H Q ⟨O, G, env, L, r, env2, S, e, kk⟩ => by
    obtain ⟨ds, env1, ds', e1, e2, rfl⟩ := eCall_some e
    refine ⟨O, G, env, L, ds, env1, S, e1, fun vs H1 G1 L1 S1 s1 A1 => ?_⟩
    refine ⟨G1, ds, argL as L1, argA as L1, fun j => vs[j]?, r, ds', S1.enter ok A1, e2, fun v H2 G2 L2 S2 s2 v2 => ?_⟩
    have := S1.leave ok os A1 S2 s2 v2
    exact kk v H2 G2 _ this.1 (s1.trans s2) this.2
end VL
set_option Elab.async false
set_option linter.all false
set_option maxRecDepth 100000
/-! VL4: statements; a def by its body. -/
namespace VL
open PySem PySem.Spec L2
inductive Out where
  | nx (env : List D) | rt (r : D) (env : List D) | bk (env : List D) | ct (env : List D)
abbrev Sx := List D → Option Out
/-- where a body may end: the context and depth at a return; at break; at continue -/
structure Tg where
  rt : Ctx
  n : Nat
  bk : Ctx := []
  ct : Ctx := []
def Post (K : KW) (T : Tg) (Γ' : Ctx) (O : Gh) (G : Gp) (E : Ends) : Out → Prop
  | .nx e => ∀ σ' H' G' L', StR K O Γ' H' G' σ' e L' → SameG G G' → E.nx σ' H'
  | .rt r e => ∀ v σ' H' G' L', StR K O T.rt H' G' σ' e L' → SameG G G' → VR K O T.rt H' G' L' T.n v r → E.rt v H'
  | .bk e => ∀ σ' H' G' L', StR K O T.bk H' G' σ' e L' → SameG G G' → E.bk σ' H'
  | .ct e => ∀ σ' H' G' L', StR K O T.ct H' G' σ' e L' → SameG G G' → E.ct σ' H'
def tS (K : KW) (T : Tg) (Γ Γ' : Ctx) (g : Sx) : TS := fun E σ H => ∃ (O : Gh) (G : Gp) (env : List D) (L : Nat → List Addr) (o : Out), StR K O Γ H G σ env L ∧ g env = some o ∧ Post K T Γ' O G E o
theorem Post.from {K : KW} {T : Tg} {Γ' : Ctx} {O : Gh} {G G1 : Gp} {E : Ends} (s : SameG G G1) : ∀ {o : Out}, Post K T Γ' O G E o → Post K T Γ' O G1 E o
  | .nx e, h => fun σ' H' G' L' S s' => h σ' H' G' L' S (s.trans s')
  | .rt r e, h => fun v σ' H' G' L' S s' => h v σ' H' G' L' S (s.trans s')
  | .bk e, h => fun σ' H' G' L' S s' => h σ' H' G' L' S (s.trans s')
  | .ct e, h => fun σ' H' G' L' S s' => h σ' H' G' L' S (s.trans s')
/-! ### weaker contexts -/
def wkK : Kd → Kd → Bool
  | _, .un => true
  | .ow n, .ow 0 => decide (n < 100)
  | k, q => decide (k = q)
def wkB : Ctx → Ctx → Bool
  | [], [] => true
  | k :: Γ, q :: Δ => wkK k q && wkB Γ Δ
  | _, _ => false
theorem wkB_len : ∀ {Γ Δ : Ctx}, wkB Γ Δ = true → Δ.length = Γ.length
  | [], [], _ => rfl
  | k :: Γ, q :: Δ, h => by
    simp only [wkB, Bool.and_eq_true] at h
    simp [wkB_len h.2]
  | [], _ :: _, h => by simp [wkB] at h
  | _ :: _, [], h => by simp [wkB] at h
theorem wkB_get : ∀ {Γ Δ : Ctx} {i : Nat} {q : Kd}, wkB Γ Δ = true → Δ[i]? = some q → q = .un ∨ (q = .ow 0 ∧ ∃ n, Γ[i]? = some (.ow n) ∧ n < 100) ∨ Γ[i]? = some q
  | [], [], i, q, _, e => by simp at e
  | k :: Γ, q' :: Δ, 0, q, h, e => by
    simp only [wkB, Bool.and_eq_true] at h
    simp only [List.getElem?_cons_zero, Option.some.injEq] at e
    subst e
    have h1 := h.1
    unfold wkK at h1
    split at h1
    · exact .inl rfl
    · rename_i n; exact .inr (.inl ⟨rfl, n, rfl, of_decide_eq_true h1⟩)
    · exact .inr (.inr (by simp [of_decide_eq_true h1]))
  | k :: Γ, q' :: Δ, i + 1, q, h, e => by
    simp only [wkB, Bool.and_eq_true] at h
    have := wkB_get (i := i) h.2 (by simpa using e)
    simpa using this
  | [], _ :: _, _, _, h, _ => by simp [wkB] at h
  | _ :: _, [], _, _, h, _ => by simp [wkB] at h
section
variable {K : KW} {O : Gh} {Γ Δ : Ctx} {H H' : Hp} {G G' : Gp} {σ : St} {env : List D} {L : Nat → List Addr} {n : Nat} {v : V} {d : D}
/-- the slots that are shown from now on -/
def wkL (Γ Δ : Ctx) (L : Nat → List Addr) : List Addr := ((List.range Δ.length).filter fun i => decide (Δ[i]? = some (.ow 0))).flatMap fun (i : Nat) => match Γ[i]? with | some (Kd.ow _) => L i | _ => []
theorem mem_wkL {a : Addr} : a ∈ wkL Γ Δ L ↔ ∃ (i : Nat) (n : Nat), Δ[i]? = some (.ow 0) ∧ Γ[i]? = some (.ow n) ∧ a ∈ L i := by
  unfold wkL
  rw [List.mem_flatMap]
  constructor
  · rintro ⟨i, hi, ha⟩
    rw [List.mem_filter] at hi
    split at ha
    · rename_i n e; exact ⟨i, n, of_decide_eq_true hi.2, e, ha⟩
    · cases ha
  · rintro ⟨i, n, hi, hg, ha⟩
    exact ⟨i, List.mem_filter.mpr ⟨List.mem_range.mpr (List.getElem?_eq_some_iff.mp hi).1, decide_eq_true hi⟩, by rw [hg]; exact ha⟩
def wkLs (Δ : Ctx) (L : Nat → List Addr) (i : Nat) : List Addr := if Δ[i]? = some (.ow 0) then [] else L i
theorem StR.weak (S : StR K O Γ H G σ env L) (hw : wkB Γ Δ = true) : SameG G (shw G H (wkL Γ Δ L)) ∧ StR K O Δ H (shw G H (wkL Γ Δ L)) σ env (wkLs Δ L) ∧
    ∀ n v d, VR K O Γ H G L n v d → VR K O Δ H (shw G H (wkL Γ Δ L)) (wkLs Δ L) n v d := by
  have c : ∀ i m, At Δ i m → (m = 0 ∧ Δ[i]? = some (.ow 0) ∧ ∃ n, Γ[i]? = some (.ow n) ∧ n < 100) ∨ (Δ[i]? ≠ some (.ow 0) ∧ At Γ i m) := fun i m ⟨k, e1, e2⟩ => by
    rcases wkB_get hw e1 with rfl | ⟨rfl, n, hn⟩ | hn
    · cases e2
    · cases e2; exact .inl ⟨rfl, e1, n, hn⟩
    · by_cases z : k = .ow 0
      · subst z; cases e2; exact .inl ⟨rfl, e1, 0, hn, by decide⟩
      · exact .inr ⟨by rw [e1]; exact fun y => z (Option.some.inj y), k, hn, e2⟩
  have ls0 : ∀ (i : Nat), Δ[i]? = some (.ow 0) → wkLs Δ L i = [] := fun i e => by unfold wkLs; rw [if_pos e]
  have ls1 : ∀ (i : Nat), Δ[i]? ≠ some (.ow 0) → wkLs Δ L i = L i := fun i e => by unfold wkLs; rw [if_neg e]
  have hid : ∀ (i m : Nat), Δ[i]? ≠ some (.ow 0) → At Γ i m → ∀ a ∈ L i, shw G H (wkL Γ Δ L) a = none := fun i m h1 hi a ha => by
    have hm : a ∉ wkL Γ Δ L := fun hm => by
      obtain ⟨i', n', e1, e2, ha'⟩ := mem_wkL.mp hm
      have ne : i ≠ i' := fun z => by subst z; exact h1 e1
      exact S.dj i i' m n' hi ⟨_, e2, rfl⟩ ne a ha ha'
    rw [shw_not hm]
    obtain ⟨_, _, _, _, o⟩ := S.slot i m hi
    exact (o.objs a ha).1
  refine ⟨shw_l, ⟨shw_h S.gh, S.ls, (wkB_len hw).trans S.lg, fun i m hi => ?_, fun i m hi => ?_, fun i j m m' hi hj ne a ha ha' => ?_, fun i m hi a ha => ?_, S.pres.shw fun a ha => ?_, fun a o e => ?_, fun i m e => ?_⟩, fun n v d hv => ?_⟩
  rotate_left 4
  · obtain ⟨i', n', e1, e2, ha'⟩ := mem_wkL.mp ha
    obtain ⟨_, _, _, _, o⟩ := S.slot i' n' ⟨_, e2, rfl⟩
    exact o.hk a ha'
  rotate_left 3
  · rcases c i m hi with ⟨rfl, e0, n, hn, hlt⟩ | ⟨e0, hi'⟩
    · obtain ⟨v, d, e1, e2, o⟩ := S.slot i n ⟨_, hn, rfl⟩
      rw [ls0 i e0]
      exact ⟨v, d, e1, e2, .rep (Own.read S.gh hlt o fun a ha => mem_wkL.mpr ⟨i, n, e0, hn, ha⟩)⟩
    · obtain ⟨v, d, e1, e2, o⟩ := S.slot i m hi'
      rw [ls1 i e0]
      exact ⟨v, d, e1, e2, o.mono shw_l (.inr shw_nt) fun a ha => ⟨rfl, hid i m e0 hi' a ha⟩⟩
  · rcases c i m hi with ⟨rfl, e0, n, hn⟩ | ⟨e0, hi'⟩
    · rw [ls0 i e0]; exact List.nodup_nil
    · rw [ls1 i e0]; exact S.nd i m hi'
  · rcases c i m hi with ⟨rfl, e0, n, hn⟩ | ⟨e0, hi'⟩
    · rw [ls0 i e0] at ha; cases ha
    · rcases c j m' hj with ⟨rfl, e0', n, hn⟩ | ⟨e0', hj'⟩
      · rw [ls0 j e0'] at ha'; cases ha'
      · rw [ls1 i e0] at ha; rw [ls1 j e0'] at ha'; exact S.dj i j m m' hi' hj' ne a ha ha'
  · rcases c i m hi with ⟨rfl, e0, n, hn⟩ | ⟨e0, hi'⟩
    · rw [ls0 i e0] at ha; cases ha
    · rw [ls1 i e0] at ha; exact S.new i m hi' a ha
  · by_cases hm : a ∈ wkL Γ Δ L
    · obtain ⟨i', n', e1, e2, ha'⟩ := mem_wkL.mp hm
      exact .inr (S.new i' n' ⟨_, e2, rfl⟩ a ha')
    · rw [shw_not hm] at e; exact S.gn a o e
  · rcases wkB_get hw e with z | ⟨z, _⟩ | hn
    · cases z
    · cases z
    · exact S.io i m hn
  · obtain ⟨M, om, nd, ow, dj⟩ := hv
    refine ⟨M, om.mono shw_l (.inr shw_nt) fun a ha => ⟨rfl, ?_⟩, nd, ow, fun i m hi a ha hl => ?_⟩
    · have hm : a ∉ wkL Γ Δ L := fun hm => by
        obtain ⟨i', n', e1, e2, ha'⟩ := mem_wkL.mp hm
        exact dj i' n' ⟨_, e2, rfl⟩ a ha ha'
      rw [shw_not hm]; exact (om.objs a ha).1
    · rcases c i m hi with ⟨rfl, e0, n, hn⟩ | ⟨e0, hi'⟩
      · rw [ls0 i e0] at hl; cases hl
      · rw [ls1 i e0] at hl; exact dj i m hi' a ha hl
/-- a slot is stored -/
theorem at_set {i j m n : Nat} (h : At (Γ.set i (.ow n)) j m) : (j = i ∧ m = n) ∨ (j ≠ i ∧ At Γ j m) := by
  obtain ⟨k, e1, e2⟩ := h
  by_cases z : j = i
  · subst z
    by_cases hl : j < Γ.length
    · rw [List.getElem?_set_self hl] at e1; cases e1; cases e2; exact .inl ⟨rfl, rfl⟩
    · rw [List.getElem?_eq_none (by simpa using hl)] at e1; cases e1
  · rw [List.getElem?_set_ne (Ne.symm z)] at e1
    exact .inr ⟨z, k, e1, e2⟩
theorem StR.set {i : Nat} (S : StR K O Γ H G σ env L) (hv : VR K O Γ H G L n v d) (hi : i < Γ.length) (hio : ∀ m, Γ[i]? ≠ some (.io m)) : ∃ L', StR K O (Γ.set i (.ow n)) H G (σ.set i (some v)) (env.set i d) L' := by
  obtain ⟨M, om, nd, ow, dj⟩ := hv
  have li : i < env.length := by rw [← S.lg]; exact hi
  refine ⟨fun j => if j = i then M else L j, S.gh, by simp [S.ls], by simp [S.lg], fun j m hj => ?_, fun j m hj => ?_, fun j j' m m' hj hj' ne a ha ha' => ?_, fun j m hj a ha => ?_, S.pres, S.gn, fun j m e => ?_⟩
  · rcases at_set hj with ⟨rfl, rfl⟩ | ⟨z, hj'⟩
    · rw [if_pos rfl]
      exact ⟨v, d, by rw [List.getElem?_set_self (by rw [S.ls]; exact li)], by rw [List.getElem?_set_self li], om⟩
    · rw [if_neg z]
      obtain ⟨v', d', e1, e2, o⟩ := S.slot j m hj'
      exact ⟨v', d', by rw [List.getElem?_set_ne (Ne.symm z)]; exact e1, by rw [List.getElem?_set_ne (Ne.symm z)]; exact e2, o⟩
  · rcases at_set hj with ⟨rfl, rfl⟩ | ⟨z, hj'⟩
    · rw [if_pos rfl]; exact nd
    · rw [if_neg z]; exact S.nd j m hj'
  · rcases at_set hj with ⟨rfl, rfl⟩ | ⟨z, hj2⟩
    · rw [if_pos rfl] at ha
      rcases at_set hj' with ⟨z', _⟩ | ⟨z', hj2'⟩
      · exact ne z'.symm
      · rw [if_neg z'] at ha'; exact dj j' m' hj2' a ha ha'
    · rw [if_neg z] at ha
      rcases at_set hj' with ⟨rfl, rfl⟩ | ⟨z', hj2'⟩
      · rw [if_pos rfl] at ha'; exact dj j m hj2 a ha' ha
      · rw [if_neg z'] at ha'; exact S.dj j j' m m' hj2 hj2' ne a ha ha'
  · rcases at_set hj with ⟨rfl, rfl⟩ | ⟨z, hj2⟩
    · rw [if_pos rfl] at ha; exact ow a ha
    · rw [if_neg z] at ha; exact S.new j m hj2 a ha
  · by_cases z : j = i
    · subst z
      rw [List.getElem?_set_self hi] at e; cases e
    · rw [List.getElem?_set_ne (Ne.symm z)] at e
      obtain ⟨v', e1, e2, e3⟩ := S.io j m e
      exact ⟨v', e1, by rw [List.getElem?_set_ne (Ne.symm z)]; exact e2, e3⟩
/-- a slot is forgotten -/
theorem StR.drop {i : Nat} (S : StR K O Γ H G σ env L) (x : Option V) (hi : Γ[i]? = some .un) : StR K O Γ H G (σ.set i x) env L := by
  have ne : ∀ j m, At Γ j m → j ≠ i := fun j m ⟨k, e1, e2⟩ z => by subst z; rw [hi] at e1; cases e1; cases e2
  refine ⟨S.gh, by simp [S.ls], S.lg, fun j m hj => ?_, S.nd, S.dj, S.new, S.pres, S.gn, fun j m e => ?_⟩
  · obtain ⟨v', d', e1, e2, o⟩ := S.slot j m hj
    exact ⟨v', d', by rw [List.getElem?_set_ne (Ne.symm (ne j m hj))]; exact e1, e2, o⟩
  · obtain ⟨v', e1, e2, e3⟩ := S.io j m e
    exact ⟨v', e1, by rw [List.getElem?_set_ne (Ne.symm (ne j m ⟨_, e, rfl⟩))]; exact e2, e3⟩
end
/-! ### statements -/
def sNil : Sx := fun env => some (.nx env)
def sq (g h : Sx) : Sx := fun env => (g env).bind fun o => match o with
  | .nx e => h e
  | o => some o
def asg (i : Nat) (f : Ex) : Sx := fun env => (f env).map fun p => .nx (p.2.set i p.1)
def retE (f : Ex) : Sx := fun env => (f env).map fun p => .rt p.1 p.2
def sExp (f : Ex) : Sx := fun env => (f env).map fun p => .nx p.2
def sIf (c : Bx) (g h : Sx) : Sx := fun env => (c env).bind fun p => if p.1 = true then g p.2 else h p.2
section
variable {X : Cx} {Γ Γ1 Γ2 Δ : Ctx} {T : Tg} {a c : Expr} {pos : Pos} {f : Ex} {n i : Nat} {st : Stmt} {sts rest : List Stmt} {g h : Sx}
theorem s_nil : PSs X [] (tS X.kw T Γ Γ sNil) := pss_nil.imp fun E σ H ⟨O, G, env, L, o, S, e, k⟩ => by
  simp only [sNil, Option.some.injEq] at e
  subst e
  exact k σ H G L S (fun _ _ e => e)
theorem s_cons (h1 : PS X st (tS X.kw T Γ Γ1 g)) (h2 : PSs X rest (tS X.kw T Γ1 Γ2 h)) : PSs X (st :: rest) (tS X.kw T Γ Γ2 (sq g h)) :=
  (pss_cons h1 h2).imp fun E σ H ⟨O, G, env, L, o, S, e, k⟩ => by
    unfold sq at e
    cases q : g env with
    | none => rw [q] at e; cases e
    | some o1 =>
      rw [q] at e
      simp only [Option.bind_some] at e
      refine ⟨O, G, env, L, o1, S, q, ?_⟩
      cases o1 with
      | nx e1 => exact fun σ' H' G' L' S' s' => ⟨O, G', e1, L', o, S', e, k.from s'⟩
      | rt r e1 => simp only [Option.some.injEq] at e; subst e; exact k
      | bk e1 => simp only [Option.some.injEq] at e; subst e; exact k
      | ct e1 => simp only [Option.some.injEq] at e; subst e; exact k
theorem s_one (h1 : PS X st (tS X.kw T Γ Γ1 g)) : PSs X [st] (tS X.kw T Γ Γ1 g) := pss_one h1
theorem tS_pre {K : KW} {E : Ends} {σ : St} {H : Hp} (hw : wkB Γ Δ = true) (h : tS K T Γ Γ2 g E σ H) : tS K T Δ Γ2 g E σ H := by
  obtain ⟨O, G, env, L, o, S, e, k⟩ := h
  obtain ⟨gg, S', _⟩ := S.weak hw
  exact ⟨O, _, env, _, o, S', e, k.from gg⟩
theorem p_pre (Δ : Ctx) (h : PS X st (tS X.kw T Δ Γ2 g)) (hw : wkB Γ Δ = true := by rfl) : PS X st (tS X.kw T Γ Γ2 g) := h.imp fun E σ H q => tS_pre hw q
theorem tS_post {K : KW} {E : Ends} {σ : St} {H : Hp} (hw : wkB Γ1 Δ = true) (h : tS K T Γ Δ g E σ H) : tS K T Γ Γ1 g E σ H := by
  obtain ⟨O, G, env, L, o, S, e, k⟩ := h
  refine ⟨O, G, env, L, o, S, e, ?_⟩
  cases o with
  | nx e1 => exact fun σ' H' G' L' S' s' => k σ' H' _ _ (S'.weak hw).2.1 (s'.trans (S'.weak hw).1)
  | rt r e1 => exact k
  | bk e1 => exact k
  | ct e1 => exact k
theorem s_post (Γ1 : Ctx) (h : PSs X sts (tS X.kw T Γ Γ1 g)) (hw : wkB Γ1 Δ = true := by rfl) : PSs X sts (tS X.kw T Γ Δ g) := h.imp fun E σ H q => tS_post hw q
theorem asg_some {env : List D} {o : Out} (e : asg i f env = some o) : ∃ r env1, f env = some (r, env1) ∧ o = .nx (env1.set i r) := by
  unfold asg at e
  cases q : f env with
  | none => rw [q] at e; cases e
  | some p =>
    rw [q] at e
    simp only [Option.map_some, Option.some.injEq] at e
    exact ⟨p.1, p.2, rfl, e.symm⟩
def notIo : Option Kd → Bool
  | some (.io _) => false
  | some _ => true
  | none => false
theorem notIo_lt (h : notIo Γ[i]? = true) : i < Γ.length ∧ ∀ m, Γ[i]? ≠ some (.io m) := by
  refine ⟨?_, fun m e => by rw [e] at h; cases h⟩
  cases q : Γ[i]? with
  | none => rw [q] at h; cases h
  | some k => exact (List.getElem?_eq_some_iff.mp q).1
theorem tAsg_of {E : Ends} {σ : St} {H : Hp} {K : KW} (hi : notIo Γ[i]? = true) (h : tS K T Γ (Γ.set i (.ow n)) (asg i f) E σ H) : tAsg (tM K Γ f n) (gName i) E σ H := by
  obtain ⟨O, G, env, L, o, S, e, k⟩ := h
  obtain ⟨r, env1, e1, rfl⟩ := asg_some e
  refine ⟨O, G, env, L, r, env1, S, e1, fun v H1 G1 L1 S1 s1 v1 => ?_⟩
  obtain ⟨L2, S2⟩ := S1.set v1 (notIo_lt hi).1 (notIo_lt hi).2
  exact k _ _ _ _ S2 s1
theorem s_set (i : Nat) {x : Str} {pos' : Pos} (hN : X.N.Nodup) (he : PE X a (tM X.kw Γ f n)) (hx : X.N[i]? = some x := by rfl) (hl : Loc X.env.scope x := by first | exact Or.inl rfl | exact Or.inr rfl) (hi : notIo Γ[i]? = true := by rfl)
    (hs : swapsWith a (some (.Name x pos')) pos.line X.env = pure false := by rfl) (hf : X.fn x = true ∨ X.env.scope.names.lookup x = some .local := by first | exact .inl rfl | exact .inr rfl | assumption) : PS X (.Assign [.Name x pos'] a pos) (tS X.kw T Γ (Γ.set i (.ow n)) (asg i f)) :=
  (ps_set hN hx hl he hs hf).imp fun E σ H q => tAsg_of hi q
theorem retE_some {env : List D} {o : Out} (e : retE f env = some o) : ∃ r env1, f env = some (r, env1) ∧ o = .rt r env1 := by
  unfold retE at e
  cases q : f env with
  | none => rw [q] at e; cases e
  | some p =>
    rw [q] at e
    simp only [Option.map_some, Option.some.injEq] at e
    exact ⟨p.1, p.2, rfl, e.symm⟩
theorem s_ret (he : PE X a (tM X.kw Γ f T.n)) (hw : wkB Γ T.rt = true := by rfl) : PS X (.Return (some a) pos) (tS X.kw T Γ Γ1 (retE f)) :=
  (ps_ret he).imp fun E σ H ⟨O, G, env, L, o, S, e, k⟩ => by
    obtain ⟨r, env1, e1, rfl⟩ := retE_some e
    refine ⟨O, G, env, L, r, env1, S, e1, fun v H1 G1 L1 S1 s1 v1 => ?_⟩
    obtain ⟨gg, S2, hv⟩ := S1.weak hw
    exact k v σ H1 _ _ S2 (s1.trans gg) (hv _ _ _ v1)
theorem s_exp (he : PE X a (tM X.kw Γ f n)) (hs : swapsWith a none pos.line X.env = pure false := by rfl) : PS X (.Expr a pos) (tS X.kw T Γ Γ (sExp f)) :=
  (ps_expr he hs).imp fun E σ H ⟨O, G, env, L, o, S, e, k⟩ => by
    unfold sExp at e
    cases q : f env with
    | none => rw [q] at e; cases e
    | some p =>
      rw [q] at e
      simp only [Option.map_some, Option.some.injEq] at e
      subst e
      exact ⟨O, G, env, L, p.1, p.2, S, q, fun v H1 G1 L1 S1 s1 _ => k σ H1 G1 L1 S1 s1⟩
theorem s_if {gc : Bx} {A B : List Stmt} (hc : PT X c (tMT X.kw Γ gc)) (ha : PSs X A (tS X.kw T Γ Γ1 g)) (hb : PSs X B (tS X.kw T Γ Γ1 h)) : PS X (.If c A B pos) (tS X.kw T Γ Γ1 (sIf gc g h)) :=
  (ps_if hc ha hb).imp fun E σ H ⟨O, G, env, L, o, S, e, k⟩ => by
    unfold sIf at e
    cases q : gc env with
    | none => rw [q] at e; cases e
    | some p =>
      rw [q] at e
      simp only [Option.bind_some] at e
      refine ⟨O, G, env, L, p.1, p.2, S, q, fun H1 G1 L1 S1 s1 => ?_⟩
      by_cases hb : p.1 = true
      · rw [if_pos hb] at e ⊢
        exact ⟨O, G1, p.2, L1, o, S1, e, k.from s1⟩
      · rw [if_neg hb] at e ⊢
        exact ⟨O, G1, p.2, L1, o, S1, e, k.from s1⟩
end
/-! ### a def -/
/-- the parameters' context at a return: the io ones, the others forgotten -/
def ioK : Kd → Kd
  | .io n => .io n
  | _ => .un
def rtC (Δ : Ctx) (m : Nat) : Ctx := Δ.map ioK ++ List.replicate (m - Δ.length) .un
def inC (Δ : Ctx) (m : Nat) : Ctx := Δ ++ List.replicate (m - Δ.length) .un
/-- at the end the read parameters are as they were -/
theorem start_eq (N : List Str) (vs : List V) : L2.start N vs = vs.map some ++ List.replicate (N.length - vs.length) none := by
  unfold L2.start
  first | rfl | simp
section
variable {K : KW} {O : Gh} {Δ : Ctx} {H H' : Hp} {G G' : Gp} {env ds : List D} {L : Nat → List Addr} {n m : Nat} {v : V} {d : D} {vs : List V} {σ : St}
theorem StR.begin {st : Bool} {io : Nat → Option V} {A : List Addr} (S : StR K ⟨nt K H, G, A, io, st⟩ Δ H G (vs.map some) ds L) (hm : Δ.length ≤ m) (N : List Str) (hN : N.length = m) :
    StR K ⟨nt K H, G, A, io, st⟩ (inC Δ m) H G (L2.start N vs) (ds ++ List.replicate (m - ds.length) .none) L := by
  have lv : vs.length = ds.length := by have := S.ls; simpa using this
  have ld : Δ.length = ds.length := S.lg
  have g1 : ∀ i n, At (inC Δ m) i n → At Δ i n := fun i n ⟨k, e1, e2⟩ => by
    unfold inC at e1
    by_cases hl : i < Δ.length
    · rw [List.getElem?_append_left hl] at e1; exact ⟨k, e1, e2⟩
    · rw [List.getElem?_append_right (by omega), List.getElem?_replicate] at e1
      split at e1
      · cases e1; cases e2
      · cases e1
  rw [start_eq]
  refine ⟨S.gh, by simp; omega, by unfold inC; simp; omega, fun i n hi => ?_, fun i n hi => S.nd i n (g1 i n hi), fun i j n n' hi hj => S.dj i j n n' (g1 i n hi) (g1 j n' hj), fun i n hi => S.new i n (g1 i n hi), S.pres, S.gn, fun i n e => ?_⟩
  · obtain ⟨v, d, e1, e2, o⟩ := S.slot i n (g1 i n hi)
    exact ⟨v, d, by rw [List.getElem?_append_left (List.getElem?_eq_some_iff.mp e1).1]; exact e1, by rw [List.getElem?_append_left (List.getElem?_eq_some_iff.mp e2).1]; exact e2, o⟩
  · have e' : Δ[i]? = some (.io n) := by
      unfold inC at e
      by_cases hl : i < Δ.length
      · rw [List.getElem?_append_left hl] at e; exact e
      · rw [List.getElem?_append_right (by omega), List.getElem?_replicate] at e
        split at e
        · cases e
        · cases e
    obtain ⟨v, e1, e2, e3⟩ := S.io i n e'
    exact ⟨v, e1, by rw [List.getElem?_append_left (List.getElem?_eq_some_iff.mp e2).1]; exact e2, e3⟩
/-- at a return: the parameters alone again -/
theorem StR.finish {st : Bool} {io : Nat → Option V} {A : List Addr} {G1 : Gp} {env' : List D} {L' : Nat → List Addr} (S0 : StR K ⟨nt K H, G, A, io, st⟩ Δ H G (vs.map some) ds L) (hm : Δ.length ≤ m) (S : StR K ⟨nt K H, G, A, io, st⟩ (rtC Δ m) H' G1 σ env' L') (gg : SameG G G1)
    (hv : VR K ⟨nt K H, G, A, io, st⟩ (rtC Δ m) H' G1 L' n v d) (h0 : ∀ (i n : Nat), Δ[i]? = some (Kd.ow n) → n = 0) :
    StR K ⟨nt K H, G, A, io, st⟩ Δ H' G1 (vs.map some) ((env'.take ds.length).mapIdx fun i d => match Δ[i]? with | some (.io _) => d | _ => ds.getD i d) (fun i => match Δ[i]? with | some (.io _) => L' i | _ => []) ∧
    VR K ⟨nt K H, G, A, io, st⟩ Δ H' G1 (fun i => match Δ[i]? with | some (.io _) => L' i | _ => []) n v d := by
  have lv : vs.length = ds.length := by have := S0.ls; simpa using this
  have ld : Δ.length = ds.length := S0.lg
  have le : env'.length = m := by rw [← S.lg]; unfold rtC; simp; omega
  have io1 : ∀ (i n : Nat), Δ[i]? = some (.io n) → (rtC Δ m)[i]? = some (.io n) := fun i n e => by
    unfold rtC
    rw [List.getElem?_append_left (by rw [List.length_map]; exact (List.getElem?_eq_some_iff.mp e).1), List.getElem?_map, e]
    rfl
  have cs : ∀ i n, At Δ i n → (Δ[i]? = some (.io n)) ∨ (n = 0 ∧ Δ[i]? = some (.ow 0)) := fun i n ⟨k, e1, e2⟩ => by
    cases k with
    | un => cases e2
    | ow z => cases e2; have := h0 i _ e1; subst this; exact .inr ⟨rfl, e1⟩
    | io z => cases e2; exact .inl e1
  refine ⟨⟨S.gh, by simp; omega, by simp; omega, fun i n hi => ?_, fun i n hi => ?_, fun i j n n' hi hj ne a ha ha' => ?_, fun i n hi a ha => ?_, S.pres, S.gn, fun i n e => S0.io i n e⟩, ?_⟩
  · rcases cs i n hi with e | ⟨rfl, e⟩
    · obtain ⟨v1, d1, y1, y2, o⟩ := S.slot i n ⟨_, io1 i n e, rfl⟩
      obtain ⟨v2, z1, z2, _⟩ := S.io i n (io1 i n e)
      obtain ⟨v3, w1, w2, _⟩ := S0.io i n e
      have q1 : v2 = v3 := Option.some.inj (z1.symm.trans w1)
      have q2 : v1 = v2 := Option.some.inj (Option.some.inj (y1.symm.trans z2))
      subst q1 q2
      have hl : i < ds.length := by rw [← ld]; exact (List.getElem?_eq_some_iff.mp e).1
      refine ⟨_, d1, w2, ?_, by simp only [e]; exact o⟩
      rw [List.getElem?_mapIdx, List.getElem?_take_of_lt hl, y2]
      simp [e]
    · obtain ⟨v1, d1, y1, y2, o⟩ := S0.slot i 0 hi
      have hl : i < ds.length := (List.getElem?_eq_some_iff.mp y2).1
      refine ⟨v1, d1, y1, ?_, by simp only [e]; exact .rep (o.zero.2.mono gg)⟩
      rw [List.getElem?_mapIdx, List.getElem?_take_of_lt hl]
      have : i < env'.length := by omega
      rw [List.getElem?_eq_getElem this]
      simp [e, y2]
  · rcases cs i n hi with e | ⟨rfl, e⟩
    · simp only [e]; exact S.nd i n ⟨_, io1 i n e, rfl⟩
    · simp only [e]; exact List.nodup_nil
  · rcases cs i n hi with e | ⟨rfl, e⟩
    · rcases cs j n' hj with e' | ⟨rfl, e'⟩
      · simp only [e] at ha; simp only [e'] at ha'
        exact S.dj i j n n' ⟨_, io1 i n e, rfl⟩ ⟨_, io1 j n' e', rfl⟩ ne a ha ha'
      · simp only [e'] at ha'; cases ha'
    · simp only [e] at ha; cases ha
  · rcases cs i n hi with e | ⟨rfl, e⟩
    · simp only [e] at ha; exact S.new i n ⟨_, io1 i n e, rfl⟩ a ha
    · simp only [e] at ha; cases ha
  · obtain ⟨M, om, nd, ow, dj⟩ := hv
    refine ⟨M, om, nd, ow, fun i n hi a ha hl => ?_⟩
    rcases cs i n hi with e | ⟨rfl, e⟩
    · simp only [e] at hl; exact dj i n ⟨_, io1 i n e, rfl⟩ a ha hl
    · simp only [e] at hl; cases hl
end
/-- the data of the parameters behind a call: those that are read stay -/
def outP (Δ : Ctx) (ds env : List D) : List D := (env.take ds.length).mapIdx fun i d => match Δ[i]? with
  | some (.io _) => d
  | _ => ds.getD i d
def runD (Δ : Ctx) (g : Sx) (m : Nat) (ds : List D) : Option (D × List D) := (g (ds ++ List.replicate (m - ds.length) .none)).bind fun o => match o with
  | .rt r e => some (r, outP Δ ds e)
  | .nx e => some (.none, outP Δ ds e)
  | _ => none
def zeroB (Δ : Ctx) : Bool := Δ.all fun k => match k with
  | .ow 0 => true
  | .io _ => true
  | _ => false
theorem zeroB_get {Δ : Ctx} (h : zeroB Δ = true) : ∀ (i n : Nat), Δ[i]? = some (Kd.ow n) → n = 0 := fun i n e => by
  unfold zeroB at h
  have := List.all_eq_true.mp h _ (List.mem_of_getElem? e)
  cases n with
  | zero => rfl
  | succ n => cases this
theorem def_ok {P : Program} {w : World} {K : PySem.W.Frag} {mg : Str → Option Value} {base : Heap} {x qual : Str} {st : Stmt} {f : Addr} {fd : FuncData} {N ps : List Str} {k n m : Nat} {Δ Γ' : Ctx} {g : Sx} (F : Fun K x qual st f fd) (Sc : FnScope N ps (defScope st))
    (hp : Δ.length = ps.length) (hm : N.length = m) (hle : Δ.length ≤ m) (h0 : zeroB Δ = true) (hw : wkB Γ' (rtC Δ m) = true) (hn : n = 0 ∨ ∀ ds e, g ds ≠ some (.nx e))
    (hb : ∀ (cdv : Value) (A : Around) (outer : List Env) (s : Shared) (H : Hp) (E : XK), fd.code = cdv → A.guards = some [] → Room k (A.deeper (PyProof.Rows.envOfC qual (defScope st) s.heap.objs.size f cdv)) → PSs (cxOf CX0 P w K mg base N qual (defScope st) f cdv A outer s H E).nox (defBody st) (tS ⟨K, w, mg⟩ ⟨rtC Δ m, n, [], []⟩ (inC Δ m) Γ' g)) :
    FnG P w K mg base CX0 (k + 1) f fd ps (spM ⟨K, w, mg⟩ Δ n (runD Δ g m)) := by
  refine FnG.of F Sc (fun vs H Q E h => ?_) (fun cdv A outer s H vs Q E hcd hgd hr h => ?_)
  · obtain ⟨G, ds, L, A, io, z, ds', S, _⟩ := h
    have h1 := S.ls
    rw [List.length_map] at h1
    rw [h1, ← S.lg, hp]
  · obtain ⟨G, ds, L, As, io, z, ds', S, e, q⟩ := h
    refine ⟨_, (hb cdv A outer s H E hcd hgd hr).nox, ?_⟩
    unfold runD at e
    cases r : g (ds ++ List.replicate (m - ds.length) .none) with
    | none => rw [r] at e; cases e
    | some o =>
      rw [r] at e
      simp only [Option.bind_some] at e
      refine ⟨_, G, _, L, o, S.begin hle N hm, r, ?_⟩
      cases o with
      | nx en =>
        simp only [Option.some.injEq, Prod.mk.injEq] at e
        obtain ⟨rfl, rfl⟩ := e
        have n0 : n = 0 := by
          rcases hn with hn | hn
          · exact hn
          · exact absurd r (hn _ _)
        subst n0
        intro σ' H' G' L' S' s'
        obtain ⟨gg, S2, hv⟩ := S'.weak hw
        have := S.finish hle S2 (s'.trans gg) (hv 0 .non .none (.of_rep .non)) (zeroB_get h0)
        exact q .non H' _ _ this.1 (s'.trans gg) this.2
      | rt r' en =>
        simp only [Option.some.injEq, Prod.mk.injEq] at e
        obtain ⟨rfl, rfl⟩ := e
        intro v σ' H' G' L' S' s' v'
        have := S.finish hle S' s' v' (zeroB_get h0)
        exact q v H' _ _ this.1 s' this.2
      | bk en => cases e
      | ct en => cases e
end VL
set_option Elab.async false
set_option linter.all false
set_option maxRecDepth 100000
set_option maxHeartbeats 2000000
/-! VET: enumerate of a tuple. -/
namespace VL
open PySem PySem.Spec L2 PyProof.Rows
end VL
set_option Elab.async false
set_option linter.all false
set_option maxRecDepth 100000
/-! VL5: targets, walks, for, while, list comprehensions. -/
namespace VL
open PySem PySem.Spec L2
section
variable {K : KW} {O : Gh} {Γ Δ : Ctx} {H H' : Hp} {G G' : Gp} {σ : St} {env : List D} {L : Nat → List Addr} {n : Nat} {v : V} {d : D}
/-- all that the slots own -/
def allL (Γ : Ctx) (L : Nat → List Addr) : List Addr := ((List.range Γ.length).filter fun i => decide ((Γ[i]?).bind Kd.dep ≠ none)).flatMap L
theorem mem_allL {a : Addr} : a ∈ allL Γ L ↔ ∃ i m, At Γ i m ∧ a ∈ L i := by
  unfold allL
  rw [List.mem_flatMap]
  constructor
  · rintro ⟨i, hi, ha⟩
    rw [List.mem_filter] at hi
    have h2 := of_decide_eq_true hi.2
    cases q : (Γ[i]?).bind Kd.dep with
    | none => exact absurd q h2
    | some m => exact ⟨i, m, at_of q, ha⟩
  · rintro ⟨i, m, ⟨k, e1, e2⟩, ha⟩
    refine ⟨i, List.mem_filter.mpr ⟨List.mem_range.mpr (List.getElem?_eq_some_iff.mp e1).1, decide_eq_true ?_⟩, ha⟩
    rw [e1]; simp [e2]
abbrev Gh.at (K : KW) (O : Gh) (Γ : Ctx) (H : Hp) (G : Gp) (L : Nat → List Addr) : Gh := ⟨nt K H, G, allL Γ L, O.io, O.st⟩
/-- the state taken as an entry -/
theorem StR.reg (S : StR K O Γ H G σ env L) : StR K (O.at K Γ H G L) Γ H G σ env L :=
  ⟨S.gh, S.ls, S.lg, S.slot, S.nd, S.dj, fun i m hi a ha => .inr (mem_allL.mpr ⟨i, m, hi, ha⟩), S.pres.reg, fun a o e => .inl (by show (G a).isSome = true; rw [e]; rfl), S.io⟩
theorem StR.own_of (S : StR K O Γ H G σ env L) {a : Addr} (h : (O.at K Γ H G L).own a) : O.own a := by
  rcases h with h | h
  · cases r : O.H0 a with
    | none => exact .inl r
    | some u =>
      by_cases hA : a ∈ O.A
      · exact .inr hA
      · rcases nt_none (K := K) (H := H) (a := a) h with z | ⟨p, m, rfl⟩
        · rw [S.pres a u r hA] at z; cases z
        · rw [S.pres.to p m] at r; cases r
  · obtain ⟨i, m, hi, ha⟩ := mem_allL.mp h
    exact S.new i m hi a ha
theorem StR.unreg {Γ' : Ctx} {σ' : St} {env' : List D} {L' : Nat → List Addr} (S : StR K O Γ H G σ env L) (S' : StR K (O.at K Γ H G L) Γ' H' G' σ' env' L') : StR K O Γ' H' G' σ' env' L' := by
  refine ⟨S'.gh, S'.ls, S'.lg, S'.slot, S'.nd, S'.dj, fun i m hi a ha => S.own_of (S'.new i m hi a ha), S.pres.unreg S'.pres (NT.refl _) id fun b hm => ?_, fun a o e => ?_, S'.io⟩
  · obtain ⟨i, m, hi, ha⟩ := mem_allL.mp hm
    exact S.new i m hi b ha
  · rcases S'.gn a o e with z | z
    · change (G a).isSome = true at z
      cases q : G a with
      | none => rw [q] at z; cases z
      | some u => exact S.gn a u q
    · exact .inr (S.own_of z)
theorem VR.unreg {Γ' : Ctx} {L' : Nat → List Addr} (S : StR K O Γ H G σ env L) (h : VR K (O.at K Γ H G L) Γ' H' G' L' n v d) : VR K O Γ' H' G' L' n v d := by
  obtain ⟨M, om, nd, ow, dj⟩ := h
  exact ⟨M, om, nd, fun a ha => S.own_of (ow a ha), dj⟩
/-- an address of no slot, not shown, is kept through -/
theorem StR.aside {Γ' : Ctx} {σ' : St} {env' : List D} {L' : Nat → List Addr} {p : Addr} {o : HO} (S : StR K O Γ H G σ env L) (S' : StR K (O.at K Γ H G L) Γ' H' G' σ' env' L') (hp : H p = some o) (hg : G p = none) (hl : ∀ i m, At Γ i m → p ∉ L i) (hk : HK p (some o) := by first | exact .lst | exact .dK | exact .frz | exact .dn) :
    H' p = some o ∧ G' p = none ∧ ∀ i m, At Γ' i m → p ∉ L' i := by
  have no : ¬ (O.at K Γ H G L).own p := fun h => by
    rcases h with h | h
    · have h := S.pres.nt_no (a := p) h (by rw [hp]; exact hk)
      rw [hp] at h; cases h
    · obtain ⟨i, m, hi, ha⟩ := mem_allL.mp h
      exact hl i m hi ha
  refine ⟨S'.pres p o (S.pres.nt hp hk) fun hm => no (.inr hm), ?_, fun i m hi ha => no (S'.new i m hi p ha)⟩
  cases q : G' p with
  | none => rfl
  | some u =>
    rcases S'.gn p u q with z | z
    · change (G p).isSome = true at z; rw [hg] at z; cases z
    · exact absurd z no
theorem StR.put {p : Addr} {o : HO} (S : StR K O Γ H G σ env L) (hg : G p = none) (hl : ∀ i m, At Γ i m → p ∉ L i) (ho : O.own p) (hk : HK p (H p) := by first | exact HK.of_none (by assumption) | exact HK.of_lst (by assumption) | exact HK.of_dK (by assumption)) : StR K O Γ (upd H p o) G σ env L := by
  refine ⟨fun a u e => ?_, S.ls, S.lg, fun i m hi => ?_, S.nd, S.dj, S.new, S.pres.put ho hk, S.gn, S.io⟩
  · rw [upd_ne (ne_G e hg)]; exact S.gh a u e
  · obtain ⟨v, d, e1, e2, om⟩ := S.slot i m hi
    refine ⟨v, d, e1, e2, om.mono (fun _ _ e => e) (.inr (NT.refl _)) fun a ha => ⟨?_, (om.objs a ha).1⟩⟩
    rw [upd_ne fun z => hl i m hi (by rw [← z]; exact ha)]
end
/-- new things alone -/
structure Ext (G : Gp) (H : Hp) (G' : Gp) (H' : Hp) : Prop where
  gg : SameG G G'
  gh : Sh G' H'
  hh : Same H H'
  new : ∀ (a : Addr) o, G' a = some o → G a = none → H a = none
  nt : NT G G'
theorem Res.ext {K : KW} {G : Gp} {H : Hp} {G' : Gp} {H' : Hp} {n : Nat} {v : V} {d : D} (R : Res K G H n v d G' H') : Ext G H G' H' := ⟨R.gg, R.gh, R.hh, R.new, R.nt⟩
theorem StR.ext {K : KW} {O : Gh} {Γ : Ctx} {H H' : Hp} {G G' : Gp} {σ : St} {env : List D} {L : Nat → List Addr} (S : StR K O Γ H G σ env L) (R : Ext G H G' H') : StR K O Γ H' G' σ env L :=
  (S.res (n := 0) (v := .non) (d := .none) ⟨R.gg, R.gh, R.hh, R.new, R.nt, [], .rep .non, List.nodup_nil, fun a m => (by cases m)⟩).1
/-- what a walk hands on: a value that stands for d, or (wk) a tuple just made of such -/
def ItR (wk : Bool) (K : KW) (G : Gp) (H : Hp) (v : V) (d : D) : Prop := Rep K G v d ∨ (wk = true ∧ ∃ T vs ds, v = .ref T ∧ SqT K.fr H T vs ∧ d = .tuple ds ∧ RepL K G vs ds)
/-! ### targets -/
abbrev Gx := D → List D → Option (List D)
/-- the slots but those of ws are as they were -/
def Agree (ws : List Nat) (σ σ' : St) : Prop := σ'.length = σ.length ∧ ∀ j, j ∉ ws → σ'[j]? = σ[j]?
def tG (K : KW) (wk : Bool) (Γ Γ1 : Ctx) (gt : Gx) (ws : List Nat) : TG := fun v σ H Q => ∃ (O : Gh) (G : Gp) (env : List D) (L : Nat → List Addr) (d : D) (env' : List D), StR K O Γ H G σ env L ∧ ItR wk K G H v d ∧ gt d env = some env' ∧
  ∀ σ' H' G' L', StR K O Γ1 H' G' σ' env' L' → SameG G G' → Agree ws σ σ' → Q σ' H'
theorem _root_.L2.PG.imp {X : Cx} {e : Expr} {t t' : TG} (h : PG X e t) (k : ∀ v σ H Q, t' v σ H Q → t v σ H Q) : PG X e t' := ⟨fun pins s σ H v u Q I r q => h.run pins s σ H v u Q I r (k v σ H Q q)⟩
theorem _root_.L2.PGs.imp {X : Cx} {e : List Expr} {t t' : TGs} (h : PGs X e t) (k : ∀ v σ H Q, t' v σ H Q → t v σ H Q) : PGs X e t' := ⟨fun pins s σ H v u Q I r q => h.run pins s σ H v u Q I r (k v σ H Q q)⟩
theorem _root_.L2.PI.imp {X : Cx} {tg e : Expr} {t t' : TI} (h : PI X tg e t) (k : ∀ σ H Q, t' σ H Q → t σ H Q) : PI X tg e t' := ⟨fun pins s σ H R I q => h.run pins s σ H R I (k σ H R q)⟩
def gtName (i : Nat) : Gx := fun d env => some (env.set i d)
def tGs (K : KW) (Γ Γ1 : Ctx) (gt : List D → List D → Option (List D)) (ws : List Nat) : TGs := fun vs σ H Q => ∃ (O : Gh) (G : Gp) (env : List D) (L : Nat → List Addr) (ds : List D) (env' : List D), StR K O Γ H G σ env L ∧ RepL K G vs ds ∧ gt ds env = some env' ∧
  ∀ σ' H' G' L', StR K O Γ1 H' G' σ' env' L' → SameG G G' → Agree ws σ σ' → Q σ' H'
def gtNil : List D → List D → Option (List D) := fun ds env => match ds with | [] => some env | _ => none
def gtCons (g : Gx) (h : List D → List D → Option (List D)) : List D → List D → Option (List D) := fun ds env => match ds with | d :: r => (g d env).bind fun e => h r e | _ => none
def gtTup (n : Nat) (g : List D → List D → Option (List D)) : Gx := fun d env => match d with | .tuple ds => if ds.length = n then g ds env else none | _ => none
section
variable {X : Cx} {Γ Γ1 Γ2 : Ctx} {pos : Pos} {ws us : List Nat}
theorem Agree.trans {σ σ1 σ2 : St} (a : Agree ws σ σ1) (b : Agree us σ1 σ2) : Agree (ws ++ us) σ σ2 :=
  ⟨b.1.trans a.1, fun j hj => (b.2 j fun h => hj (List.mem_append_right _ h)).trans (a.2 j fun h => hj (List.mem_append_left _ h))⟩
theorem t_name (i : Nat) {x : Str} (hN : X.N.Nodup) (hi : X.N[i]? = some x := by rfl) (hx : Loc X.env.scope x := by first | exact Or.inl rfl | exact Or.inr rfl) (hg : notIo Γ[i]? = true := by rfl) (hf : X.fn x = true ∨ X.env.scope.names.lookup x = some .local := by first | exact .inl rfl | exact .inr rfl | assumption) :
    PG X (.Name x pos) (tG X.kw false Γ (Γ.set i (.ow 0)) (gtName i) [i]) :=
  (pg_name hN hi hx hf).imp fun v σ H Q ⟨O, G, env, L, d, env1, S, r, e, k⟩ => by
    simp only [gtName, Option.some.injEq] at e
    subst e
    have r : Rep X.kw G v d := by
      rcases r with r | ⟨z, _⟩
      · exact r
      · cases z
    obtain ⟨L2, S2⟩ := S.set (VR.of_rep r) (notIo_lt hg).1 (notIo_lt hg).2
    exact k _ H G L2 S2 (fun _ _ e => e) ⟨by simp, fun j hj => List.getElem?_set_ne fun z => hj (by simp [z])⟩
theorem ts_nil : PGs X [] (tGs X.kw Γ Γ gtNil []) := pgs_nil.imp fun v σ H Q ⟨O, G, env, L, ds, env1, S, r, e, k⟩ => by
  unfold gtNil at e
  split at e
  · cases r
    simp only [Option.some.injEq] at e
    subst e
    exact ⟨rfl, k σ H G L S (fun _ _ e => e) ⟨rfl, fun _ _ => rfl⟩⟩
  · cases e
theorem ts_cons {e : Expr} {es : List Expr} {g : Gx} {h : List D → List D → Option (List D)} (h1 : PG X e (tG X.kw false Γ Γ1 g ws)) (h2 : PGs X es (tGs X.kw Γ1 Γ2 h us))
    (hs : (assignEach (e :: es) X.env).map (·.2) = assign e X.env :: (assignEach es X.env).map (·.2) := by rfl) : PGs X (e :: es) (tGs X.kw Γ Γ2 (gtCons g h) (ws ++ us)) :=
  (pgs_cons h1 h2 hs).imp fun v σ H Q ⟨O, G, env, L, ds, env2, S, r, e, k⟩ => by
    unfold gtCons at e
    cases r with
    | nil => cases e
    | cons r rr =>
      rename_i d vs ds v
      simp only at e
      cases q : g d env with
      | none => rw [q] at e; cases e
      | some env1 =>
        rw [q] at e
        simp only [Option.bind_some] at e
        exact ⟨_, _, rfl, O, G, env, L, d, env1, S, .inl r, q, fun σ1 H1 G1 L1 S1 s1 a1 => ⟨O, G1, env1, L1, ds, env2, S1, rr.mono s1, e, fun σ2 H2 G2 L2 S2 s2 a2 => k σ2 H2 G2 L2 S2 (s1.trans s2) (a1.trans a2)⟩⟩
theorem t_tup {wk : Bool} {es : List Expr} {kk : Nat} {h : List D → List D → Option (List D)} (n : Nat) (hc : X.calm = true) (h1 : PGs X es (tGs X.kw Γ Γ1 h ws)) (hn : (assignEach es X.env).length = n := by rfl) (hst : (assignEach es X.env).findIdx? (·.1) = none := by rfl) :
    PG X (.Tuple es kk pos) (tG X.kw wk Γ Γ1 (gtTup n h) ws) :=
  (pg_tup hc h1 hn hst).imp fun v σ H Q ⟨O, G, env, L, d, env1, S, r, e, k⟩ => by
    unfold gtTup at e
    rcases r with r | ⟨_, T, vs, ds, rfl, q, rfl, rr⟩
    · cases r with
      | tup q rr =>
        simp only at e
        split at e
        · rename_i hl
          exact ⟨_, _, rfl, sqT_sh S.gh q.sqT, by rw [rr.length]; exact hl, O, G, env, L, _, env1, S, rr, e, k⟩
        · cases e
      | _ => cases e
    · simp only at e
      split at e
      · rename_i hl
        exact ⟨_, _, rfl, q, by rw [rr.length]; exact hl, O, G, env, L, _, env1, S, rr, e, k⟩
      · cases e
end
/-! ### walks -/
/-- as long as G stands, J yields ds -/
structure WalkD (K : KW) (wk : Bool) (G : Gp) (J : It) (ds : List D) : Prop where
  go : ∀ i H, Sh G H → i < ds.length → J.go i H
  stop : ∀ i H, Sh G H → i = ds.length → J.stop i H
  yld : ∀ i H x H' G1, SameG G G1 → Sh G1 H → J.yld i H x H' → i < ds.length → ∃ d G2, ds[i]? = some d ∧ Ext G1 H G2 H' ∧ ItR wk K G2 H' x d
abbrev Ix := List D → Option (List D × List D)
def tI (K : KW) (wk : Bool) (Γ : Ctx) (fi : Ix) : TI := fun σ H R => ∃ (O : Gh) (G : Gp) (env : List D) (L : Nat → List Addr) (ds env' : List D), StR K O Γ H G σ env L ∧ fi env = some (ds, env') ∧
  ∀ J H' G' L', StR K O Γ H' G' σ env' L' → SameG G G' → WalkD K wk G' J ds → R J H'
def itemsD : D → Option (List D)
  | .list xs => some xs
  | .tuple xs => some xs
  | _ => none
def iSq (f : Ex) : Ix := fun env => (f env).bind fun p => (itemsD p.1).map fun ds => (ds, p.2)
def okR (j : Int) : Bool := decide (-(2 ^ 62) ≤ j) && decide (j < 2 ^ 62)
def upTo (n : Nat) : List D := (List.range n).map fun (k : Nat) => .int k
def iRg1 (f : Ex) : Ix := fun env => (f env).bind fun p => match p.1 with
  | .int j => if okR j = true then some (upTo j.toNat, p.2) else none
  | _ => none
def enumFrom (k : Nat) : List D → List D
  | [] => []
  | x :: xs => .tuple [.int (k : Nat), x] :: enumFrom (k + 1) xs
def iEn (f : Ex) : Ix := fun env => (f env).bind fun p => match p.1 with
  | .list xs => some (enumFrom 0 xs, p.2)
  | .tuple xs => some (enumFrom 0 xs, p.2)
  | _ => none
section
variable {K : KW} {wk : Bool} {G : Gp} {a : Addr} {vs : List V} {ds : List D}
theorem Ext.refl {G : Gp} {H : Hp} (s : Sh G H) : Ext G H G H := ⟨(fun _ _ e => e), s, (fun _ _ e => e), fun a o e n => (by rw [n] at e; cases e), NT.refl _⟩
theorem walk_list (q : SqL K.fr G a vs) (r : RepL K G vs ds) : WalkD K wk G (Itl K.fr a) ds where
  go := fun i H s h => ⟨vs, _, sqL_sh s q, List.getElem?_eq_getElem (by rw [r.length]; exact h)⟩
  stop := fun i H s h => ⟨vs, sqL_sh s q, by rw [r.length, h]; exact Nat.le_refl _⟩
  yld := fun i H x H' G1 s1 s2 ⟨e, y⟩ h => by
    subst e
    have hx := y vs (sqL_sh (s1.sh s2) q)
    obtain ⟨d, e1, r1⟩ := r.getV hx
    exact ⟨d, G1, e1, .refl s2, .inl (r1.mono s1)⟩
theorem walk_tup (q : SqT K.fr G a vs) (r : RepL K G vs ds) : WalkD K wk G (Itt K.fr a) ds where
  go := fun i H s h => ⟨vs, _, sqT_sh s q, List.getElem?_eq_getElem (by rw [r.length]; exact h)⟩
  stop := fun i H s h => ⟨vs, sqT_sh s q, by rw [r.length, h]; exact Nat.le_refl _⟩
  yld := fun i H x H' G1 s1 s2 ⟨e, y⟩ h => by
    subst e
    have hx := y vs (sqT_sh (s1.sh s2) q)
    obtain ⟨d, e1, r1⟩ := r.getV hx
    exact ⟨d, G1, e1, .refl s2, .inl (r1.mono s1)⟩
theorem walk_range {lo : Int} {n : Nat} : WalkD K wk G (Itr lo n) ((List.range n).map fun (k : Nat) => .int (lo + k)) where
  go := fun i H s h => by show i < n; simpa using h
  stop := fun i H s h => by rw [h]; simp [Itr]
  yld := fun i H x H' G1 s1 s2 ⟨e, y⟩ h => by
    subst e y
    rw [List.length_map, List.length_range] at h
    exact ⟨_, G1, by rw [List.getElem?_map, List.getElem?_range h]; rfl, .refl s2, .inl (.int _)⟩
end
section
variable {X : Cx} {wk : Bool} {Γ : Ctx} {tg l : Expr} {f : Ex}
/-- a list or a tuple -/
def iSeqT (K : KW) (tl : TE) : TI := fun σ H R => tl σ H fun x H1 => ∃ a, x = .ref a ∧ (((∃ xs, SqL K.fr H1 a xs) ∧ R (Itl K.fr a) H1) ∨ ((∃ xs, SqT K.fr H1 a xs) ∧ R (Itt K.fr a) H1))
theorem pi_seq {tl : TE} (hl : PE X l tl) : PI X tg l (iSeqT X.kw tl) := by
  refine ⟨fun pins s σ H R I h => ?_⟩
  refine thn (hl.run pins s σ H _ I h) fun v s1 ⟨x, H1, I1, r1, q1⟩ => ?_
  obtain ⟨a, e, q1⟩ := q1
  subst e
  cases r1
  rcases q1 with ⟨⟨xs, hq⟩, q⟩ | ⟨⟨xs, hq⟩, q⟩
  · obtain ⟨its, rv, p, hz⟩ := I1.list hq
    refine wpAny_pyIter_list p.isList ?_
    refine ⟨s1.heap.objs.size, [s1.heap.objs.size], _, _, H1, rfl, I1.kept (t' := s1.toks) fun b o e => Heap.get?_push_of_some _ e, turn_list a _, ⟨_, Heap.get?_push_size _ rfl, rfl, rfl⟩, fun b hb => ?_, q⟩
    have e : b = s1.heap.objs.size := by simpa using hb
    subst e
    exact I1.fpOk (Nat.le_refl _) (I1.hok.fresh (Nat.le_refl _))
  · obtain ⟨its, rv, p, hz⟩ := I1.tuple hq
    refine wpAny_pyIter_tuple (show s1.heap.IsTuple a its.toArray from p) ?_
    refine ⟨s1.heap.objs.size, [s1.heap.objs.size], _, _, H1, rfl, I1.kept (t' := s1.toks) fun b o e => Heap.get?_push_of_some _ e, turn_tuple a _, ⟨_, Heap.get?_push_size _ rfl, rfl, rfl⟩, fun b hb => ?_, q⟩
    have e : b = s1.heap.objs.size := by simpa using hb
    subst e
    exact I1.fpOk (Nat.le_refl _) (I1.hok.fresh (Nat.le_refl _))
theorem i_seq (hl : PE X l (tM X.kw Γ f 0)) : PI X tg l (tI X.kw wk Γ (iSq f)) :=
  (pi_seq hl).imp fun σ H R ⟨O, G, env, L, ds, env2, S, e, k⟩ => by
    unfold iSq at e
    cases q : f env with
    | none => rw [q] at e; cases e
    | some p =>
      rw [q] at e
      simp only [Option.bind_some] at e
      obtain ⟨d, env1⟩ := p
      refine ⟨O, G, env, L, d, env1, S, q, fun v H1 G1 L1 S1 s1 v1 => ?_⟩
      have r := v1.rep
      cases r with
      | lst hq rr =>
        simp only [itemsD, Option.map_some, Option.some.injEq, Prod.mk.injEq] at e
        obtain ⟨rfl, rfl⟩ := e
        exact ⟨_, rfl, .inl ⟨⟨_, SqL.of (S1.gh _ _ hq)⟩, k _ H1 G1 L1 S1 s1 (walk_list (SqL.of hq) rr)⟩⟩
      | tup hq rr =>
        simp only [itemsD, Option.map_some, Option.some.injEq, Prod.mk.injEq] at e
        obtain ⟨rfl, rfl⟩ := e
        exact ⟨_, rfl, .inr ⟨⟨_, sqT_sh S1.gh hq.sqT⟩, k _ H1 G1 L1 S1 s1 (walk_tup hq.sqT rr)⟩⟩
      | _ => cases e
theorem okR_iff {j : Int} : okR j = true ↔ -(2 ^ 62) ≤ j ∧ j < 2 ^ 62 := by unfold okR; simp only [Bool.and_eq_true, decide_eq_true_eq]
theorem i_range1 {a : Expr} {p pos : Pos} (hg : Gl X "range") (hm : X.mg "range" = none) (ha : PE X a (tM X.kw Γ f 0)) (hs : starEach [a] X.env = [(false, eval a X.env)] := by rfl) : PI X tg (.Call (.Name "range" p) [a] [] pos) (tI X.kw wk Γ (iRg1 f)) :=
  (pi_range1 hg hm (a_cons ha a_nil hs) hs).imp fun σ H R ⟨O, G, env, L, ds, env2, S, e, k⟩ => by
    unfold iRg1 at e
    cases q : f env with
    | none => rw [q] at e; cases e
    | some p =>
      rw [q] at e
      simp only [Option.bind_some] at e
      obtain ⟨d, env1⟩ := p
      cases d with
      | int j =>
        simp only at e
        split at e
        · rename_i hj
          simp only [Option.some.injEq, Prod.mk.injEq] at e
          obtain ⟨rfl, rfl⟩ := e
          refine ⟨O, G, env, L, [.int j], env1, S, by simp [evs, q], fun vs H1 G1 L1 S1 s1 r1 => ?_⟩
          cases r1 with
          | cons r rr =>
            cases rr
            cases r
            refine ⟨j, rfl, (okR_iff.mp hj).1, (okR_iff.mp hj).2, k _ H1 G1 L1 S1 s1 ?_⟩
            have w := walk_range (K := X.kw) (wk := wk) (G := G1) (lo := 0) (n := j.toNat)
            have e' : ((List.range j.toNat).map fun (k : Nat) => (.int (0 + (k : Int)) : D)) = upTo j.toNat := by unfold upTo; congr 1; funext k; rw [Int.zero_add]
            rw [e'] at w; exact w
        · cases e
      | _ => cases e
end
/-! ### for -/
def forL (gt : Gx) (gb : Sx) : List D → Sx
  | [], env => some (.nx env)
  | d :: ds, env => (gt d env).bind fun e1 => (gb e1).bind fun o => match o with
    | .nx e => forL gt gb ds e
    | .ct e => forL gt gb ds e
    | .bk e => some (.nx e)
    | .rt r e => some (.rt r e)
def forD (fi : Ix) (gt : Gx) (gb : Sx) : Sx := fun env => (fi env).bind fun p => forL gt gb p.1 p.2
section
variable {X : Cx} {Γ Γ1 : Ctx} {T : Tg} {tg iter : Expr} {body : List Stmt} {pos : Pos} {fi : Ix} {gt : Gx} {gb : Sx} {ws : List Nat} {wk : Bool}
theorem s_for (hc : X.calm = true) (hi : PI X tg iter (tI X.kw wk Γ fi)) (hg : PG X tg (tG X.kw wk Γ Γ1 gt ws)) (hb : PSs X body (tS X.kw { T with bk := Γ, ct := Γ } Γ1 Γ gb)) (hp : PassesOwn (model X.prog X.w) X.A X.env X.xe)
    (hs : ∀ x, foldedSetIterable iter X.env x = pure x := by intro _; rfl) : PS X (.For tg iter body [] pos) (tS X.kw T Γ Γ (forD fi gt gb)) :=
  (ps_for hp hc hi hg hb hs).imp fun E σ H ⟨O, G, env, L, o, S, e, k⟩ => by
    unfold forD at e
    cases q : fi env with
    | none => rw [q] at e; cases e
    | some p =>
      rw [q] at e
      simp only [Option.bind_some] at e
      obtain ⟨ds, env1⟩ := p
      refine ⟨O, G, env, L, ds, env1, S, q, fun J H1 G1 L1 S1 s1 w => ?_⟩
      refine ⟨fun i m σ H => m = ds.length - i ∧ i ≤ ds.length ∧ ∃ G2 env2 L2 o2, StR X.kw O Γ H G2 σ env2 L2 ∧ SameG G1 G2 ∧ forL gt gb (ds.drop i) env2 = some o2 ∧ Post X.kw T Γ O G2 E o2, ⟨ds.length, rfl, Nat.zero_le _, G1, env1, L1, o, S1, (fun _ _ e => e), e, k.from s1⟩, ?_⟩
      rintro i m σ2 H2 ⟨rfl, hle, G2, env2, L2, o2, S2, s2, e2, k2⟩
      by_cases hlt : i < ds.length
      · rw [List.drop_eq_getElem_cons hlt] at e2
        simp only [forL] at e2
        cases q1 : gt ds[i] env2 with
        | none => rw [q1] at e2; cases e2
        | some e3 =>
          rw [q1] at e2
          simp only [Option.bind_some] at e2
          cases q2 : gb e3 with
          | none => rw [q2] at e2; cases e2
          | some o3 =>
            rw [q2] at e2
            simp only [Option.bind_some] at e2
            refine .inr ⟨w.go i H2 (s2.sh S2.gh) hlt, fun σ' H' => ∃ G4 env4 L4, StR X.kw O Γ H' G4 σ' env4 L4 ∧ SameG G2 G4 ∧ forL gt gb (ds.drop (i + 1)) env4 = some o2, fun σ' H' ⟨G4, env4, L4, S4, s4, e4⟩ => ⟨ds.length - (i + 1), by omega, rfl, hlt, G4, env4, L4, o2, S4, s2.trans s4, e4, k2.from s4⟩, fun x H' y => ?_⟩
            obtain ⟨d, G3, hd, R, rx⟩ := w.yld i H2 x H' G2 s2 S2.gh y hlt
            rw [List.getElem?_eq_getElem hlt] at hd
            cases hd
            have S3 := S2.ext R
            refine ⟨O, G3, env2, L2, ds[i], e3, S3, rx, q1, fun σ4 H4 G4 L4 S4 s4 _ => ?_⟩
            refine ⟨O, G4, e3, L4, o3, S4, q2, ?_⟩
            have g24 : SameG G2 G4 := R.gg.trans s4
            cases o3 with
            | nx e5 => exact fun σ' H' G' L' S' s' => ⟨G', e5, L', S', g24.trans s', e2⟩
            | ct e5 => exact fun σ' H' G' L' S' s' => ⟨G', e5, L', S', g24.trans s', e2⟩
            | bk e5 =>
              simp only [Option.some.injEq] at e2
              subst e2
              exact fun σ' H' G' L' S' s' => k2 σ' H' G' L' S' (g24.trans s')
            | rt r e5 =>
              simp only [Option.some.injEq] at e2
              subst e2
              exact fun v σ' H' G' L' S' s' v' => k2 v σ' H' G' L' S' (g24.trans s') v'
      · have ei : i = ds.length := by omega
        rw [ei, List.drop_length] at e2
        simp only [forL, Option.some.injEq] at e2
        subst e2
        exact .inl ⟨w.stop i H2 (s2.sh S2.gh) ei, k2 σ2 H2 G2 L2 S2 (fun _ _ e => e)⟩
end
end VL
set_option Elab.async false
set_option linter.all false
set_option maxRecDepth 100000
/-! VL6: list comprehensions; while. -/
namespace VL
open PySem PySem.Spec L2
def restore (vs : List Nat) (env0 env : List D) : List D := env.mapIdx fun i d => if i ∈ vs then env0.getD i d else d
/-- one pass of a comprehension: the items made, the environment behind -/
def lcL (gt : Gx) (tt : Bx) (fe : Ex) : List D → List D → Option (List D × List D)
  | [], env => some ([], env)
  | d :: ds, env => (gt d env).bind fun e1 => (tt e1).bind fun p => if p.1 = true then (fe p.2).bind fun q => (lcL gt tt fe ds q.2).map fun r => (q.1 :: r.1, r.2) else lcL gt tt fe ds p.2
def lcD (vs : List Nat) (fi : Ix) (gt : Gx) (tt : Bx) (fe : Ex) : Ex := fun env => (fi env).bind fun p => (lcL gt tt fe p.1 p.2).bind fun q => if q.1.length ≤ 1000000 then some (.list q.1, restore vs env q.2) else none
def bYes : Bx := fun env => some (true, env)
section
variable {K : KW} {O : Gh} {Γ Δ : Ctx} {H H' : Hp} {G G' : Gp} {σ : St} {env : List D} {L : Nat → List Addr}
theorem wipe_get {σ : St} : ∀ {vs : List Nat} {j : Nat}, j ∉ vs → (wipe σ vs)[j]? = σ[j]?
  | [], _, _ => rfl
  | v :: vs, j, h => by
    unfold wipe
    rw [List.getElem?_set_ne fun z => h (by simp [z]), wipe_get fun z => h (List.mem_cons_of_mem _ z)]
theorem wipe_in {σ : St} : ∀ {vs : List Nat} {j : Nat}, j ∈ vs → j < σ.length → (wipe σ vs)[j]? = some none
  | v :: vs, j, h, hl => by
    unfold wipe
    by_cases e : v = j
    · subst e; rw [List.getElem?_set_self (by rw [wipe_length]; exact hl)]
    · rw [List.getElem?_set_ne e]
      exact wipe_in (by rcases List.mem_cons.mp h with z | z; exact absurd z.symm e; exact z) hl
theorem wipe_eq {σ σ' : St} {vs : List Nat} (hl : σ'.length = σ.length) (h : ∀ j, j ∉ vs → σ'[j]? = σ[j]?) : wipe σ' vs = wipe σ vs := by
  refine List.ext_getElem? fun j => ?_
  by_cases hj : j ∈ vs
  · by_cases hlt : j < σ.length
    · rw [wipe_in hj (by rw [hl]; exact hlt), wipe_in hj hlt]
    · rw [List.getElem?_eq_none (by rw [wipe_length, hl]; omega), List.getElem?_eq_none (by rw [wipe_length]; omega)]
  · rw [wipe_get hj, wipe_get hj, h j hj]
theorem StR.wiped {vs : List Nat} (S : StR K O Γ H G σ env L) (hv : ∀ j ∈ vs, Γ[j]? = some .un) : StR K O Γ H G (wipe σ vs) env L := by
  have ne : ∀ j m, At Γ j m → j ∉ vs := fun j m ⟨k, e1, e2⟩ z => by rw [hv j z] at e1; cases e1; cases e2
  refine ⟨S.gh, by rw [wipe_length]; exact S.ls, S.lg, fun j m hj => ?_, S.nd, S.dj, S.new, S.pres, S.gn, fun j m e => ?_⟩
  · obtain ⟨v, d, e1, e2, o⟩ := S.slot j m hj
    exact ⟨v, d, by rw [wipe_get (ne j m hj)]; exact e1, e2, o⟩
  · obtain ⟨v, e1, e2⟩ := S.io j m e
    exact ⟨v, e1, by rw [wipe_get (ne j m ⟨_, e, rfl⟩)]; exact e2⟩
/-- from the wiped slots back; the forgotten data are as one likes -/
theorem StR.unwiped {vs : List Nat} {env0 : List D} (S : StR K O Γ H G (wipe σ vs) env L) (hv : ∀ j ∈ vs, Γ[j]? = some .un) : StR K O Γ H G σ (restore vs env0 env) L := by
  have ne : ∀ j m, At Γ j m → j ∉ vs := fun j m ⟨k, e1, e2⟩ z => by rw [hv j z] at e1; cases e1; cases e2
  refine ⟨S.gh, by rw [← wipe_length σ vs, S.ls]; unfold restore; simp, by unfold restore; simp [S.lg], fun j m hj => ?_, S.nd, S.dj, S.new, S.pres, S.gn, fun j m e => ?_⟩
  · obtain ⟨v, d, e1, e2, o⟩ := S.slot j m hj
    refine ⟨v, d, by rw [wipe_get (ne j m hj)] at e1; exact e1, ?_, o⟩
    unfold restore
    rw [List.getElem?_mapIdx, e2]
    simp [ne j m hj]
  · obtain ⟨v, e1, e2⟩ := S.io j m e
    exact ⟨v, e1, by rw [wipe_get (ne j m ⟨_, e, rfl⟩)] at e2; exact e2⟩
end
theorem million_ok {n : Nat} (h : n < 1000000) : n < sizeLine := Nat.lt_of_lt_of_le h (by decide)
def unAll (Γ : Ctx) (vs : List Nat) : Bool := vs.all fun j => decide (Γ[j]? = some .un)
theorem unAll_get {Γ : Ctx} {vs : List Nat} (h : unAll Γ vs = true) : ∀ j ∈ vs, Γ[j]? = some .un := fun j hj => of_decide_eq_true (List.all_eq_true.mp h j hj)
section
variable {X : Cx} {Γ Γ1 : Ctx} {T : Tg} {tg iter elt : Expr} {ifs : List Expr} {pos : Pos} {fi : Ix} {gt : Gx} {tt : Bx} {fe : Ex} {ws : List Nat} {wk : Bool}
/-- the reading of a comprehension over data -/
theorem tLc_of {vs : List Nat} {σ : St} {H : Hp} {Q : VK} (hu : unAll Γ vs = true) (hw : ws.all (fun j => decide (j ∈ vs)) = true) (hl1 : wkB Γ1 Γ = true) (h : tM X.kw Γ (lcD vs fi gt tt fe) 1 σ H Q) :
    tLc (tI X.kw wk Γ fi) (tG X.kw wk Γ Γ1 gt ws) (tMT X.kw Γ1 tt) (tM X.kw Γ1 fe 0) vs σ H Q := by
  obtain ⟨O, G, env, L, r, env2, S, e, k⟩ := h
  have hu' := unAll_get hu
  have hw' : ∀ j, j ∈ ws → j ∈ vs := fun j hj => of_decide_eq_true (List.all_eq_true.mp hw j hj)
  unfold lcD at e
  cases q : fi env with
  | none => rw [q] at e; cases e
  | some p =>
    rw [q] at e
    simp only [Option.bind_some] at e
    obtain ⟨ds, env1⟩ := p
    simp only at e
    cases q2 : lcL gt tt fe ds env1 with
    | none => rw [q2] at e; cases e
    | some p2 =>
      rw [q2] at e
      simp only [Option.bind_some] at e
      split at e
      · rename_i hmil
        simp only [Option.some.injEq, Prod.mk.injEq] at e
        obtain ⟨rfl, rfl⟩ := e
        refine ⟨O, G, env, L, ds, env1, S, q, fun J H1 G1 L1 S1 s1 w P hP => ?_⟩
        have hg1 : G1 P = none := S1.gh.free hP
        have ownP : O.own P := by
          cases r : O.H0 P with
          | none => exact .inl r
          | some u =>
            by_cases hA : P ∈ O.A
            · exact .inr hA
            · rw [S1.pres P u r hA] at hP; cases hP
        have nP : ∀ i m, At Γ i m → P ∉ L1 i := fun i m hi ha => by
          obtain ⟨_, _, _, _, o⟩ := S1.slot i m hi
          have := (o.objs P ha).2.1
          rw [hP] at this; cases this
        -- the invariant
        refine ⟨fun i m H => m = ds.length - i ∧ i ≤ ds.length ∧ ∃ G2 env2 L2 acc dacc rest envE, StR X.kw O Γ H G2 (wipe σ vs) env2 L2 ∧ SameG G1 G2 ∧ H P = some (.lst acc) ∧ G2 P = none ∧ (∀ i m, At Γ i m → P ∉ L2 i) ∧ RepL X.kw G2 acc dacc ∧ lcL gt tt fe (ds.drop i) env2 = some (rest, envE) ∧ dacc ++ rest = p2.1 ∧ envE = p2.2,
          ⟨ds.length, rfl, Nat.zero_le _, G1, env1, L1, [], [], p2.1, p2.2, (S1.put hg1 nP ownP).wiped hu', (fun _ _ e => e), upd_same, hg1, nP, .nil, q2, rfl, rfl⟩, ?_⟩
        rintro i m H2 ⟨rfl, hle, G2, env2, L2, acc, dacc, rest, envE, S2, s2, hP2, gP2, nP2, racc, e2, eacc, eE⟩
        by_cases hlt : i < ds.length
        · rw [List.drop_eq_getElem_cons hlt] at e2
          simp only [lcL] at e2
          cases q3 : gt ds[i] env2 with
          | none => rw [q3] at e2; cases e2
          | some e3 =>
            rw [q3] at e2
            simp only [Option.bind_some] at e2
            cases q4 : tt e3 with
            | none => rw [q4] at e2; cases e2
            | some b4 =>
              rw [q4] at e2
              simp only [Option.bind_some] at e2
              refine .inr ⟨w.go i H2 (s2.sh S2.gh) hlt, fun H' => ∃ G2 env2 L2 acc dacc rest envE, StR X.kw O Γ H' G2 (wipe σ vs) env2 L2 ∧ SameG G1 G2 ∧ H' P = some (.lst acc) ∧ G2 P = none ∧ (∀ i m, At Γ i m → P ∉ L2 i) ∧ RepL X.kw G2 acc dacc ∧ lcL gt tt fe (ds.drop (i + 1)) env2 = some (rest, envE) ∧ dacc ++ rest = p2.1 ∧ envE = p2.2,
                fun H' h' => ⟨ds.length - (i + 1), by omega, rfl, hlt, h'⟩, fun x H3 y => ?_⟩
              obtain ⟨d, G3, hd, R, rx⟩ := w.yld i H2 x H3 G2 s2 S2.gh y hlt
              rw [List.getElem?_eq_getElem hlt] at hd
              cases hd
              have S3 := S2.ext R
              have hP3 : H3 P = some (.lst acc) := R.hh _ _ hP2
              have gP3 : G3 P = none := by
                cases z : G3 P with
                | none => rfl
                | some u => have := R.new P u z gP2; rw [hP2] at this; cases this
              -- from here on the state is an entry
              refine ⟨_, G3, env2, L2, ds[i], e3, S3.reg, rx, q3, fun σ4 H4 G4 L4 S4 s4 a4 => ⟨?_, ?_⟩⟩
              · refine wipe_eq (a4.1.trans (wipe_length σ vs)) fun j hj => ?_
                rw [a4.2 j fun z => hj (hw' j z), wipe_get hj]
              · refine ⟨_, G4, e3, L4, b4.1, b4.2, S4, q4, fun H5 G5 L5 S5 s5 => ?_⟩
                have fin : ∀ {H6 : Hp} {G6 : Gp} {L6 : Nat → List Addr} {env6 : List D}, StR X.kw (O.at X.kw Γ H3 G3 L2) Γ1 H6 G6 σ4 env6 L6 → SameG G5 G6 → ∃ G7 L7, SameG G6 G7 ∧ StR X.kw O Γ H6 G7 (wipe σ vs) env6 L7 ∧ H6 P = some (.lst acc) ∧ G7 P = none ∧ (∀ i m, At Γ i m → P ∉ L7 i) ∧ RepL X.kw G7 acc dacc ∧ SameG G1 G7 := by
                  intro H6 G6 L6 env6 S6 s6
                  obtain ⟨gg, S7, _⟩ := S6.weak hl1
                  obtain ⟨z1, z2, z3⟩ := S3.aside S7 hP3 gP3 nP2
                  have S8 := S3.unreg S7
                  refine ⟨_, _, gg, ?_, z1, z2, z3, racc.mono (((R.gg.trans s4).trans s5).trans (s6.trans gg)), (s2.trans ((R.gg.trans s4).trans s5)).trans (s6.trans gg)⟩
                  have : wipe σ4 vs = wipe σ vs := wipe_eq (a4.1.trans (wipe_length σ vs)) fun j hj => by rw [a4.2 j fun z => hj (hw' j z), wipe_get hj]
                  rw [← this]
                  exact S8.wiped hu'
                by_cases hb : b4.1 = true
                · rw [if_pos hb] at e2
                  show (if _ then _ else _)
                  rw [if_pos hb]
                  cases q5 : fe b4.2 with
                  | none => rw [q5] at e2; cases e2
                  | some p5 =>
                    rw [q5] at e2
                    simp only [Option.bind_some] at e2
                    cases q6 : lcL gt tt fe (ds.drop (i + 1)) p5.2 with
                    | none => rw [q6] at e2; cases e2
                    | some p6 =>
                      rw [q6] at e2
                      simp only [Option.map_some, Option.some.injEq, Prod.mk.injEq] at e2
                      obtain ⟨rfl, rfl⟩ := e2
                      refine ⟨_, G5, b4.2, L5, p5.1, p5.2, S5, q5, fun v H6 G6 L6 S6 s6 v6 => ?_⟩
                      obtain ⟨G7, L7, g67, S7, z1, z2, z3, r7, s7⟩ := fin S6 s6
                      have hlen : acc.length < 1000000 := by
                        have h1 : acc.length = dacc.length := r7.length
                        have h2 := congrArg List.length eacc
                        simp at h2
                        omega
                      refine ⟨acc, z1, million_ok hlen, G7, p5.2, L7, acc ++ [v], dacc ++ [p5.1], p6.1, p6.2, S7.put z2 z3 ownP, s7, upd_same, z2, z3, r7.append (.cons (v6.rep.mono g67) .nil), q6, by rw [List.append_assoc]; exact eacc, eE⟩
                · rw [if_neg hb] at e2
                  show (if _ then _ else _)
                  rw [if_neg hb]
                  obtain ⟨G7, L7, g67, S7, z1, z2, z3, r7, s7⟩ := fin S5 (fun _ _ e => e)
                  exact ⟨G7, b4.2, L7, acc, dacc, rest, envE, S7, s7, z1, z2, z3, r7, e2, eacc, eE⟩
        · have ei : i = ds.length := by omega
          rw [ei, List.drop_length] at e2
          simp only [lcL, Option.some.injEq, Prod.mk.injEq] at e2
          obtain ⟨rfl, rfl⟩ := e2
          refine .inl ⟨w.stop i H2 (s2.sh S2.gh) ei, ?_⟩
          rw [List.append_nil] at eacc
          subst eacc eE
          refine k (.ref P) H2 G2 L2 (S2.unwiped hu') (s1.trans s2) ⟨[P], .lst hP2 gP2 (ownL0 racc), by simp, fun a ha => by rw [List.mem_singleton.mp ha]; exact ownP, fun i m hi a ha hl => ?_⟩
          rw [List.mem_singleton.mp ha] at hl
          exact nP2 i m hi hl
      · cases e
theorem m_lc {scope : Scope} {own : List (Str × Nat)} (hc : X.calm = true) (hN : X.N.Nodup) (hi : PI X tg iter (tI X.kw wk Γ fi)) (ok : BlkOk X.N X.env.scope scope own)
    (hg : ∀ (s : Shared) (H : Hp) (C : Addr) (cl : List (Str × Addr)) (fp : List Addr), PG (X.blk s H scope (compEnvC scope cl C X.env) fp) tg (tG X.kw wk Γ Γ1 gt ws)) (ht : ∀ (s : Shared) (H : Hp) (C : Addr) (cl : List (Str × Addr)) (fp : List Addr), PTs (X.blk s H scope (compEnvC scope cl C X.env) fp) ifs (tMT X.kw Γ1 tt))
    (he : ∀ (s : Shared) (H : Hp) (C : Addr) (cl : List (Str × Addr)) (fp : List Addr), PE (X.blk s H scope (compEnvC scope cl C X.env) fp) elt (tM X.kw Γ1 fe 0)) (hu : unAll Γ (own.map (·.2)) = true := by rfl) (hw : ws.all (fun j => decide (j ∈ own.map (·.2))) = true := by rfl) (hl1 : wkB Γ1 Γ = true := by rfl)
    (hs : ∀ x, foldedSetIterable iter X.env x = pure x := by intro _; rfl) : PE X (.ListComp elt [⟨tg, iter, ifs, 0⟩] scope pos) (tM X.kw Γ (lcD (own.map (·.2)) fi gt tt fe) 1) :=
  (pe_lc hc hN hi ok hg ht he hs).imp fun σ H Q h => tLc_of hu hw hl1 h
theorem pts_yes : PTs X [] (tMT X.kw Γ bYes) := ⟨fun pins s σ H Q I h => pts_nil.run pins s σ H Q I (by
  obtain ⟨O, G, env, L, r, env1, S, e, k⟩ := h
  simp only [bYes, Option.some.injEq, Prod.mk.injEq] at e
  obtain ⟨rfl, rfl⟩ := e
  exact k H G L S (fun _ _ e => e))⟩
end
/-! ### while -/
def whileF (c : Bx) (g : Sx) : Nat → Sx
  | 0, _ => none
  | k + 1, env => (c env).bind fun p => if p.1 = true then (g p.2).bind fun o => match o with
    | .nx e => whileF c g k e
    | .ct e => whileF c g k e
    | .bk e => some (.nx e)
    | .rt r e => some (.rt r e)
    else some (.nx p.2)
section
variable {X : Cx} {Γ : Ctx} {T : Tg} {c : Expr} {body : List Stmt} {pos : Pos} {gc : Bx} {gb : Sx}
/-- with some number of turns that is enough -/
theorem s_while (μ : List D → Nat) (hc : PT X c (tMT X.kw Γ gc)) (hb : PSs X body (tS X.kw { T with bk := Γ, ct := Γ } Γ Γ gb)) (hp : PassesOwn (model X.prog X.w) X.A X.env X.xe) : PS X (.While c body [] pos) (tS X.kw T Γ Γ (fun env => whileF gc gb (μ env) env)) :=
  (ps_while hp hc hb).imp fun E σ H ⟨O, G, env, L, o, S, e, k⟩ => by
    refine ⟨fun m σ H => ∃ G2 env2 L2 o2, StR X.kw O Γ H G2 σ env2 L2 ∧ whileF gc gb m env2 = some o2 ∧ Post X.kw T Γ O G2 E o2, ⟨μ env, G, env, L, o, S, e, k⟩, ?_⟩
    rintro m σ2 H2 ⟨G2, env2, L2, o2, S2, e2, k2⟩
    cases m with
    | zero => cases e2
    | succ m =>
      simp only [whileF] at e2
      cases q : gc env2 with
      | none => rw [q] at e2; cases e2
      | some p =>
        rw [q] at e2
        simp only [Option.bind_some] at e2
        refine ⟨O, G2, env2, L2, p.1, p.2, S2, q, fun H3 G3 L3 S3 s3 => ?_⟩
        by_cases hb : p.1 = true
        · rw [if_pos hb] at e2
          show (if _ then _ else _)
          rw [if_pos hb]
          cases q2 : gb p.2 with
          | none => rw [q2] at e2; cases e2
          | some o3 =>
            rw [q2] at e2
            simp only [Option.bind_some] at e2
            refine ⟨fun σ' H' => ∃ G4 env4 L4, StR X.kw O Γ H' G4 σ' env4 L4 ∧ SameG G2 G4 ∧ whileF gc gb m env4 = some o2, fun σ' H' ⟨G4, env4, L4, S4, s4, e4⟩ => ⟨m, Nat.lt_succ_self _, G4, env4, L4, o2, S4, e4, k2.from s4⟩, O, G3, p.2, L3, o3, S3, q2, ?_⟩
            cases o3 with
            | nx e5 => exact fun σ' H' G' L' S' s' => ⟨G', e5, L', S', s3.trans s', e2⟩
            | ct e5 => exact fun σ' H' G' L' S' s' => ⟨G', e5, L', S', s3.trans s', e2⟩
            | bk e5 =>
              simp only [Option.some.injEq] at e2
              subst e2
              exact fun σ' H' G' L' S' s' => k2 σ' H' G' L' S' (s3.trans s')
            | rt r e5 =>
              simp only [Option.some.injEq] at e2
              subst e2
              exact fun v σ' H' G' L' S' s' v' => k2 v σ' H' G' L' S' (s3.trans s') v'
        · rw [if_neg hb] at e2
          show (if _ then _ else _)
          rw [if_neg hb]
          simp only [Option.some.injEq] at e2
          subst e2
          exact k2 σ2 H3 G3 L3 S3 s3
end
end VL
set_option Elab.async false
set_option linter.all false
set_option maxRecDepth 100000
/-! VL7: lists that are changed. -/
namespace VL
open PySem PySem.Spec L2
/-- as long as any list here gets -/
def lim : Nat := 1000000
theorem lim_lt {n : Nat} (h : n < lim) : n < sizeLine := million_ok h
theorem lim_le {n : Nat} (h : n ≤ lim) : n ≤ sizeLine := Nat.le_trans h (by decide)
section
variable {K : KW} {O : Gh} {Γ Δ : Ctx} {H H' : Hp} {G G' : Gp} {σ : St} {env : List D} {L : Nat → List Addr} {n i : Nat} {v : V} {d : D}
/-- an owned list -/
theorem StR.lst1 {ds : List D} (S : StR K O Γ H G σ env L) (hi : At Γ i 1) (hd : env[i]? = some (.list ds)) : ∃ a vs, σ[i]? = some (some (.ref a)) ∧ H a = some (.lst vs) ∧ G a = none ∧ L i = [a] ∧ RepL K G vs ds := by
  obtain ⟨v, d, e1, e2, o⟩ := S.slot i 1 hi
  rw [hd] at e2
  cases e2
  generalize hL : L i = M at o
  cases o with
  | imm e _ => simp [immut] at e
  | lst h g r =>
    obtain ⟨rfl, rr⟩ := repL0 r
    exact ⟨_, _, e1, h, g, rfl, rr⟩
theorem StR.mut1 {a : Addr} {vs : List V} {ds : List D} (S : StR K O Γ H G σ env L) (hi : At Γ i 1) (e1 : σ[i]? = some (some (.ref a))) (hL : L i = [a]) (hg : G a = none) (r : RepL K G vs ds) : StR K O Γ (upd H a (.lst vs)) G σ (env.set i (.list ds)) L := by
  obtain ⟨v, d, z1, z2, o⟩ := S.slot i 1 hi
  have li : i < env.length := (List.getElem?_eq_some_iff.mp z2).1
  refine ⟨fun b u e => ?_, by simp [S.ls], by simp [S.lg], fun j m hj => ?_, S.nd, S.dj, S.new, S.pres.put (S.new i 1 hi a (by rw [hL]; exact List.mem_singleton_self _)) (o.hk a (by rw [hL]; exact List.mem_singleton_self _)), S.gn, S.io⟩
  · rw [upd_ne (ne_G e hg)]; exact S.gh b u e
  · by_cases z : j = i
    · subst z
      cases hj.uniq hi
      refine ⟨.ref a, .list ds, e1, List.getElem?_set_self li, ?_⟩
      rw [hL]
      exact .lst upd_same hg (ownL0 r)
    · obtain ⟨v', d', y1, y2, o'⟩ := S.slot j m hj
      refine ⟨v', d', y1, by rw [List.getElem?_set_ne (Ne.symm z)]; exact y2, o'.mono (fun _ _ e => e) (.inr (NT.refl _)) fun b hb => ⟨?_, (o'.objs b hb).1⟩⟩
      rw [upd_ne fun q => S.dj j i m 1 hj hi z b hb (by rw [hL, q]; exact List.mem_singleton_self _)]
end
def isL : Option D → Bool
  | some (.list _) => true
  | _ => false
/-- a method that changes the list in slot i: U tells the answer and the list behind -/
def eMut (i : Nat) (U : List D → List D → Option (D × List D)) (fs : List Ex) : Ex := fun env => if isL env[i]? = true then (evs fs env).bind fun p => match p.2[i]? with
  | some (.list ds) => (U ds p.1).map fun q => (q.1, p.2.set i (.list q.2))
  | _ => none else none
theorem isL_some {o : Option D} (h : isL o = true) : ∃ ds, o = some (.list ds) := by
  unfold isL at h
  split at h
  · rename_i ds; exact ⟨ds, rfl⟩
  · cases h
theorem eMut_some {i : Nat} {U : List D → List D → Option (D × List D)} {fs : List Ex} {env env2 : List D} {r : D} (e : eMut i U fs env = some (r, env2)) : ∃ ds0 xs env1 ds ds', env[i]? = some (.list ds0) ∧ evs fs env = some (xs, env1) ∧ env1[i]? = some (.list ds) ∧ U ds xs = some (r, ds') ∧ env2 = env1.set i (.list ds') := by
  unfold eMut at e
  split at e
  · rename_i h0
    obtain ⟨ds0, h0⟩ := isL_some h0
    cases h1 : evs fs env with
    | none => rw [h1] at e; cases e
    | some p =>
      rw [h1] at e
      simp only [Option.bind_some] at e
      split at e
      · rename_i ds hd
        cases h3 : U ds p.1 with
        | none => rw [h3] at e; cases e
        | some q =>
          rw [h3] at e
          simp only [Option.map_some, Option.some.injEq, Prod.mk.injEq] at e
          obtain ⟨rfl, rfl⟩ := e
          exact ⟨ds0, p.1, p.2, ds, q.2, h0, rfl, hd, h3, rfl⟩
      · cases e
  · cases e
/-- the method's rule over data -/
def MuD (K : KW) (r : V → List V → Hp → VK → Prop) (U : List D → List D → Option (D × List D)) : Prop := ∀ (a : Addr) (ys vs : List V) (ds es ds' : List D) (z : D) (G : Gp) (H : Hp) (Q : VK), Sh G H → H a = some (.lst vs) → G a = none → RepL K G vs ds → RepL K G ys es → U ds es = some (z, ds') →
  (∀ v vs', RepL K G vs' ds' → Rep K G v z → Q v (upd H a (.lst vs'))) → r (.ref a) ys H Q
section
variable {X : Cx} {Γ : Ctx} {T : Tg} {a : Expr} {es : List Expr} {pos apos px : Pos} {fs : List Ex} {f : Ex} {U : List D → List D → Option (D × List D)} {id : String} {m : Str} {r : V → List V → Hp → VK → Prop}
theorem m_mut (i : Nat) {x : Str} (slot : Slot "list" m id) (hty : typeOf (.builtin id) = pure (.type "method_descriptor")) (hm : MtR X id r) (hu : MuD X.kw r U) (ha : PA X (a :: es) (tMA X.kw Γ fs)) (hx : X.N[i]? = some x := by rfl) (hv : Vis X.env.scope x := by first | exact Or.inl rfl | exact Or.inr (Or.inl rfl) | exact Or.inr (Or.inr rfl))
    (hg : (Γ[i]?).bind Kd.dep = some 1 := by rfl) (hd : (x == ("__debug__" : Str)) = false := by decide) (hcd : (x == ("__classdict__" : Str)) = false := by decide)
    (hbase : attributeBase (.Name x px) m X.env (eval (.Name x px) X.env) = eval (.Name x px) X.env := by rfl)
    (hfew : ((backTo pos (starEach (a :: es) X.env)).all (fun x => !x.1) && (backToKw pos (keywordEach [] X.env)).all (fun x => x.1.isSome) && decide ((a :: es).length + ([] : List Keyword).length + (if ([] : List Keyword).isEmpty then 0 else 1) < 30)) = true := by rfl)
    (hline : (apos.endLine == pos.line) = true := by rfl) (hs : starEach (a :: es) X.env = (false, eval a X.env) :: starEach es X.env := by rfl) (hplain : (backTo pos (starEach es X.env)).any (·.1) = false := by rfl) : PE X (.Call (.Attribute (.Name x px) m apos) (a :: es) [] pos) (tM X.kw Γ (eMut i U fs) 0) :=
  (pe_bm PySem.F.plainAttrs_list slot hty hm (pe_var hx hv hd hcd) ha hbase hfew hline hs hplain).imp fun σ H Q ⟨O, G, env, L, z, env2, S, e, k⟩ => by
    obtain ⟨ds0, xs, env1, ds, ds', e0, e1, e2, e3, rfl⟩ := eMut_some e
    have hi : At Γ i 1 := at_of hg
    obtain ⟨a0, vs0, y1, y2, _⟩ := S.lst1 hi e0
    refine ⟨_, y1, .inl ⟨rfl, _, SqL.of y2⟩, O, G, env, L, xs, env1, S, e1, fun ys H1 G1 L1 S1 s1 r1 => ?_⟩
    obtain ⟨a1, vs1, z1, z2, z3, z4, z5⟩ := S1.lst1 hi e2
    rw [y1] at z1
    cases z1
    exact hu _ _ _ _ _ _ _ G1 H1 Q S1.gh z2 z3 z5 r1 e3 fun v vs' r' rz => k v _ G1 L1 (S1.mut1 hi y1 z4 z3 r') s1 (.of_rep rz)
end
/-! the methods -/
def uAppend : List D → List D → Option (D × List D) := fun ds es => match es with
  | [e] => if ds.length < lim then some (.none, ds ++ [e]) else none
  | _ => none
def uExtend : List D → List D → Option (D × List D) := fun ds es => match es with
  | [.list xs] => if ds.length + xs.length ≤ lim then some (.none, ds ++ xs) else none
  | _ => none
section
variable {K : KW} {X : Cx}
theorem mu_append : MuD K rAppend uAppend := by
  intro a ys vs ds es ds' z G H Q s ha hg r re e k
  unfold uAppend at e
  split at e
  · rename_i d
    split at e
    · rename_i hl
      simp only [Option.some.injEq, Prod.mk.injEq] at e
      obtain ⟨rfl, rfl⟩ := e
      cases re with
      | cons h t =>
        cases t
        exact ⟨a, vs, _, rfl, rfl, ha, by rw [r.length]; exact lim_lt hl, k _ _ (r.append (.cons h .nil)) .non⟩
    · cases e
  · cases e
end
end VL
set_option Elab.async false
set_option linter.all false
set_option maxRecDepth 100000
set_option maxHeartbeats 1000000
/-! VQ0: a dict against a value of another kind is not equal to it. -/
namespace VQ
open PySem PySem.SeqAt PySem.Spec
/-- a dict's object -/
def IsDict (s : Shared) (a : Addr) : Prop := ∃ o es n, s.heap.get? a = some o ∧ o.cls = .type "dict" ∧ o.data = .dict es n
section
variable {prog : Program} {w : World} {A : Around} {s : Shared}
theorem IsDict.typeIs {a : Addr} (h : IsDict s a) : s.TypeIs (.ref a) "dict" := by
  obtain ⟨o, es, n, h1, h2, _⟩ := h; exact ⟨_, h1, h2⟩
/-- the slot answers NotImplemented -/
def Decl (prog : Program) (w : World) (A : Around) (s : Shared) (id : String) (a b : Value) : Prop := ∀ (E : Value → Shared → Prop) (Q : Value → Shared → Prop), Q .notImplemented s → wpAny (model prog w) A (call (.builtin id) [a, b]) Q E s
theorem decl_dict_eq {a : Addr} {b : Value} {T : String} (h : IsDict s a) (hb : s.TypeIs b T) (hT : isSubtype (.type T) (.type "dict") = pure false) : Decl prog w A s "dict.__eq__" (.ref a) b := by
  intro E Q hq
  refine wpAny_call_entry PySem.F.slot_dict_eq h.typeIs PySem.F.entry_dict_eq ?_ (PySem.F.args_dict_eq_2 _ _)
  show wpAny _ _ (Builtin.Dict.dictSlotArgs "__eq__" ⟨[.ref a, b], []⟩ >>= _) _ _ s
  refine wpAny_bind (?_ : wpAny _ _ (Builtin.Dict.dictSlotArgs _ _) _ _ _)
  unfold Builtin.Dict.dictSlotArgs
  refine wpAny_bind (wpAny_notOrdered_dict h.typeIs (?_ : wpAny _ _ (pure (Value.ref a, b)) _ _ s))
  refine wpAny_pure (wpAny_bind (wpAny_isInstance (T := T) hb hT ?_))
  simp only [Bool.not_false, if_true]
  exact wpAny_bind (wpAny_rule (wpAny_pure ⟨_, rfl, hq⟩))
theorem decl_dict_ne {a : Addr} {b : Value} {T : String} (h : IsDict s a) (hb : s.TypeIs b T) (hT : isSubtype (.type T) (.type "dict") = pure false) : Decl prog w A s "dict.__ne__" (.ref a) b := by
  intro E Q hq
  refine wpAny_call_entry PySem.F.slot_dict_ne h.typeIs PySem.F.entry_dict_ne ?_ (PySem.F.args_dict_ne_2 _ _)
  show wpAny _ _ (Builtin.Dict.dictSlotArgs "__ne__" ⟨[.ref a, b], []⟩ >>= _) _ _ s
  refine wpAny_bind (?_ : wpAny _ _ (Builtin.Dict.dictSlotArgs _ _) _ _ _)
  unfold Builtin.Dict.dictSlotArgs
  refine wpAny_bind (wpAny_notOrdered_dict h.typeIs (?_ : wpAny _ _ (pure (Value.ref a, b)) _ _ s))
  refine wpAny_pure (wpAny_bind (wpAny_isInstance (T := T) hb hT ?_))
  simp only [Bool.not_false, if_true]
  exact wpAny_bind (wpAny_rule (wpAny_pure ⟨_, rfl, hq⟩))
/-- a dict's object, its fields -/
abbrev dOb (es : Array DictEntry) (n : Nat) (dd : Option Addr) (sl : Array (Option Value)) : Obj := ⟨.type "dict", dd, .dict es n, sl⟩
abbrev sOb (T : String) (vs : Array Value) (n : Nat) (dd : Option Addr) (sl : Array (Option Value)) : Obj := ⟨.type T, dd, .seq vs n, sl⟩
theorem m_bool_eq {b : Bool} {l : Addr} {es : Array DictEntry} {n : Nat} {dd : Option Addr} {sl : Array (Option Value)} :
    Meets (Builtin.«int.__eq__» ⟨[.bool b, .ref l], []⟩) (fun _ R s => s.heap.get? l = some (dOb es n dd sl) ∧ R (.ok (.ret .notImplemented)) s) :=
  .of_wp fun prog w A R s h => by
    obtain ⟨hp, g, d, tk, os⟩ := s
    obtain ⟨hl, h⟩ := h
    wp_walk using AutoSeq1.wpAny_loadPart' hl, wpAny_load hl
    exact ⟨_, rfl, h⟩
theorem m_int_eq {b : Int} {u : Tok} {l : Addr} {es : Array DictEntry} {n : Nat} {dd : Option Addr} {sl : Array (Option Value)} :
    Meets (Builtin.«int.__eq__» ⟨[.int b u, .ref l], []⟩) (fun _ R s => s.heap.get? l = some (dOb es n dd sl) ∧ R (.ok (.ret .notImplemented)) s) :=
  .of_wp fun prog w A R s h => by
    obtain ⟨hp, g, d, tk, os⟩ := s
    obtain ⟨hl, h⟩ := h
    wp_walk using AutoSeq1.wpAny_loadPart' hl, wpAny_load hl
    exact ⟨_, rfl, h⟩
theorem m_str_eq {b : Str} {u : Tok} {l : Addr} {es : Array DictEntry} {n : Nat} {dd : Option Addr} {sl : Array (Option Value)} :
    Meets (Builtin.«str.__eq__» ⟨[.str b u, .ref l], []⟩) (fun _ R s => s.heap.get? l = some (dOb es n dd sl) ∧ R (.ok (.ret .notImplemented)) s) :=
  .of_wp fun prog w A R s h => by
    obtain ⟨hp, g, d, tk, os⟩ := s
    obtain ⟨hl, h⟩ := h
    wp_walk using AutoSeq1.wpAny_loadPart' hl, wpAny_load hl
    exact ⟨_, rfl, h⟩
theorem m_list_eq {k : Addr} {vs : Array Value} {n2 : Nat} {d2 : Option Addr} {s2 : Array (Option Value)} {l : Addr} {es : Array DictEntry} {n : Nat} {dd : Option Addr} {sl : Array (Option Value)} :
    Meets (Builtin.«list.__eq__» ⟨[.ref k, .ref l], []⟩) (fun _ R s => s.heap.get? k = some (sOb "list" vs n2 d2 s2) ∧ s.heap.get? l = some (dOb es n dd sl) ∧ R (.ok (.ret .notImplemented)) s) :=
  .of_wp fun prog w A R s h => by
    obtain ⟨hp, g, d, tk, os⟩ := s
    obtain ⟨hk, hl, h⟩ := h
    have f1 := PySem.F.sub_dict_list; wp_walk using AutoSeq1.wpAny_loadPart' hl, wpAny_load hl, AutoSeq1.wpAny_loadPart' hk
    exact ⟨_, rfl, h⟩
theorem m_tuple_eq {k : Addr} {vs : Array Value} {n2 : Nat} {d2 : Option Addr} {s2 : Array (Option Value)} {l : Addr} {es : Array DictEntry} {n : Nat} {dd : Option Addr} {sl : Array (Option Value)} :
    Meets (Builtin.«tuple.__eq__» ⟨[.ref k, .ref l], []⟩) (fun _ R s => s.heap.get? k = some (sOb "tuple" vs n2 d2 s2) ∧ s.heap.get? l = some (dOb es n dd sl) ∧ R (.ok (.ret .notImplemented)) s) :=
  .of_wp fun prog w A R s h => by
    obtain ⟨hp, g, d, tk, os⟩ := s
    obtain ⟨hk, hl, h⟩ := h
    have f1 := PySem.F.sub_dict_tuple; wp_walk using AutoSeq1.wpAny_loadPart' hl, wpAny_load hl, AutoSeq1.wpAny_loadPart' hk
    exact ⟨_, rfl, h⟩
theorem m_bool_ne {b : Bool} {l : Addr} {es : Array DictEntry} {n : Nat} {dd : Option Addr} {sl : Array (Option Value)} :
    Meets (Builtin.«int.__ne__» ⟨[.bool b, .ref l], []⟩) (fun _ R s => s.heap.get? l = some (dOb es n dd sl) ∧ R (.ok (.ret .notImplemented)) s) :=
  .of_wp fun prog w A R s h => by
    obtain ⟨hp, g, d, tk, os⟩ := s
    obtain ⟨hl, h⟩ := h
    wp_walk using AutoSeq1.wpAny_loadPart' hl, wpAny_load hl
    exact ⟨_, rfl, h⟩
theorem m_int_ne {b : Int} {u : Tok} {l : Addr} {es : Array DictEntry} {n : Nat} {dd : Option Addr} {sl : Array (Option Value)} :
    Meets (Builtin.«int.__ne__» ⟨[.int b u, .ref l], []⟩) (fun _ R s => s.heap.get? l = some (dOb es n dd sl) ∧ R (.ok (.ret .notImplemented)) s) :=
  .of_wp fun prog w A R s h => by
    obtain ⟨hp, g, d, tk, os⟩ := s
    obtain ⟨hl, h⟩ := h
    wp_walk using AutoSeq1.wpAny_loadPart' hl, wpAny_load hl
    exact ⟨_, rfl, h⟩
theorem m_str_ne {b : Str} {u : Tok} {l : Addr} {es : Array DictEntry} {n : Nat} {dd : Option Addr} {sl : Array (Option Value)} :
    Meets (Builtin.«str.__ne__» ⟨[.str b u, .ref l], []⟩) (fun _ R s => s.heap.get? l = some (dOb es n dd sl) ∧ R (.ok (.ret .notImplemented)) s) :=
  .of_wp fun prog w A R s h => by
    obtain ⟨hp, g, d, tk, os⟩ := s
    obtain ⟨hl, h⟩ := h
    wp_walk using AutoSeq1.wpAny_loadPart' hl, wpAny_load hl
    exact ⟨_, rfl, h⟩
theorem m_list_ne {k : Addr} {vs : Array Value} {n2 : Nat} {d2 : Option Addr} {s2 : Array (Option Value)} {l : Addr} {es : Array DictEntry} {n : Nat} {dd : Option Addr} {sl : Array (Option Value)} :
    Meets (Builtin.«list.__ne__» ⟨[.ref k, .ref l], []⟩) (fun _ R s => s.heap.get? k = some (sOb "list" vs n2 d2 s2) ∧ s.heap.get? l = some (dOb es n dd sl) ∧ R (.ok (.ret .notImplemented)) s) :=
  .of_wp fun prog w A R s h => by
    obtain ⟨hp, g, d, tk, os⟩ := s
    obtain ⟨hk, hl, h⟩ := h
    have f1 := PySem.F.sub_dict_list; wp_walk using AutoSeq1.wpAny_loadPart' hl, wpAny_load hl, AutoSeq1.wpAny_loadPart' hk
    exact ⟨_, rfl, h⟩
theorem m_tuple_ne {k : Addr} {vs : Array Value} {n2 : Nat} {d2 : Option Addr} {s2 : Array (Option Value)} {l : Addr} {es : Array DictEntry} {n : Nat} {dd : Option Addr} {sl : Array (Option Value)} :
    Meets (Builtin.«tuple.__ne__» ⟨[.ref k, .ref l], []⟩) (fun _ R s => s.heap.get? k = some (sOb "tuple" vs n2 d2 s2) ∧ s.heap.get? l = some (dOb es n dd sl) ∧ R (.ok (.ret .notImplemented)) s) :=
  .of_wp fun prog w A R s h => by
    obtain ⟨hp, g, d, tk, os⟩ := s
    obtain ⟨hk, hl, h⟩ := h
    have f1 := PySem.F.sub_dict_tuple; wp_walk using AutoSeq1.wpAny_loadPart' hl, wpAny_load hl, AutoSeq1.wpAny_loadPart' hk
    exact ⟨_, rfl, h⟩
end
end VQ
set_option Elab.async false
set_option linter.all false
set_option maxRecDepth 100000
set_option maxHeartbeats 1000000
/-! VQ1: a dict and what is none: ==, != (printed by gq1.py). -/
namespace VQ
open PySem PySem.SeqAt PySem.Spec
section
variable {A : Around} {s : Shared}
theorem RcAt_dict_none {a : Addr} (h : IsDict s a) (hu : A.units < cLine) : RcAt A s (.ref a) .none false := fun prog w E Q hQ => by
  obtain ⟨⟨cls, dd, data, sl⟩, es, n, ho, hc, hd⟩ := id h
  simp only at hc hd
  subst hc hd
  exact rc_eq_decline_or (k := false) h.typeIs rfl (by decide) PySem.F.sub_NoneType_dict PySem.F.slot_dict_eq PySem.F.slot_NoneType_eq_refl
    (fun _ hq => decl_dict_eq h (show s.TypeIs .none "NoneType" from rfl) PySem.F.sub_NoneType_dict _ _ hq) (fun _ hq => call_gives PySem.F.slot_NoneType_eq_refl rfl PySem.F.entry_NoneType_eq (PySem.F.args_NoneType_eq_2 _ _) (NoneType___eq___none_ref_0 a) hq) (fun _ hq => wpAny_of_eq (rfl : isSame (.ref a) .none = pure false) hq) (.inr hu) hQ
theorem RcAt_none_dict {a : Addr} (h : IsDict s a) (hu : A.units < cLine) : RcAt A s .none (.ref a) false := fun prog w E Q hQ => by
  obtain ⟨⟨cls, dd, data, sl⟩, es, n, ho, hc, hd⟩ := id h
  simp only at hc hd
  subst hc hd
  exact rc_eq_decline_or (k := false) rfl h.typeIs (by decide) PySem.F.sub_dict_NoneType PySem.F.slot_NoneType_eq PySem.F.slot_dict_eq_refl
    (fun _ hq => call_gives PySem.F.slot_NoneType_eq rfl PySem.F.entry_NoneType_eq (PySem.F.args_NoneType_eq_2 _ _) (NoneType___eq___none_ref_0 a) hq) (fun _ hq => decl_dict_eq h (show s.TypeIs .none "NoneType" from rfl) PySem.F.sub_NoneType_dict _ _ hq) (fun _ hq => wpAny_of_eq (rfl : isSame .none (.ref a) = pure false) hq) (.inr hu) hQ
theorem EqAt_dict_none {a : Addr} (h : IsDict s a) (hu : A.units < cLine) : EqAt A s (.ref a) .none false := fun prog w E Q hQ => by
  unfold eqBool
  refine wpAny_holding (wpAny_ite_split (fun hab => absurd (eq_of_beq hab) nofun) fun _ => ?_)
  exact wpAny_bind (RcAt_dict_none h hu prog w E _ (wpAny_truthy_bool hQ))
theorem EqAt_none_dict {a : Addr} (h : IsDict s a) (hu : A.units < cLine) : EqAt A s .none (.ref a) false := fun prog w E Q hQ => by
  unfold eqBool
  refine wpAny_holding (wpAny_ite_split (fun hab => absurd (eq_of_beq hab) nofun) fun _ => ?_)
  exact wpAny_bind (RcAt_none_dict h hu prog w E _ (wpAny_truthy_bool hQ))
theorem RcAt_dict_bool {a : Addr} {b : Bool} (h : IsDict s a) (hu : A.units < cLine) : RcAt A s (.ref a) (.bool b) false := fun prog w E Q hQ => by
  obtain ⟨⟨cls, dd, data, sl⟩, es, n, ho, hc, hd⟩ := id h
  simp only at hc hd
  subst hc hd
  exact rc_eq_decline_or (k := false) h.typeIs rfl (by decide) PySem.F.sub_bool_dict PySem.F.slot_dict_eq PySem.F.slot_bool_eq_refl
    (fun _ hq => decl_dict_eq h (show s.TypeIs (.bool b) "bool" from rfl) PySem.F.sub_bool_dict _ _ hq) (fun _ hq => call_meets PySem.F.slot_bool_eq_refl rfl PySem.F.entry_int_eq (PySem.F.args_int_eq_2 _ _) m_bool_eq ⟨ho, hq⟩) (fun _ hq => wpAny_of_eq (rfl : isSame (.ref a) (.bool b) = pure false) hq) (.inr hu) hQ
theorem RcAt_bool_dict {a : Addr} {b : Bool} (h : IsDict s a) (hu : A.units < cLine) : RcAt A s (.bool b) (.ref a) false := fun prog w E Q hQ => by
  obtain ⟨⟨cls, dd, data, sl⟩, es, n, ho, hc, hd⟩ := id h
  simp only at hc hd
  subst hc hd
  exact rc_eq_decline_or (k := false) rfl h.typeIs (by decide) PySem.F.sub_dict_bool PySem.F.slot_bool_eq PySem.F.slot_dict_eq_refl
    (fun _ hq => call_meets PySem.F.slot_bool_eq rfl PySem.F.entry_int_eq (PySem.F.args_int_eq_2 _ _) m_bool_eq ⟨ho, hq⟩) (fun _ hq => decl_dict_eq h (show s.TypeIs (.bool b) "bool" from rfl) PySem.F.sub_bool_dict _ _ hq) (fun _ hq => wpAny_of_eq (rfl : isSame (.bool b) (.ref a) = pure false) hq) (.inr hu) hQ
theorem EqAt_dict_bool {a : Addr} {b : Bool} (h : IsDict s a) (hu : A.units < cLine) : EqAt A s (.ref a) (.bool b) false := fun prog w E Q hQ => by
  unfold eqBool
  refine wpAny_holding (wpAny_ite_split (fun hab => absurd (eq_of_beq hab) nofun) fun _ => ?_)
  exact wpAny_bind (RcAt_dict_bool h hu prog w E _ (wpAny_truthy_bool hQ))
theorem EqAt_bool_dict {a : Addr} {b : Bool} (h : IsDict s a) (hu : A.units < cLine) : EqAt A s (.bool b) (.ref a) false := fun prog w E Q hQ => by
  unfold eqBool
  refine wpAny_holding (wpAny_ite_split (fun hab => absurd (eq_of_beq hab) nofun) fun _ => ?_)
  exact wpAny_bind (RcAt_bool_dict h hu prog w E _ (wpAny_truthy_bool hQ))
theorem RcAt_dict_int {a : Addr} {b : Int} {u : Tok} (h : IsDict s a) (hu : A.units < cLine) : RcAt A s (.ref a) (.int b u) false := fun prog w E Q hQ => by
  obtain ⟨⟨cls, dd, data, sl⟩, es, n, ho, hc, hd⟩ := id h
  simp only at hc hd
  subst hc hd
  exact rc_eq_decline_or (k := false) h.typeIs (typeIs_int s b u) (by decide) PySem.F.sub_int_dict PySem.F.slot_dict_eq PySem.F.slot_int_eq_refl
    (fun _ hq => decl_dict_eq h (show s.TypeIs (.int b u) "int" from (typeIs_int s b u)) PySem.F.sub_int_dict _ _ hq) (fun _ hq => call_meets PySem.F.slot_int_eq_refl (typeIs_int s b u) PySem.F.entry_int_eq (PySem.F.args_int_eq_2 _ _) m_int_eq ⟨ho, hq⟩) (fun _ hq => wpAny_of_eq (rfl : isSame (.ref a) (.int b u) = pure false) hq) (.inr hu) hQ
theorem RcAt_int_dict {a : Addr} {b : Int} {u : Tok} (h : IsDict s a) (hu : A.units < cLine) : RcAt A s (.int b u) (.ref a) false := fun prog w E Q hQ => by
  obtain ⟨⟨cls, dd, data, sl⟩, es, n, ho, hc, hd⟩ := id h
  simp only at hc hd
  subst hc hd
  exact rc_eq_decline_or (k := false) (typeIs_int s b u) h.typeIs (by decide) PySem.F.sub_dict_int PySem.F.slot_int_eq PySem.F.slot_dict_eq_refl
    (fun _ hq => call_meets PySem.F.slot_int_eq (typeIs_int s b u) PySem.F.entry_int_eq (PySem.F.args_int_eq_2 _ _) m_int_eq ⟨ho, hq⟩) (fun _ hq => decl_dict_eq h (show s.TypeIs (.int b u) "int" from (typeIs_int s b u)) PySem.F.sub_int_dict _ _ hq) (fun _ hq => wpAny_of_eq (rfl : isSame (.int b u) (.ref a) = pure false) hq) (.inr hu) hQ
theorem EqAt_dict_int {a : Addr} {b : Int} {u : Tok} (h : IsDict s a) (hu : A.units < cLine) : EqAt A s (.ref a) (.int b u) false := fun prog w E Q hQ => by
  unfold eqBool
  refine wpAny_holding (wpAny_ite_split (fun hab => absurd (eq_of_beq hab) nofun) fun _ => ?_)
  exact wpAny_bind (RcAt_dict_int h hu prog w E _ (wpAny_truthy_bool hQ))
theorem EqAt_int_dict {a : Addr} {b : Int} {u : Tok} (h : IsDict s a) (hu : A.units < cLine) : EqAt A s (.int b u) (.ref a) false := fun prog w E Q hQ => by
  unfold eqBool
  refine wpAny_holding (wpAny_ite_split (fun hab => absurd (eq_of_beq hab) nofun) fun _ => ?_)
  exact wpAny_bind (RcAt_int_dict h hu prog w E _ (wpAny_truthy_bool hQ))
theorem RcAt_dict_str {a : Addr} {b : Str} {u : Tok} (h : IsDict s a) (hu : A.units < cLine) : RcAt A s (.ref a) (.str b u) false := fun prog w E Q hQ => by
  obtain ⟨⟨cls, dd, data, sl⟩, es, n, ho, hc, hd⟩ := id h
  simp only at hc hd
  subst hc hd
  exact rc_eq_decline_or (k := false) h.typeIs (typeIs_str s b u) (by decide) PySem.F.sub_str_dict PySem.F.slot_dict_eq PySem.F.slot_str_eq_refl
    (fun _ hq => decl_dict_eq h (show s.TypeIs (.str b u) "str" from (typeIs_str s b u)) PySem.F.sub_str_dict _ _ hq) (fun _ hq => call_meets PySem.F.slot_str_eq_refl (typeIs_str s b u) PySem.F.entry_str_eq (PySem.F.args_str_eq_2 _ _) m_str_eq ⟨ho, hq⟩) (fun _ hq => wpAny_of_eq (rfl : isSame (.ref a) (.str b u) = pure false) hq) (.inr hu) hQ
theorem RcAt_str_dict {a : Addr} {b : Str} {u : Tok} (h : IsDict s a) (hu : A.units < cLine) : RcAt A s (.str b u) (.ref a) false := fun prog w E Q hQ => by
  obtain ⟨⟨cls, dd, data, sl⟩, es, n, ho, hc, hd⟩ := id h
  simp only at hc hd
  subst hc hd
  exact rc_eq_decline_or (k := false) (typeIs_str s b u) h.typeIs (by decide) PySem.F.sub_dict_str PySem.F.slot_str_eq PySem.F.slot_dict_eq_refl
    (fun _ hq => call_meets PySem.F.slot_str_eq (typeIs_str s b u) PySem.F.entry_str_eq (PySem.F.args_str_eq_2 _ _) m_str_eq ⟨ho, hq⟩) (fun _ hq => decl_dict_eq h (show s.TypeIs (.str b u) "str" from (typeIs_str s b u)) PySem.F.sub_str_dict _ _ hq) (fun _ hq => wpAny_of_eq (rfl : isSame (.str b u) (.ref a) = pure false) hq) (.inr hu) hQ
theorem EqAt_dict_str {a : Addr} {b : Str} {u : Tok} (h : IsDict s a) (hu : A.units < cLine) : EqAt A s (.ref a) (.str b u) false := fun prog w E Q hQ => by
  unfold eqBool
  refine wpAny_holding (wpAny_ite_split (fun hab => absurd (eq_of_beq hab) nofun) fun _ => ?_)
  exact wpAny_bind (RcAt_dict_str h hu prog w E _ (wpAny_truthy_bool hQ))
theorem EqAt_str_dict {a : Addr} {b : Str} {u : Tok} (h : IsDict s a) (hu : A.units < cLine) : EqAt A s (.str b u) (.ref a) false := fun prog w E Q hQ => by
  unfold eqBool
  refine wpAny_holding (wpAny_ite_split (fun hab => absurd (eq_of_beq hab) nofun) fun _ => ?_)
  exact wpAny_bind (RcAt_str_dict h hu prog w E _ (wpAny_truthy_bool hQ))
theorem RcAt_dict_list {a : Addr} {k : Addr} {vs : Array Value} (h : IsDict s a) (hs : s.heap.IsList k vs) (hu : A.units < cLine) : RcAt A s (.ref a) (.ref k) false := fun prog w E Q hQ => by
  obtain ⟨⟨cls, dd, data, sl⟩, es, n, ho, hc, hd⟩ := id h
  simp only at hc hd
  subst hc hd
  obtain ⟨⟨cls2, dd2, data2, sl2⟩, hk, hc2, n2, hd2⟩ := id hs
  simp only at hc2 hd2
  subst hc2 hd2
  have hne : a ≠ k := fun e => by subst e; rw [ho] at hk; exact absurd (congrArg Obj.cls (Option.some.inj hk)) (by simp)
  exact rc_eq_decline_or (k := false) h.typeIs ⟨_, hk, rfl⟩ (by decide) PySem.F.sub_list_dict PySem.F.slot_dict_eq PySem.F.slot_list_eq_refl
    (fun _ hq => decl_dict_eq h (show s.TypeIs (.ref k) "list" from ⟨_, hk, rfl⟩) PySem.F.sub_list_dict _ _ hq) (fun _ hq => call_meets PySem.F.slot_list_eq_refl ⟨_, hk, rfl⟩ PySem.F.entry_list_eq (PySem.F.args_list_eq_2 _ _) m_list_eq ⟨hk, ho, hq⟩) (fun _ hq => wpAny_isSame_ref_other hne ho hk (by simp) hq) (.inr hu) hQ
theorem RcAt_list_dict {a : Addr} {k : Addr} {vs : Array Value} (h : IsDict s a) (hs : s.heap.IsList k vs) (hu : A.units < cLine) : RcAt A s (.ref k) (.ref a) false := fun prog w E Q hQ => by
  obtain ⟨⟨cls, dd, data, sl⟩, es, n, ho, hc, hd⟩ := id h
  simp only at hc hd
  subst hc hd
  obtain ⟨⟨cls2, dd2, data2, sl2⟩, hk, hc2, n2, hd2⟩ := id hs
  simp only at hc2 hd2
  subst hc2 hd2
  have hne : a ≠ k := fun e => by subst e; rw [ho] at hk; exact absurd (congrArg Obj.cls (Option.some.inj hk)) (by simp)
  exact rc_eq_decline_or (k := false) ⟨_, hk, rfl⟩ h.typeIs (by decide) PySem.F.sub_dict_list PySem.F.slot_list_eq PySem.F.slot_dict_eq_refl
    (fun _ hq => call_meets PySem.F.slot_list_eq ⟨_, hk, rfl⟩ PySem.F.entry_list_eq (PySem.F.args_list_eq_2 _ _) m_list_eq ⟨hk, ho, hq⟩) (fun _ hq => decl_dict_eq h (show s.TypeIs (.ref k) "list" from ⟨_, hk, rfl⟩) PySem.F.sub_list_dict _ _ hq) (fun _ hq => wpAny_isSame_ref_other' hne.symm hk ho (by simp) hq) (.inr hu) hQ
theorem EqAt_dict_list {a : Addr} {k : Addr} {vs : Array Value} (h : IsDict s a) (hs : s.heap.IsList k vs) (hu : A.units < cLine) : EqAt A s (.ref a) (.ref k) false := fun prog w E Q hQ => by
  unfold eqBool
  refine wpAny_holding (wpAny_ite_split (fun hab => absurd (eq_of_beq hab) (fun e => by obtain ⟨o, es, n, h1, h2, h3⟩ := h; obtain ⟨p, g1, g2, m, g3⟩ := hs; injection e with e; subst e; rw [h1] at g1; cases g1; rw [h2] at g2; exact absurd g2 (by simp))) fun _ => ?_)
  exact wpAny_bind (RcAt_dict_list h hs hu prog w E _ (wpAny_truthy_bool hQ))
theorem EqAt_list_dict {a : Addr} {k : Addr} {vs : Array Value} (h : IsDict s a) (hs : s.heap.IsList k vs) (hu : A.units < cLine) : EqAt A s (.ref k) (.ref a) false := fun prog w E Q hQ => by
  unfold eqBool
  refine wpAny_holding (wpAny_ite_split (fun hab => absurd (eq_of_beq hab) (fun e => by obtain ⟨o, es, n, h1, h2, h3⟩ := h; obtain ⟨p, g1, g2, m, g3⟩ := hs; injection e with e; subst e; rw [h1] at g1; cases g1; rw [h2] at g2; exact absurd g2 (by simp))) fun _ => ?_)
  exact wpAny_bind (RcAt_list_dict h hs hu prog w E _ (wpAny_truthy_bool hQ))
theorem RcAt_dict_tuple {a : Addr} {k : Addr} {vs : Array Value} (h : IsDict s a) (hs : s.heap.IsTuple k vs) (hu : A.units < cLine) : RcAt A s (.ref a) (.ref k) false := fun prog w E Q hQ => by
  obtain ⟨⟨cls, dd, data, sl⟩, es, n, ho, hc, hd⟩ := id h
  simp only at hc hd
  subst hc hd
  obtain ⟨⟨cls2, dd2, data2, sl2⟩, hk, hc2, n2, hd2⟩ := id hs
  simp only at hc2 hd2
  subst hc2 hd2
  have hne : a ≠ k := fun e => by subst e; rw [ho] at hk; exact absurd (congrArg Obj.cls (Option.some.inj hk)) (by simp)
  exact rc_eq_decline_or (k := false) h.typeIs ⟨_, hk, rfl⟩ (by decide) PySem.F.sub_tuple_dict PySem.F.slot_dict_eq PySem.F.slot_tuple_eq_refl
    (fun _ hq => decl_dict_eq h (show s.TypeIs (.ref k) "tuple" from ⟨_, hk, rfl⟩) PySem.F.sub_tuple_dict _ _ hq) (fun _ hq => call_meets PySem.F.slot_tuple_eq_refl ⟨_, hk, rfl⟩ PySem.F.entry_tuple_eq (PySem.F.args_tuple_eq_2 _ _) m_tuple_eq ⟨hk, ho, hq⟩) (fun _ hq => wpAny_isSame_ref_other hne ho hk (by simp) hq) (.inr hu) hQ
theorem RcAt_tuple_dict {a : Addr} {k : Addr} {vs : Array Value} (h : IsDict s a) (hs : s.heap.IsTuple k vs) (hu : A.units < cLine) : RcAt A s (.ref k) (.ref a) false := fun prog w E Q hQ => by
  obtain ⟨⟨cls, dd, data, sl⟩, es, n, ho, hc, hd⟩ := id h
  simp only at hc hd
  subst hc hd
  obtain ⟨⟨cls2, dd2, data2, sl2⟩, hk, hc2, n2, hd2⟩ := id hs
  simp only at hc2 hd2
  subst hc2 hd2
  have hne : a ≠ k := fun e => by subst e; rw [ho] at hk; exact absurd (congrArg Obj.cls (Option.some.inj hk)) (by simp)
  exact rc_eq_decline_or (k := false) ⟨_, hk, rfl⟩ h.typeIs (by decide) PySem.F.sub_dict_tuple PySem.F.slot_tuple_eq PySem.F.slot_dict_eq_refl
    (fun _ hq => call_meets PySem.F.slot_tuple_eq ⟨_, hk, rfl⟩ PySem.F.entry_tuple_eq (PySem.F.args_tuple_eq_2 _ _) m_tuple_eq ⟨hk, ho, hq⟩) (fun _ hq => decl_dict_eq h (show s.TypeIs (.ref k) "tuple" from ⟨_, hk, rfl⟩) PySem.F.sub_tuple_dict _ _ hq) (fun _ hq => wpAny_isSame_ref_other' hne.symm hk ho (by simp) hq) (.inr hu) hQ
theorem EqAt_dict_tuple {a : Addr} {k : Addr} {vs : Array Value} (h : IsDict s a) (hs : s.heap.IsTuple k vs) (hu : A.units < cLine) : EqAt A s (.ref a) (.ref k) false := fun prog w E Q hQ => by
  unfold eqBool
  refine wpAny_holding (wpAny_ite_split (fun hab => absurd (eq_of_beq hab) (fun e => by obtain ⟨o, es, n, h1, h2, h3⟩ := h; obtain ⟨p, g1, g2, m, g3⟩ := hs; injection e with e; subst e; rw [h1] at g1; cases g1; rw [h2] at g2; exact absurd g2 (by simp))) fun _ => ?_)
  exact wpAny_bind (RcAt_dict_tuple h hs hu prog w E _ (wpAny_truthy_bool hQ))
theorem EqAt_tuple_dict {a : Addr} {k : Addr} {vs : Array Value} (h : IsDict s a) (hs : s.heap.IsTuple k vs) (hu : A.units < cLine) : EqAt A s (.ref k) (.ref a) false := fun prog w E Q hQ => by
  unfold eqBool
  refine wpAny_holding (wpAny_ite_split (fun hab => absurd (eq_of_beq hab) (fun e => by obtain ⟨o, es, n, h1, h2, h3⟩ := h; obtain ⟨p, g1, g2, m, g3⟩ := hs; injection e with e; subst e; rw [h1] at g1; cases g1; rw [h2] at g2; exact absurd g2 (by simp))) fun _ => ?_)
  exact wpAny_bind (RcAt_tuple_dict h hs hu prog w E _ (wpAny_truthy_bool hQ))
theorem RcNeAt_dict_none {a : Addr} (h : IsDict s a) (hu : A.units < cLine) : RcNeAt A s (.ref a) .none true := fun prog w E Q hQ => by
  obtain ⟨⟨cls, dd, data, sl⟩, es, n, ho, hc, hd⟩ := id h
  simp only at hc hd
  subst hc hd
  exact rc_ne_decline_or (k := false) h.typeIs rfl (by decide) PySem.F.sub_NoneType_dict PySem.F.slot_dict_ne PySem.F.slot_NoneType_ne_refl
    (fun _ hq => decl_dict_ne h (show s.TypeIs .none "NoneType" from rfl) PySem.F.sub_NoneType_dict _ _ hq) (fun _ hq => call_gives PySem.F.slot_NoneType_ne_refl rfl PySem.F.entry_NoneType_ne (PySem.F.args_NoneType_ne_2 _ _) (NoneType___ne___none_ref_0 a) hq) (fun _ hq => wpAny_of_eq (rfl : isSame (.ref a) .none = pure false) hq) (.inr hu) hQ
theorem RcNeAt_none_dict {a : Addr} (h : IsDict s a) (hu : A.units < cLine) : RcNeAt A s .none (.ref a) true := fun prog w E Q hQ => by
  obtain ⟨⟨cls, dd, data, sl⟩, es, n, ho, hc, hd⟩ := id h
  simp only at hc hd
  subst hc hd
  exact rc_ne_decline_or (k := false) rfl h.typeIs (by decide) PySem.F.sub_dict_NoneType PySem.F.slot_NoneType_ne PySem.F.slot_dict_ne_refl
    (fun _ hq => call_gives PySem.F.slot_NoneType_ne rfl PySem.F.entry_NoneType_ne (PySem.F.args_NoneType_ne_2 _ _) (NoneType___ne___none_ref_0 a) hq) (fun _ hq => decl_dict_ne h (show s.TypeIs .none "NoneType" from rfl) PySem.F.sub_NoneType_dict _ _ hq) (fun _ hq => wpAny_of_eq (rfl : isSame .none (.ref a) = pure false) hq) (.inr hu) hQ
theorem RcNeAt_dict_bool {a : Addr} {b : Bool} (h : IsDict s a) (hu : A.units < cLine) : RcNeAt A s (.ref a) (.bool b) true := fun prog w E Q hQ => by
  obtain ⟨⟨cls, dd, data, sl⟩, es, n, ho, hc, hd⟩ := id h
  simp only at hc hd
  subst hc hd
  exact rc_ne_decline_or (k := false) h.typeIs rfl (by decide) PySem.F.sub_bool_dict PySem.F.slot_dict_ne PySem.F.slot_bool_ne_refl
    (fun _ hq => decl_dict_ne h (show s.TypeIs (.bool b) "bool" from rfl) PySem.F.sub_bool_dict _ _ hq) (fun _ hq => call_meets PySem.F.slot_bool_ne_refl rfl PySem.F.entry_int_ne (PySem.F.args_int_ne_2 _ _) m_bool_ne ⟨ho, hq⟩) (fun _ hq => wpAny_of_eq (rfl : isSame (.ref a) (.bool b) = pure false) hq) (.inr hu) hQ
theorem RcNeAt_bool_dict {a : Addr} {b : Bool} (h : IsDict s a) (hu : A.units < cLine) : RcNeAt A s (.bool b) (.ref a) true := fun prog w E Q hQ => by
  obtain ⟨⟨cls, dd, data, sl⟩, es, n, ho, hc, hd⟩ := id h
  simp only at hc hd
  subst hc hd
  exact rc_ne_decline_or (k := false) rfl h.typeIs (by decide) PySem.F.sub_dict_bool PySem.F.slot_bool_ne PySem.F.slot_dict_ne_refl
    (fun _ hq => call_meets PySem.F.slot_bool_ne rfl PySem.F.entry_int_ne (PySem.F.args_int_ne_2 _ _) m_bool_ne ⟨ho, hq⟩) (fun _ hq => decl_dict_ne h (show s.TypeIs (.bool b) "bool" from rfl) PySem.F.sub_bool_dict _ _ hq) (fun _ hq => wpAny_of_eq (rfl : isSame (.bool b) (.ref a) = pure false) hq) (.inr hu) hQ
theorem RcNeAt_dict_int {a : Addr} {b : Int} {u : Tok} (h : IsDict s a) (hu : A.units < cLine) : RcNeAt A s (.ref a) (.int b u) true := fun prog w E Q hQ => by
  obtain ⟨⟨cls, dd, data, sl⟩, es, n, ho, hc, hd⟩ := id h
  simp only at hc hd
  subst hc hd
  exact rc_ne_decline_or (k := false) h.typeIs (typeIs_int s b u) (by decide) PySem.F.sub_int_dict PySem.F.slot_dict_ne PySem.F.slot_int_ne_refl
    (fun _ hq => decl_dict_ne h (show s.TypeIs (.int b u) "int" from (typeIs_int s b u)) PySem.F.sub_int_dict _ _ hq) (fun _ hq => call_meets PySem.F.slot_int_ne_refl (typeIs_int s b u) PySem.F.entry_int_ne (PySem.F.args_int_ne_2 _ _) m_int_ne ⟨ho, hq⟩) (fun _ hq => wpAny_of_eq (rfl : isSame (.ref a) (.int b u) = pure false) hq) (.inr hu) hQ
theorem RcNeAt_int_dict {a : Addr} {b : Int} {u : Tok} (h : IsDict s a) (hu : A.units < cLine) : RcNeAt A s (.int b u) (.ref a) true := fun prog w E Q hQ => by
  obtain ⟨⟨cls, dd, data, sl⟩, es, n, ho, hc, hd⟩ := id h
  simp only at hc hd
  subst hc hd
  exact rc_ne_decline_or (k := false) (typeIs_int s b u) h.typeIs (by decide) PySem.F.sub_dict_int PySem.F.slot_int_ne PySem.F.slot_dict_ne_refl
    (fun _ hq => call_meets PySem.F.slot_int_ne (typeIs_int s b u) PySem.F.entry_int_ne (PySem.F.args_int_ne_2 _ _) m_int_ne ⟨ho, hq⟩) (fun _ hq => decl_dict_ne h (show s.TypeIs (.int b u) "int" from (typeIs_int s b u)) PySem.F.sub_int_dict _ _ hq) (fun _ hq => wpAny_of_eq (rfl : isSame (.int b u) (.ref a) = pure false) hq) (.inr hu) hQ
theorem RcNeAt_dict_str {a : Addr} {b : Str} {u : Tok} (h : IsDict s a) (hu : A.units < cLine) : RcNeAt A s (.ref a) (.str b u) true := fun prog w E Q hQ => by
  obtain ⟨⟨cls, dd, data, sl⟩, es, n, ho, hc, hd⟩ := id h
  simp only at hc hd
  subst hc hd
  exact rc_ne_decline_or (k := false) h.typeIs (typeIs_str s b u) (by decide) PySem.F.sub_str_dict PySem.F.slot_dict_ne PySem.F.slot_str_ne_refl
    (fun _ hq => decl_dict_ne h (show s.TypeIs (.str b u) "str" from (typeIs_str s b u)) PySem.F.sub_str_dict _ _ hq) (fun _ hq => call_meets PySem.F.slot_str_ne_refl (typeIs_str s b u) PySem.F.entry_str_ne (PySem.F.args_str_ne_2 _ _) m_str_ne ⟨ho, hq⟩) (fun _ hq => wpAny_of_eq (rfl : isSame (.ref a) (.str b u) = pure false) hq) (.inr hu) hQ
theorem RcNeAt_str_dict {a : Addr} {b : Str} {u : Tok} (h : IsDict s a) (hu : A.units < cLine) : RcNeAt A s (.str b u) (.ref a) true := fun prog w E Q hQ => by
  obtain ⟨⟨cls, dd, data, sl⟩, es, n, ho, hc, hd⟩ := id h
  simp only at hc hd
  subst hc hd
  exact rc_ne_decline_or (k := false) (typeIs_str s b u) h.typeIs (by decide) PySem.F.sub_dict_str PySem.F.slot_str_ne PySem.F.slot_dict_ne_refl
    (fun _ hq => call_meets PySem.F.slot_str_ne (typeIs_str s b u) PySem.F.entry_str_ne (PySem.F.args_str_ne_2 _ _) m_str_ne ⟨ho, hq⟩) (fun _ hq => decl_dict_ne h (show s.TypeIs (.str b u) "str" from (typeIs_str s b u)) PySem.F.sub_str_dict _ _ hq) (fun _ hq => wpAny_of_eq (rfl : isSame (.str b u) (.ref a) = pure false) hq) (.inr hu) hQ
theorem RcNeAt_dict_list {a : Addr} {k : Addr} {vs : Array Value} (h : IsDict s a) (hs : s.heap.IsList k vs) (hu : A.units < cLine) : RcNeAt A s (.ref a) (.ref k) true := fun prog w E Q hQ => by
  obtain ⟨⟨cls, dd, data, sl⟩, es, n, ho, hc, hd⟩ := id h
  simp only at hc hd
  subst hc hd
  obtain ⟨⟨cls2, dd2, data2, sl2⟩, hk, hc2, n2, hd2⟩ := id hs
  simp only at hc2 hd2
  subst hc2 hd2
  have hne : a ≠ k := fun e => by subst e; rw [ho] at hk; exact absurd (congrArg Obj.cls (Option.some.inj hk)) (by simp)
  exact rc_ne_decline_or (k := false) h.typeIs ⟨_, hk, rfl⟩ (by decide) PySem.F.sub_list_dict PySem.F.slot_dict_ne PySem.F.slot_list_ne_refl
    (fun _ hq => decl_dict_ne h (show s.TypeIs (.ref k) "list" from ⟨_, hk, rfl⟩) PySem.F.sub_list_dict _ _ hq) (fun _ hq => call_meets PySem.F.slot_list_ne_refl ⟨_, hk, rfl⟩ PySem.F.entry_list_ne (PySem.F.args_list_ne_2 _ _) m_list_ne ⟨hk, ho, hq⟩) (fun _ hq => wpAny_isSame_ref_other hne ho hk (by simp) hq) (.inr hu) hQ
theorem RcNeAt_list_dict {a : Addr} {k : Addr} {vs : Array Value} (h : IsDict s a) (hs : s.heap.IsList k vs) (hu : A.units < cLine) : RcNeAt A s (.ref k) (.ref a) true := fun prog w E Q hQ => by
  obtain ⟨⟨cls, dd, data, sl⟩, es, n, ho, hc, hd⟩ := id h
  simp only at hc hd
  subst hc hd
  obtain ⟨⟨cls2, dd2, data2, sl2⟩, hk, hc2, n2, hd2⟩ := id hs
  simp only at hc2 hd2
  subst hc2 hd2
  have hne : a ≠ k := fun e => by subst e; rw [ho] at hk; exact absurd (congrArg Obj.cls (Option.some.inj hk)) (by simp)
  exact rc_ne_decline_or (k := false) ⟨_, hk, rfl⟩ h.typeIs (by decide) PySem.F.sub_dict_list PySem.F.slot_list_ne PySem.F.slot_dict_ne_refl
    (fun _ hq => call_meets PySem.F.slot_list_ne ⟨_, hk, rfl⟩ PySem.F.entry_list_ne (PySem.F.args_list_ne_2 _ _) m_list_ne ⟨hk, ho, hq⟩) (fun _ hq => decl_dict_ne h (show s.TypeIs (.ref k) "list" from ⟨_, hk, rfl⟩) PySem.F.sub_list_dict _ _ hq) (fun _ hq => wpAny_isSame_ref_other' hne.symm hk ho (by simp) hq) (.inr hu) hQ
theorem RcNeAt_dict_tuple {a : Addr} {k : Addr} {vs : Array Value} (h : IsDict s a) (hs : s.heap.IsTuple k vs) (hu : A.units < cLine) : RcNeAt A s (.ref a) (.ref k) true := fun prog w E Q hQ => by
  obtain ⟨⟨cls, dd, data, sl⟩, es, n, ho, hc, hd⟩ := id h
  simp only at hc hd
  subst hc hd
  obtain ⟨⟨cls2, dd2, data2, sl2⟩, hk, hc2, n2, hd2⟩ := id hs
  simp only at hc2 hd2
  subst hc2 hd2
  have hne : a ≠ k := fun e => by subst e; rw [ho] at hk; exact absurd (congrArg Obj.cls (Option.some.inj hk)) (by simp)
  exact rc_ne_decline_or (k := false) h.typeIs ⟨_, hk, rfl⟩ (by decide) PySem.F.sub_tuple_dict PySem.F.slot_dict_ne PySem.F.slot_tuple_ne_refl
    (fun _ hq => decl_dict_ne h (show s.TypeIs (.ref k) "tuple" from ⟨_, hk, rfl⟩) PySem.F.sub_tuple_dict _ _ hq) (fun _ hq => call_meets PySem.F.slot_tuple_ne_refl ⟨_, hk, rfl⟩ PySem.F.entry_tuple_ne (PySem.F.args_tuple_ne_2 _ _) m_tuple_ne ⟨hk, ho, hq⟩) (fun _ hq => wpAny_isSame_ref_other hne ho hk (by simp) hq) (.inr hu) hQ
theorem RcNeAt_tuple_dict {a : Addr} {k : Addr} {vs : Array Value} (h : IsDict s a) (hs : s.heap.IsTuple k vs) (hu : A.units < cLine) : RcNeAt A s (.ref k) (.ref a) true := fun prog w E Q hQ => by
  obtain ⟨⟨cls, dd, data, sl⟩, es, n, ho, hc, hd⟩ := id h
  simp only at hc hd
  subst hc hd
  obtain ⟨⟨cls2, dd2, data2, sl2⟩, hk, hc2, n2, hd2⟩ := id hs
  simp only at hc2 hd2
  subst hc2 hd2
  have hne : a ≠ k := fun e => by subst e; rw [ho] at hk; exact absurd (congrArg Obj.cls (Option.some.inj hk)) (by simp)
  exact rc_ne_decline_or (k := false) ⟨_, hk, rfl⟩ h.typeIs (by decide) PySem.F.sub_dict_tuple PySem.F.slot_tuple_ne PySem.F.slot_dict_ne_refl
    (fun _ hq => call_meets PySem.F.slot_tuple_ne ⟨_, hk, rfl⟩ PySem.F.entry_tuple_ne (PySem.F.args_tuple_ne_2 _ _) m_tuple_ne ⟨hk, ho, hq⟩) (fun _ hq => decl_dict_ne h (show s.TypeIs (.ref k) "tuple" from ⟨_, hk, rfl⟩) PySem.F.sub_tuple_dict _ _ hq) (fun _ hq => wpAny_isSame_ref_other' hne.symm hk ho (by simp) hq) (.inr hu) hQ
end
end VQ
set_option Elab.async false
set_option linter.all false
set_option maxRecDepth 100000
set_option maxHeartbeats 1000000
/-! VQ2: ==, !=, in, not in over data of which one side has no dict. -/
namespace VQ
open PySem PySem.SeqAt PySem.Spec
theorem pairs_ext {α β : Type} : ∀ {ps qs : List (α × β)}, ps.map (·.1) = qs.map (·.1) → ps.map (·.2) = qs.map (·.2) → ps = qs
  | [], [], _, _ => rfl
  | [], _ :: _, e, _ => by cases e
  | _ :: _, [], e, _ => by cases e
  | (a, b) :: ps, (c, d) :: qs, e, f => by
    simp only [List.map_cons, List.cons.injEq] at e f
    rw [pairs_ext e.2 f.2, e.1, f.1]
mutual
theorem rdU {h : Heap} : ∀ {v : Value} {d : PyData} {as : List Addr}, Reads h v d as → ∀ {d' : PyData} {as' : List Addr}, Reads h v d' as' → d = d'
  | _, _, _, .none, _, _, r => by cases r; rfl
  | _, _, _, .bool b, _, _, r => by cases r; rfl
  | _, _, _, .int i t, _, _, r => by cases r; rfl
  | _, _, _, .str i t, _, _, r => by cases r; rfl
  | _, _, _, .list p1 p2 p3 p4, _, _, r => by
    cases r with
    | list q1 q2 q3 q4 => rw [p1] at q1; cases q1; rw [p3] at q3; cases q3; rw [rdUA p4 q4]
    | tuple q1 q2 q3 q4 => rw [p1] at q1; cases q1; rw [p2] at q2; exact absurd q2 (by decide)
    | dict q1 q2 q3 q4 q5 => rw [p1] at q1; cases q1; rw [p2] at q2; exact absurd q2 (by decide)
  | _, _, _, .tuple p1 p2 p3 p4, _, _, r => by
    cases r with
    | tuple q1 q2 q3 q4 => rw [p1] at q1; cases q1; rw [p3] at q3; cases q3; rw [rdUA p4 q4]
    | list q1 q2 q3 q4 => rw [p1] at q1; cases q1; rw [p2] at q2; exact absurd q2 (by decide)
    | dict q1 q2 q3 q4 q5 => rw [p1] at q1; cases q1; rw [p2] at q2; exact absurd q2 (by decide)
  | _, _, _, .dict p1 p2 p3 p4 p5, _, _, r => by
    cases r with
    | dict q1 q2 q3 q4 q5 => rw [p1] at q1; cases q1; rw [p3] at q3; cases q3; rw [pairs_ext (rdUA p4 q4) (rdUA p5 q5)]
    | list q1 q2 q3 q4 => rw [p1] at q1; cases q1; rw [p2] at q2; exact absurd q2 (by decide)
    | tuple q1 q2 q3 q4 => rw [p1] at q1; cases q1; rw [p2] at q2; exact absurd q2 (by decide)
theorem rdUA {h : Heap} : ∀ {vs : List Value} {ds : List PyData} {as : List Addr}, ReadsAll h vs ds as → ∀ {ds' : List PyData} {as' : List Addr}, ReadsAll h vs ds' as' → ds = ds'
  | _, _, _, .nil, _, _, r => by cases r; rfl
  | _, _, _, .cons p1 p2, _, _, r => by
    cases r with
    | cons q1 q2 => rw [rdU p1 q1, rdUA p2 q2]
end
theorem eqv_half : ∀ {d e : PyData}, (d.plain = true ∨ e.plain = true) → d = e → PyData.eqv d e = true := fun h q => by
  subst q
  exact eqv_refl_plain _ (h.elim id id)
mutual
theorem eqAt_half : ∀ (da db : PyData) (A : Around) (s : Shared) (a b : Value) (as bs : List Addr), Reads s.heap a da as → Reads s.heap b db bs → (da.plain = true ∨ db.plain = true) →
    A.units + min da.depth db.depth < cLine → EqAt A s a b (PyData.eqv da db)
  | .none, db, A, s, _, _, _, _, ra, rb, _, hu => by
    cases ra
    cases rb with
    | dict k1 k2 k3 k4 k5 => exact EqAt_none_dict ⟨_, _, _, k1, k2, k3⟩ (room_here hu)
    | none => exact EqAt.same _
    | bool y => exact EqAt.none_bool y
    | int y u => exact EqAt.none_int y u
    | str y u => exact EqAt.none_str y u
    | list k1 k2 k3 k4 => exact EqAt.none_list (s := s) ⟨_, k1, k2, _, k3⟩ (room_here hu)
    | tuple k1 k2 k3 k4 => exact EqAt.none_tuple (s := s) ⟨_, k1, k2, _, k3⟩ (room_here hu)
  | .bool x, db, A, s, _, _, _, _, ra, rb, _, hu => by
    cases ra
    cases rb with
    | dict k1 k2 k3 k4 k5 => exact EqAt_bool_dict ⟨_, _, _, k1, k2, k3⟩ (room_here hu)
    | none => exact EqAt.bool_none x
    | bool y => exact EqAt.bool_bool x y
    | int y u => exact EqAt.bool_int x y u
    | str y u => exact EqAt.bool_str x y u
    | list k1 k2 k3 k4 => exact EqAt.bool_list (s := s) x ⟨_, k1, k2, _, k3⟩ (room_here hu)
    | tuple k1 k2 k3 k4 => exact EqAt.bool_tuple (s := s) x ⟨_, k1, k2, _, k3⟩ (room_here hu)
  | .int x, db, A, s, _, _, _, _, ra, rb, _, hu => by
    cases ra with
    | int _ t =>
      cases rb with
      | dict k1 k2 k3 k4 k5 => exact EqAt_int_dict ⟨_, _, _, k1, k2, k3⟩ (room_here hu)
      | none => exact EqAt.int_none x t
      | bool y => exact EqAt.int_bool x t y
      | int y u => exact EqAt.int_int x t y u
      | str y u => exact EqAt.int_str x t y u
      | list k1 k2 k3 k4 => exact EqAt.int_list (s := s) x t ⟨_, k1, k2, _, k3⟩ (room_here hu)
      | tuple k1 k2 k3 k4 => exact EqAt.int_tuple (s := s) x t ⟨_, k1, k2, _, k3⟩ (room_here hu)
  | .str x, db, A, s, _, _, _, _, ra, rb, _, hu => by
    cases ra with
    | str _ t =>
      cases rb with
      | dict k1 k2 k3 k4 k5 => exact EqAt_str_dict ⟨_, _, _, k1, k2, k3⟩ (room_here hu)
      | none => exact EqAt.str_none x t
      | bool y => exact EqAt.str_bool x t y
      | int y u => exact EqAt.str_int x t y u
      | str y u => exact EqAt.str_str x t y u
      | list k1 k2 k3 k4 => exact EqAt.str_list (s := s) x t ⟨_, k1, k2, _, k3⟩ (room_here hu)
      | tuple k1 k2 k3 k4 => exact EqAt.str_tuple (s := s) x t ⟨_, k1, k2, _, k3⟩ (room_here hu)
  | .dict ks, db, A, s, _, _, _, _, ra, rb, hp, hu => by
    have hp' : db.plain = true := hp.resolve_left (by simp [PyData.plain])
    cases ra with
    | dict h1 h2 h3 h4 h5 =>
      have hd : IsDict s _ := ⟨_, _, _, h1, h2, h3⟩
      cases rb with
      | dict k1 k2 k3 k4 k5 => simp [PyData.plain] at hp'
      | none => exact EqAt_dict_none hd (room_here hu)
      | bool y => exact EqAt_dict_bool hd (room_here hu)
      | int y u => exact EqAt_dict_int hd (room_here hu)
      | str y u => exact EqAt_dict_str hd (room_here hu)
      | list k1 k2 k3 k4 => exact EqAt_dict_list hd ⟨_, k1, k2, _, k3⟩ (room_here hu)
      | tuple k1 k2 k3 k4 => exact EqAt_dict_tuple hd ⟨_, k1, k2, _, k3⟩ (room_here hu)
  | .list xs, db, A, s, _, _, _, _, ra, rb, hp, hu => by
    cases ra with
    | @list l o vs n _ as₁ h1 h2 h3 h4 =>
      have i1 : s.heap.IsList l vs := ⟨o, h1, h2, n, h3⟩
      cases rb with
      | dict k1 k2 k3 k4 k5 => exact EqAt_list_dict ⟨_, _, _, k1, k2, k3⟩ i1 (room_here hu)
      | none => exact EqAt.list_none i1 (room_here hu)
      | bool y => exact EqAt.list_bool y i1 (room_here hu)
      | int y u => exact EqAt.list_int y u i1 (room_here hu)
      | str y u => exact EqAt.list_str y u i1 (room_here hu)
      | tuple k1 k2 k3 k4 => exact EqAt.list_tuple i1 ⟨_, k1, k2, _, k3⟩ (room_here hu)
      | @list l' o' vs' n' ys bs₁ k1 k2 k3 k4 =>
        have i2 : s.heap.IsList l' vs' := ⟨o', k1, k2, n', k3⟩
        have m1 : vs.size = xs.length := by simpa using ReadsAll.length _ _ _ h4
        have m2 : vs'.size = ys.length := by simpa using ReadsAll.length _ _ _ k4
        by_cases hll : l = l'
        · subst hll
          rw [eqv_half hp (rdU (.list h1 h2 h3 h4) (.list k1 k2 k3 k4))]
          exact EqAt.same _
        · show EqAt A s (.ref l) (.ref l') (PyData.eqvAll xs ys)
          by_cases hsz : vs.size = vs'.size
          · rw [← eqvAll_same_length (by omega : xs.length = ys.length), ← m1]
            refine EqAt.of_refs hll (RcAt.lists i1 i2 hsz (room_here hu) fun j j1 j2 => ?_)
            have q := eqAt_halfA xs ys A.in1 s vs.toList vs'.toList _ _ h4 k4 (hp.imp (by simp [PyData.plain]) (by simp [PyData.plain])) (room_in hu) j (by simpa using j1) (by simpa using j2)
            simpa using q
          · rw [eqvAll_other_length (by omega : xs.length ≠ ys.length)]
            exact EqAt.of_refs hll (RcAt.lists_lengths i1 i2 (by simpa using hsz) (room_here hu))
  | .tuple xs, db, A, s, _, _, _, _, ra, rb, hp, hu => by
    cases ra with
    | @tuple l o vs n _ as₁ h1 h2 h3 h4 =>
      have i1 : s.heap.IsTuple l vs := ⟨o, h1, h2, n, h3⟩
      cases rb with
      | dict k1 k2 k3 k4 k5 => exact EqAt_tuple_dict ⟨_, _, _, k1, k2, k3⟩ i1 (room_here hu)
      | none => exact EqAt.tuple_none i1 (room_here hu)
      | bool y => exact EqAt.tuple_bool y i1 (room_here hu)
      | int y u => exact EqAt.tuple_int y u i1 (room_here hu)
      | str y u => exact EqAt.tuple_str y u i1 (room_here hu)
      | list k1 k2 k3 k4 => exact EqAt.tuple_list i1 ⟨_, k1, k2, _, k3⟩ (room_here hu)
      | @tuple l' o' vs' n' ys bs₁ k1 k2 k3 k4 =>
        have i2 : s.heap.IsTuple l' vs' := ⟨o', k1, k2, n', k3⟩
        have m1 : vs.size = xs.length := by simpa using ReadsAll.length _ _ _ h4
        have m2 : vs'.size = ys.length := by simpa using ReadsAll.length _ _ _ k4
        by_cases hll : l = l'
        · subst hll
          rw [eqv_half hp (rdU (.tuple h1 h2 h3 h4) (.tuple k1 k2 k3 k4))]
          exact EqAt.same _
        · show EqAt A s (.ref l) (.ref l') (PyData.eqvAll xs ys)
          rw [← eqvAll_eq xs ys, ← m1, ← m2]
          refine EqAt.of_refs hll (RcAt.tuples i1 i2 (room_here hu) fun j j1 j2 => ?_)
          have q := eqAt_halfA xs ys A.in1 s vs.toList vs'.toList _ _ h4 k4 (hp.imp (by simp [PyData.plain]) (by simp [PyData.plain])) (room_in hu) j (by simpa using j1) (by simpa using j2)
          simpa using q
theorem eqAt_halfA : ∀ (xs ys : List PyData) (A : Around) (s : Shared) (vs ws : List Value) (as bs : List Addr), ReadsAll s.heap vs xs as → ReadsAll s.heap ws ys bs → (PyData.plainAll xs = true ∨ PyData.plainAll ys = true) →
    A.units + min (PyData.depthAll xs) (PyData.depthAll ys) < cLine → ∀ j (h1 : j < vs.length) (h2 : j < ws.length), EqAt A s vs[j] ws[j] (pairEq xs ys j)
  | [], _, _, _, _, _, _, _, ra, _, _, _, j, h1, _ => by cases ra; exact absurd h1 (Nat.not_lt_zero _)
  | _ :: _, [], _, _, _, _, _, _, _, rb, _, _, j, _, h2 => by cases rb; exact absurd h2 (Nat.not_lt_zero _)
  | x :: xs, y :: ys, A, s, _, _, _, _, ra, rb, hp, hu, j, h1, h2 => by
    have hp1 : x.plain = true ∨ y.plain = true := hp.imp (fun h => by simp [PyData.plainAll] at h; exact h.1) (fun h => by simp [PyData.plainAll] at h; exact h.1)
    have hp2 : PyData.plainAll xs = true ∨ PyData.plainAll ys = true := hp.imp (fun h => by simp [PyData.plainAll] at h; exact h.2) (fun h => by simp [PyData.plainAll] at h; exact h.2)
    cases ra with
    | cons r rs =>
      cases rb with
      | cons r' rs' =>
        cases j with
        | zero => exact eqAt_half x y A s _ _ _ _ r r' hp1 (room_head hu)
        | succ j => exact eqAt_halfA xs ys A s _ _ _ _ rs rs' hp2 (room_tail hu) j (Nat.lt_of_succ_lt_succ h1) (Nat.lt_of_succ_lt_succ h2)
end
end VQ
set_option Elab.async false
set_option linter.all false
set_option maxRecDepth 100000
set_option maxHeartbeats 1000000
/-! VQ3: ==, != themselves, in, not in (printed by gq3.py). -/
namespace VQ
open PySem PySem.SeqAt PySem.Spec
theorem RcAt_half {da db : PyData} {A : Around} {s : Shared} {a b : Value} {as bs : List Addr} (ra : Reads s.heap a da as) (rb : Reads s.heap b db bs) (hp : da.plain = true ∨ db.plain = true)
    (hu : A.units + min da.depth db.depth < cLine) : RcAt A s a b (PyData.eqv da db) := by
  cases ra with
  | none  =>
    cases rb with
    | dict k1 k2 k3 k4 k5 => exact RcAt_none_dict ⟨_, _, _, k1, k2, k3⟩ (room_here hu)
    | none  => exact RcAt.none_none 
    | bool y => exact RcAt.none_bool y
    | int y u => exact RcAt.none_int y u
    | str y u => exact RcAt.none_str y u
    | list k1 k2 k3 k4 => exact RcAt.none_list (s := s)  ⟨_, k1, k2, _, k3⟩ (room_here hu)
    | tuple k1 k2 k3 k4 => exact RcAt.none_tuple (s := s)  ⟨_, k1, k2, _, k3⟩ (room_here hu)
  | bool x =>
    cases rb with
    | dict k1 k2 k3 k4 k5 => exact RcAt_bool_dict ⟨_, _, _, k1, k2, k3⟩ (room_here hu)
    | none  => exact RcAt.bool_none x
    | bool y => exact RcAt.bool_bool x y
    | int y u => exact RcAt.bool_int x y u
    | str y u => exact RcAt.bool_str x y u
    | list k1 k2 k3 k4 => exact RcAt.bool_list (s := s) x ⟨_, k1, k2, _, k3⟩ (room_here hu)
    | tuple k1 k2 k3 k4 => exact RcAt.bool_tuple (s := s) x ⟨_, k1, k2, _, k3⟩ (room_here hu)
  | int x t =>
    cases rb with
    | dict k1 k2 k3 k4 k5 => exact RcAt_int_dict ⟨_, _, _, k1, k2, k3⟩ (room_here hu)
    | none  => exact RcAt.int_none x t
    | bool y => exact RcAt.int_bool x t y
    | int y u => exact RcAt.int_int x t y u
    | str y u => exact RcAt.int_str x t y u
    | list k1 k2 k3 k4 => exact RcAt.int_list (s := s) x t ⟨_, k1, k2, _, k3⟩ (room_here hu)
    | tuple k1 k2 k3 k4 => exact RcAt.int_tuple (s := s) x t ⟨_, k1, k2, _, k3⟩ (room_here hu)
  | str x t =>
    cases rb with
    | dict k1 k2 k3 k4 k5 => exact RcAt_str_dict ⟨_, _, _, k1, k2, k3⟩ (room_here hu)
    | none  => exact RcAt.str_none x t
    | bool y => exact RcAt.str_bool x t y
    | int y u => exact RcAt.str_int x t y u
    | str y u => exact RcAt.str_str x t y u
    | list k1 k2 k3 k4 => exact RcAt.str_list (s := s) x t ⟨_, k1, k2, _, k3⟩ (room_here hu)
    | tuple k1 k2 k3 k4 => exact RcAt.str_tuple (s := s) x t ⟨_, k1, k2, _, k3⟩ (room_here hu)
  | dict h1 h2 h3 h4 h5 =>
    have hp' : db.plain = true := hp.resolve_left (by simp [PyData.plain])
    have hd : IsDict s _ := ⟨_, _, _, h1, h2, h3⟩
    cases rb with
    | dict k1 k2 k3 k4 k5 => simp [PyData.plain] at hp'
    | none  => exact RcAt_dict_none hd (room_here hu)
    | bool y => exact RcAt_dict_bool hd (room_here hu)
    | int y u => exact RcAt_dict_int hd (room_here hu)
    | str y u => exact RcAt_dict_str hd (room_here hu)
    | list k1 k2 k3 k4 => exact RcAt_dict_list hd ⟨_, k1, k2, _, k3⟩ (room_here hu)
    | tuple k1 k2 k3 k4 => exact RcAt_dict_tuple hd ⟨_, k1, k2, _, k3⟩ (room_here hu)
  | @list l o vs n xs as₁ h1 h2 h3 h4 =>
    have i1 : s.heap.IsList l vs := ⟨o, h1, h2, n, h3⟩
    cases rb with
    | dict k1 k2 k3 k4 k5 => exact RcAt_list_dict ⟨_, _, _, k1, k2, k3⟩ i1 (room_here hu)
    | none  => exact RcAt.list_none  i1 (room_here hu)
    | bool y => exact RcAt.list_bool y i1 (room_here hu)
    | int y u => exact RcAt.list_int y u i1 (room_here hu)
    | str y u => exact RcAt.list_str y u i1 (room_here hu)
    | tuple k1 k2 k3 k4 => exact RcAt.list_tuple i1 ⟨_, k1, k2, _, k3⟩ (room_here hu)
    | @list l' o' vs' n' ys bs₁ k1 k2 k3 k4 =>
      have i2 : s.heap.IsList l' vs' := ⟨o', k1, k2, n', k3⟩
      have m1 : vs.size = xs.length := by simpa using ReadsAll.length _ _ _ h4
      have m2 : vs'.size = ys.length := by simpa using ReadsAll.length _ _ _ k4
      have he : ∀ j (j1 : j < vs.size) (j2 : j < vs'.size), EqAt A.in1 s vs[j] vs'[j] (pairEq xs ys j) := fun j j1 j2 => by
        have q := eqAt_halfA xs ys A.in1 s vs.toList vs'.toList _ _ h4 k4 (hp.imp (by simp [PyData.plain]) (by simp [PyData.plain])) (room_in hu) j (by simpa using j1) (by simpa using j2)
        simpa using q
      show RcAt A s (.ref l) (.ref l') (PyData.eqvAll xs ys)
      by_cases hsz : vs.size = vs'.size
      · rw [← eqvAll_same_length (by omega : xs.length = ys.length), ← m1]
        exact RcAt.lists i1 i2 hsz (room_here hu) he
      · rw [eqvAll_other_length (by omega : xs.length ≠ ys.length)]
        exact RcAt.lists_lengths i1 i2 (by simpa using hsz) (room_here hu)
  | @tuple l o vs n xs as₁ h1 h2 h3 h4 =>
    have i1 : s.heap.IsTuple l vs := ⟨o, h1, h2, n, h3⟩
    cases rb with
    | dict k1 k2 k3 k4 k5 => exact RcAt_tuple_dict ⟨_, _, _, k1, k2, k3⟩ i1 (room_here hu)
    | none  => exact RcAt.tuple_none  i1 (room_here hu)
    | bool y => exact RcAt.tuple_bool y i1 (room_here hu)
    | int y u => exact RcAt.tuple_int y u i1 (room_here hu)
    | str y u => exact RcAt.tuple_str y u i1 (room_here hu)
    | list k1 k2 k3 k4 => exact RcAt.tuple_list i1 ⟨_, k1, k2, _, k3⟩ (room_here hu)
    | @tuple l' o' vs' n' ys bs₁ k1 k2 k3 k4 =>
      have i2 : s.heap.IsTuple l' vs' := ⟨o', k1, k2, n', k3⟩
      have m1 : vs.size = xs.length := by simpa using ReadsAll.length _ _ _ h4
      have m2 : vs'.size = ys.length := by simpa using ReadsAll.length _ _ _ k4
      have he : ∀ j (j1 : j < vs.size) (j2 : j < vs'.size), EqAt A.in1 s vs[j] vs'[j] (pairEq xs ys j) := fun j j1 j2 => by
        have q := eqAt_halfA xs ys A.in1 s vs.toList vs'.toList _ _ h4 k4 (hp.imp (by simp [PyData.plain]) (by simp [PyData.plain])) (room_in hu) j (by simpa using j1) (by simpa using j2)
        simpa using q
      show RcAt A s (.ref l) (.ref l') (PyData.eqvAll xs ys)
      rw [← eqvAll_eq xs ys, ← m1, ← m2]
      exact RcAt.tuples i1 i2 (room_here hu) he
theorem RcNeAt_half {da db : PyData} {A : Around} {s : Shared} {a b : Value} {as bs : List Addr} (ra : Reads s.heap a da as) (rb : Reads s.heap b db bs) (hp : da.plain = true ∨ db.plain = true)
    (hu : A.units + min da.depth db.depth < cLine) : RcNeAt A s a b (!PyData.eqv da db) := by
  cases ra with
  | none  =>
    cases rb with
    | dict k1 k2 k3 k4 k5 => exact RcNeAt_none_dict ⟨_, _, _, k1, k2, k3⟩ (room_here hu)
    | none  => exact RcNeAt.none_none 
    | bool y => exact RcNeAt.none_bool y
    | int y u => exact RcNeAt.none_int y u
    | str y u => exact RcNeAt.none_str y u
    | list k1 k2 k3 k4 => exact RcNeAt.none_list (s := s)  ⟨_, k1, k2, _, k3⟩ (room_here hu)
    | tuple k1 k2 k3 k4 => exact RcNeAt.none_tuple (s := s)  ⟨_, k1, k2, _, k3⟩ (room_here hu)
  | bool x =>
    cases rb with
    | dict k1 k2 k3 k4 k5 => exact RcNeAt_bool_dict ⟨_, _, _, k1, k2, k3⟩ (room_here hu)
    | none  => exact RcNeAt.bool_none x
    | bool y => exact RcNeAt.bool_bool x y
    | int y u => exact RcNeAt.bool_int x y u
    | str y u => exact RcNeAt.bool_str x y u
    | list k1 k2 k3 k4 => exact RcNeAt.bool_list (s := s) x ⟨_, k1, k2, _, k3⟩ (room_here hu)
    | tuple k1 k2 k3 k4 => exact RcNeAt.bool_tuple (s := s) x ⟨_, k1, k2, _, k3⟩ (room_here hu)
  | int x t =>
    cases rb with
    | dict k1 k2 k3 k4 k5 => exact RcNeAt_int_dict ⟨_, _, _, k1, k2, k3⟩ (room_here hu)
    | none  => exact RcNeAt.int_none x t
    | bool y => exact RcNeAt.int_bool x t y
    | int y u => exact RcNeAt.int_int x t y u
    | str y u => exact RcNeAt.int_str x t y u
    | list k1 k2 k3 k4 => exact RcNeAt.int_list (s := s) x t ⟨_, k1, k2, _, k3⟩ (room_here hu)
    | tuple k1 k2 k3 k4 => exact RcNeAt.int_tuple (s := s) x t ⟨_, k1, k2, _, k3⟩ (room_here hu)
  | str x t =>
    cases rb with
    | dict k1 k2 k3 k4 k5 => exact RcNeAt_str_dict ⟨_, _, _, k1, k2, k3⟩ (room_here hu)
    | none  => exact RcNeAt.str_none x t
    | bool y => exact RcNeAt.str_bool x t y
    | int y u => exact RcNeAt.str_int x t y u
    | str y u => exact RcNeAt.str_str x t y u
    | list k1 k2 k3 k4 => exact RcNeAt.str_list (s := s) x t ⟨_, k1, k2, _, k3⟩ (room_here hu)
    | tuple k1 k2 k3 k4 => exact RcNeAt.str_tuple (s := s) x t ⟨_, k1, k2, _, k3⟩ (room_here hu)
  | dict h1 h2 h3 h4 h5 =>
    have hp' : db.plain = true := hp.resolve_left (by simp [PyData.plain])
    have hd : IsDict s _ := ⟨_, _, _, h1, h2, h3⟩
    cases rb with
    | dict k1 k2 k3 k4 k5 => simp [PyData.plain] at hp'
    | none  => exact RcNeAt_dict_none hd (room_here hu)
    | bool y => exact RcNeAt_dict_bool hd (room_here hu)
    | int y u => exact RcNeAt_dict_int hd (room_here hu)
    | str y u => exact RcNeAt_dict_str hd (room_here hu)
    | list k1 k2 k3 k4 => exact RcNeAt_dict_list hd ⟨_, k1, k2, _, k3⟩ (room_here hu)
    | tuple k1 k2 k3 k4 => exact RcNeAt_dict_tuple hd ⟨_, k1, k2, _, k3⟩ (room_here hu)
  | @list l o vs n xs as₁ h1 h2 h3 h4 =>
    have i1 : s.heap.IsList l vs := ⟨o, h1, h2, n, h3⟩
    cases rb with
    | dict k1 k2 k3 k4 k5 => exact RcNeAt_list_dict ⟨_, _, _, k1, k2, k3⟩ i1 (room_here hu)
    | none  => exact RcNeAt.list_none  i1 (room_here hu)
    | bool y => exact RcNeAt.list_bool y i1 (room_here hu)
    | int y u => exact RcNeAt.list_int y u i1 (room_here hu)
    | str y u => exact RcNeAt.list_str y u i1 (room_here hu)
    | tuple k1 k2 k3 k4 => exact RcNeAt.list_tuple i1 ⟨_, k1, k2, _, k3⟩ (room_here hu)
    | @list l' o' vs' n' ys bs₁ k1 k2 k3 k4 =>
      have i2 : s.heap.IsList l' vs' := ⟨o', k1, k2, n', k3⟩
      have m1 : vs.size = xs.length := by simpa using ReadsAll.length _ _ _ h4
      have m2 : vs'.size = ys.length := by simpa using ReadsAll.length _ _ _ k4
      have he : ∀ j (j1 : j < vs.size) (j2 : j < vs'.size), EqAt A.in1 s vs[j] vs'[j] (pairEq xs ys j) := fun j j1 j2 => by
        have q := eqAt_halfA xs ys A.in1 s vs.toList vs'.toList _ _ h4 k4 (hp.imp (by simp [PyData.plain]) (by simp [PyData.plain])) (room_in hu) j (by simpa using j1) (by simpa using j2)
        simpa using q
      show RcNeAt A s (.ref l) (.ref l') (!PyData.eqvAll xs ys)
      by_cases hsz : vs.size = vs'.size
      · rw [← eqvAll_same_length (by omega : xs.length = ys.length), ← m1]
        exact RcNeAt.lists i1 i2 hsz (room_here hu) he
      · rw [eqvAll_other_length (by omega : xs.length ≠ ys.length)]
        exact RcNeAt.lists_lengths i1 i2 (by simpa using hsz) (room_here hu)
  | @tuple l o vs n xs as₁ h1 h2 h3 h4 =>
    have i1 : s.heap.IsTuple l vs := ⟨o, h1, h2, n, h3⟩
    cases rb with
    | dict k1 k2 k3 k4 k5 => exact RcNeAt_tuple_dict ⟨_, _, _, k1, k2, k3⟩ i1 (room_here hu)
    | none  => exact RcNeAt.tuple_none  i1 (room_here hu)
    | bool y => exact RcNeAt.tuple_bool y i1 (room_here hu)
    | int y u => exact RcNeAt.tuple_int y u i1 (room_here hu)
    | str y u => exact RcNeAt.tuple_str y u i1 (room_here hu)
    | list k1 k2 k3 k4 => exact RcNeAt.tuple_list i1 ⟨_, k1, k2, _, k3⟩ (room_here hu)
    | @tuple l' o' vs' n' ys bs₁ k1 k2 k3 k4 =>
      have i2 : s.heap.IsTuple l' vs' := ⟨o', k1, k2, n', k3⟩
      have m1 : vs.size = xs.length := by simpa using ReadsAll.length _ _ _ h4
      have m2 : vs'.size = ys.length := by simpa using ReadsAll.length _ _ _ k4
      have he : ∀ j (j1 : j < vs.size) (j2 : j < vs'.size), EqAt A.in1 s vs[j] vs'[j] (pairEq xs ys j) := fun j j1 j2 => by
        have q := eqAt_halfA xs ys A.in1 s vs.toList vs'.toList _ _ h4 k4 (hp.imp (by simp [PyData.plain]) (by simp [PyData.plain])) (room_in hu) j (by simpa using j1) (by simpa using j2)
        simpa using q
      show RcNeAt A s (.ref l) (.ref l') (!PyData.eqvAll xs ys)
      rw [← eqvAll_eq xs ys, ← m1, ← m2]
      exact RcNeAt.tuples i1 i2 (room_here hu) he
theorem readOf_U {h : Heap} {v : Value} {d : PyData} {as : List Addr} (r : Reads h v d as) : readOf h v = d := by
  have hx : ∃ d as, Reads h v d as := ⟨d, as, r⟩
  unfold readOf
  rw [dif_pos hx]
  obtain ⟨bs, q⟩ := hx.choose_spec
  exact rdU q r
theorem readOf_A {h : Heap} : ∀ {vs : List Value} {xs : List PyData} {as : List Addr}, ReadsAll h vs xs as → vs.map (readOf h) = xs
  | _, _, _, .nil => rfl
  | _, _, _, .cons p q => by rw [List.map_cons, readOf_U p, readOf_A q]
theorem memA {h : Heap} : ∀ {vs : List Value} {xs : List PyData} {as : List Addr}, ReadsAll h vs xs as → ∀ y ∈ vs, ∃ d bs, Reads h y d bs ∧ d ∈ xs ∧ d.depth ≤ PyData.depthAll xs
  | _, _, _, .nil, y, m => by cases m
  | _, _, _, .cons p q, y, m => by
    rcases List.mem_cons.mp m with rfl | m
    · exact ⟨_, _, p, List.mem_cons_self, Nat.le_max_left _ _⟩
    · obtain ⟨d, bs, r, hm, hle⟩ := memA q y m
      exact ⟨d, bs, r, List.mem_cons_of_mem _ hm, Nat.le_trans hle (Nat.le_max_right _ _)⟩
theorem plainAll_mem {xs : List PyData} (h : PyData.plainAll xs = true) : ∀ d ∈ xs, d.plain = true := by
  induction xs with
  | nil => intro d m; cases m
  | cons x xs ih =>
    simp [PyData.plainAll] at h
    intro d m
    rcases List.mem_cons.mp m with rfl | m
    · exact h.1
    · exact ih h.2 d m
section
variable {prog : Program} {w : World} {A : Around} {E : Value → Shared → Prop} {s : Shared}
theorem items_half {vs : Array Value} {xs : List PyData} {as bs : List Addr} {x : Value} {d : PyData} (rs : ReadsAll s.heap vs.toList xs as) (rx : Reads s.heap x d bs) (hp : PyData.plainAll xs = true ∨ d.plain = true)
    (hu : A.units + 1 + min (PyData.depthAll xs) d.depth < cLine) : ∀ y, y ∈ vs → EqAt A.in1 s y x (PyData.eqv (readOf s.heap y) d) := fun y hy => by
  obtain ⟨dy, cs, ry, hm, hle⟩ := memA rs y (by simpa using hy)
  rw [readOf_U ry]
  refine eqAt_half dy d A.in1 s y x _ _ ry rx (hp.imp (fun h => plainAll_mem h _ hm) id) ?_
  have h1 : min dy.depth d.depth ≤ min (PyData.depthAll xs) d.depth := Nat.le_min.mpr ⟨Nat.le_trans (Nat.min_le_left _ _) hle, Nat.min_le_right _ _⟩
  show A.units + 1 + min dy.depth d.depth < cLine
  omega
theorem any_half {vs : Array Value} {xs : List PyData} {as : List Addr} {d : PyData} (rs : ReadsAll s.heap vs.toList xs as) :
    vs.any (fun y => PyData.eqv (readOf s.heap y) d) = xs.any (fun y => PyData.eqv y d) := by
  rw [← readOf_A rs, List.any_map, ← Array.any_toList]
  rfl
theorem in_list_half {c x : Value} {xs : List PyData} {d : PyData} {as bs : List Addr} {Q : Value → Shared → Prop} (rc : Reads s.heap c (.list xs) as) (rx : Reads s.heap x d bs) (hp : PyData.plainAll xs = true ∨ d.plain = true)
    (hu : A.units + 1 + min (PyData.depthAll xs) d.depth < cLine) (h : Q (.bool (xs.any fun y => PyData.eqv y d)) s) : wpAny (model prog w) A (compareOp .In x c) Q E s := by
  cases rc with
  | list h1 h2 h3 h4 => exact in_listAt _ ⟨_, h1, h2, _, h3⟩ (items_half h4 rx hp hu) (by rw [any_half h4]; exact h)
theorem notIn_list_half {c x : Value} {xs : List PyData} {d : PyData} {as bs : List Addr} {Q : Value → Shared → Prop} (rc : Reads s.heap c (.list xs) as) (rx : Reads s.heap x d bs) (hp : PyData.plainAll xs = true ∨ d.plain = true)
    (hu : A.units + 1 + min (PyData.depthAll xs) d.depth < cLine) (h : Q (.bool (!xs.any fun y => PyData.eqv y d)) s) : wpAny (model prog w) A (compareOp .NotIn x c) Q E s := by
  cases rc with
  | list h1 h2 h3 h4 => exact notIn_listAt _ ⟨_, h1, h2, _, h3⟩ (items_half h4 rx hp hu) (by rw [any_half h4]; exact h)
theorem in_tuple_half {c x : Value} {xs : List PyData} {d : PyData} {as bs : List Addr} {Q : Value → Shared → Prop} (rc : Reads s.heap c (.tuple xs) as) (rx : Reads s.heap x d bs) (hp : PyData.plainAll xs = true ∨ d.plain = true)
    (hu : A.units + 1 + min (PyData.depthAll xs) d.depth < cLine) (h : Q (.bool (xs.any fun y => PyData.eqv y d)) s) : wpAny (model prog w) A (compareOp .In x c) Q E s := by
  cases rc with
  | tuple h1 h2 h3 h4 => exact in_tupleAt _ ⟨_, h1, h2, _, h3⟩ (items_half h4 rx hp hu) (by rw [any_half h4]; exact h)
theorem notIn_tuple_half {c x : Value} {xs : List PyData} {d : PyData} {as bs : List Addr} {Q : Value → Shared → Prop} (rc : Reads s.heap c (.tuple xs) as) (rx : Reads s.heap x d bs) (hp : PyData.plainAll xs = true ∨ d.plain = true)
    (hu : A.units + 1 + min (PyData.depthAll xs) d.depth < cLine) (h : Q (.bool (!xs.any fun y => PyData.eqv y d)) s) : wpAny (model prog w) A (compareOp .NotIn x c) Q E s := by
  cases rc with
  | tuple h1 h2 h3 h4 => exact notIn_tupleAt _ ⟨_, h1, h2, _, h3⟩ (items_half h4 rx hp hu) (by rw [any_half h4]; exact h)
end
end VQ
set_option Elab.async false
set_option linter.all false
set_option maxRecDepth 100000
set_option maxHeartbeats 1000000
/-! VL8: operations over data. -/
namespace VL
open PySem PySem.Spec PySem.SeqAt PyProof.Rows L2
/-! ### what stands for data reads as data -/
section
variable {X : Cx} {pins : List (Addr × Obj)} {σ : L2.St} {H : Hp} {G : Gp} {s : Shared}
theorem keys_read {P : Program} {w : World} {h : Heap} : ∀ {es : List DictEntry} {kvs : List (Key × Value)}, PySem.Pairs (mixKind P w) es kvs → ReadsAll h (es.map (·.key)) (kvs.map fun p => kD p.1) []
  | _, _, .nil => .nil
  | _, _, .cons hk hv t => by
    rename_i e kv es kvs
    have t' := keys_read (h := h) t
    have hk' : keyIs kv.1 e.key = true := hk
    rcases keyIs_shape hk' with ⟨i, tk, e1, e2⟩ | ⟨x, tk, e1, e2⟩
    · show ReadsAll h (e.key :: es.map (·.key)) (kD kv.1 :: kvs.map fun p => kD p.1) ([] ++ [])
      rw [e1, e2]
      exact .cons (.int i tk) t'
    · show ReadsAll h (e.key :: es.map (·.key)) (kD kv.1 :: kvs.map fun p => kD p.1) ([] ++ [])
      rw [e1, e2]
      exact .cons (.str x tk) t'
theorem repK_keys {K : KW} : ∀ {kvs : List (Key × V)} {ds : List (D × D)} {vs : List (Key × Value)}, RepK K G kvs ds → KV kvs vs → ds.map (·.1) = vs.map fun p => kD p.1
  | _, _, _, .nil, r => by cases r; rfl
  | _, _, _, .cons h t, r => by
    cases r with
    | cons r1 r2 =>
      rw [List.map_cons, List.map_cons, repK_keys t r2, ← r1.1]
/-- what stands at a dict with tuples for keys -/
theorem dn_at {P : Program} {w : World} {H : Hp} {h : Heap} {a : Addr} {o : Obj} {xs : List (NestedKey × Addr × V)} (x : ObjOk P w H h a (.frz o (dnO w a xs))) : (a == sysModules) = false ∧ ∃ us : List (NestedKey × Addr × Value), Paired (fun p q => p.1 = q.1 ∧ p.2.1 = q.2.1 ∧ RelV p.2.2 q.2.2) xs us ∧ (us.map (·.1)).Nodup ∧ us.length ≤ sizeLine ∧
    ∃ es ep, h.get? a = some o ∧ o.ExactDict ∧ o.data = .dict es ep ∧ es.toList = us.map fun x => ⟨x.1.hash w, .ref x.2.1, x.2.2⟩ := by
  obtain ⟨e0, ⟨⟨hs, us, pr, nd, hl, o', es, ep, e, ex, dd, el⟩, _⟩⟩ := x
  rw [e0] at e; cases e
  exact ⟨hs, us, pr, nd, hl, es, ep, e0, ex, dd, el⟩
mutual
theorem nk_reads (I : Inv X pins σ H s) (sg : Sh G H) : ∀ {k : NestedKey} {v : V}, Rep X.kw G v k.data → ∀ {u : Value}, RelV v u → Reads s.heap u k.data []
  | .none, _, r, u, q => by simp only [NestedKey.data] at r ⊢; cases r; cases q; exact .none
  | .num i, _, r, u, q => by simp only [NestedKey.data] at r ⊢; cases r; obtain ⟨t, rfl⟩ := q; exact .int i t
  | .text x, _, r, u, q => by simp only [NestedKey.data] at r ⊢; cases r; obtain ⟨t, rfl⟩ := q; exact .str x t
  | .tup ks, _, r, u, q => by
    simp only [NestedKey.data] at r ⊢
    cases r with
    | tup h rr =>
      cases q
      obtain ⟨its, rv, ⟨o, e, c, n, dd⟩, _⟩ := I.tuple (sqT_sh sg h.sqT)
      exact .tuple e c dd (by simpa using nks_reads I sg rr rv)
theorem nks_reads (I : Inv X pins σ H s) (sg : Sh G H) : ∀ {ks : List NestedKey} {vs : List V}, RepL X.kw G vs (NestedKey.datas ks) → ∀ {us : List Value}, Vals vs us → ReadsAll s.heap us (NestedKey.datas ks) []
  | [], _, r, us, q => by simp only [NestedKey.datas] at r ⊢; cases r; cases q; exact .nil
  | k :: ks, _, r, us, q => by
    simp only [NestedKey.datas] at r ⊢
    cases r with
    | cons r1 r2 =>
      cases q with
      | cons q1 q2 => exact .cons (nk_reads I sg r1 q1) (nks_reads I sg r2 q2)
end
abbrev NV : List (NestedKey × Addr × V) → List (NestedKey × Addr × Value) → Prop := Paired fun p q => p.1 = q.1 ∧ p.2.1 = q.2.1 ∧ RelV p.2.2 q.2.2
theorem repN_keys (I : Inv X pins σ H s) (sg : Sh G H) : ∀ {xs : List (NestedKey × Addr × V)} {ds : List (D × D)} {us : List (NestedKey × Addr × Value)}, RepN X.kw G xs ds → NV xs us → ReadsAll s.heap (us.map fun x => .ref x.2.1) (ds.map (·.1)) []
  | _, _, _, .nil, q => by cases q; exact .nil
  | _, _, _, .cons hk _ _ t, q => by
    cases q with
    | cons q1 q2 =>
      obtain ⟨_, q1b, _⟩ := q1
      simp only at q1b
      subst q1b
      exact .cons (nk_reads I sg hk rfl) (repN_keys I sg t q2)
mutual
theorem rep_reads (I : Inv X pins σ H s) (sg : Sh G H) : ∀ {v : V} {d : D}, Rep X.kw G v d → noRf d = true → ∀ {u : Value}, RelV v u → ∃ as, Reads s.heap u d as
  | _, _, .non, _, u, r => by cases r; exact ⟨_, .none⟩
  | _, _, .bl b, _, u, r => by cases r; exact ⟨_, .bool b⟩
  | _, _, .int i, _, u, r => by obtain ⟨t, rfl⟩ := r; exact ⟨_, .int i t⟩
  | _, _, .str x, _, u, r => by obtain ⟨t, rfl⟩ := r; exact ⟨_, .str x t⟩
  | _, _, .tup h rr, hz, u, r => by
    cases r
    obtain ⟨its, rv, ⟨o, e, c, n, dd⟩, _⟩ := I.tuple (sqT_sh sg h.sqT)
    obtain ⟨as, ra⟩ := repL_reads I sg rr (by simpa only [noRf] using hz) rv
    exact ⟨as, .tuple e c dd (by simpa using ra)⟩
  | _, _, .lst h rr, hz, u, r => by
    cases r
    obtain ⟨its, n, rv, e, _⟩ := I.lst (sg _ _ h)
    obtain ⟨as, ra⟩ := repL_reads I sg rr (by simpa only [noRf] using hz) rv
    exact ⟨_, .list e rfl rfl (by simpa using ra)⟩
  | _, _, .dk h rr, hz, u, r => by
    cases r
    cases rr with
    | k rr =>
      obtain ⟨_, _, vs, kv, o, es, ep, e, ex, dd, _, pr, _⟩ := (show Rd H _ _ from .inr ⟨_, sg _ _ h⟩).ok I.hok
      obtain ⟨as, ra⟩ := repK_reads I sg rr (by simpa only [noRf] using hz) kv pr
      have hk : ReadsAll s.heap (es.toList.map (·.key)) _ [] := keys_read pr
      rw [← repK_keys rr kv] at hk
      exact ⟨_, .dict e ex.1 dd hk ra⟩
    | n rr =>
      obtain ⟨_, us, pr, _, _, es, ep, e, ex, dd, el⟩ := dn_at (I.hok _ _ (sg _ _ h))
      obtain ⟨as, ra⟩ := repN_reads I sg rr (by simpa only [noRf] using hz) pr
      have hk := repN_keys I sg rr pr
      refine ⟨_, .dict (es := es) (as := []) (bs := as) e ex.1 dd ?_ ?_⟩
      · rw [el, List.map_map]; exact hk
      · rw [el, List.map_map]; exact ra
  | _, _, .rf h, hz, u, r => by rw [noRf_rf] at hz; cases hz
  | _, _, .sto _ _, hz, u, r => by rw [noRf_st] at hz; cases hz
theorem repL_reads (I : Inv X pins σ H s) (sg : Sh G H) : ∀ {vs : List V} {ds : List D}, RepL X.kw G vs ds → noRfL ds = true → ∀ {us : List Value}, Vals vs us → ∃ as, ReadsAll s.heap us ds as
  | _, _, .nil, _, us, r => by cases r; exact ⟨_, .nil⟩
  | _, _, .cons h t, hz, us, r => by
    simp only [noRfL, Bool.and_eq_true] at hz
    cases r with
    | cons r1 r2 =>
      obtain ⟨a1, h1⟩ := rep_reads I sg h hz.1 r1
      obtain ⟨a2, h2⟩ := repL_reads I sg t hz.2 r2
      exact ⟨_, .cons h1 h2⟩
theorem repK_reads (I : Inv X pins σ H s) (sg : Sh G H) : ∀ {kvs : List (Key × V)} {ds : List (D × D)}, RepK X.kw G kvs ds → noRfK ds = true → ∀ {vs : List (Key × Value)} {es : List DictEntry}, KV kvs vs → PySem.Pairs (mixKind X.prog X.w) es vs → ∃ as, ReadsAll s.heap (es.map (·.val)) (ds.map (·.2)) as
  | _, _, .nil, _, vs, es, r, p => by cases r; cases p; exact ⟨_, .nil⟩
  | _, _, .cons h t, hz, vs, es, r, p => by
    simp only [noRfK, Bool.and_eq_true] at hz
    cases r with
    | cons r1 r2 =>
      cases p with
      | cons hk hv p2 =>
        obtain ⟨a1, h1⟩ := rep_reads I sg h hz.1.2 r1.2
        obtain ⟨a2, h2⟩ := repK_reads I sg t hz.2 r2 p2
        rw [← hv] at h1
        exact ⟨_, .cons h1 h2⟩
theorem repN_reads (I : Inv X pins σ H s) (sg : Sh G H) : ∀ {xs : List (NestedKey × Addr × V)} {ds : List (D × D)}, RepN X.kw G xs ds → noRfK ds = true → ∀ {us : List (NestedKey × Addr × Value)}, NV xs us → ∃ as, ReadsAll s.heap (us.map fun x => x.2.2) (ds.map (·.2)) as
  | _, _, .nil, _, us, r => by cases r; exact ⟨_, .nil⟩
  | _, _, .cons _ _ h t, hz, us, r => by
    simp only [noRfK, Bool.and_eq_true] at hz
    cases r with
    | cons r1 r2 =>
      obtain ⟨a1, h1⟩ := rep_reads I sg h hz.1.2 r1.2.2
      obtain ⟨a2, h2⟩ := repN_reads I sg t hz.2 r2
      exact ⟨_, .cons h1 h2⟩
end
end
mutual
theorem plain_noRf : ∀ {d : D}, d.plain = true → noRf d = true
  | .none, _ => by simp [noRf]
  | .bool _, _ => by simp [noRf]
  | .int _, _ => by simp [noRf]
  | .str _, _ => by simp [noRf]
  | .list xs, h => by simp only [PyData.plain] at h; simp only [noRf]; exact plain_noRfL h
  | .tuple xs, h => by simp only [PyData.plain] at h; simp only [noRf]; exact plain_noRfL h
  | .dict _, h => by simp [PyData.plain] at h
theorem plain_noRfL : ∀ {ds : List D}, PyData.plainAll ds = true → noRfL ds = true
  | [], _ => by simp [noRfL]
  | x :: xs, h => by
    simp only [PyData.plainAll, Bool.and_eq_true] at h
    simp only [noRfL, Bool.and_eq_true]
    exact ⟨plain_noRf h.1, plain_noRfL h.2⟩
end
mutual
theorem noDict_noRf : ∀ {d : D}, d.hasDict = false → noRf d = true
  | .none, _ => by simp [noRf]
  | .bool _, _ => by simp [noRf]
  | .int _, _ => by simp [noRf]
  | .str _, _ => by simp [noRf]
  | .list xs, h => by simp only [PyData.hasDict] at h; simp only [noRf]; exact noDict_noRfL h
  | .tuple xs, h => by simp only [PyData.hasDict] at h; simp only [noRf]; exact noDict_noRfL h
  | .dict _, h => by simp [PyData.hasDict] at h
theorem noDict_noRfL : ∀ {ds : List D}, PyData.hasDictAll ds = false → noRfL ds = true
  | [], _ => by simp [noRfL]
  | x :: xs, h => by
    simp only [PyData.hasDictAll, Bool.or_eq_false_iff] at h
    simp only [noRfL, Bool.and_eq_true]
    exact ⟨noDict_noRf h.1, noDict_noRfL h.2⟩
end
/-! ### ==, !=, in, not in -/
def halfOk (d e : D) : Bool := (d.plain || e.plain) && (decide (d.depth ≤ 64) || decide (e.depth ≤ 64)) && (d.plain || noRf d) && (e.plain || noRf e)
def halfIn (d : D) (xs : List D) : Bool := (d.plain || PyData.plainAll xs) && (decide (d.depth ≤ 64) || decide (PyData.depthAll xs ≤ 64)) && (d.plain || noRf d) && (PyData.plainAll xs || noRfL xs)
def eqD (d e : D) : Option D := if halfOk d e = true then some (.bool (PyData.eqv d e)) else none
def neD (d e : D) : Option D := if halfOk d e = true then some (.bool (!PyData.eqv d e)) else none
def inD (d c : D) : Option D := match itemsD c with
  | some xs => if halfIn d xs = true then some (.bool (xs.any fun y => PyData.eqv y d)) else none
  | none => none
def notInD (d c : D) : Option D := match itemsD c with
  | some xs => if halfIn d xs = true then some (.bool (!xs.any fun y => PyData.eqv y d)) else none
  | none => none
section
variable {X : Cx}
theorem halfOk_iff {d e : D} (h : halfOk d e = true) : (d.plain = true ∨ e.plain = true) ∧ min d.depth e.depth ≤ 64 ∧ noRf d = true ∧ noRf e = true := by
  unfold halfOk at h; simp only [Bool.and_eq_true, Bool.or_eq_true, decide_eq_true_eq] at h
  obtain ⟨⟨⟨h, g⟩, n1⟩, n2⟩ := h
  exact ⟨h, by omega, n1.elim plain_noRf id, n2.elim plain_noRf id⟩
theorem halfIn_iff {d : D} {xs : List D} (h : halfIn d xs = true) : (PyData.plainAll xs = true ∨ d.plain = true) ∧ min (PyData.depthAll xs) d.depth ≤ 64 ∧ noRf d = true ∧ noRfL xs = true := by
  unfold halfIn at h; simp only [Bool.and_eq_true, Bool.or_eq_true, decide_eq_true_eq] at h
  obtain ⟨⟨⟨h, g⟩, n1⟩, n2⟩ := h
  exact ⟨h.symm, by omega, n1.elim plain_noRf id, n2.elim plain_noRfL id⟩
theorem bool_fin {pins : List (Addr × Obj)} {σ : L2.St} {H : Hp} {G : Gp} {s : Shared} {Q : VK} {b : Bool} (I : Inv X pins σ H s) (sg : Sh G H) (q : ∀ v G' H', Res X.kw G H 0 v (.bool b) G' H' → Q v H') : EP X pins σ Q (.bool b) s := ⟨.bl b, H, I, rfl, q _ _ _ (Res.of_rep sg (.bl b))⟩
theorem op_eqD (hu : X.A.units + 66 < cLine) : OpR X (compareOp .Eq) (rD X.kw 0 eqD) := by
  intro pins s σ H x y v u Q I rx ry ⟨d, e, z, G, sg, rd, re, hz, q⟩
  unfold eqD at hz
  split at hz
  · rename_i hk
    cases hz
    have hk := halfOk_iff hk
    obtain ⟨as, h1⟩ := rep_reads I sg rd hk.2.2.1 rx
    obtain ⟨bs, h2⟩ := rep_reads I sg re hk.2.2.2 ry
    exact VQ.RcAt_half h1 h2 hk.1 (by omega) X.prog X.w _ _ (bool_fin I sg q)
  · cases hz
theorem op_neD (hu : X.A.units + 66 < cLine) : OpR X (compareOp .NotEq) (rD X.kw 0 neD) := by
  intro pins s σ H x y v u Q I rx ry ⟨d, e, z, G, sg, rd, re, hz, q⟩
  unfold neD at hz
  split at hz
  · rename_i hk
    cases hz
    have hk := halfOk_iff hk
    obtain ⟨as, h1⟩ := rep_reads I sg rd hk.2.2.1 rx
    obtain ⟨bs, h2⟩ := rep_reads I sg re hk.2.2.2 ry
    exact VQ.RcNeAt_half h1 h2 hk.1 (by omega) X.prog X.w _ _ (bool_fin I sg q)
  · cases hz
theorem op_inD (hu : X.A.units + 66 < cLine) : OpR X (compareOp .In) (rD X.kw 0 inD) := by
  intro pins s σ H x y v u Q I rx ry ⟨d, c, z, G, sg, rd, rc, hz, q⟩
  unfold inD at hz
  cases c with
  | list xs =>
    simp only [itemsD] at hz
    split at hz
    · rename_i hk
      cases hz
      have hk := halfIn_iff hk
      obtain ⟨as, h1⟩ := rep_reads I sg rd hk.2.2.1 rx
      obtain ⟨bs, h2⟩ := rep_reads I sg rc (by simpa only [noRf] using hk.2.2.2) ry
      exact VQ.in_list_half h2 h1 hk.1 (by omega) (bool_fin I sg q)
    · cases hz
  | tuple xs =>
    simp only [itemsD] at hz
    split at hz
    · rename_i hk
      cases hz
      have hk := halfIn_iff hk
      obtain ⟨as, h1⟩ := rep_reads I sg rd hk.2.2.1 rx
      obtain ⟨bs, h2⟩ := rep_reads I sg rc (by simpa only [noRf] using hk.2.2.2) ry
      exact VQ.in_tuple_half h2 h1 hk.1 (by omega) (bool_fin I sg q)
    · cases hz
  | _ => cases hz
theorem op_notInD (hu : X.A.units + 66 < cLine) : OpR X (compareOp .NotIn) (rD X.kw 0 notInD) := by
  intro pins s σ H x y v u Q I rx ry ⟨d, c, z, G, sg, rd, rc, hz, q⟩
  unfold notInD at hz
  cases c with
  | list xs =>
    simp only [itemsD] at hz
    split at hz
    · rename_i hk
      cases hz
      have hk := halfIn_iff hk
      obtain ⟨as, h1⟩ := rep_reads I sg rd hk.2.2.1 rx
      obtain ⟨bs, h2⟩ := rep_reads I sg rc (by simpa only [noRf] using hk.2.2.2) ry
      exact VQ.notIn_list_half h2 h1 hk.1 (by omega) (bool_fin I sg q)
    · cases hz
  | tuple xs =>
    simp only [itemsD] at hz
    split at hz
    · rename_i hk
      cases hz
      have hk := halfIn_iff hk
      obtain ⟨as, h1⟩ := rep_reads I sg rd hk.2.2.1 rx
      obtain ⟨bs, h2⟩ := rep_reads I sg rc (by simpa only [noRf] using hk.2.2.2) ry
      exact VQ.notIn_tuple_half h2 h1 hk.1 (by omega) (bool_fin I sg q)
    · cases hz
  | _ => cases hz
/-! ### repr -/
mutual
def hasL : D → Bool
  | .list _ => true
  | .tuple xs => hasLAll xs
  | .dict kvs => hasLKv kvs
  | _ => false
def hasLAll : List D → Bool
  | [] => false
  | x :: xs => hasL x || hasLAll xs
def hasLKv : List (D × D) → Bool
  | [] => false
  | (_, x) :: xs => hasL x || hasLKv xs
end
section
variable {X : Cx} {pins : List (Addr × Obj)} {σ : L2.St} {G : Gp} {H : Hp} {s : Shared}
mutual
theorem rep_readsM (I : Inv X pins σ H s) (sg : Sh G H) : ∀ {v : V} {d : D}, Rep X.kw G v d → noRf d = true → ∀ {u : Value}, RelV v u → ∃ as, Reads s.heap u d as ∧ (hasL d = false → sysModules ∉ as)
  | _, _, .non, _, u, r => by cases r; exact ⟨_, .none, fun _ z => (by cases z)⟩
  | _, _, .bl b, _, u, r => by cases r; exact ⟨_, .bool b, fun _ z => (by cases z)⟩
  | _, _, .int i, _, u, r => by obtain ⟨t, rfl⟩ := r; exact ⟨_, .int i t, fun _ z => (by cases z)⟩
  | _, _, .str x, _, u, r => by obtain ⟨t, rfl⟩ := r; exact ⟨_, .str x t, fun _ z => (by cases z)⟩
  | _, _, .tup h rr, hz, u, r => by
    cases r
    obtain ⟨its, rv, ⟨o, e, c, n, dd⟩, _⟩ := I.tuple (sqT_sh sg h.sqT)
    obtain ⟨as, ra, hn⟩ := repL_readsM I sg rr (by simpa only [noRf] using hz) rv
    exact ⟨as, .tuple e c dd (by simpa using ra), fun z => hn (by simpa [hasL] using z)⟩
  | _, _, .lst h rr, hz, u, r => by
    cases r
    obtain ⟨its, n, rv, e, _⟩ := I.lst (sg _ _ h)
    obtain ⟨as, ra, hn⟩ := repL_readsM I sg rr (by simpa only [noRf] using hz) rv
    exact ⟨_, .list e rfl rfl (by simpa using ra), fun z => by simp [hasL] at z⟩
  | _, _, .dk h rr, hz, u, r => by
    cases r
    cases rr with
    | k rr =>
      obtain ⟨_, hs, vs, kv, o, es, ep, e, ex, dd, _, pr, _⟩ := (show Rd H _ _ from .inr ⟨_, sg _ _ h⟩).ok I.hok
      obtain ⟨as, ra, hn⟩ := repK_readsM I sg rr (by simpa only [noRf] using hz) kv pr
      have hk : ReadsAll s.heap (es.toList.map (·.key)) _ [] := keys_read pr
      rw [← repK_keys rr kv] at hk
      refine ⟨_, .dict e ex.1 dd hk ra, fun z hm => ?_⟩
      simp only [List.append_nil, List.cons_append, List.nil_append, List.mem_cons] at hm
      rcases hm with hm | hm
      · rw [← hm] at hs; simp at hs
      · exact hn (by simpa [hasL] using z) hm
    | n rr =>
      obtain ⟨hs, us, pr, _, _, es, ep, e, ex, dd, el⟩ := dn_at (I.hok _ _ (sg _ _ h))
      obtain ⟨as, ra, hn⟩ := repN_readsM I sg rr (by simpa only [noRf] using hz) pr
      have hk := repN_keys I sg rr pr
      refine ⟨_, .dict (es := es) (as := []) (bs := as) e ex.1 dd (by rw [el, List.map_map]; exact hk) (by rw [el, List.map_map]; exact ra), fun z hm => ?_⟩
      simp only [List.append_nil, List.cons_append, List.nil_append, List.mem_cons] at hm
      rcases hm with hm | hm
      · rw [← hm] at hs; simp at hs
      · exact hn (by simpa [hasL] using z) hm
  | _, _, .rf h, hz, u, r => by rw [noRf_rf] at hz; cases hz
  | _, _, .sto _ _, hz, u, r => by rw [noRf_st] at hz; cases hz
theorem repL_readsM (I : Inv X pins σ H s) (sg : Sh G H) : ∀ {vs : List V} {ds : List D}, RepL X.kw G vs ds → noRfL ds = true → ∀ {us : List Value}, Vals vs us → ∃ as, ReadsAll s.heap us ds as ∧ (hasLAll ds = false → sysModules ∉ as)
  | _, _, .nil, _, us, r => by cases r; exact ⟨_, .nil, fun _ z => (by cases z)⟩
  | _, _, .cons h t, hz, us, r => by
    simp only [noRfL, Bool.and_eq_true] at hz
    cases r with
    | cons r1 r2 =>
      obtain ⟨a1, h1, n1⟩ := rep_readsM I sg h hz.1 r1
      obtain ⟨a2, h2, n2⟩ := repL_readsM I sg t hz.2 r2
      refine ⟨_, .cons h1 h2, fun z hm => ?_⟩
      simp only [hasLAll, Bool.or_eq_false_iff] at z
      rcases List.mem_append.mp hm with hm | hm
      · exact n1 z.1 hm
      · exact n2 z.2 hm
theorem repK_readsM (I : Inv X pins σ H s) (sg : Sh G H) : ∀ {kvs : List (Key × V)} {ds : List (D × D)}, RepK X.kw G kvs ds → noRfK ds = true → ∀ {vs : List (Key × Value)} {es : List DictEntry}, KV kvs vs → PySem.Pairs (mixKind X.prog X.w) es vs → ∃ as, ReadsAll s.heap (es.map (·.val)) (ds.map (·.2)) as ∧ (hasLKv ds = false → sysModules ∉ as)
  | _, _, .nil, _, vs, es, r, p => by cases r; cases p; exact ⟨_, .nil, fun _ z => (by cases z)⟩
  | _, _, .cons h t, hz, vs, es, r, p => by
    simp only [noRfK, Bool.and_eq_true] at hz
    cases r with
    | cons r1 r2 =>
      cases p with
      | cons hk hv p2 =>
        obtain ⟨a1, h1, n1⟩ := rep_readsM I sg h hz.1.2 r1.2
        obtain ⟨a2, h2, n2⟩ := repK_readsM I sg t hz.2 r2 p2
        rw [← hv] at h1
        refine ⟨_, .cons h1 h2, fun z hm => ?_⟩
        simp only [hasLKv, Bool.or_eq_false_iff] at z
        rcases List.mem_append.mp hm with hm | hm
        · exact n1 z.1 hm
        · exact n2 z.2 hm
theorem repN_readsM (I : Inv X pins σ H s) (sg : Sh G H) : ∀ {xs : List (NestedKey × Addr × V)} {ds : List (D × D)}, RepN X.kw G xs ds → noRfK ds = true → ∀ {us : List (NestedKey × Addr × Value)}, NV xs us → ∃ as, ReadsAll s.heap (us.map fun x => x.2.2) (ds.map (·.2)) as ∧ (hasLKv ds = false → sysModules ∉ as)
  | _, _, .nil, _, us, r => by cases r; exact ⟨_, .nil, fun _ z => (by cases z)⟩
  | _, _, .cons _ _ h t, hz, us, r => by
    simp only [noRfK, Bool.and_eq_true] at hz
    cases r with
    | cons r1 r2 =>
      obtain ⟨a1, h1, n1⟩ := rep_readsM I sg h hz.1.2 r1.2.2
      obtain ⟨a2, h2, n2⟩ := repN_readsM I sg t hz.2 r2
      refine ⟨_, .cons h1 h2, fun z hm => ?_⟩
      simp only [hasLKv, Bool.or_eq_false_iff] at z
      rcases List.mem_append.mp hm with hm | hm
      · exact n1 z.1 hm
      · exact n2 z.2 hm
end
end
def reprD : List D → Option D := fun ds => match ds with
  | [d] => if (d.showable && decide (d.depth ≤ 64) && decide (d.shown.length ≤ lim) && (!d.hasDict || (!hasL d && noRf d))) = true then some (.str d.shown) else none
  | _ => none
theorem call_reprD (hu : X.A.units + 80 < cLine) (hgd : X.A.guards = some []) : CallR X (.builtin "repr") (cD X.kw 0 reprD) := by
  intro pins s σ H xs us Q I rv ⟨ds, z, G, sg, rr, hz, q⟩
  unfold reprD at hz
  split at hz
  · rename_i d
    split at hz
    · rename_i hk
      cases hz
      simp only [Bool.and_eq_true, decide_eq_true_eq, Bool.not_eq_true', Bool.or_eq_true] at hk
      cases rr with
      | cons r rr =>
        cases rr
        cases rv with
        | cons r1 r2 =>
          cases r2
          rename_i x u
          have fin : ∀ (h' : Heap) (tk : Nat) (t : Tok), (∀ b o, s.heap.get? b = some o → h'.get? b = some o) → EP X pins σ Q (.str d.shown t) { s with heap := h', toks := tk } := fun h' tk t hk' => ⟨.str d.shown, H, I.kept hk', ⟨_, rfl⟩, q _ _ _ (Res.of_rep sg (.str _))⟩
          have hsz : d.shown.length ≤ sizeLine := lim_le hk.1.2
          have gen : ∀ (a : Addr), u = .ref a → wpAny (model X.prog X.w) X.A (call (.builtin "repr") [u]) (EP X pins σ Q) X.xe s := fun a e => by
            subst e
            obtain ⟨as, h1, hn⟩ := rep_readsM I sg r (hk.2.elim noDict_noRf fun y => y.2) r1
            exact repr_of_reads' h1 hk.1.1.1 (fun z => by
              rcases hk.2 with q | q
              · rw [q] at z; cases z
              · exact hn q.1) hgd (by have := hk.1.1.2; omega) (fun _ _ e => e) (fun h' t tk hk' => fin h' tk t hk') hsz
          have here : ∀ (t : Tok), EP X pins σ Q (.str d.shown t) { s with toks := s.toks + 1 } := fun t => fin s.heap (s.toks + 1) t fun _ _ e => e
          cases r with
          | non => cases r1; exact PySem.P.repr_of_none (by simpa [PyData.shown] using here s.toks)
          | bl b => cases r1; exact PySem.P.repr_of_bool (by simpa [PyData.shown] using here s.toks)
          | int i => obtain ⟨t, rfl⟩ := r1; exact PySem.P.repr_of_int (by simpa [PyData.showable] using hk.1.1.1) (by simpa [PyData.shown] using here s.toks)
          | str y => obtain ⟨t, rfl⟩ := r1; exact PySem.P.repr_of_str (by simpa [PyData.shown] using here s.toks) (by simpa [PyData.shown] using hsz)
          | tup h rr => cases r1; exact gen _ rfl
          | lst h rr => cases r1; exact gen _ rfl
          | dk h rr => cases r1; exact gen _ rfl
          | rf h => cases r1; exact gen _ rfl
          | sto _ _ => exact absurd (hk.2.elim noDict_noRf fun y => y.2) (by rw [noRf_st]; decide)
    · cases hz
  · cases hz
end
end VL
set_option Elab.async false
set_option linter.all false
set_option maxRecDepth 100000
set_option maxHeartbeats 1000000
/-! VL9: numbers, places, slices, built-ins over data. -/
namespace VL
open PySem PySem.Spec PyProof.Rows L2
/-! ### a rule at depth 1 serves at depth 0 -/
section
variable {K : KW} {G : Gp} {H : Hp} {G' : Gp} {H' : Hp} {n : Nat} {v : V} {d : D}
theorem Res.zero (hn : n < 100) (R : Res K G H n v d G' H') : ∃ G2, Res K G H 0 v d G2 H' := by
  obtain ⟨M, o, nd, fr⟩ := R.own
  refine ⟨shw G' H' M, R.gg.trans shw_l, shw_h R.gh, R.hh, fun a u e hz => ?_, R.nt.trans shw_nt, [], .rep (Own.read R.gh hn o fun _ h => h), List.nodup_nil, fun a m => (by cases m)⟩
  by_cases hm : a ∈ M
  · exact fr a hm
  · rw [shw_not hm] at e; exact R.new a u e hz
theorem rD0 (hn : n < 100) {F : D → D → Option D} {x y : V} {H : Hp} {Q : VK} (h : rD K 0 F x y H Q) : rD K n F x y H Q := by
  obtain ⟨d, e, z, G, sg, rd, re, hz, q⟩ := h
  refine ⟨d, e, z, G, sg, rd, re, hz, fun v G' H' R => ?_⟩
  obtain ⟨G2, R2⟩ := R.zero hn
  exact q v G2 H' R2
theorem OpR.zero {X : Cx} {f : Value → Value → Sem Value} {F : D → D → Option D} (h : OpR X f (rD X.kw n F)) (hn : n < 100 := by decide) : OpR X f (rD X.kw 0 F) := fun pins s σ H x y v u Q I rx ry q => h pins s σ H x y v u Q I rx ry (rD0 hn q)
theorem CallR.zero {X : Cx} {f : Value} {F : List D → Option D} (h : CallR X f (cD X.kw n F)) (hn : n < 100 := by decide) : CallR X f (cD X.kw 0 F) := fun pins s σ H xs us Q I rv ⟨ds, z, G, sg, rr, hz, q⟩ => h pins s σ H xs us Q I rv ⟨ds, z, G, sg, rr, hz, fun v G' H' R => by
  obtain ⟨G2, R2⟩ := R.zero hn
  exact q v G2 H' R2⟩
end
/-! ### operators on ints -/
def ii (C : Int → Int → Bool) (g : Int → Int → D) : D → D → Option D
  | .int i, .int j => if C i j = true then some (g i j) else none
  | _, _ => none
def yes2 : Int → Int → Bool := fun _ _ => true
def okMul (i j : Int) : Bool := (decide (-(2 ^ 64) < i) && decide (i < 2 ^ 64)) || (decide (-(2 ^ 64) < j) && decide (j < 2 ^ 64))
def okDiv (_ j : Int) : Bool := decide (0 < j) && decide (j < 1073741824)
def okMod (_ j : Int) : Bool := decide (0 < j)
def okPow (i j : Int) : Bool := decide (0 ≤ j) && decide (j ≤ 1000) && decide (i.natAbs < 2 ^ 64)
section
variable {X : Cx}
theorem ii_some {C : Int → Int → Bool} {g : Int → Int → D} {d e z : D} (h : ii C g d e = some z) : ∃ i j, d = .int i ∧ e = .int j ∧ C i j = true ∧ z = g i j := by
  unfold ii at h
  split at h
  · rename_i i j
    split at h
    · rename_i hc
      cases h
      exact ⟨i, j, rfl, rfl, hc, rfl⟩
    · cases h
  · cases h
theorem op_ii {f : Value → Value → Sem Value} {C : Int → Int → Bool} {P : Int → Int → Prop} {g : Int → Int → Int} (h : OpR X f (rI P fun i j => .int (g i j))) (hc : ∀ i j, C i j = true → P i j) : OpR X f (rD X.kw 0 (ii C fun i j => .int (g i j))) :=
  fun pins s σ H x y v u Q I rx ry ⟨d, e, z, G, sg, rd, re, hz, q⟩ => by
    obtain ⟨i, j, rfl, rfl, c, rfl⟩ := ii_some hz
    cases rd
    cases re
    exact h pins s σ H _ _ v u Q I rx ry ⟨i, j, rfl, rfl, hc i j c, q _ _ _ (Res.of_rep sg (.int _))⟩
theorem op_ii0 {f : Value → Value → Sem Value} {g : Int → Int → Int} (h : OpR X f (rI0 fun i j => .int (g i j))) : OpR X f (rD X.kw 0 (ii yes2 fun i j => .int (g i j))) :=
  fun pins s σ H x y v u Q I rx ry ⟨d, e, z, G, sg, rd, re, hz, q⟩ => by
    obtain ⟨i, j, rfl, rfl, c, rfl⟩ := ii_some hz
    cases rd
    cases re
    exact h pins s σ H _ _ v u Q I rx ry ⟨i, j, rfl, rfl, q _ _ _ (Res.of_rep sg (.int _))⟩
theorem op_iB {f : Value → Value → Sem Value} {g : Int → Int → Bool} (h : OpR X f (rI0 fun i j => .bl (g i j))) : OpR X f (rD X.kw 0 (ii yes2 fun i j => .bool (g i j))) :=
  fun pins s σ H x y v u Q I rx ry ⟨d, e, z, G, sg, rd, re, hz, q⟩ => by
    obtain ⟨i, j, rfl, rfl, c, rfl⟩ := ii_some hz
    cases rd
    cases re
    exact h pins s σ H _ _ v u Q I rx ry ⟨i, j, rfl, rfl, q _ _ _ (Res.of_rep sg (.bl _))⟩
def subD : D → D → Option D := ii yes2 fun i j => .int (i - j)
def mulD : D → D → Option D := ii okMul fun i j => .int (i * j)
def modD : D → D → Option D := ii okMod fun i j => .int (i % j)
def fdivD : D → D → Option D := ii okDiv fun i j => .int (i / j)
def powD : D → D → Option D := ii okPow fun i j => .int (i ^ j.toNat)
def ltD : D → D → Option D := ii yes2 fun i j => .bool (decide (i < j))
def gtD : D → D → Option D := ii yes2 fun i j => .bool (decide (j < i))
def geD : D → D → Option D := ii yes2 fun i j => .bool (decide (j ≤ i))
theorem o_sub : OpR X (binaryOp .Sub) (rD X.kw 0 subD) := op_ii0 op_sub
theorem o_mul : OpR X (binaryOp .Mult) (rD X.kw 0 mulD) := op_ii op_mul fun i j h => by
  unfold okMul at h
  simp only [Bool.or_eq_true, Bool.and_eq_true, decide_eq_true_eq] at h
  exact h
theorem o_mod : OpR X (binaryOp .Mod) (rD X.kw 0 modD) := op_ii op_mod fun i j h => of_decide_eq_true h
theorem o_fdiv : OpR X (binaryOp .FloorDiv) (rD X.kw 0 fdivD) := op_ii op_fdiv fun i j h => by
  unfold okDiv at h
  simp only [Bool.and_eq_true, decide_eq_true_eq] at h
  exact h
theorem o_pow : OpR X (binaryOp .Pow) (rD X.kw 0 powD) := op_ii op_pow fun i j h => by
  unfold okPow at h
  simp only [Bool.and_eq_true, decide_eq_true_eq] at h
  exact ⟨h.1.1, Int.le_trans h.1.2 (by decide), h.2⟩
theorem o_lt : OpR X (compareOp .Lt) (rD X.kw 0 ltD) := op_iB op_lt
theorem o_gt : OpR X (compareOp .Gt) (rD X.kw 0 gtD) := op_iB op_gt
theorem o_ge : OpR X (compareOp .GtE) (rD X.kw 0 geD) := op_iB op_ge
def isND (d e : D) : Option D := match e with
  | .none => some (.bool (match d with | .none => true | _ => false))
  | _ => none
def notND (d e : D) : Option D := match e with
  | .none => some (.bool (match d with | .none => false | _ => true))
  | _ => none
theorem o_isN : OpR X (compareOp .Is) (rD X.kw 0 isND) := fun pins s σ H x y v u Q I rx ry ⟨d, e, z, G, sg, rd, re, hz, q⟩ => by
  unfold isND at hz
  cases re with
  | non =>
    cases hz
    refine op_isN pins s σ H x _ v u Q I rx ry ⟨rfl, ?_⟩
    cases rd <;> exact q _ _ _ (Res.of_rep sg (.bl _))
  | _ => cases hz
/-! ### + -/
/-- a tuple laid by a push -/
theorem tup_laid {pins : List (Addr × Obj)} {σ : L2.St} {H : Hp} {G : Gp} {s : Shared} {Q : VK} {its : List Value} {vs : List V} {ds : List D} (I : Inv X pins σ H s) (sg : Sh G H) (rv : Vals vs its) (rr : RepL X.kw G vs ds) (hz : vs.length ≤ sizeLine)
    (q : ∀ v G' H', Res X.kw G H 0 v (.tuple ds) G' H' → Q v H') : EP X pins σ Q (.ref s.heap.objs.size) { s with heap := s.heap.push { cls := .type "tuple", data := .seq its.toArray } } := by
  have hf : H s.heap.objs.size = none := I.hok.fresh (Nat.le_refl _)
  refine ⟨.ref s.heap.objs.size, upd H s.heap.objs.size (.frz { cls := .type "tuple", data := .seq its.toArray } (.tup vs)), I.laid (t' := s.toks) (fun b ob e => Heap.get?_push_of_some _ e) (Nat.le_refl _) ⟨Heap.get?_push_size _ rfl, hz, its, rv, IsTup.new _ _⟩, rfl, q _ _ _ (Res.newT sg hf rfl rfl rr)⟩
def catT : D → D → Option D
  | .tuple xs, .tuple ys => if xs.length + ys.length ≤ lim then some (.tuple (xs ++ ys)) else none
  | _, _ => none
def catL : D → D → Option D
  | .list xs, .list ys => if xs.length + ys.length ≤ lim then some (.list (xs ++ ys)) else none
  | _, _ => none
theorem o_catT : OpR X (binaryOp .Add) (rD X.kw 0 catT) := fun pins s σ H x y v u Q I rx ry ⟨d, e, z, G, sg, rd, re, hz, q⟩ => by
  unfold catT at hz
  cases rd with
  | tup h1 r1 =>
    cases re with
    | tup h2 r2 =>
      simp only at hz
      split at hz
      · rename_i hl
        cases hz
        cases rx
        cases ry
        obtain ⟨its, v1, p1, _⟩ := I.tuple (sqT_sh sg h1.sqT)
        obtain ⟨its2, v2, p2, _⟩ := I.tuple (sqT_sh sg h2.sqT)
        have hl' : its.length + its2.length ≤ sizeLine := by rw [← v1.length, ← v2.length, r1.length, r2.length]; exact lim_le hl
        by_cases e1 : its = []
        · subst e1
          cases v1
          cases r1
          exact cat_tup0 p1 p2 ⟨.ref _, H, I, rfl, q _ _ _ (Res.of_rep sg (.tup h2 r2))⟩
        · refine HT.cat_tup p1 p2 e1 (fun e2 => ?_) (fun e2 => ?_) hl'
          · subst e2
            cases v2
            cases r2
            refine ⟨.ref _, H, I, rfl, q _ _ _ (Res.of_rep sg (.tup h1 ?_))⟩
            rw [List.append_nil]; exact r1
          · exact tup_laid I sg (v1.append v2) (r1.append r2) (by rw [List.length_append, v1.length, v2.length]; exact hl') q
      · cases hz
    | _ => cases hz
  | _ => cases hz
theorem o_catL : OpR X (binaryOp .Add) (rD X.kw 1 catL) := fun pins s σ H x y v u Q I rx ry ⟨d, e, z, G, sg, rd, re, hz, q⟩ => by
  unfold catL at hz
  cases rd with
  | lst h1 r1 =>
    cases re with
    | lst h2 r2 =>
      simp only at hz
      split at hz
      · rename_i hl
        cases hz
        exact op_cat pins s σ H _ _ v u Q I rx ry ⟨_, _, _, _, rfl, rfl, sg _ _ h1, sg _ _ h2, by rw [r1.length, r2.length]; exact lim_le hl, fun p hp => q _ _ _ (Res.newL sg hp (r1.append r2))⟩
      · cases hz
    | _ => cases hz
  | _ => cases hz
/-- + of ints, tuples, lists -/
def addD (d e : D) : Option D := match d with
  | .int _ => ii yes2 (fun i j => .int (i + j)) d e
  | .tuple _ => catT d e
  | .list _ => catL d e
  | _ => none
theorem o_add : OpR X (binaryOp .Add) (rD X.kw 0 addD) := fun pins s σ H x y v u Q I rx ry ⟨d, e, z, G, sg, rd, re, hz, q⟩ => by
  unfold addD at hz
  split at hz
  · exact op_ii0 op_add pins s σ H x y v u Q I rx ry ⟨_, e, z, G, sg, rd, re, hz, q⟩
  · exact o_catT pins s σ H x y v u Q I rx ry ⟨_, e, z, G, sg, rd, re, hz, q⟩
  · exact (OpR.zero o_catL (by decide)) pins s σ H x y v u Q I rx ry ⟨_, e, z, G, sg, rd, re, hz, q⟩
  · cases hz
/-! ### places -/
def ixD (d e : D) : Option D := match d, e with
  | .list xs, .int i => atI xs i
  | .tuple xs, .int i => atI xs i
  | _, _ => none
theorem RepL.atI {K : KW} {G : Gp} {vs : List V} {ds : List D} {i : Int} {d : D} (r : RepL K G vs ds) (h : L2.atI ds i = some d) : ∃ v, L2.atI vs i = some v ∧ Rep K G v d := by
  unfold L2.atI at h ⊢
  rw [r.length]
  cases q : ixN ds.length i with
  | none => rw [q] at h; cases h
  | some j =>
    rw [q] at h
    simp only [Option.bind_some] at h ⊢
    exact r.get h
theorem x_seq : IxR X (rD X.kw 0 ixD) := fun value slice pins s σ H x y v u Q I rx ry ⟨d, e, z, G, sg, rd, re, hz, q⟩ hs => by
  unfold ixD at hz
  cases rd with
  | lst h r =>
    cases re with
    | int i =>
      obtain ⟨w, e1, rw1⟩ := r.atI hz
      exact ix_list value slice pins s σ H _ _ v u Q I rx ry ⟨_, _, _, _, rfl, rfl, SqL.of (sg _ _ h), e1, q _ _ _ (Res.of_rep sg rw1)⟩ hs
    | _ => cases hz
  | tup h r =>
    cases re with
    | int i =>
      obtain ⟨w, e1, rw1⟩ := r.atI hz
      exact ix_tup value slice pins s σ H _ _ v u Q I rx ry ⟨_, _, _, _, rfl, rfl, sqT_sh sg h.sqT, e1, q _ _ _ (Res.of_rep sg rw1)⟩ hs
    | _ => cases hz
  | _ => cases hz
end
/-! ### slices -/
def cutD (xs : List D) (lo hi : Option Int) : List D := (xs.drop (HT.sIx xs.length 0 lo)).take (HT.sIx xs.length xs.length hi - HT.sIx xs.length 0 lo)
abbrev Px := List D → Option (Option Int × List D)
def pNo : Px := fun env => some (none, env)
def pIs (f : Ex) : Px := fun env => (f env).bind fun p => match p.1 with
  | .int i => some (some i, p.2)
  | _ => none
def tMO (K : KW) (Γ : Ctx) (f : Px) : TO := fun σ H Q => ∃ (O : Gh) (G : Gp) (env : List D) (L : Nat → List Addr) (r : Option Int) (env' : List D), StR K O Γ H G σ env L ∧ f env = some (r, env') ∧ ∀ H' G' L', StR K O Γ H' G' σ env' L' → SameG G G' → Q r H'
def slcD (d : D) (lo hi : Option Int) : Option D := match d with
  | .list xs => if xs.length ≤ lim then some (.list (cutD xs lo hi)) else none
  | .tuple xs => if xs.length ≤ lim then some (.tuple (cutD xs lo hi)) else none
  | _ => none
def slcL (d : D) (lo hi : Option Int) : Option D := match d with
  | .list xs => if xs.length ≤ lim then some (.list (cutD xs lo hi)) else none
  | _ => none
def eSl (F : D → Option Int → Option Int → Option D) (a : Ex) (lo hi : Px) : Ex := fun env => (a env).bind fun p => (lo p.2).bind fun q => (hi q.2).bind fun r => (F p.1 q.1 r.1).map fun z => (z, r.2)
section
variable {X : Cx} {Γ : Ctx} {a b : Expr} {f : Ex} {pos p2 : Pos} {n : Nat}
theorem _root_.L2.PO.imp {X : Cx} {e : Option Expr} {t t' : TO} (h : PO X e t) (k : ∀ σ H Q, t' σ H Q → t σ H Q) : PO X e t' := ⟨fun pins s σ H Q I q => h.run pins s σ H Q I (k σ H Q q)⟩
theorem o_none : PO X none (tMO X.kw Γ pNo) := po_none.imp fun σ H Q ⟨O, G, env, L, r, env1, S, e, k⟩ => by
  simp only [pNo, Option.some.injEq, Prod.mk.injEq] at e
  obtain ⟨rfl, rfl⟩ := e
  exact k H G L S (fun _ _ e => e)
theorem o_some (h : PE X a (tM X.kw Γ f 0)) : PO X (some a) (tMO X.kw Γ (pIs f)) := (po_some h).imp fun σ H Q ⟨O, G, env, L, r, env1, S, e, k⟩ => by
  unfold pIs at e
  cases h1 : f env with
  | none => rw [h1] at e; cases e
  | some p =>
    rw [h1] at e
    simp only [Option.bind_some] at e
    obtain ⟨d, env2⟩ := p
    cases d with
    | int i =>
      simp only [Option.some.injEq, Prod.mk.injEq] at e
      obtain ⟨rfl, rfl⟩ := e
      refine ⟨O, G, env, L, _, _, S, h1, fun v H1 G1 L1 S1 s1 v1 => ?_⟩
      have := v1.rep
      cases this
      exact ⟨i, rfl, k H1 G1 L1 S1 s1⟩
    | _ => cases e
/-- a slice by values -/
def sD (K : KW) (n : Nat) (F : D → Option Int → Option Int → Option D) : V → Option Int → Option Int → Hp → VK → Prop := fun x lo hi H Q => ∃ d z G, Sh G H ∧ Rep K G x d ∧ F d lo hi = some z ∧ ∀ v G' H', Res K G H n v z G' H' → Q v H'
theorem m_sl {F : D → Option Int → Option Int → Option D} {lo hi : Option Expr} {fl fh : Px} (hr : SlR X (sD X.kw n F)) (he : PE X a (tM X.kw Γ f 0)) (hl : PO X lo (tMO X.kw Γ fl)) (hu : PO X hi (tMO X.kw Γ fh)) : PE X (.Subscript a (.Slice lo hi none p2) pos) (tM X.kw Γ (eSl F f fl fh) n) :=
  (pe_slice hr he hl hu).imp fun σ H Q ⟨O, G, env, L, r, env4, S, e, k⟩ => by
    unfold eSl at e
    cases h1 : f env with
    | none => rw [h1] at e; cases e
    | some p =>
      rw [h1] at e
      simp only [Option.bind_some] at e
      cases h2 : fl p.2 with
      | none => rw [h2] at e; cases e
      | some q =>
        rw [h2] at e
        simp only [Option.bind_some] at e
        cases h3 : fh q.2 with
        | none => rw [h3] at e; cases e
        | some t =>
          rw [h3] at e
          simp only [Option.bind_some] at e
          cases h4 : F p.1 q.1 t.1 with
          | none => rw [h4] at e; cases e
          | some z =>
            rw [h4] at e
            simp only [Option.map_some, Option.some.injEq, Prod.mk.injEq] at e
            obtain ⟨rfl, rfl⟩ := e
            exact ⟨O, G, env, L, p.1, p.2, S, h1, fun v H1 G1 L1 S1 s1 v1 => ⟨O, G1, p.2, L1, q.1, q.2, S1, h2, fun H2 G2 L2 S2 s2 => ⟨O, G2, q.2, L2, t.1, t.2, S2, h3, fun H3 G3 L3 S3 s3 =>
              ⟨p.1, z, G3, S3.gh, (v1.rep.mono s2).mono s3, h4, fun w G4 H4 R => k w H4 G4 L3 (S3.res R).1 (((s1.trans s2).trans s3).trans R.gg) (S3.res R).2⟩⟩⟩⟩
theorem cutV_rep {K : KW} {G : Gp} {vs : List V} {ds : List D} (r : RepL K G vs ds) (lo hi : Option Int) : RepL K G (cutV vs lo hi) (cutD ds lo hi) := by
  unfold cutV cutD
  rw [r.length]
  exact (r.drop _).take _
theorem sl_L : SlR X (sD X.kw 1 slcL) := fun pins s σ H x v vl vu lo hi sl Q I rx hs pl pu ⟨d, z, G, sg, rd, hz, q⟩ => by
  unfold slcL at hz
  cases rd with
  | lst h r =>
    simp only at hz
    split at hz
    · cases hz
      exact sl_list pins s σ H _ v vl vu lo hi sl Q I rx hs pl pu ⟨_, _, rfl, SqL.of (sg _ _ h), fun p hp => q _ _ _ (Res.newL sg hp (cutV_rep r lo hi))⟩
    · cases hz
  | _ => cases hz
theorem sl_D : SlR X (sD X.kw 0 slcD) := fun pins s σ H x v vl vu lo hi sl Q I rx hs pl pu ⟨d, z, G, sg, rd, hz, q⟩ => by
  unfold slcD at hz
  cases rd with
  | lst h r =>
    refine sl_L pins s σ H _ v vl vu lo hi sl Q I rx hs pl pu ⟨_, z, G, sg, .lst h r, hz, fun w G' H' R => ?_⟩
    obtain ⟨G2, R2⟩ := R.zero (by decide)
    exact q w G2 H' R2
  | tup h r =>
    simp only at hz
    split at hz
    · rename_i hlim
      cases hz
      cases rx
      obtain ⟨its, rv, ht, hzz⟩ := I.tuple (sqT_sh sg h.sqT)
      have hlen : its.toArray.size = its.length := List.size_toArray ..
      refine ⟨"tuple", _, PyProof.Rows.slot_tuple_getitem.lookup, ht.typeIs, ?_⟩
      by_cases hw : HT.sIx its.toArray.size 0 lo = 0 ∧ HT.sIx its.toArray.size its.toArray.size hi = its.toArray.size
      · refine getItem_tuple_whole ht hs pl pu hw ⟨.ref _, H, I, rfl, q _ _ _ (Res.of_rep sg ?_)⟩
        rename_i ds _
        have en : its.toArray.size = ds.length := by rw [hlen, ← rv.length, r.length]
        rw [en] at hw
        have e : cutD ds lo hi = ds := by
          unfold cutD
          rw [hw.1, hw.2, List.drop_zero, Nat.sub_zero, List.take_length]
        rw [e]
        exact .tup h r
      · refine HT.getItem_tuple_cut ht hs pl pu hw ?_ (by rw [hlen, ← rv.length]; exact hzz)
        refine tup_laid I sg (vs := cutV _ lo hi) ?_ (cutV_rep r lo hi) (Nat.le_trans (cutV_length _ lo hi) hzz) q
        unfold cutV
        rw [hlen, ← rv.length]
        exact (rv.drop _).take _
    · cases hz
  | _ => cases hz
end
/-! ### built-ins -/
def lenD : List D → Option D := fun ds => match ds with
  | [.list xs] => some (.int xs.length)
  | [.tuple xs] => some (.int xs.length)
  | [.str x] => if x.length ≤ lim then some (.int x.length) else none
  | _ => none
def intD : List D → Option D := fun ds => match ds with
  | [.int i] => some (.int i)
  | [.bool b] => some (.int (if b then 1 else 0))
  | _ => none
def listD : List D → Option D := fun ds => match ds with
  | [d] => (itemsD d).map .list
  | _ => none
def tupD : List D → Option D := fun ds => match ds with
  | [d] => (itemsD d).map .tuple
  | _ => none
section
variable {X : Cx}
theorem c_len : CallR X (.builtin "len") (cD X.kw 0 lenD) := fun pins s σ H xs us Q I rv ⟨ds, z, G, sg, rr, hz, q⟩ => by
  unfold lenD at hz
  cases rr with
  | nil => cases hz
  | cons r rr =>
    cases rr with
    | cons _ _ => cases r <;> cases hz
    | nil =>
      cases r with
      | lst h r =>
        cases hz
        exact call_len pins s σ H _ us Q I rv ⟨_, _, rfl, .inl ⟨_, SqL.of (sg _ _ h), rfl⟩, by rw [r.length]; exact q _ _ _ (Res.of_rep sg (.int _))⟩
      | tup h r =>
        cases hz
        exact call_len pins s σ H _ us Q I rv ⟨_, _, rfl, .inr ⟨_, sqT_sh sg h.sqT, rfl⟩, by rw [r.length]; exact q _ _ _ (Res.of_rep sg (.int _))⟩
      | str x =>
        simp only at hz
        split at hz
        · rename_i hl
          cases hz
          exact call_len pins s σ H _ us Q I rv ⟨_, _, rfl, ⟨lim_le hl, rfl⟩, q _ _ _ (Res.of_rep sg (.int _))⟩
        · cases hz
      | _ => cases hz
theorem c_int : CallR X (.type "int") (cD X.kw 0 intD) := fun pins s σ H xs us Q I rv ⟨ds, z, G, sg, rr, hz, q⟩ => by
  unfold intD at hz
  split at hz
  · cases hz
    cases rr with
    | cons r rr =>
      cases rr
      cases r
      exact call_int1 pins s σ H _ us Q I rv (.inl ⟨_, rfl, q _ _ _ (Res.of_rep sg (.int _))⟩)
  · cases hz
    cases rr with
    | cons r rr =>
      cases rr
      cases r
      exact call_int1 pins s σ H _ us Q I rv (.inr ⟨_, rfl, q _ _ _ (Res.of_rep sg (.int _))⟩)
  · cases hz
theorem c_list : CallR X (.type "list") (cD X.kw 1 listD) := fun pins s σ H xs us Q I rv ⟨ds, z, G, sg, rr, hz, q⟩ => by
  unfold listD at hz
  cases rr with
  | nil => cases hz
  | cons r rr =>
    cases rr with
    | cons _ _ => cases hz
    | nil =>
      cases r with
      | lst h r =>
        cases hz
        exact call_list_of pins s σ H _ us Q I rv ⟨_, _, rfl, .inl (SqL.of (sg _ _ h)), fun p hp => q _ _ _ (Res.newL sg hp r)⟩
      | tup h r =>
        cases hz
        exact call_list_of pins s σ H _ us Q I rv ⟨_, _, rfl, .inr (sqT_sh sg h.sqT), fun p hp => q _ _ _ (Res.newL sg hp r)⟩
      | _ => cases hz
theorem c_tuple : CallR X (.type "tuple") (cD X.kw 0 tupD) := fun pins s σ H xs us Q I rv ⟨ds, z, G, sg, rr, hz, q⟩ => by
  unfold tupD at hz
  cases rr with
  | nil => cases hz
  | cons r rr =>
    cases rr with
    | cons _ _ => cases hz
    | nil =>
      cases rv with
      | cons r1 r2 =>
        cases r2
        cases r with
        | lst h r =>
          cases hz
          cases r1
          obtain ⟨its, rv, pl, hzz⟩ := I.list (SqL.of (sg _ _ h))
          refine call_tuple_list pl.isList (fun h' kp => ?_) (by rw [List.size_toArray, ← rv.length]; exact hzz)
          have I1 : Inv X pins σ H { s with heap := h' } := I.kept (t' := s.toks) kp
          exact tup_laid I1 sg rv r hzz q
        | tup h r =>
          cases hz
          cases r1
          obtain ⟨its, rv, pl, hzz⟩ := I.tuple (sqT_sh sg h.sqT)
          exact call_tuple_same pl ⟨.ref _, H, I, rfl, q _ _ _ (Res.of_rep sg (.tup h r))⟩
        | _ => cases hz
end
end VL
set_option Elab.async false
set_option linter.all false
set_option maxRecDepth 100000
set_option maxHeartbeats 1000000
/-! VLA: several names at once; stores to places. -/
namespace VL
open PySem PySem.Spec L2
section
variable {K : KW} {O : Gh} {Γ Δ : Ctx} {H H' : Hp} {G G' : Gp} {σ : St} {env : List D} {L : Nat → List Addr} {n m i : Nat} {v w : V} {d e : D} {M N : List Addr}
/-- a value that has come, its own objects named -/
structure VM (K : KW) (O : Gh) (Γ : Ctx) (H : Hp) (G : Gp) (L : Nat → List Addr) (n : Nat) (v : V) (d : D) (M : List Addr) : Prop where
  own : Own K H G n v d M
  nd : M.Nodup
  new : ∀ a ∈ M, O.own a
  dj : ∀ i m, At Γ i m → ∀ a ∈ M, a ∉ L i
theorem VR.vm (h : VR K O Γ H G L n v d) : ∃ M, VM K O Γ H G L n v d M := by
  obtain ⟨M, a, b, c, e⟩ := h
  exact ⟨M, a, b, c, e⟩
def setL (L : Nat → List Addr) (i : Nat) (M : List Addr) : Nat → List Addr := fun j => if j = i then M else L j
theorem StR.setM (S : StR K O Γ H G σ env L) (hv : VM K O Γ H G L n v d M) (hi : i < Γ.length) (hio : ∀ m, Γ[i]? ≠ some (.io m)) : StR K O (Γ.set i (.ow n)) H G (σ.set i (some v)) (env.set i d) (setL L i M) := by
  have li : i < env.length := by rw [← S.lg]; exact hi
  have l0 : setL L i M i = M := if_pos rfl
  have l1 : ∀ j, j ≠ i → setL L i M j = L j := fun j z => if_neg z
  refine ⟨S.gh, by simp [S.ls], by simp [S.lg], fun j m hj => ?_, fun j m hj => ?_, fun j j' m m' hj hj' ne a ha ha' => ?_, fun j m hj a ha => ?_, S.pres, S.gn, fun j m e => ?_⟩
  · rcases at_set hj with ⟨rfl, rfl⟩ | ⟨z, hj'⟩
    · rw [l0]
      exact ⟨v, d, by rw [List.getElem?_set_self (by rw [S.ls]; exact li)], by rw [List.getElem?_set_self li], hv.own⟩
    · rw [l1 j z]
      obtain ⟨v', d', e1, e2, o⟩ := S.slot j m hj'
      exact ⟨v', d', by rw [List.getElem?_set_ne (Ne.symm z)]; exact e1, by rw [List.getElem?_set_ne (Ne.symm z)]; exact e2, o⟩
  · rcases at_set hj with ⟨rfl, rfl⟩ | ⟨z, hj'⟩
    · rw [l0]; exact hv.nd
    · rw [l1 j z]; exact S.nd j m hj'
  · rcases at_set hj with ⟨rfl, rfl⟩ | ⟨z, hj2⟩
    · rw [l0] at ha
      rcases at_set hj' with ⟨z', _⟩ | ⟨z', hj2'⟩
      · exact ne z'.symm
      · rw [l1 j' z'] at ha'; exact hv.dj j' m' hj2' a ha ha'
    · rw [l1 j z] at ha
      rcases at_set hj' with ⟨rfl, rfl⟩ | ⟨z', hj2'⟩
      · rw [l0] at ha'; exact hv.dj j m hj2 a ha' ha
      · rw [l1 j' z'] at ha'; exact S.dj j j' m m' hj2 hj2' ne a ha ha'
  · rcases at_set hj with ⟨rfl, rfl⟩ | ⟨z, hj2⟩
    · rw [l0] at ha; exact hv.new a ha
    · rw [l1 j z] at ha; exact S.new j m hj2 a ha
  · by_cases z : j = i
    · subst z
      rw [List.getElem?_set_self hi] at e; cases e
    · rw [List.getElem?_set_ne (Ne.symm z)] at e
      obtain ⟨v', e1, e2, e3⟩ := S.io j m e
      exact ⟨v', e1, by rw [List.getElem?_set_ne (Ne.symm z)]; exact e2, e3⟩
/-- a second value, apart from the first, behind the first one's store -/
theorem VM.behind (h : VM K O Γ H G L m w e N) (hd : ∀ a ∈ N, a ∉ M) : VM K O (Γ.set i (.ow n)) H G (setL L i M) m w e N :=
  ⟨h.own, h.nd, h.new, fun j k hj a ha hl => by
    rcases at_set hj with ⟨rfl, rfl⟩ | ⟨z, hj'⟩
    · unfold setL at hl; rw [if_pos rfl] at hl; exact hd a ha hl
    · unfold setL at hl; rw [if_neg z] at hl; exact h.dj j k hj' a ha hl⟩
/-- a value is kept while another expression runs -/
theorem VM.through {Γ' : Ctx} {σ' : St} {env' : List D} {L' : Nat → List Addr} (S : StR K O Γ H G σ env L) (S' : StR K (O.at K Γ H G L) Γ' H' G' σ' env' L') (gg : SameG G G') (h : VM K O Γ H G L n v d M) (hn : n < 200) : VM K O Γ' H' G' L' n v d M := by
  have as : ∀ a ∈ M, ∃ o, H a = some o ∧ H' a = some o ∧ G' a = none ∧ ∀ i m, At Γ' i m → a ∉ L' i := fun a ha => by
    obtain ⟨g, hs, _⟩ := h.own.objs a ha
    cases q : H a with
    | none => rw [q] at hs; cases hs
    | some o =>
      obtain ⟨z1, z2, z3⟩ := S.aside S' q g (fun i m hi hl => h.dj i m hi a ha hl) (by rw [← q]; exact h.own.hk a ha)
      exact ⟨o, rfl, z1, z2, z3⟩
  refine ⟨h.own.mono gg (.inl hn) fun a ha => ?_, h.nd, h.new, fun i m hi a ha => ?_⟩
  · obtain ⟨o, e1, e2, e3, _⟩ := as a ha
    exact ⟨by rw [e1, e2], e3⟩
  · obtain ⟨o, _, _, _, e4⟩ := as a ha
    exact e4 i m hi
/-- what came later is apart from what came first -/
theorem VM.apart {Γ' : Ctx} {L' : Nat → List Addr} (S : StR K O Γ H G σ env L) (h : VM K O Γ H G L n v d M) (h' : VM K (O.at K Γ H G L) Γ' H' G' L' m w e N) : ∀ a ∈ N, a ∉ M := fun a ha hm => by
  obtain ⟨g, hs, _⟩ := h.own.objs a hm
  rcases h'.new a ha with z | z
  · have z := S.pres.nt_no (a := a) z (h.own.hk a hm)
    rw [z] at hs; cases hs
  · obtain ⟨i, k, hi, hl⟩ := mem_allL.mp z
    exact h.dj i k hi a hm hl
end
def asg2 (i j : Nat) (f g : Ex) : Sx := fun env => (f env).bind fun p => (g p.2).map fun q => .nx ((q.2.set i p.1).set j q.1)
def asg3 (i j l : Nat) (f g h : Ex) : Sx := fun env => (f env).bind fun p => (g p.2).bind fun q => (h q.2).map fun r => .nx (((r.2.set i p.1).set j q.1).set l r.1)
section
variable {X : Cx} {Γ : Ctx} {T : Tg} {a b c : Expr} {f g h : Ex} {n m k i j l : Nat} {x y z : Str} {px py pz pt pos : Pos} {kt k2 : Nat} {pt2 : Pos}
/-- two expressions in a row, each to its depth -/
theorem two_of (hn : n < 200) {O : Gh} {G : Gp} {σ : St} {H : Hp} {env env1 env2 : List D} {L : Nat → List Addr} {r1 r2 : D} {R : List V → Hp → Prop} (S : StR X.kw O Γ H G σ env L) (e1 : f env = some (r1, env1)) (e2 : g env1 = some (r2, env2))
    (hR : ∀ v w H' G' L' M N, StR X.kw O Γ H' G' σ env2 L' → SameG G G' → VM X.kw O Γ H' G' L' n v r1 M → VM X.kw O Γ H' G' L' m w r2 N → (∀ a ∈ N, a ∉ M) → R [v, w] H') :
    tCons (tM X.kw Γ f n) (tCons (tM X.kw Γ g m) tNil) σ H R := by
  refine ⟨O, G, env, L, r1, env1, S, e1, fun v H1 G1 L1 S1 s1 v1 => ?_⟩
  obtain ⟨M, v1⟩ := v1.vm
  refine ⟨_, G1, env1, L1, r2, env2, S1.reg, e2, fun w H2 G2 L2 S2 s2 v2 => ?_⟩
  obtain ⟨N, v2⟩ := v2.vm
  exact hR v w H2 G2 L2 M N (S1.unreg S2) (s1.trans s2) (v1.through S1 S2 s2 hn) ⟨v2.own, v2.nd, fun a ha => S1.own_of (v2.new a ha), v2.dj⟩ (VM.apart S1 v1 v2)
theorem three_of (hn : n < 200) (hm : m < 200) {O : Gh} {G : Gp} {σ : St} {H : Hp} {env env1 env2 env3 : List D} {L : Nat → List Addr} {r1 r2 r3 : D} {R : List V → Hp → Prop} (S : StR X.kw O Γ H G σ env L) (e1 : f env = some (r1, env1)) (e2 : g env1 = some (r2, env2)) (e3 : h env2 = some (r3, env3))
    (hR : ∀ u v w H' G' L' M N P, StR X.kw O Γ H' G' σ env3 L' → SameG G G' → VM X.kw O Γ H' G' L' n u r1 M → VM X.kw O Γ H' G' L' m v r2 N → VM X.kw O Γ H' G' L' k w r3 P → (∀ a ∈ N, a ∉ M) → (∀ a ∈ P, a ∉ M) → (∀ a ∈ P, a ∉ N) → R [u, v, w] H') :
    tCons (tM X.kw Γ f n) (tCons (tM X.kw Γ g m) (tCons (tM X.kw Γ h k) tNil)) σ H R := by
  refine ⟨O, G, env, L, r1, env1, S, e1, fun u H1 G1 L1 S1 s1 v1 => ?_⟩
  obtain ⟨M, v1⟩ := v1.vm
  refine ⟨_, G1, env1, L1, r2, env2, S1.reg, e2, fun v H2 G2 L2 S2 s2 v2 => ?_⟩
  obtain ⟨N, v2⟩ := v2.vm
  have S2' := S1.unreg S2
  have v1' := v1.through S1 S2 s2 hn
  have v2' : VM X.kw O Γ H2 G2 L2 m v r2 N := ⟨v2.own, v2.nd, fun a ha => S1.own_of (v2.new a ha), v2.dj⟩
  refine ⟨_, G2, env2, L2, r3, env3, S2'.reg, e3, fun w H3 G3 L3 S3 s3 v3 => ?_⟩
  obtain ⟨P, v3⟩ := v3.vm
  exact hR u v w H3 G3 L3 M N P (S2'.unreg S3) ((s1.trans s2).trans s3) (v1'.through S2' S3 s3 hn) (v2'.through S2' S3 s3 hm) ⟨v3.own, v3.nd, fun a ha => S2'.own_of (v3.new a ha), v3.dj⟩ (VM.apart S1 v1 v2) (VM.apart S2' v1' v3) (VM.apart S2' v2' v3)
theorem asg2_some {env : List D} {o : Out} (e : asg2 i j f g env = some o) : ∃ r1 env1 r2 env2, f env = some (r1, env1) ∧ g env1 = some (r2, env2) ∧ o = .nx ((env2.set i r1).set j r2) := by
  unfold asg2 at e
  cases q : f env with
  | none => rw [q] at e; cases e
  | some p =>
    rw [q] at e
    simp only [Option.bind_some] at e
    cases q2 : g p.2 with
    | none => rw [q2] at e; cases e
    | some p2 =>
      rw [q2] at e
      simp only [Option.map_some, Option.some.injEq] at e
      exact ⟨p.1, p.2, p2.1, p2.2, rfl, q2, e.symm⟩
theorem asg3_some {env : List D} {o : Out} (e : asg3 i j l f g h env = some o) : ∃ r1 env1 r2 env2 r3 env3, f env = some (r1, env1) ∧ g env1 = some (r2, env2) ∧ h env2 = some (r3, env3) ∧ o = .nx (((env3.set i r1).set j r2).set l r3) := by
  unfold asg3 at e
  cases q : f env with
  | none => rw [q] at e; cases e
  | some p =>
    rw [q] at e
    simp only [Option.bind_some] at e
    cases q2 : g p.2 with
    | none => rw [q2] at e; cases e
    | some p2 =>
      rw [q2] at e
      simp only [Option.bind_some] at e
      cases q3 : h p2.2 with
      | none => rw [q3] at e; cases e
      | some p3 =>
        rw [q3] at e
        simp only [Option.map_some, Option.some.injEq] at e
        exact ⟨p.1, p.2, p2.1, p2.2, p3.1, p3.2, rfl, q2, q3, e.symm⟩
theorem notIo_set {Γ : Ctx} {i j n : Nat} (h : notIo Γ[j]? = true) : notIo (Γ.set i (.ow n))[j]? = true := by
  by_cases e : i = j
  · subst e
    rw [List.getElem?_set_self (notIo_lt h).1]; rfl
  · rw [List.getElem?_set_ne e]; exact h
theorem set2 {K : KW} {O : Gh} {H : Hp} {G : Gp} {σ : St} {env : List D} {L : Nat → List Addr} {v w : V} {r1 r2 : D} {M N : List Addr} (hi : notIo Γ[i]? = true) (hj : notIo Γ[j]? = true) (S : StR K O Γ H G σ env L) (v1 : VM K O Γ H G L n v r1 M) (v2 : VM K O Γ H G L m w r2 N) (hd : ∀ a ∈ N, a ∉ M) :
    ∃ L', StR K O ((Γ.set i (.ow n)).set j (.ow m)) H G ((σ.set i (some v)).set j (some w)) ((env.set i r1).set j r2) L' :=
  have S1 := S.setM v1 (notIo_lt hi).1 (notIo_lt hi).2
  ⟨_, S1.setM (v2.behind (i := i) (n := n) hd) (notIo_lt (notIo_set hj)).1 (notIo_lt (notIo_set hj)).2⟩
theorem set3 {K : KW} {O : Gh} {H : Hp} {G : Gp} {σ : St} {env : List D} {L : Nat → List Addr} {u v w : V} {r1 r2 r3 : D} {M N P : List Addr} (hi : notIo Γ[i]? = true) (hj : notIo Γ[j]? = true) (hl : notIo Γ[l]? = true) (S : StR K O Γ H G σ env L) (v1 : VM K O Γ H G L n u r1 M) (v2 : VM K O Γ H G L m v r2 N) (v3 : VM K O Γ H G L k w r3 P)
    (h1 : ∀ a ∈ N, a ∉ M) (h2 : ∀ a ∈ P, a ∉ M) (h3 : ∀ a ∈ P, a ∉ N) : ∃ L', StR K O (((Γ.set i (.ow n)).set j (.ow m)).set l (.ow k)) H G (((σ.set i (some u)).set j (some v)).set l (some w)) (((env.set i r1).set j r2).set l r3) L' :=
  have S1 := S.setM v1 (notIo_lt hi).1 (notIo_lt hi).2
  have w2 := v2.behind (i := i) (n := n) h1
  have w3 := v3.behind (i := i) (n := n) h2
  have S2 := S1.setM w2 (notIo_lt (notIo_set (i := i) (n := n) hj)).1 (notIo_lt (notIo_set (i := i) (n := n) hj)).2
  ⟨_, S2.setM (w3.behind (i := j) (n := m) h3) (notIo_lt (notIo_set (notIo_set hl))).1 (notIo_lt (notIo_set (notIo_set hl))).2⟩
/-- a, b = x, y, both plain locals -/
theorem s_par (i j : Nat) (hc : X.calm = true) (hN : X.N.Nodup) (ha : PE X a (tM X.kw Γ f n)) (hb : PE X b (tM X.kw Γ g m)) (hi : X.N[i]? = some x := by rfl) (hj : X.N[j]? = some y := by rfl) (hij : i ≠ j := by decide)
    (hx : X.env.scope.names.lookup x = some .local := by rfl) (hy : X.env.scope.names.lookup y = some .local := by rfl) (gi : notIo Γ[i]? = true := by rfl) (gj : notIo Γ[j]? = true := by rfl)
    (hw : swappedStores [.Tuple [.Name x px, .Name y py] kt pt] (.Tuple [a, b] k2 pt2) X.env = pure (some [x, y]) := by rfl)
    (hs : swapsWithSole [.Tuple [.Name x px, .Name y py] kt pt] (.Tuple [a, b] k2 pt2) pos.line X.env = pure false := by rfl) (h1 : starEach [a, b] X.env = (false, eval a X.env) :: starEach [b] X.env := by rfl) (h2 : starEach [b] X.env = (false, eval b X.env) :: starEach [] X.env := by rfl) (hn_ : n < 200 := by decide) :
    PS X (.Assign [.Tuple [.Name x px, .Name y py] kt pt] (.Tuple [a, b] k2 pt2) pos) (tS X.kw T Γ ((Γ.set i (.ow n)).set j (.ow m)) (asg2 i j f g)) :=
  (ps_par hc hN hi hj hij hx hy (pa_cons ha (pa_cons hb pa_nil h2) h1) hw hs).imp fun E σ H ⟨O, G, env, L, o, S, e, k⟩ => by
    obtain ⟨r1, env1, r2, env2, e1, e2, rfl⟩ := asg2_some e
    refine two_of hn_ S e1 e2 fun v w H' G' L' M N S' s' v1 v2 hd => ⟨v, w, rfl, ?_⟩
    obtain ⟨L2, S2⟩ := set2 gi gj S' v1 v2 hd
    exact k _ _ _ _ S2 s'
theorem s_par3 (i j l : Nat) (hc : X.calm = true) (hN : X.N.Nodup) (ha : PE X a (tM X.kw Γ f n)) (hb : PE X b (tM X.kw Γ g m)) (hcc : PE X c (tM X.kw Γ h k)) (hi : X.N[i]? = some x := by rfl) (hj : X.N[j]? = some y := by rfl) (hl : X.N[l]? = some z := by rfl) (hij : i ≠ j := by decide) (hil : i ≠ l := by decide) (hjl : j ≠ l := by decide)
    (hx : X.env.scope.names.lookup x = some .local := by rfl) (hy : X.env.scope.names.lookup y = some .local := by rfl) (hz : X.env.scope.names.lookup z = some .local := by rfl) (gi : notIo Γ[i]? = true := by rfl) (gj : notIo Γ[j]? = true := by rfl) (gl : notIo Γ[l]? = true := by rfl)
    (hw : swappedStores [.Tuple [.Name x px, .Name y py, .Name z pz] kt pt] (.Tuple [a, b, c] k2 pt2) X.env = pure (some [x, y, z]) := by rfl)
    (hs : swapsWithSole [.Tuple [.Name x px, .Name y py, .Name z pz] kt pt] (.Tuple [a, b, c] k2 pt2) pos.line X.env = pure false := by rfl) (h1 : starEach [a, b, c] X.env = (false, eval a X.env) :: starEach [b, c] X.env := by rfl) (h2 : starEach [b, c] X.env = (false, eval b X.env) :: starEach [c] X.env := by rfl) (h3 : starEach [c] X.env = (false, eval c X.env) :: starEach [] X.env := by rfl) (hn_ : n < 200 := by decide) (hm_ : m < 200 := by decide) :
    PS X (.Assign [.Tuple [.Name x px, .Name y py, .Name z pz] kt pt] (.Tuple [a, b, c] k2 pt2) pos) (tS X.kw T Γ (((Γ.set i (.ow n)).set j (.ow m)).set l (.ow k)) (asg3 i j l f g h)) :=
  (ps_par3 hc hN hi hj hl hij hil hjl hx hy hz (pa_cons ha (pa_cons hb (pa_cons hcc pa_nil h3) h2) h1) hw hs).imp fun E σ H ⟨O, G, env, L, o, S, e, kk⟩ => by
    obtain ⟨r1, env1, r2, env2, r3, env3, e1, e2, e3, rfl⟩ := asg3_some e
    refine three_of hn_ hm_ S e1 e2 e3 fun u v w H' G' L' M N P S' s' v1 v2 v3 d1 d2 d3 => ⟨u, v, w, rfl, ?_⟩
    obtain ⟨L2, S2⟩ := set3 gi gj gl S' v1 v2 v3 d1 d2 d3
    exact kk _ _ _ _ S2 s'
/-- a new tuple that is not looked at again -/
theorem weakT {K : KW} {O : Gh} {H : Hp} {G : Gp} {σ : St} {env : List D} {L : Nat → List Addr} {p : Addr} {o : HO} (S : StR K O Γ H G σ env L) (hp : H p = none) : StR K O Γ (upd H p o) G σ env L :=
  have hh : Same H (upd H p o) := fun b u e => by rw [upd_ne (ne_of_none e hp)]; exact e
  S.ext ⟨(fun _ _ e => e), S.gh.trans hh, hh, fun a u e n => (by rw [n] at e; cases e), NT.refl _⟩
theorem weakV {K : KW} {O : Gh} {H : Hp} {G : Gp} {L : Nat → List Addr} {p : Addr} {o : HO} {v : V} {d : D} {M : List Addr} (hv : VM K O Γ H G L n v d M) (hp : H p = none) : VM K O Γ (upd H p o) G L n v d M :=
  have ne : ∀ a ∈ M, a ≠ p := fun a ha z => by
    have h1 := (hv.own.objs a ha).2.1
    rw [z, hp] at h1; cases h1
  ⟨hv.own.mono (fun _ _ e => e) (.inr (NT.refl _)) fun a ha => ⟨upd_ne (ne a ha), (hv.own.objs a ha).1⟩, hv.nd, hv.new, hv.dj⟩
/-- a, b = x, y by way of a tuple -/
theorem s_parG (i j : Nat) (hc : X.calm = true) (hN : X.N.Nodup) (ha : PE X a (tM X.kw Γ f n)) (hb : PE X b (tM X.kw Γ g m)) (hi : X.N[i]? = some x := by rfl) (hj : X.N[j]? = some y := by rfl)
    (hx : Loc X.env.scope x := by first | exact Or.inl rfl | exact Or.inr rfl) (hy : Loc X.env.scope y := by first | exact Or.inl rfl | exact Or.inr rfl) (gi : notIo Γ[i]? = true := by rfl) (gj : notIo Γ[j]? = true := by rfl)
    (fx : X.fn x = true ∨ X.env.scope.names.lookup x = some .local := by first | exact .inl rfl | exact .inr rfl | assumption) (fy : X.fn y = true ∨ X.env.scope.names.lookup y = some .local := by first | exact .inl rfl | exact .inr rfl | assumption)
    (hw : swappedStores [.Tuple [.Name x px, .Name y py] kt pt] (.Tuple [a, b] k2 pt2) X.env = pure none := by rfl)
    (hs : swapsWithSole [.Tuple [.Name x px, .Name y py] kt pt] (.Tuple [a, b] k2 pt2) pos.line X.env = pure false := by rfl) (h1 : starEach [a, b] X.env = (false, eval a X.env) :: starEach [b] X.env := by rfl) (h2 : starEach [b] X.env = (false, eval b X.env) :: starEach [] X.env := by rfl) (hn_ : n < 200 := by decide) :
    PS X (.Assign [.Tuple [.Name x px, .Name y py] kt pt] (.Tuple [a, b] k2 pt2) pos) (tS X.kw T Γ ((Γ.set i (.ow n)).set j (.ow m)) (asg2 i j f g)) :=
  (ps_asg (pe_tup (pa_cons ha (pa_cons hb pa_nil h2) h1)) (pg_tup (n := 2) hc (pgs_cons (pg_name (i := i) hN hi hx fx) (pgs_cons (pg_name (i := j) hN hj hy fy) pgs_nil))) hs hw).imp fun E σ H ⟨O, G, env, L, o, S, e, k⟩ => by
    obtain ⟨r1, env1, r2, env2, e1, e2, rfl⟩ := asg2_some e
    unfold tAsg tTup
    refine two_of hn_ S e1 e2 fun v w H' G' L' M N S' s' v1 v2 hd => ⟨by show 2 ≤ sizeLine; decide, fun p hp => ⟨p, [v, w], rfl, .inl (.inl upd_same), rfl, v, [w], rfl, w, [], rfl, rfl, ?_⟩⟩
    obtain ⟨L2, S2⟩ := set2 gi gj (weakT S' hp) (weakV v1 hp) (weakV v2 hp) hd
    exact k _ _ _ _ S2 s'
/-- target = value, the target of any form -/
def asgG (f : Ex) (gt : Gx) : Sx := fun env => (f env).bind fun p => (gt p.1 p.2).map .nx
theorem s_asg {tg : Expr} {Γ1 : Ctx} {gt : Gx} {ws : List Nat} (he : PE X a (tM X.kw Γ f 0)) (hg : PG X tg (tG X.kw false Γ Γ1 gt ws)) (hs : swapsWithSole [tg] a pos.line X.env = pure false := by rfl) (hw : swappedStores [tg] a X.env = pure none := by rfl)
    (h1 : (assignEach [tg] X.env).map (·.2) = [assign tg X.env] := by rfl) : PS X (.Assign [tg] a pos) (tS X.kw T Γ Γ1 (asgG f gt)) :=
  (ps_asg he hg hs hw h1).imp fun E σ H ⟨O, G, env, L, o, S, e, k⟩ => by
    unfold asgG at e
    cases q : f env with
    | none => rw [q] at e; cases e
    | some p =>
      rw [q] at e
      simp only [Option.bind_some] at e
      cases q2 : gt p.1 p.2 with
      | none => rw [q2] at e; cases e
      | some e2 =>
        rw [q2] at e
        simp only [Option.map_some, Option.some.injEq] at e
        subst e
        exact ⟨O, G, env, L, p.1, p.2, S, q, fun v H1 G1 L1 S1 s1 v1 => ⟨O, G1, p.2, L1, p.1, e2, S1, .inl v1.rep, q2, fun σ2 H2 G2 L2 S2 s2 _ => k σ2 H2 G2 L2 S2 (s1.trans s2)⟩⟩
/-- a place of an owned list as a target -/
def gtIx (i : Nat) (fi : Ex) : Gx := fun d env => (fi env).bind fun q => match q.1, q.2[i]? with
  | .int k, some (.list ds) => (ixN ds.length k).map fun j => q.2.set i (.list (ds.set j d))
  | _, _ => none
theorem t_ix (i : Nat) {b : Expr} {fi : Ex} (hb : PE X b (tM X.kw Γ fi 0)) (hx : X.N[i]? = some x := by rfl) (hv : Vis X.env.scope x := by first | exact Or.inl rfl | exact Or.inr (Or.inl rfl) | exact Or.inr (Or.inr rfl)) (hg : (Γ[i]?).bind Kd.dep = some 1 := by rfl) (hd : (x == ("__debug__" : Str)) = false := by decide) (hcd : (x == ("__classdict__" : Str)) = false := by decide)
    (ha : ∀ v, assign (.Subscript (.Name x px) b pos) X.env v = (do
      let ov ← holding [v] (eval (.Name x px) X.env)
      let iv ← holding [v, ov] (eval b X.env)
      standAt pos
      holding [v, ov, iv] (setItem ov iv v)
      release [v, ov, iv] []) := by intro _; rfl) : PG X (.Subscript (.Name x px) b pos) (tG X.kw false Γ Γ (gtIx i fi) []) :=
  (pg_sub (pe_var hx hv hd hcd) hb set_list ha).imp fun v σ H Q ⟨O, G, env, L, d, env2, S, r, e, k⟩ => by
    have r : Rep X.kw G v d := by
      rcases r with r | ⟨z, _⟩
      · exact r
      · cases z
    have hi : At Γ i 1 := at_of hg
    obtain ⟨v0, d0, y1, y2, _⟩ := S.slot i 1 hi
    unfold gtIx at e
    cases h1 : fi env with
    | none => rw [h1] at e; cases e
    | some q =>
      rw [h1] at e
      simp only [Option.bind_some] at e
      obtain ⟨kd, env1⟩ := q
      simp only at e
      split at e
      · rename_i kk ds he
        cases h3 : ixN ds.length kk with
        | none => rw [h3] at e; cases e
        | some j =>
          rw [h3] at e
          simp only [Option.map_some, Option.some.injEq] at e
          subst e
          refine ⟨v0, y1, O, G, env, L, .int kk, env1, S, h1, fun w H1 G1 L1 S1 s1 v1 => ?_⟩
          have := v1.rep
          cases this
          obtain ⟨a1, vs1, z1, z2, z3, z4, z5⟩ := S1.lst1 hi he
          rw [y1] at z1
          cases z1
          refine ⟨a1, vs1, kk, j, rfl, rfl, z2, by rw [z5.length]; exact h3, ?_⟩
          exact k σ _ G1 L1 (S1.mut1 hi y1 z4 z3 (z5.set j (r.mono s1))) s1 ⟨rfl, fun _ _ => rfl⟩
      · cases e
/-- x[k] op= e of ints -/
theorem get_nn : PGet X (fun o i H Q => ∃ (p : Addr) (xs : List V) (k : Int) (v : V), o = .ref p ∧ i = .int k ∧ H p = some (.lst xs) ∧ 0 ≤ k ∧ xs[k.toNat]? = some v ∧ Q v H) := by
  intro pins s σ H o i ov iv Q I ro ri ⟨p, xs, k, v, e1, e2, hp, h0, hv, q⟩
  subst e1 e2
  cases ro
  obtain ⟨t, rfl⟩ := ri
  obtain ⟨its, n, r, ho, hz⟩ := I.lst hp
  obtain ⟨u, hu, ru⟩ := r.get hv
  have hlt : k.toNat < xs.length := (List.getElem?_eq_some_iff.mp hv).1
  have h63 : (xs.length : Int) < 2 ^ 62 := Int.lt_of_le_of_lt (Int.ofNat_le.mpr hz) (by decide)
  exact wpAny_getItem_list ⟨_, ho, rfl, _, rfl⟩ h0 (by omega) (by simpa using hu) ⟨v, H, I, ru, q⟩
def augIx (i : Nat) (op : Int → Int → Int) (fi fe : Ex) : Sx := fun env => (fi env).bind fun q => match q.1, q.2[i]? with
  | .int k, some (.list ds) => if 0 ≤ k then (match ds[k.toNat]? with
    | some (.int old) => (fe q.2).bind fun r => match r.1, r.2[i]? with
      | .int y, some (.list ds2) => if k.toNat < ds2.length then some (.nx (r.2.set i (.list (ds2.set k.toNat (.int (op old y)))))) else none
      | _, _ => none
    | _ => none) else none
  | _, _ => none
theorem s_aug (i : Nat) {b : Expr} {fi fe : Ex} {op : Operator} {fo : Int → Int → Int} {tpos : Pos} (hb : PE X b (tM X.kw Γ fi 0)) (he : PE X a (tM X.kw Γ fe 0)) (ho : PIp X op (ipI fo)) (hx : X.N[i]? = some x := by rfl) (hv : Vis X.env.scope x := by first | exact Or.inl rfl | exact Or.inr (Or.inl rfl) | exact Or.inr (Or.inr rfl)) (hg : (Γ[i]?).bind Kd.dep = some 1 := by rfl) (hd : (x == ("__debug__" : Str)) = false := by decide) (hcd : (x == ("__classdict__" : Str)) = false := by decide)
    (ha : ∀ ov iv new, augStore b ov iv new = (do holding [new, ov, iv] (setItem ov iv new); release [new, ov, iv] []; pure .next) := by intros; rfl) : PS X (.AugAssign (.Subscript (.Name x px) b tpos) op a pos) (tS X.kw T Γ Γ (augIx i fo fi fe)) :=
  (ps_augS (pe_var hx hv hd hcd) hb get_nn he ho set_list ha).imp fun E σ H ⟨O, G, env, L, o, S, e, k⟩ => by
    have hi : At Γ i 1 := at_of hg
    obtain ⟨v0, d0, y1, y2, _⟩ := S.slot i 1 hi
    unfold augIx at e
    cases h1 : fi env with
    | none => rw [h1] at e; cases e
    | some q =>
      rw [h1] at e
      simp only [Option.bind_some] at e
      obtain ⟨kd, env1⟩ := q
      simp only at e
      split at e
      · rename_i kk ds he1
        split at e
        · rename_i h0
          split at e
          · rename_i old hold
            cases h2 : fe env1 with
            | none => rw [h2] at e; cases e
            | some r =>
              rw [h2] at e
              simp only [Option.bind_some] at e
              obtain ⟨yd, env2⟩ := r
              simp only at e
              split at e
              · rename_i yy ds2 he2
                split at e
                · rename_i hlt
                  cases e
                  refine ⟨v0, y1, O, G, env, L, .int kk, env1, S, h1, fun w H1 G1 L1 S1 s1 v1 => ?_⟩
                  have r1 := v1.rep
                  cases r1
                  obtain ⟨a1, vs1, z1, z2, z3, z4, z5⟩ := S1.lst1 hi he1
                  rw [y1] at z1
                  cases z1
                  obtain ⟨vo, hvo, rvo⟩ := z5.get hold
                  refine ⟨a1, vs1, kk, vo, rfl, rfl, z2, h0, hvo, O, G1, env1, L1, .int yy, env2, S1, h2, fun w2 H2 G2 L2 S2 s2 v2 => ?_⟩
                  have r2 := v2.rep
                  cases r2
                  cases rvo
                  obtain ⟨a2, vs2, w1, w2, w3, w4, w5⟩ := S2.lst1 hi he2
                  rw [y1] at w1
                  cases w1
                  refine ⟨old, yy, rfl, rfl, a1, vs2, kk, kk.toNat, rfl, rfl, w2, ?_, ?_⟩
                  · unfold ixN
                    rw [if_pos h0, if_pos (by rw [w5.length]; omega)]
                  · exact k σ _ G2 L2 (S2.mut1 hi y1 w4 w3 (w5.set _ (.int _))) (s1.trans s2)
                · cases e
              · cases e
          · cases e
        · cases e
      · cases e
end
end VL
set_option Elab.async false
set_option linter.all false
set_option maxRecDepth 100000
set_option maxHeartbeats 1000000
/-! VLB: defs by their names; what never falls off its end. -/
namespace VL
open PySem PySem.Spec PyProof.Rows L2
/-- a def that stands under its name -/
def DP (K : PySem.W.Frag) (mg : Str → Option Value) (x : Str) (st : Stmt) (ps : List Str) : Prop := ∃ (f : Addr) (fd : FuncData), Fun K x x st f fd ∧ mg x = some (.ref f) ∧ Binds K fd ps []
/-- a def with its promise, under its name -/
def PF (P : Program) (w : World) (K : PySem.W.Frag) (mg : Str → Option Value) (base : Heap) (x : Str) (k : Nat) (ps : List Str) (Δ : Ctx) (n : Nat) (F : List D → Option (D × List D)) : Prop :=
  ∃ (f : Addr) (fd : FuncData), FnG P w K mg base CX0 k f fd ps (spM ⟨K, w, mg⟩ Δ n F) ∧ mg x = some (.ref f) ∧ PySem.W.keepIn K (.ref f) = true ∧ Binds K fd ps []
section
variable {X : Cx} {Γ Δ : Ctx} {k j n : Nat} {ps : List Str} {F : List D → Option (D × List D)} {x : Str} {p pos : Pos} {a : Expr} {es : List Expr} {as : List Arg}
theorem m_callP (h : PF X.prog X.w X.K X.mg X.base x j ps Δ n F) (hgd : X.A.guards = some []) (hr : Room k X.A) (hj : j ≤ k) (hg : Gl X x)
    (ha : PA X (a :: es) (tMG X.kw Γ as)) (ok : okA Γ as Δ = true := by rfl) (os : okSt Γ as Δ = true := by rfl) (hdb : (x == ("__debug__" : Str)) = false := by decide) (he : starEach (a :: es) X.env = (false, eval a X.env) :: starEach es X.env := by rfl) (hpl : (backTo pos (starEach es X.env)).any (·.1) = false := by rfl) :
    PE X (.Call (.Name x p) (a :: es) [] pos) (tM X.kw Γ (eCall F as) n) := by
  obtain ⟨f, fd, hF, hm, hk, hb⟩ := h
  exact m_call hF hgd (hr.mono hj) hg hm hk hb (E := E0) pass0 ha ok os hdb he hpl
end
/-- never falls off its end -/
def Stops (g : Sx) : Prop := ∀ ds e, g ds ≠ some (.nx e)
theorem stops_ret {f : Ex} : Stops (retE f) := fun ds e h => by
  unfold retE at h
  cases q : f ds with
  | none => rw [q] at h; cases h
  | some p => rw [q] at h; cases h
theorem def_okP {P : Program} {w : World} {K : PySem.W.Frag} {mg : Str → Option Value} {base : Heap} {x : Str} {st : Stmt} {N ps : List Str} {k n m : Nat} {Δ Γ' : Ctx} {g : Sx} (d : DP K mg x st ps) (Sc : FnScope N ps (defScope st))
    (hb : ∀ (f : Addr) (cdv : Value) (A : Around) (outer : List Env) (s : Shared) (H : Hp) (E : XK), (A.deeper (envOfC x (defScope st) s.heap.objs.size f cdv)).guards = some [] → Room k (A.deeper (envOfC x (defScope st) s.heap.objs.size f cdv)) → PSs (cxOf CX0 P w K mg base N x (defScope st) f cdv A outer s H E).nox (defBody st) (tS ⟨K, w, mg⟩ ⟨rtC Δ m, n, [], []⟩ (inC Δ m) Γ' g))
    (hn : n = 0 ∨ Stops g) (hp : Δ.length = ps.length := by rfl) (hm : N.length = m := by rfl) (hle : Δ.length ≤ m := by decide) (h0 : zeroB Δ = true := by rfl) (hw : wkB Γ' (rtC Δ m) = true := by rfl) :
    PF P w K mg base x (k + 1) ps Δ n (runD Δ g m) := by
  obtain ⟨f, fd, hF, hm2, hB⟩ := d
  exact ⟨f, fd, def_ok hF Sc hp hm hle h0 hw hn fun cdv A outer s H E _ hgd hr => hb f cdv A outer s H E hgd hr, hm2, hF.kp, hB⟩
theorem u66 {A : Around} {k : Nat} (hr : Room k A) : A.units + 66 < cLine := by have := hr.un; omega
theorem u80 {A : Around} {k : Nat} (hr : Room k A) : A.units + 80 < cLine := by have := hr.un; omega
theorem b_one {X : Cx} {e : Expr} {t : TT} (h : PT X e t) : PTs X [e] t := pts_one h
end VL
set_option Elab.async false
set_option linter.all false
set_option maxRecDepth 100000
set_option maxHeartbeats 1000000
/-! VLC: odds and ends for the printed derivations. -/
namespace VL
open PySem PySem.Spec PyProof.Rows L2
def eTup (fs : List Ex) : Ex := eNs (fun xs => some (.tuple xs)) fs
def eLst (fs : List Ex) : Ex := eNs (fun xs => some (.list xs)) fs
theorem bt_len : bootBuiltins "len" = some (.builtin "len") := by decide +kernel
theorem bt_abs : bootBuiltins "abs" = some (.builtin "abs") := by decide +kernel
theorem bt_int : bootBuiltins "int" = some (.type "int") := by decide +kernel
theorem bt_list : bootBuiltins "list" = some (.type "list") := by decide +kernel
theorem bt_tuple : bootBuiltins "tuple" = some (.type "tuple") := by decide +kernel
theorem bt_repr : bootBuiltins "repr" = some (.builtin "repr") := by decide +kernel
end VL
set_option Elab.async false
set_option linter.all false
set_option maxRecDepth 100000
set_option maxHeartbeats 1000000
/-! VLD: chains, list(range), all, min, sorted. -/
namespace VL
open PySem PySem.Spec PyProof.Rows L2
section
variable {X : Cx} {Γ : Ctx} {a b c : Expr} {pos : Pos} {fa fb fc : Ex} {n m : Nat}
/-! ### a < b <= c -/
/-! ### list * int -/
/-! ### list(range(..)) -/
def rgOk (a b : Int) : Bool := decide (-(2 ^ 62) ≤ a) && decide (a < 2 ^ 62) && decide (-(2 ^ 62) ≤ b) && decide (b < 2 ^ 62) && decide ((b - a).toNat ≤ lim)
theorem rgOk_ok {a b : Int} (h : rgOk a b = true) : RgOk a b := by
  unfold rgOk at h
  simp only [Bool.and_eq_true, decide_eq_true_eq] at h
  exact ⟨h.1.1.1.1, h.1.1.1.2, h.1.1.2, h.1.2, Nat.le_trans h.2 (by decide)⟩
def rgD (a b : Int) : List D := (List.range (b - a).toNat).map fun (k : Nat) => .int (a + k)
theorem rg_rep {K : KW} {G : Gp} {a b : Int} : RepL K G (rgV a b) (rgD a b) := by
  unfold rgV rgD
  generalize (List.range (b - a).toNat) = l
  induction l with
  | nil => exact .nil
  | cons x r ih => exact .cons (.int _) ih
def eLR1 (f : Ex) : Ex := fun env => (f env).bind fun p => match p.1 with
  | .int j => if rgOk 0 j = true then some (.list (rgD 0 j), p.2) else none
  | _ => none
theorem m_listR1 {p p2 pos2 : Pos} (hc : X.calm = true) (hgl : Gl X "list") (hml : X.mg "list" = none) (hg : Gl X "range") (hm : X.mg "range" = none) (ha : PE X a (tM X.kw Γ fa 0)) (na : starEach [a] X.env = (false, eval a X.env) :: starEach [] X.env := by rfl)
    (nb : starEach [.Call (.Name "range" p2) [a] [] pos2] X.env = (false, eval (.Call (.Name "range" p2) [a] [] pos2) X.env) :: starEach [] X.env := by rfl) : PE X (.Call (.Name "list" p) [.Call (.Name "range" p2) [a] [] pos2] [] pos) (tM X.kw Γ (eLR1 fa) 1) :=
  (pe_listRg hc hgl hml (prg_1 hg hm ha na) nb).imp fun σ H Q ⟨O, G, env, L, r, env2, S, e, k⟩ => by
    unfold eLR1 at e
    cases h1 : fa env with
    | none => rw [h1] at e; cases e
    | some pp =>
      rw [h1] at e
      simp only [Option.bind_some] at e
      obtain ⟨x, env1⟩ := pp
      cases x with
      | int j =>
        simp only at e
        split at e
        · rename_i hk
          cases e
          refine ⟨O, G, env, L, .int j, _, S, h1, fun v H1 G1 L1 S1 s1 v1 => ?_⟩
          have := v1.rep
          cases this
          refine ⟨j, rfl, rgOk_ok hk, fun q hq => ?_⟩
          have R := Res.newL S1.gh hq (rg_rep (K := X.kw) (G := G1) (a := 0) (b := j))
          exact k _ _ _ L1 (S1.res R).1 (s1.trans R.gg) (S1.res R).2
        · cases e
      | _ => cases e
/-! ### all, min, max -/
def maxD : List D → Option D := fun ds => match ds with
  | [.int i, .int j] => some (.int (if j > i then j else i))
  | _ => none
theorem c_max (hc : X.calm = true) : CallR X (.builtin "max") (cD X.kw 0 maxD) := fun pins s σ H xs us Q I rv ⟨ds, z, G, sg, rr, hz, q⟩ => by
  unfold maxD at hz
  split at hz
  · cases hz
    cases rr with
    | cons r rn =>
      cases rn with
      | cons r' rn' =>
        cases rn'
        cases r
        cases r'
        exact call_max2 hc pins s σ H _ us Q I rv ⟨_, _, rfl, q _ _ _ (Res.of_rep sg (.int _))⟩
  · cases hz
theorem bt_max : bootBuiltins "max" = some (.builtin "max") := by decide +kernel
theorem bt_sorted : bootBuiltins "sorted" = some (.builtin "sorted") := by decide +kernel
end
end VL
set_option Elab.async false
set_option linter.all false
set_option maxRecDepth 100000
set_option maxHeartbeats 4000000
/-! VTM: tuple * int, all small counts. -/
namespace L2
open PySem PySem.Spec PyProof.Rows
end L2
namespace VL
open PySem PySem.Spec PyProof.Rows L2
end VL
set_option Elab.async false
set_option linter.all false
set_option maxRecDepth 100000
set_option maxHeartbeats 1000000
/-! VLE: sorted, over data; tuples may be empty. -/
namespace VL
open PySem PySem.Spec PyProof.Rows PySem.W PySem.SeqAt
section
variable {prog : Program} {w : World} {A : Around} {E : Value → Shared → Prop} {s : Shared}
theorem call_tuple_lt {Q : Value → Shared → Prop} {l b : Addr} {items items2 : Array Value} {e r : Nat → Bool} (hl : s.heap.IsTuple l items) (hb : s.heap.IsTuple b items2)
    (he : ∀ j (h1 : j < items.size) (h2 : j < items2.size), EqAt A.in1 s items[j] items2[j] (e j)) (hr : ∀ j (h1 : j < items.size) (h2 : j < items2.size), e j = false → RcLt A.in1 s items[j] items2[j] (r j))
    (h : Q (.bool (firstLt e r (decide (items.size < items2.size)) (List.range (min items.size items2.size)))) s) : wpAny (model prog w) A (call (.builtin "tuple.__lt__") [.ref l, .ref b]) Q E s := by
  obtain ⟨⟨cls, dd, data, sl⟩, ho, hc, n, hd⟩ := id hl
  obtain ⟨⟨cls2, dd2, data2, sl2⟩, ho2, hc2, n2, hd2⟩ := id hb
  simp only at hc hd hc2 hd2
  subst hc hd hc2 hd2
  exact call_meets F.slot_tuple_lt ⟨_, ho, rfl⟩ F.entry_tuple_lt (F.args_tuple_lt_2 _ _) (tuple_ltAt l b items items2 n n2 dd dd2 sl sl2 e r) ⟨ho, ho2, he, hr, h⟩
theorem oneLt_tup {xs ys : List PyData} {a b : Value} {as bs : List Addr} {Q : Bool → Shared → Prop} (ra : Reads s.heap a (.tuple xs) as) (rb : Reads s.heap b (.tuple ys) bs) (h : alike (.tuple xs) (.tuple ys) = true)
    (hu : A.units + min (PyData.depth (.tuple xs)) (PyData.depth (.tuple ys)) < cLine) (hq : Q (dataLt (.tuple xs) (.tuple ys)) s) : wpAny (model prog w) A (oneLt' true a b) Q E s := by
  have hal : alikeAll xs ys = true := by simpa [alike] using h
  cases ra with
  | @tuple l o vs n _ as₁ h1 h2 h3 h4 =>
    cases rb with
    | @tuple l' o' vs' n' _ bs₁ k1 k2 k3 k4 =>
      have n1 : vs.size = xs.length := by simpa using ReadsAll.length _ _ _ h4
      have n2 : vs'.size = ys.length := by simpa using ReadsAll.length _ _ _ k4
      rw [dataLt_tuple, ← firstLt_toks xs ys hal, ← n1, ← n2] at hq
      rw [oneLt'_eq]
      simp only [if_true]
      refine wpAny_bind (wpAny_cRoomFor (room_here hu) ?_)
      refine wpAny_bind (wpAny_callSpecialIfBound?_slot (T := "tuple") ⟨_, h1, h2⟩ F.slot_tuple_lt (call_tuple_lt (e := pairEq xs ys) (r := fun j => dataLt (xs.getD j .none) (ys.getD j .none)) ⟨_, h1, h2, _, h3⟩ ⟨_, k1, k2, _, k3⟩ (fun j j1 j2 => ?_) (fun j j1 j2 hj => ?_) ?_))
      · have := eqAt_alikeAll xs ys A.in1 s vs.toList vs'.toList _ _ h4 k4 hal (room_in hu) j (by simpa using j1) (by simpa using j2)
        simpa using this
      · have := rcLt_alikeAll xs ys A.in1 s vs.toList vs'.toList _ _ h4 k4 hal (room_in hu) j (by simpa using j1) (by simpa using j2) hj
        simpa using this
      · exact wpAny_truthy_bool hq
/-- the first items of tuples, where they have one -/
theorem firsts_run : ∀ {vs : List Value} {ds : List PyData} {Q : List (Option Value) → Shared → Prop}, EachIs (fun v d => ∃ as, Reads s.heap v d as) vs ds → (∀ d ∈ ds, ∃ xs, d = .tuple xs) →
    (∀ fs : List (Option Value), EachIs (fun (f : Option Value) (d : PyData) => d = .tuple [] → f = none) fs ds → Q fs s) → wpAny (model prog w) A (vs.mapM firstOfTuple') Q E s
  | _, _, _, .nil, _, h => by rw [List.mapM_nil]; exact wpAny_pure (h [] .nil)
  | _, _, Q, .cons (a := v) (as := vs) (b := d) (bs := ds) ⟨as, r⟩ t, ht, h => by
    obtain ⟨xs, rfl⟩ := ht d (List.mem_cons_self ..)
    rw [List.mapM_cons]
    refine wpAny_bind ?_
    rw [kas_first_eq]
    cases r with
    | @tuple a o its n _ _ ho hc hd hr =>
      refine wpAny_bind (Looks.here (show Looks _ s.heap (typeOf (.ref a)) o.cls from (Looks.ld ho).andThen .now) ?_)
      rw [hc, if_neg (by first | decide | simp)]
      refine wpAny_bind (listItems_at ho hd (wpAny_pure ?_))
      refine wpAny_bind (firsts_run (Q := fun bs s' => wpAny (model prog w) A (pure (its[0]? :: bs)) Q E s') t (fun d hd => ht d (List.mem_cons_of_mem _ hd)) fun fs hf => wpAny_pure (h _ (.cons (fun e => ?_) hf)))
      cases e
      have : its.toList = [] := by
        cases q : its.toList with
        | nil => rfl
        | cons x y => rw [q] at hr; cases hr
      rw [← Array.getElem?_toList, this]; rfl
theorem SortsAt.emptyFirst {vs : List Value} {ds : List PyData} (e : EachIs (fun v d => ∃ as, Reads s.heap v d as) vs ds) (hal : AllAlike ds) (ht : ∀ d ∈ ds, ∃ xs, d = .tuple xs) (h0 : ds.head? = some (.tuple [])) (hu : ∀ d, d ∈ ds → A.units + d.depth < cLine) : SortsAt prog w A s (dataKind s.heap ds) vs := by
  have room : ∀ {d d' : PyData}, d ∈ ds → A.units + min d.depth d'.depth < cLine := fun {d d'} hd => Nat.lt_of_le_of_lt (Nat.add_le_add_left (Nat.min_le_left _ _) _) (hu d hd)
  refine ⟨fun v hv => ?_, oneType', ?_, fun h2 E Q hq => ?_⟩
  · obtain ⟨d, hd, as, r⟩ := e.left v hv
    exact ⟨_, dataKind_some hal hd r⟩
  · intro E x y a b Q ha hb hq
    obtain ⟨d, as, hd, ra, rfl⟩ := dataKind_inv ha
    obtain ⟨d', as', hd', rb, rfl⟩ := dataKind_inv hb
    rw [keyLt'_oneType]
    obtain ⟨xs, rfl⟩ := ht d hd
    obtain ⟨ys, rfl⟩ := ht d' hd'
    exact oneLt_tup ra rb (hal _ hd _ hd') (room hd) hq
  · rw [keyKind'_eq, List.mapM_toArray, map_eq_pure_bind]
    refine wpAny_bind (wpAny_bind (firsts_run e ht fun fs hf => wpAny_pure ?_))
    have hT : ∀ v ∈ vs, Looks (model prog w) s.heap (typeOf v) (.type "tuple") := fun v hv => by
      obtain ⟨d, hd, as, r⟩ := e.left v hv
      obtain ⟨xs, rfl⟩ := ht d hd
      exact looks_reads r
    obtain ⟨fr, rfl⟩ : ∃ fr, fs = none :: fr := by
      cases ds with
      | nil => cases h0
      | cons d ds =>
        cases h0
        cases hf with
        | cons h1 h2 => exact ⟨_, by rw [h1 rfl]⟩
    rw [if_neg (by simp), if_neg (by simp)]
    rw [oneTypeOnly'_eq, List.mapM_toArray, map_eq_pure_bind]
    refine wpAny_bind (wpAny_bind (wpAny_bind (kas_mapM (r := Value.type "tuple") _ (fun v hv Q' hq => (hT v hv).here hq) (wpAny_pure ?_))))
    obtain ⟨v₁, v₂, rest, rfl⟩ : ∃ v₁ v₂ rest, vs = v₁ :: v₂ :: rest := by
      match vs, h2 with
      | [], h2 => simp at h2
      | [_], h2 => simp at h2
      | v₁ :: v₂ :: rest, _ => exact ⟨v₁, v₂, rest, rfl⟩
    have hall : ((List.map (fun _ => Value.type "tuple") (v₁ :: v₂ :: rest)).toArray.all fun x => x == Value.type "tuple") = true := by
      simp only [List.all_toArray, List.all_map, List.all_eq_true]
      intro _ _
      exact beq_self_eq_true _
    have hh : (List.map (fun _ => Value.type "tuple") (v₁ :: v₂ :: rest)).toArray[0]? = some (Value.type "tuple") := by simp
    rw [hh]
    simp only [hall, if_true]
    exact wpAny_pure (wpAny_pure hq)
end
/-! ### sorted over a list -/
def tupB : D → Bool
  | .tuple _ => true
  | _ => false
def tupNB : D → Bool
  | .tuple (_ :: _) => true
  | _ => false
def otherB : D → Bool
  | .tuple _ => false
  | .none => false
  | _ => true
def headE : List D → Bool
  | .tuple [] :: _ => true
  | _ => false
def okSort (xs : List D) : Bool := (xs.all fun d => xs.all fun e => alike d e) && (xs.all tupNB || xs.all otherB || (xs.all tupB && headE xs)) && decide (xs.length ≤ lim) && (xs.all fun d => decide (d.depth ≤ 64)) && (PyData.plainAll xs || noRfL xs)
def srt (xs : List D) : List D := xs.mergeSort (dataLe false id)
def sortedD : List D → Option D := fun ds => match ds with
  | [.list xs] => if okSort xs = true then some (.list (srt xs)) else none
  | _ => none
section
variable {X : L2.Cx}
open L2
def RV (K : KW) (G : Gp) (u : Value) (d : D) : Prop := ∃ x : V, RelV x u ∧ Rep K G x d
theorem each_rv {K : KW} {G : Gp} : ∀ {vs : List V} {us : List Value} {ds : List D}, Vals vs us → RepL K G vs ds → EachIs (RV K G) us ds
  | _, _, _, .nil, .nil => .nil
  | _, _, _, .cons h t, .cons r rs => .cons ⟨_, h, r⟩ (each_rv t rs)
theorem rv_each {K : KW} {G : Gp} : ∀ {us : List Value} {ds : List D}, EachIs (RV K G) us ds → ∃ vs, Vals vs us ∧ RepL K G vs ds
  | _, _, .nil => ⟨[], .nil, .nil⟩
  | _, _, .cons ⟨x, h, r⟩ t => by
    obtain ⟨vs, a, b⟩ := rv_each t
    exact ⟨x :: vs, .cons h a, .cons r b⟩
theorem each_reads {pins : List (Addr × Obj)} {σ : L2.St} {H : Hp} {G : Gp} {s : Shared} (I : Inv X pins σ H s) (sg : Sh G H) : ∀ {us : List Value} {ds : List D}, EachIs (RV X.kw G) us ds → noRfL ds = true → EachIs (fun v d => ∃ as, Reads s.heap v d as) us ds
  | _, _, .nil, _ => .nil
  | _, _, .cons ⟨x, h, r⟩ t, hz => by
    simp only [noRfL, Bool.and_eq_true] at hz
    exact .cons (rep_reads I sg r hz.1 h) (each_reads I sg t hz.2)
theorem okSort_nr {xs : List D} (h : okSort xs = true) : noRfL xs = true := by
  unfold okSort at h
  simp only [Bool.and_eq_true, Bool.or_eq_true] at h
  exact h.2.elim plain_noRfL id
theorem okSort_iff {xs : List D} (h : okSort xs = true) : AllAlike xs ∧ (Sortable xs ∨ ((∀ d ∈ xs, ∃ ys, d = .tuple ys) ∧ xs.head? = some (.tuple []))) ∧ xs.length ≤ lim ∧ ∀ d ∈ xs, d.depth ≤ 64 := by
  unfold okSort at h
  simp only [Bool.and_eq_true, Bool.or_eq_true, decide_eq_true_eq] at h
  obtain ⟨⟨⟨⟨h1, h2⟩, h3⟩, h4⟩, _⟩ := h
  refine ⟨fun d hd d' hd' => List.all_eq_true.mp (List.all_eq_true.mp h1 d hd) d' hd', ?_, h3, fun d hd => of_decide_eq_true (List.all_eq_true.mp h4 d hd)⟩
  rcases h2 with (h2 | h2) | h2
  · refine .inl (.inl fun d hd => ?_)
    have := List.all_eq_true.mp h2 d hd
    unfold tupNB at this
    split at this
    · exact ⟨_, _, rfl⟩
    · cases this
  · refine .inl (.inr fun d hd => ?_)
    have := List.all_eq_true.mp h2 d hd
    unfold otherB at this
    refine ⟨fun z => ?_, fun ys z => ?_⟩ <;> (subst z; cases this)
  · refine .inr ⟨fun d hd => ?_, ?_⟩
    · have := List.all_eq_true.mp h2.1 d hd
      unfold tupB at this
      split at this
      · exact ⟨_, rfl⟩
      · cases this
    · have := h2.2
      unfold headE at this
      split at this
      · rfl
      · cases this
theorem sorts_of {prog : Program} {w : World} {A : Around} {s : Shared} {vs : List Value} {ds : List D} (h : okSort ds = true) (hu : A.units + 64 < cLine) (e : EachIs (fun v d => ∃ as, Reads s.heap v d as) vs ds) : SortsAt prog w A s (dataKind s.heap ds) vs := by
  obtain ⟨h1, h2, h3, h4⟩ := okSort_iff h
  have hd : ∀ d, d ∈ ds → A.units + d.depth < cLine := fun d hd => by have := h4 d hd; omega
  rcases h2 with h2 | h2
  · exact SortsAt.data e h1 h2 hd
  · exact SortsAt.emptyFirst e h1 h2.1 h2.2 hd
theorem c_sorted (hu : X.A.units + 80 < cLine) : CallR X (.builtin "sorted") (cD X.kw 1 sortedD) := fun pins s σ H xs us Q I rv ⟨ds, z, G, sg, rr, hz, q⟩ => by
  unfold sortedD at hz
  split at hz
  · rename_i ys
    split at hz
    · rename_i ok
      cases hz
      cases rr with
      | cons r rn =>
        cases rn
        cases r with
        | @lst a0 vs0 _ ha r2 =>
          obtain ⟨its, rvs, hl, hsz⟩ := I.list (SqL.of (K := X.K) (sg _ _ ha))
          rw [Vals.ref1 rv]
          have e1 := each_rv rvs r2
          have er := each_reads I sg e1 (okSort_nr ok)
          have er' : EachIs (fun v b => ∃ as, Reads (sortingHeap (copyHeap s.heap its) (s.heap.objs.size + 1) its) v (id b) as) its ys := er.mono fun _ _ ⟨as, r⟩ => ⟨as, PyProof.Rows.Reads.keeps (fun _ _ => sorting_copy_old) r⟩
          have hal : AllAlike (ys.map id) := by rw [List.map_id]; exact (okSort_iff ok).1
          have S : SortsAt X.prog X.w X.A.in1.in1 { s with heap := sortingHeap (copyHeap s.heap its) (s.heap.objs.size + 1) its } (dataKind (sortingHeap (copyHeap s.heap its) (s.heap.objs.size + 1) its) ys) its :=
            sorts_of (s := { s with heap := sortingHeap (copyHeap s.heap its) (s.heap.objs.size + 1) its }) ok (by show X.A.units + 1 + 1 + 64 < _; omega) er'
          refine sorted_vals (Q := EP X pins σ Q) hl.isList S (by rw [← rvs.length]; exact hsz) ?_
          have e2 : EachIs (RV X.kw G) (sortVals (dataKind (sortingHeap (copyHeap s.heap its) (s.heap.objs.size + 1) its) ys) false its its) (srt ys) := by
            have := sortVals_data (enc := id) false e1 er' hal
            rw [List.map_id] at this
            exact this
          obtain ⟨vs', b1, b2⟩ := rv_each e2
          obtain ⟨ep, he'⟩ := PyProof.Rows.sortedAll_at s.heap its (sortVals (dataKind (sortingHeap (copyHeap s.heap its) (s.heap.objs.size + 1) its) ys) false its its).toArray
          have hlen : vs'.length ≤ sizeLine := by
            rw [b2.length]
            unfold srt
            rw [List.length_mergeSort]
            exact lim_le (okSort_iff ok).2.2.1
          exact ⟨.ref _, upd H (s.heap.objs.size + 1) (.lst vs'), I.laid (t' := s.toks) (fun _ _ => PyProof.Rows.sortedAll_old) (Nat.le_succ _) ⟨hlen, _, ep, b1, he'⟩, rfl, q _ _ _ (Res.newL sg (I.hok.fresh (Nat.le_succ _)) b2)⟩
    · cases hz
  · cases hz
end
end VL
set_option Elab.async false
set_option linter.all false
set_option maxRecDepth 100000
set_option maxHeartbeats 1000000
/-! VD0: a dict's keys, one by one, whatever they are. -/
set_option Elab.async false
set_option linter.all false
set_option maxRecDepth 100000
set_option maxHeartbeats 1000000
/-! VD1: dicts whose keys are tuples. -/
namespace VL
open PySem PySem.Spec PyProof.Rows L2
/-! ### keys, in data -/
mutual
def nkOf : D → Option NestedKey
  | .none => some .none
  | .int i => some (.num i)
  | .str x => some (.text x)
  | .tuple xs => (nksOf xs).map .tup
  | _ => none
def nksOf : List D → Option (List NestedKey)
  | [] => some []
  | x :: xs => (nkOf x).bind fun k => (nksOf xs).map (k :: ·)
end
mutual
theorem nk_of : ∀ {d : D} {k : NestedKey}, nkOf d = some k → k.data = d
  | .none, k, h => by simp only [nkOf, Option.some.injEq] at h; subst h; rfl
  | .int i, k, h => by simp only [nkOf, Option.some.injEq] at h; subst h; rfl
  | .str x, k, h => by simp only [nkOf, Option.some.injEq] at h; subst h; rfl
  | .bool b, k, h => by simp [nkOf] at h
  | .list xs, k, h => by simp [nkOf] at h
  | .dict xs, k, h => by simp [nkOf] at h
  | .tuple xs, k, h => by
    simp only [nkOf, Option.map_eq_some_iff] at h
    obtain ⟨ks, h1, rfl⟩ := h
    simp only [NestedKey.data, nks_of h1]
theorem nks_of : ∀ {ds : List D} {ks : List NestedKey}, nksOf ds = some ks → NestedKey.datas ks = ds
  | [], ks, h => by simp only [nksOf, Option.some.injEq] at h; subst h; rfl
  | x :: xs, ks, h => by
    simp only [nksOf, Option.bind_eq_some_iff, Option.map_eq_some_iff] at h
    obtain ⟨k, h1, l, h2, rfl⟩ := h
    simp only [NestedKey.datas, nk_of h1, nks_of h2]
end
mutual
theorem nk_data : ∀ k : NestedKey, nkOf k.data = some k
  | .none => rfl
  | .num _ => rfl
  | .text _ => rfl
  | .tup ks => by simp only [NestedKey.data, nkOf, nks_datas ks, Option.map_some]
theorem nks_datas : ∀ ks : List NestedKey, nksOf (NestedKey.datas ks) = some ks
  | [] => rfl
  | k :: ks => by simp only [NestedKey.datas, nksOf, nk_data k, nks_datas ks, Option.bind_some, Option.map_some]
end
/-- a tuple as a key -/
def tkOf : D → Option (List NestedKey)
  | .tuple xs => (nksOf xs).bind fun ks => if (NestedKey.tup ks).depth ≤ 8 then some ks else none
  | _ => none
theorem tk_of {d : D} {ks : List NestedKey} (h : tkOf d = some ks) : d = (NestedKey.tup ks).data ∧ (NestedKey.tup ks).depth ≤ 8 := by
  unfold tkOf at h
  split at h
  · simp only [Option.bind_eq_some_iff] at h
    obtain ⟨l, h1, h2⟩ := h
    split at h2
    · rename_i hd
      cases h2
      exact ⟨by simp only [NestedKey.data, nks_of h1], hd⟩
    · cases h2
  · cases h
theorem tk_data {ks : List NestedKey} (h : (NestedKey.tup ks).depth ≤ 8) : tkOf (NestedKey.tup ks).data = some ks := by
  simp only [NestedKey.data, tkOf, nks_datas, Option.bind_some, if_pos h]
def isT (ks : List NestedKey) (p : D × D) : Bool := decide (tkOf p.1 = some ks)
def dGetT (ds : List (D × D)) (ks : List NestedKey) : Option D := (ds.find? (isT ks)).map (·.2)
def dPutT (ds : List (D × D)) (ks : List NestedKey) (d : D) : List (D × D) := if ds.any (isT ks) = true then ds.map (fun p => if isT ks p = true then (p.1, d) else p) else ds ++ [((NestedKey.tup ks).data, d)]
/-- its keys are tuples -/
def tupK : List (D × D) → Bool
  | (.tuple _, _) :: _ => true
  | _ => false
def putN (xs : List (NestedKey × Addr × V)) (k : NestedKey) (b : Addr) (v : V) : List (NestedKey × Addr × V) := if xs.any (fun p => decide (p.1 = k)) = true then xs.map (fun p => if p.1 = k then (p.1, p.2.1, v) else p) else xs ++ [(k, b, v)]
section
variable {K : KW} {G : Gp}
theorem isT_data {ks ls : List NestedKey} {d : D} (h : (NestedKey.tup ls).depth ≤ 8) : isT ks ((NestedKey.tup ls).data, d) = decide (NestedKey.tup ls = NestedKey.tup ks) := by
  unfold isT
  simp only [tk_data h, Option.some.injEq, NestedKey.tup.injEq]
theorem repN_any {ks : List NestedKey} : ∀ {xs : List (NestedKey × Addr × V)} {ds : List (D × D)}, RepN K G xs ds → ds.any (isT ks) = xs.any fun p => decide (p.1 = NestedKey.tup ks)
  | _, _, .nil => rfl
  | _, _, .cons _ hd _ t => by rw [List.any_cons, List.any_cons, repN_any t, isT_data hd]
theorem repN_map {ks : List NestedKey} {v : V} {d : D} (h : Rep K G v d) : ∀ {xs : List (NestedKey × Addr × V)} {ds : List (D × D)}, RepN K G xs ds → RepN K G (xs.map fun p => if p.1 = NestedKey.tup ks then (p.1, p.2.1, v) else p) (ds.map fun p => if isT ks p = true then (p.1, d) else p)
  | _, _, .nil => .nil
  | _, _, .cons (ks := ls) hk hd r t => by
    rw [List.map_cons, List.map_cons]
    by_cases z : NestedKey.tup ls = NestedKey.tup ks
    · rw [if_pos z, if_pos (by rw [isT_data hd]; simpa using z)]
      exact .cons hk hd h (repN_map h t)
    · rw [if_neg z, if_neg (by rw [isT_data hd]; simpa using z)]
      exact .cons hk hd r (repN_map h t)
theorem RepN.app : ∀ {xs ys : List (NestedKey × Addr × V)} {ds es : List (D × D)}, RepN K G xs ds → RepN K G ys es → RepN K G (xs ++ ys) (ds ++ es)
  | _, _, _, _, .nil, q => q
  | _, _, _, _, .cons a b c t, q => .cons a b c (RepN.app t q)
theorem repN_put {ks : List NestedKey} {b : Addr} {v : V} {d : D} {xs : List (NestedKey × Addr × V)} {ds : List (D × D)} (r : RepN K G xs ds) (hk : Rep K G (.ref b) (NestedKey.tup ks).data) (hd : (NestedKey.tup ks).depth ≤ 8) (h : Rep K G v d) : RepN K G (putN xs (.tup ks) b v) (dPutT ds ks d) := by
  unfold putN dPutT
  rw [repN_any r]
  split
  · exact repN_map h r
  · exact r.app (.cons hk hd h .nil)
theorem RepN.len : ∀ {xs : List (NestedKey × Addr × V)} {ds : List (D × D)}, RepN K G xs ds → xs.length = ds.length
  | _, _, .nil => rfl
  | _, _, .cons _ _ _ t => by simp [RepN.len t]
theorem putN_ne {xs : List (NestedKey × Addr × V)} {k : NestedKey} {b : Addr} {v : V} : ∃ p ys, putN xs k b v = p :: ys := by
  unfold putN
  split
  · cases xs with
    | nil => rename_i h; cases h
    | cons p xs => exact ⟨_, _, rfl⟩
  · cases xs with
    | nil => exact ⟨_, _, rfl⟩
    | cons p xs => exact ⟨_, _, rfl⟩
theorem putN_len (xs : List (NestedKey × Addr × V)) (k : NestedKey) (b : Addr) (v : V) : (putN xs k b v).length ≤ xs.length + 1 := by
  unfold putN; split <;> simp
theorem tupK_n {p : NestedKey × Addr × V} {xs : List (NestedKey × Addr × V)} {ds : List (D × D)} (r : RepN K G (p :: xs) ds) : tupK ds = true := by
  cases r; rfl
theorem tupK_k {kvs : List (Key × V)} {ds : List (D × D)} (r : RepK K G kvs ds) : tupK ds = false := by
  cases r with
  | nil => rfl
  | cons => rename_i k _ _ _ _ _ _; cases k <;> rfl
end
/-! ### in the heap -/
section
variable {X : Cx} {pins : List (Addr × Obj)} {σ : L2.St} {H : Hp} {G : Gp} {s : Shared} {a b : Addr} {ds : List (D × D)} {ks : List NestedKey} {A : Around} {E : Value → Shared → Prop}
mutual
theorem nk_is (I : Inv X pins σ H s) (sg : Sh G H) : ∀ {k : NestedKey} {v : V}, Rep X.kw G v k.data → ∀ {u : Value}, RelV v u → NestedIs s.heap k u
  | .none, _, r, u, q => by simp only [NestedKey.data] at r; cases r; cases q; exact .none
  | .num i, _, r, u, q => by simp only [NestedKey.data] at r; cases r; obtain ⟨t, rfl⟩ := q; exact .int i t
  | .text x, _, r, u, q => by simp only [NestedKey.data] at r; cases r; obtain ⟨t, rfl⟩ := q; exact .text x t
  | .tup ks, _, r, u, q => by
    simp only [NestedKey.data] at r
    cases r with
    | tup h rr =>
      cases q
      obtain ⟨its, rv, ⟨o, e, c, n, dd⟩, _⟩ := I.tuple (sqT_sh sg h.sqT)
      exact .tup e c dd (by simpa using nks_is I sg rr rv)
theorem nks_is (I : Inv X pins σ H s) (sg : Sh G H) : ∀ {ks : List NestedKey} {vs : List V}, RepL X.kw G vs (NestedKey.datas ks) → ∀ {us : List Value}, Vals vs us → NestedAll s.heap ks us
  | [], _, r, us, q => by simp only [NestedKey.datas] at r; cases r; cases q; exact .nil
  | k :: ks, _, r, us, q => by
    simp only [NestedKey.datas] at r
    cases r with
    | cons r1 r2 =>
      cases q with
      | cons q1 q2 => exact .cons (nk_is I sg r1 q1) (nks_is I sg r2 q2)
end
theorem key_is (I : Inv X pins σ H s) (sg : Sh G H) (r : Rep X.kw G (.ref b) (NestedKey.tup ks).data) (hd : (NestedKey.tup ks).depth ≤ 8) : (nestedKind X.prog X.w).is s.heap (.tup ks) b := ⟨nk_is I sg r rfl, hd⟩
theorem keys_are (I : Inv X pins σ H s) (sg : Sh G H) : ∀ {xs : List (NestedKey × Addr × V)} {ds : List (D × D)} {us : List (NestedKey × Addr × Value)}, RepN X.kw G xs ds → NV xs us → ∀ x ∈ us, (nestedKind X.prog X.w).is s.heap x.1 x.2.1
  | _, _, _, .nil, q, x, m => by cases q; cases m
  | _, _, _, .cons hk hd _ t, q, x, m => by
    cases q with
    | cons q1 q2 =>
      obtain ⟨q1a, q1b, _⟩ := q1
      simp only at q1a q1b
      rcases List.mem_cons.mp m with rfl | m
      · rw [← q1a, ← q1b]; exact key_is I sg hk hd
      · exact keys_are I sg t q2 x m
/-- a dict that has tuples for keys, or nothing -/
theorem n_dict (I : Inv X pins σ H s) (sg : Sh G H) {u : HO} (o : Rd H a u) (r : DcR X.kw G a u ds) (h : (tupK ds || ds.isEmpty) = true) :
    (a == sysModules) = false ∧ ∃ xs us, RepN X.kw G xs ds ∧ NV xs us ∧ us.length ≤ sizeLine ∧ s.heap.DictOfH (nestedKind X.prog X.w) a us := by
  have ok := o.ok I.hok
  cases r with
  | k r =>
    rw [tupK_k r] at h
    cases r with
    | cons => cases h
    | nil =>
      obtain ⟨_, hs, vs, kv, ob, es, ep, e, ex, dd, _, pr, _⟩ := ok
      cases kv
      refine ⟨hs, [], [], .nil, .nil, Nat.zero_le _, ob, es, ep, e, ex, dd, ?_, fun x m => (by cases m), by simp⟩
      generalize es.toList = l at pr
      cases pr; rfl
  | n r =>
    obtain ⟨⟨hs, us, pr, nd, hl, ob, es, ep, e, ex, dd, el⟩, _⟩ := ok
    exact ⟨hs, _, us, r, pr, hl, ob, es, ep, e, ex, dd, el, keys_are I sg r pr, nd⟩
theorem look_n {K : KW} : ∀ {xs : List (NestedKey × Addr × V)} {ds : List (D × D)} {us : List (NestedKey × Addr × Value)}, RepN K G xs ds → NV xs us → (dGetT ds ks = none ∧ atKey us (.tup ks) = none) ∨ ∃ d v p, dGetT ds ks = some d ∧ atKey us (.tup ks) = some p ∧ RelV v p.2 ∧ Rep K G v d
  | _, _, _, .nil, q => by cases q; exact .inl ⟨rfl, rfl⟩
  | _, _, _, .cons (ks := ls) (b := bb) hk hd r t, q => by
    cases q with
    | @cons _ p2 _ us q1 q2 =>
      obtain ⟨k2, b2, u2⟩ := p2
      obtain ⟨q1a, q1b, q1c⟩ := q1
      simp only at q1a q1b q1c
      subst q1a q1b
      by_cases z : NestedKey.tup ls = NestedKey.tup ks
      · refine .inr ⟨_, _, (bb, u2), ?_, ?_, q1c, r⟩
        · unfold dGetT; rw [List.find?_cons, isT_data hd]; simp only [z, decide_true]; rfl
        · unfold atKey; rw [List.find?_cons]; simp only [z, decide_true]; rfl
      · have e1 : ∀ d l, dGetT (((NestedKey.tup ls).data, d) :: l) ks = dGetT l ks := fun d l => by unfold dGetT; rw [List.find?_cons, isT_data hd]; simp only [z, decide_false]
        have e2 : atKey ((NestedKey.tup ls, bb, u2) :: us) (.tup ks) = atKey us (.tup ks) := by unfold atKey; rw [List.find?_cons]; simp only [z, decide_false]
        rw [e1, e2]
        exact look_n t q2
theorem room_n {P : Program} {w : World} (hu : A.units + 16 < cLine) : (nestedKind P w).room A.in1 := by
  show A.units + 1 + 8 < cLine
  omega
theorem n_getItem {u : HO} {z : D} {Q : Value → Shared → Prop} (hu : A.units + 16 < cLine) (I : Inv X pins σ H s) (sg : Sh G H) (o : Rd H a u) (r : DcR X.kw G a u ds) (h : (tupK ds || ds.isEmpty) = true) (rk : Rep X.kw G (.ref b) (NestedKey.tup ks).data) (hd : (NestedKey.tup ks).depth ≤ 8) (l : dGetT ds ks = some z)
    (q : ∀ v w' s', Inv X pins σ H s' → RelV v w' → Rep X.kw G v z → Q w' s') : wpAny (model X.prog X.w) A (getItem (.ref a) (.ref b)) Q E s := by
  obtain ⟨hs, xs, us, rn, nv, hl, dd⟩ := n_dict I sg o r h
  rcases look_n (ks := ks) rn nv with ⟨z1, _⟩ | ⟨d, v, p, z1, z2, z3, z4⟩
  · rw [l] at z1; cases z1
  · rw [l] at z1; cases z1
    exact wpAny_getItem_heap (room_n hu) (key_is I sg rk hd) dd z2 (q v _ _ (I.tok _) z3 z4)
theorem isSome_n {K : KW} {xs : List (NestedKey × Addr × V)} {us : List (NestedKey × Addr × Value)} (rn : RepN K G xs ds) (nv : NV xs us) : (atKey us (.tup ks)).isSome = (dGetT ds ks).isSome := by
  rcases look_n (ks := ks) rn nv with ⟨z1, z2⟩ | ⟨d, v, p, z1, z2, _⟩ <;> rw [z1, z2] <;> rfl
theorem n_in {u : HO} {Q : Value → Shared → Prop} (hu : A.units + 16 < cLine) (I : Inv X pins σ H s) (sg : Sh G H) (o : Rd H a u) (r : DcR X.kw G a u ds) (h : (tupK ds || ds.isEmpty) = true) (rk : Rep X.kw G (.ref b) (NestedKey.tup ks).data) (hd : (NestedKey.tup ks).depth ≤ 8)
    (q : ∀ s', Inv X pins σ H s' → Q (.bool (dGetT ds ks).isSome) s') : wpAny (model X.prog X.w) A (compareOp .In (.ref b) (.ref a)) Q E s := by
  obtain ⟨hs, xs, us, rn, nv, hl, dd⟩ := n_dict I sg o r h
  refine wpAny_in_heap (room_n hu) (key_is I sg rk hd) hs dd ?_
  rw [isSome_n rn nv]; exact q _ (I.tok _)
theorem n_notIn {u : HO} {Q : Value → Shared → Prop} (hu : A.units + 16 < cLine) (I : Inv X pins σ H s) (sg : Sh G H) (o : Rd H a u) (r : DcR X.kw G a u ds) (h : (tupK ds || ds.isEmpty) = true) (rk : Rep X.kw G (.ref b) (NestedKey.tup ks).data) (hd : (NestedKey.tup ks).depth ≤ 8)
    (q : ∀ s', Inv X pins σ H s' → Q (.bool (!(dGetT ds ks).isSome)) s') : wpAny (model X.prog X.w) A (compareOp .NotIn (.ref b) (.ref a)) Q E s := by
  obtain ⟨hs, xs, us, rn, nv, hl, dd⟩ := n_dict I sg o r h
  refine wpAny_notIn_heap (room_n hu) (key_is I sg rk hd) hs dd ?_
  rw [isSome_n rn nv]; exact q _ (I.tok _)
theorem getD_n {K : KW} {xs : List (NestedKey × Addr × V)} {us : List (NestedKey × Addr × Value)} (rn : RepN K G xs ds) (nv : NV xs us) {x : V} {w : Value} {e : D} (rx : RelV x w) (re : Rep K G x e) : ∃ v, RelV v (((atKey us (.tup ks)).map (·.2)).getD w) ∧ Rep K G v ((dGetT ds ks).getD e) := by
  rcases look_n (ks := ks) rn nv with ⟨z1, z2⟩ | ⟨d, v, p, z1, z2, z3, z4⟩ <;> rw [z1, z2]
  · exact ⟨x, rx, re⟩
  · exact ⟨v, z3, z4⟩
theorem n_get2 {u : HO} {x : V} {w : Value} {e : D} {Q : Value → Shared → Prop} (hu : A.units + 16 < cLine) (I : Inv X pins σ H s) (sg : Sh G H) (o : Rd H a u) (r : DcR X.kw G a u ds) (h : (tupK ds || ds.isEmpty) = true) (rk : Rep X.kw G (.ref b) (NestedKey.tup ks).data) (hd : (NestedKey.tup ks).depth ≤ 8) (rx : RelV x w) (re : Rep X.kw G x e)
    (q : ∀ v w' s', Inv X pins σ H s' → RelV v w' → Rep X.kw G v ((dGetT ds ks).getD e) → Q w' s') : wpAny (model X.prog X.w) A (call (.builtin "dict.get") [.ref a, .ref b, w]) Q E s := by
  obtain ⟨hs, xs, us, rn, nv, hl, dd⟩ := n_dict I sg o r h
  obtain ⟨v, rv, rr⟩ := getD_n (ks := ks) rn nv rx re
  exact call_meetsIn PySem.F.slot_dict_get dd.typeIs PySem.F.entry_dict_get (PySem.F.args_dict_get_3 _ _ _) (meetsH_dict_get_default (nestedKind X.prog X.w) a b hs w) ⟨room_n hu, .tup ks, us, key_is I sg rk hd, dd, q v _ _ (I.tok _) rv rr⟩
theorem nv_any {k : NestedKey} : ∀ {xs : List (NestedKey × Addr × V)} {us : List (NestedKey × Addr × Value)}, NV xs us → (xs.any fun p => decide (p.1 = k)) = (atKey us k).isSome
  | _, _, .nil => rfl
  | _, _, .cons (a := p) (b := q) h t => by
    obtain ⟨h1, _, _⟩ := h
    rw [List.any_cons, nv_any t]
    unfold atKey
    rw [List.find?_cons, h1]
    by_cases z : q.1 = k
    · simp [z]
    · simp [z]
theorem nv_map {k : NestedKey} {v : V} {u : Value} (rv : RelV v u) : ∀ {xs : List (NestedKey × Addr × V)} {us : List (NestedKey × Addr × Value)}, NV xs us → NV (xs.map fun p => if p.1 = k then (p.1, p.2.1, v) else p) (us.map (putAt k u))
  | _, _, .nil => .nil
  | _, _, .cons (a := p) (b := q) ⟨h1, h2, h3⟩ t => by
    rw [List.map_cons, List.map_cons]
    refine .cons ?_ (nv_map rv t)
    unfold putAt
    by_cases z : q.1 = k
    · rw [if_pos z, if_pos (h1.trans z)]; exact ⟨h1, h2, rv⟩
    · rw [if_neg z, if_neg (fun y => z (h1.symm.trans y))]; exact ⟨h1, h2, h3⟩
theorem nv_snoc {k : NestedKey} {b : Addr} {v : V} {u : Value} (rv : RelV v u) : ∀ {xs : List (NestedKey × Addr × V)} {us : List (NestedKey × Addr × Value)}, NV xs us → NV (xs ++ [(k, b, v)]) (us ++ [(k, b, u)])
  | _, _, .nil => .cons ⟨rfl, rfl, rv⟩ .nil
  | _, _, .cons hq t => .cons hq (nv_snoc rv t)
theorem nv_put {k : NestedKey} {v : V} {u : Value} (rv : RelV v u) {b : Addr} {xs : List (NestedKey × Addr × V)} {us : List (NestedKey × Addr × Value)} (h : NV xs us) : NV (putN xs k b v) (storedH us k b u) := by
  unfold putN storedH
  rw [nv_any h]
  split
  · exact nv_map rv h
  · exact nv_snoc rv h
/-- d[key] = value -/
theorem n_setItem {u : HO} {v : V} {w : Value} {z : D} {Q : Unit → Shared → Prop} (hu : A.units + 16 < cLine) (I : Inv X pins σ H s) (sg : Sh G H) (o : H a = some u) (r : DcR X.kw G a u ds) (h : (tupK ds || ds.isEmpty) = true) (rk : Rep X.kw G (.ref b) (NestedKey.tup ks).data) (hd : (NestedKey.tup ks).depth ≤ 8) (hl : ds.length < sizeLine) (rv : RelV v w) (rz : Rep X.kw G v z)
    (q : ∀ u' s', DcR X.kw G a u' (dPutT ds ks z) → Inv X pins σ (upd H a u') s' → Q () s') : wpAny (model X.prog X.w) A (setItem (.ref a) (.ref b) w) Q E s := by
  obtain ⟨hs, xs, us, rn, nv, hul, dd⟩ := n_dict I sg (.inl o) r h
  have e1 : xs.length = us.length := Paired.length nv
  have e2 := rn.len
  refine wpAny_setItem_heap (hsz := hul) (room_n hu) (key_is I sg rk hd) dd fun h' d2 hb => ?_
  have r2 := repN_put rn rk hd rz
  have n2 := nv_put (k := .tup ks) rv (b := b) nv
  obtain ⟨p, ys, ep⟩ := putN_ne (xs := xs) (k := .tup ks) (b := b) (v := v)
  have l2 := putN_len xs (.tup ks) b v
  rw [ep] at r2 n2 l2
  have l3 : (p :: ys).length = (storedH us (.tup ks) b w).length := Paired.length n2
  obtain ⟨ob, es, ep, f1, f2, f3, f4, f5, f6⟩ := d2
  refine q (dnO X.w a (p :: ys)) _ (.n r2) (d_write I ?_ hb ⟨_, f1⟩ ⟨⟨hs, _, n2, f6, by omega, ob, es, ep, f1, f2, f3, f4⟩, ⟨_, f1⟩, fun h1 h2 ⟨k1, us', k2, k3, k4, o', es', ep', k5, k6⟩ k => ⟨k1, us', k2, k3, k4, o', es', ep', k _ k5, k6⟩⟩)
  rw [o]; exact r.mut
end
end VL
set_option Elab.async false
set_option linter.all false
set_option maxRecDepth 100000
set_option maxHeartbeats 1000000
/-! VLF: dicts; frozen when they are shown, owned (depth 100) while they change. -/
namespace VL
open PySem PySem.Spec L2
/-! ### over data -/
def keyOf : D → Option Key
  | .int i => some (.inl i)
  | .str x => some (.inr x)
  | _ => none
theorem keyOf_kD (k : Key) : keyOf (kD k) = some k := by cases k <;> rfl
def isK (k : Key) (p : D × D) : Bool := decide (keyOf p.1 = some k)
def dGet (ds : List (D × D)) (k : Key) : Option D := (ds.find? (isK k)).map (·.2)
def dPut (ds : List (D × D)) (k : Key) (d : D) : List (D × D) := if ds.any (isK k) = true then ds.map (fun p => if isK k p = true then (p.1, d) else p) else ds ++ [(kD k, d)]
section
variable {K : KW} {G : Gp} {H : Hp}
theorem isK_kD {k k' : Key} {d : D} : isK k (kD k', d) = decide (k' = k) := by
  unfold isK
  rw [keyOf_kD]
  by_cases e : k' = k
  · subst e; simp
  · simp [e]
theorem repK_some {k : Key} {d : D} : ∀ {kvs : List (Key × V)} {ds : List (D × D)}, RepK K G kvs ds → dGet ds k = some d → ∃ v, valV kvs k = some v ∧ Rep K G v d
  | _, _, .nil, e => by simp [dGet] at e
  | _, _, .cons (k := k') (v := v') (d := d') r t, e => by
    unfold dGet at e
    rw [List.find?_cons] at e
    by_cases z : k' = k
    · subst z
      rw [show isK k' (kD k', d') = true by rw [isK_kD]; simp] at e
      simp only [Option.map_some, Option.some.injEq] at e
      subst e
      exact ⟨v', valV_pos rfl, r⟩
    · rw [show isK k (kD k', d') = false by rw [isK_kD]; simp [z]] at e
      obtain ⟨v, h1, h2⟩ := repK_some t e
      exact ⟨v, by rw [valV_neg z]; exact h1, h2⟩
theorem repK_none {k : Key} : ∀ {kvs : List (Key × V)} {ds : List (D × D)}, RepK K G kvs ds → dGet ds k = none → valV kvs k = none
  | _, _, .nil, e => rfl
  | _, _, .cons (k := k') (v := v') (d := d') r t, e => by
    unfold dGet at e
    rw [List.find?_cons] at e
    by_cases z : k' = k
    · subst z
      rw [show isK k' (kD k', d') = true by rw [isK_kD]; simp] at e
      cases e
    · rw [show isK k (kD k', d') = false by rw [isK_kD]; simp [z]] at e
      rw [valV_neg z]
      exact repK_none t e
theorem RepK.app : ∀ {xs ys : List (Key × V)} {ds es : List (D × D)}, RepK K G xs ds → RepK K G ys es → RepK K G (xs ++ ys) (ds ++ es)
  | _, _, _, _, .nil, t => t
  | _, _, _, _, .cons r s, t => .cons r (RepK.app s t)
theorem RepK.len : ∀ {xs : List (Key × V)} {ds : List (D × D)}, RepK K G xs ds → xs.length = ds.length
  | _, _, .nil => rfl
  | _, _, .cons _ s => by simp [RepK.len s]
theorem repK_any {k : Key} : ∀ {kvs : List (Key × V)} {ds : List (D × D)}, RepK K G kvs ds → ds.any (isK k) = kvs.any fun kv => decide (kv.1 = k)
  | _, _, .nil => rfl
  | _, _, .cons (k := k') (v := v') (d := d') r t => by rw [List.any_cons, List.any_cons, repK_any t, isK_kD]
theorem repK_map {k : Key} {v : V} {d : D} (h : Rep K G v d) : ∀ {kvs : List (Key × V)} {ds : List (D × D)}, RepK K G kvs ds → RepK K G (kvs.map fun kv => if kv.1 = k then (kv.1, v) else kv) (ds.map fun p => if isK k p = true then (p.1, d) else p)
  | _, _, .nil => .nil
  | _, _, .cons (k := k') (v := v') (d := d') r t => by
    rw [List.map_cons, List.map_cons]
    by_cases z : k' = k
    · rw [if_pos z, if_pos (by rw [isK_kD]; simp [z])]
      exact .cons h (repK_map h t)
    · rw [if_neg z, if_neg (by rw [isK_kD]; simp [z])]
      exact .cons r (repK_map h t)
theorem repK_put {k : Key} {v : V} {d : D} {kvs : List (Key × V)} {ds : List (D × D)} (r : RepK K G kvs ds) (h : Rep K G v d) : RepK K G (putK kvs k v) (dPut ds k d) := by
  unfold putK dPut
  rw [repK_any r]
  split
  · exact repK_map h r
  · exact r.app (.cons h .nil)
theorem kV_rep (k : Key) : Rep K G (kV k) (kD k) := by
  cases k with
  | inl i => exact .int i
  | inr x => exact .str x
theorem rep_key {v : V} {d : D} {k : Key} (r : Rep K G v d) (e : keyOf d = some k) : v = kV k := by
  cases r with
  | int i => cases e; rfl
  | str x => cases e; rfl
  | _ => cases e
/-! ### freezing -/
theorem StR.frzA {O : Gh} {Γ : Ctx} {σ : St} {env : List D} {L : Nat → List Addr} {a : Addr} {u : HO} (S : StR K O Γ H G σ env L) (hg : G a = none) (ho : O.own a) (hl : ∀ i m, At Γ i m → a ∉ L i) (hk : HK a (H a)) (hu : HK a (some u)) : StR K O Γ (upd H a u) (updG G a u) σ env L := by
  have gg : SameG G (updG G a u) := fun b o e => by rw [updG_ne (neG e hg)]; exact e
  refine ⟨fun b o e => ?_, S.ls, S.lg, fun i m hi => ?_, S.nd, S.dj, S.new, (S.pres.put ho hk).updG (by rw [upd_same]; exact hu), fun b o e => ?_, S.io⟩
  · by_cases z : b = a
    · subst z; rw [updG_same] at e; rw [upd_same]; exact e
    · rw [updG_inl z] at e; rw [upd_ne z]; exact S.gh b o e
  · obtain ⟨v, d, e1, e2, o⟩ := S.slot i m hi
    refine ⟨v, d, e1, e2, o.mono gg (.inr fun _ => updG_tag) fun b hb => ?_⟩
    have ne : b ≠ a := fun z => hl i m hi (z ▸ hb)
    exact ⟨upd_ne ne, by rw [updG_inl ne]; exact (o.objs b hb).1⟩
  · by_cases z : b = a
    · subst z; exact .inr ho
    · rw [updG_inl z] at e; exact S.gn b o e
theorem own100 {v : V} {ds : List (D × D)} {M : List Addr} (h : Own K H G 100 v (.dict ds) M) : ∃ a u, v = .ref a ∧ M = [a] ∧ H a = some u ∧ G a = none ∧ DcR K G a u ds := by
  cases h with
  | imm e _ => simp [immut] at e
  | dk h g r => exact ⟨_, _, rfl, rfl, h, g, r⟩
end
def eFrz (f : Ex) : Ex := fun env => (f env).bind fun p => match p.1 with
  | .dict _ => some p
  | _ => none
section
variable {X : Cx} {Γ Δ : Ctx} {T : Tg} {a b c : Expr} {pos apos cpos px : Pos} {f fa fb fc : Ex} {i : Nat} {x : Str}
/-- {} -/
theorem m_dnew : PE X (.Dict [] [] pos) (tM X.kw Γ (eC (.dict [])) 100) := pe_dnewK.imp fun σ H Q ⟨O, G, env, L, r, env1, S, e, k⟩ => by
  simp only [eC, Option.some.injEq, Prod.mk.injEq] at e
  obtain ⟨rfl, rfl⟩ := e
  intro p hp
  have R := Res.newD S.gh hp (RepK.nil (K := X.kw) (G := G))
  exact k _ _ _ L (S.res R).1 R.gg (S.res R).2
/-- a name's dict is frozen from here on -/
def sFrz (i : Nat) (g : Sx) : Sx := fun env => match env[i]? with
  | some (.dict _) => g env
  | _ => none
/-! ### reading -/
/-- what a dict has for a key; none where nothing is claimed -/
def dLook (ds : List (D × D)) (e : D) : Option (Option D) := if isRf ds = true then none else match keyOf e with
  | some k => if tupK ds = true then none else some (dGet ds k)
  | none => (tkOf e).bind fun ks => if (tupK ds || ds.isEmpty) = true then some (dGetT ds ks) else none
def ixA (d e : D) : Option D := match d with
  | .dict ds => (dLook ds e).bind id
  | _ => ixD d e
section
variable {pins : List (Addr × Obj)} {σ : L2.St} {H : Hp} {G : Gp} {s : Shared} {a : Addr} {ds : List (D × D)} {A : Around} {E : Value → Shared → Prop} {y v : V} {u w : Value} {e : D} {o : Option D}
theorem rep_dc {K : KW} (r : Rep K G v (.dict ds)) (hr : isRf ds = false) : ∃ a o u, v = .ref a ∧ G a = some (.frz o u) ∧ DcR K G a u ds := by
  cases r with
  | dk h r => exact ⟨_, _, _, rfl, h, r⟩
  | rf h => cases hr
  | sto _ _ => cases hr
theorem look_rf (l : dLook ds e = some o) : isRf ds = false := by
  unfold dLook at l
  split at l
  · cases l
  · rename_i h; simpa using h
theorem dc_rd {K : KW} {u : HO} {o : Obj} (sg : Sh G H) (h : G a = some (.frz o u)) : Rd H a u := .inr ⟨_, sg _ _ h⟩
theorem dc_is (I : Inv X pins σ H s) (sg : Sh G H) {u : HO} (rd : Rd H a u) (r : DcR X.kw G a u ds) : s.TypeIs (.ref a) "dict" ∧ (∀ b, Value.ref a = .ref b → ∃ ob, s.heap.get? b = some ob ∧ ob.dict = none) ∧ (a == sysModules) = false := by
  have ok := rd.ok I.hok
  cases r with
  | k r =>
    obtain ⟨_, hs, vs, _, ob, es, ep, f1, f2, _⟩ := ok
    exact ⟨⟨ob, f1, f2.1⟩, fun b q => by cases q; exact ⟨ob, f1, f2.2.1⟩, hs⟩
  | n r =>
    obtain ⟨⟨hs, us, _, _, _, ob, es, ep, f1, f2, _⟩, _⟩ := ok
    exact ⟨⟨ob, f1, f2.1⟩, fun b q => by cases q; exact ⟨ob, f1, f2.2.1⟩, hs⟩
/-- the two ways of a look -/
theorem look_two {K : KW} {u : HO} (r : DcR K G a u ds) (re : Rep K G y e) (l : dLook ds e = some o) : (∃ kvs k, u = .dK kvs ∧ RepK K G kvs ds ∧ y = kV k ∧ o = dGet ds k) ∨ ∃ b ks, y = .ref b ∧ Rep K G (.ref b) (NestedKey.tup ks).data ∧ (NestedKey.tup ks).depth ≤ 8 ∧ (tupK ds || ds.isEmpty) = true ∧ o = dGetT ds ks := by
  have hrf := look_rf l
  unfold dLook at l
  rw [if_neg (by rw [hrf]; decide)] at l
  cases hk : keyOf e with
  | some k =>
    rw [hk] at l
    simp only at l
    split at l
    · cases l
    · rename_i ht
      cases l
      cases r with
      | k r => exact .inl ⟨_, k, rfl, r, rep_key re hk, rfl⟩
      | n r => exact absurd (tupK_n r) ht
  | none =>
    rw [hk] at l
    simp only [Option.bind_eq_some_iff] at l
    obtain ⟨ks, h1, h2⟩ := l
    split at h2
    · rename_i ht
      cases h2
      obtain ⟨rfl, hd⟩ := tk_of h1
      have re' := re
      cases re with
      | tup => exact .inr ⟨_, ks, rfl, re', hd, ht, rfl⟩
    · cases h2
theorem valV_rep {K : KW} {kvs : List (Key × V)} {k : Key} (r : RepK K G kvs ds) : (dGet ds k = none ∧ valV kvs k = none) ∨ ∃ d v, dGet ds k = some d ∧ valV kvs k = some v ∧ Rep K G v d := by
  cases h : dGet ds k with
  | none => exact .inl ⟨rfl, repK_none r h⟩
  | some d => obtain ⟨v, h1, h2⟩ := repK_some r h; exact .inr ⟨d, v, rfl, h1, h2⟩
theorem dr_getItem {z : D} {Q : Value → Shared → Prop} (hu : A.units + 16 < cLine) (I : Inv X pins σ H s) (sg : Sh G H) {u0 : HO} (rd : Rd H a u0) (r : DcR X.kw G a u0 ds) (re : Rep X.kw G y e) (ry : RelV y u) (l : dLook ds e = some (some z))
    (q : ∀ v w' s', Inv X pins σ H s' → RelV v w' → Rep X.kw G v z → Q w' s') : wpAny (model X.prog X.w) A (getItem (.ref a) u) Q E s := by
  rcases look_two r re l with ⟨kvs, k, rfl, rr, rfl, lo⟩ | ⟨b, ks, rfl, rk, hd, ht, lo⟩
  · rcases valV_rep (k := k) rr with ⟨z1, _⟩ | ⟨d, v, z1, z2, z3⟩
    · rw [z1] at lo; cases lo
    · rw [z1] at lo; cases lo
      exact d_getItem (by omega) I (.inl ⟨kvs, k, rd, rfl, z2.symm⟩) ry fun w' s' I' rv => q v w' s' I' rv z3
  · cases (show u = Value.ref b from ry)
    exact n_getItem hu I sg rd r ht rk hd lo.symm q
theorem dr_in {Q : Value → Shared → Prop} (hu : A.units + 16 < cLine) (I : Inv X pins σ H s) (sg : Sh G H) {u0 : HO} (rd : Rd H a u0) (r : DcR X.kw G a u0 ds) (re : Rep X.kw G y e) (ry : RelV y u) (l : dLook ds e = some o)
    (q : ∀ s', Inv X pins σ H s' → Q (.bool o.isSome) s') : wpAny (model X.prog X.w) A (compareOp .In u (.ref a)) Q E s := by
  rcases look_two r re l with ⟨kvs, k, rfl, rr, rfl, rfl⟩ | ⟨b, ks, rfl, rk, hd, ht, rfl⟩
  · refine d_in (o := valV kvs k) (by omega) I (.inl ⟨kvs, k, rd, rfl, rfl⟩) ry ?_
    rcases valV_rep (k := k) rr with ⟨z1, z2⟩ | ⟨d, v, z1, z2, _⟩ <;> (rw [z1] at q; rw [z2]; exact q)
  · cases (show u = Value.ref b from ry)
    exact n_in hu I sg rd r ht rk hd q
theorem dr_notIn {Q : Value → Shared → Prop} (hu : A.units + 16 < cLine) (I : Inv X pins σ H s) (sg : Sh G H) {u0 : HO} (rd : Rd H a u0) (r : DcR X.kw G a u0 ds) (re : Rep X.kw G y e) (ry : RelV y u) (l : dLook ds e = some o)
    (q : ∀ s', Inv X pins σ H s' → Q (.bool (!o.isSome)) s') : wpAny (model X.prog X.w) A (compareOp .NotIn u (.ref a)) Q E s := by
  rcases look_two r re l with ⟨kvs, k, rfl, rr, rfl, rfl⟩ | ⟨b, ks, rfl, rk, hd, ht, rfl⟩
  · refine d_notIn (o := valV kvs k) (by omega) I (.inl ⟨kvs, k, rd, rfl, rfl⟩) ry ?_
    rcases valV_rep (k := k) rr with ⟨z1, z2⟩ | ⟨d, v, z1, z2, _⟩ <;> (rw [z1] at q; rw [z2]; exact q)
  · cases (show u = Value.ref b from ry)
    exact n_notIn hu I sg rd r ht rk hd q
theorem dr_get2 {x : V} {z : D} {Q : Value → Shared → Prop} (hu : A.units + 16 < cLine) (I : Inv X pins σ H s) (sg : Sh G H) {u0 : HO} (rd : Rd H a u0) (r : DcR X.kw G a u0 ds) (re : Rep X.kw G y e) (ry : RelV y u) (rx : RelV x w) (rz : Rep X.kw G x z) (l : dLook ds e = some o)
    (q : ∀ v w' s', Inv X pins σ H s' → RelV v w' → Rep X.kw G v (o.getD z) → Q w' s') : wpAny (model X.prog X.w) A (call (.builtin "dict.get") [.ref a, u, w]) Q E s := by
  rcases look_two r re l with ⟨kvs, k, rfl, rr, rfl, rfl⟩ | ⟨b, ks, rfl, rk, hd, ht, rfl⟩
  · refine d_get2 (o := valV kvs k) (by omega) I (.inl ⟨kvs, k, rd, rfl, rfl⟩) ry rx fun w' s' I' rv => ?_
    rcases valV_rep (k := k) rr with ⟨z1, z2⟩ | ⟨d, v, z1, z2, z3⟩
    · rw [z1] at q; rw [z2] at rv; exact q _ w' s' I' rv rz
    · rw [z1] at q; rw [z2] at rv; exact q _ w' s' I' rv z3
  · cases (show u = Value.ref b from ry)
    exact n_get2 hu I sg rd r ht rk hd rx rz q
end
theorem m_ixA (hu : X.A.units + 66 < cLine) (ha : PE X a (tM X.kw Γ fa 0)) (hb : PE X b (tM X.kw Γ fb 0)) (hs : PlainIx b) : PE X (.Subscript a b pos) (tM X.kw Γ (eBin ixA fa fb) 0) := ⟨fun pins s σ H Q I h => by
  obtain ⟨O, G, env, L, r, env2, S, e, k⟩ := h
  obtain ⟨xd, env1, yd, e1, e2, e3⟩ := eBin_some e
  by_cases hd : ∃ ds, xd = .dict ds
  · obtain ⟨ds, rfl⟩ := hd
    simp only [ixA, Option.bind_eq_some_iff, id] at e3
    obtain ⟨o, l, rfl⟩ := e3
    refine subD_of PySem.F.slot_dict_getitem.lookup hs (thn (ha.run pins s σ H _ I ⟨O, G, env, L, .dict ds, env1, S, e1, fun v H1 G1 L1 S1 s1 v1 => (⟨s1, S1, v1.rep⟩ : SameG G G1 ∧ StR X.kw O Γ H1 G1 σ env1 L1 ∧ Rep X.kw G1 v (.dict ds)) |> fun z => (⟨G1, L1, z⟩ : ∃ G1 L1, SameG G G1 ∧ StR X.kw O Γ H1 G1 σ env1 L1 ∧ Rep X.kw G1 v (.dict ds))⟩) fun u s1 ⟨x, H1, I1, rx, G1, L1, g1, S1, r1⟩ => ?_)
    obtain ⟨ad, od, u0, rfl, hG, rD⟩ := rep_dc r1 (look_rf l)
    obtain rfl : u = Value.ref ad := rx
    refine thn (hb.run pins s1 σ H1 _ I1 ⟨O, G1, env1, L1, yd, env2, S1, e2, fun w H2 G2 L2 S2 g2 v2 => (⟨G2, L2, g2, S2, v2.rep⟩ : ∃ G2 L2, SameG G1 G2 ∧ StR X.kw O Γ H2 G2 σ env2 L2 ∧ Rep X.kw G2 w yd)⟩) fun iv s2 ⟨y, H2, I2, ry, G2, L2, g2, S2, r2⟩ => ?_
    have rd := dc_rd (K := X.kw) S2.gh (g2 _ _ hG)
    refine ⟨(dc_is I2 S2.gh rd (rD.mono g2)).1, dr_getItem (by omega) I2 S2.gh rd (rD.mono g2) r2 ry l fun v w' s3 I3 rv rr => ⟨v, H2, I3, rv, k v H2 G2 L2 S2 (g1.trans g2) (.of_rep rr)⟩⟩
  · refine (m_ix x_seq ha hb hs).run pins s σ H Q I ⟨O, G, env, L, r, env2, S, ?_, k⟩
    have : ixD xd yd = some r := by
      unfold ixA at e3
      split at e3
      · exact absurd ⟨_, rfl⟩ hd
      · exact e3
    simp only [eBin, e1, Option.bind_some, e2, this, Option.map_some]⟩
end
end VL
set_option Elab.async false
set_option linter.all false
set_option maxRecDepth 100000
set_option maxHeartbeats 1000000
/-! VD2: walks over dicts with tuples for keys. -/
namespace VL
open PySem PySem.Spec L2
def Itn (w : World) (d : Addr) (o : Obj) (xs : List (NestedKey × Addr × V)) : It :=
  ⟨fun i H => H d = some (.frz o (dnO w d xs)) ∧ i < xs.length, fun i H x H' => H' = H ∧ ∃ p, xs[i]? = some p ∧ x = .ref p.2.1, fun i H => H d = some (.frz o (dnO w d xs)) ∧ xs.length ≤ i⟩
def Itni (w : World) (d : Addr) (o : Obj) (xs : List (NestedKey × Addr × V)) : It :=
  ⟨fun i H => H d = some (.frz o (dnO w d xs)) ∧ i < xs.length, fun i H x H' => ∃ T p, xs[i]? = some p ∧ x = .ref T ∧ H T = none ∧ H' = upd H T (.tup [.ref p.2.1, p.2.2]), fun i H => H d = some (.frz o (dnO w d xs)) ∧ xs.length ≤ i⟩
section
variable {P : Program} {w : World} {K : PySem.W.Frag} {tg : Expr} {d : Addr} {o : Obj} {es : Array DictEntry} {ep : Nat}
theorem nv_get : ∀ {xs : List (NestedKey × Addr × V)} {us : List (NestedKey × Addr × Value)} {i : Nat} {p : NestedKey × Addr × V}, NV xs us → xs[i]? = some p → ∃ q, us[i]? = some q ∧ p.2.1 = q.2.1 ∧ RelV p.2.2 q.2.2
  | _, _, 0, _, .cons h _, e => by simp at e; subst e; exact ⟨_, rfl, h.2.1, h.2.2⟩
  | _, _, i + 1, _, .cons _ t, e => by
    obtain ⟨q, h1, h2⟩ := nv_get (i := i) t (by simpa using e)
    exact ⟨q, by simpa using h1, h2⟩
theorem dn_frz {X : Cx} {pins : List (Addr × Obj)} {σ : St} {H : Hp} {s : Shared} {xs : List (NestedKey × Addr × V)} (I : Inv X pins σ H s) (h : H d = some (.frz o (dnO X.w d xs))) : (d == sysModules) = false ∧ s.heap.get? d = some o ∧ o.ExactDict ∧ ∃ (es : Array DictEntry) (ep : Nat), o.data = .dict es ep ∧ es.size = xs.length ∧ xs.length ≤ sizeLine ∧
    ∀ (i : Nat) p, xs[i]? = some p → ∃ en : DictEntry, es[i]? = some en ∧ en.key = .ref p.2.1 ∧ RelV p.2.2 en.val := by
  obtain ⟨hs, us, nv, nd, hl, es, ep, f1, f2, f3, f4⟩ := dn_at (I.hok _ _ h)
  have l1 : xs.length = us.length := Paired.length nv
  refine ⟨hs, f1, f2, es, ep, f3, ?_, by omega, fun i p e => ?_⟩
  · rw [← Array.length_toList, f4, List.length_map]; exact l1.symm
  · obtain ⟨q, h1, h2, h3⟩ := nv_get nv e
    refine ⟨⟨q.1.hash X.w, .ref q.2.1, q.2.2⟩, ?_, by rw [h2], h3⟩
    rw [← Array.getElem?_toList, f4, List.getElem?_map, h1]; rfl
theorem turn_n {xs : List (NestedKey × Addr × V)} (it : Addr) (hod : o.data = .dict es ep) : Turn P w K tg (Itn w d o xs) [it] it (fun i h => h.IsKeyIter it d i xs.length ep) where
  mem := List.mem_singleton_self _
  obj := fun i h st b hb => by
    rw [List.mem_singleton.mp hb]
    obtain ⟨oi, e, _, dd⟩ := st
    exact ⟨oi, e, fun v z => by rw [dd] at z; cases z⟩
  keep := fun i h h' st k => st.at fun oi e => k it (List.mem_singleton_self _) oi e
  item := by
    intro X hP hw hK hc i pins s σ H E I hf st ⟨hd, hi⟩
    subst hP hw hK
    obtain ⟨f0, f1, f2, f3, f4, f5⟩ := hf it (List.mem_singleton_self _)
    obtain ⟨hs, hgd, hx, es', ep', hdt, hsz, _, ent⟩ := dn_frz I hd
    obtain ⟨rfl, rfl⟩ := dict_ep hod hdt
    obtain ⟨en, hen, hkey, _⟩ := ent i _ (List.getElem?_eq_getElem hi)
    refine next_key_item st hgd hdt hsz hen fun h' st' sb => ?_
    have I1 : Inv X pins σ H { s with heap := h' } := I.turned (t' := s.toks) (fun b ob hb e => (sb.2 b hb).trans e) f0 f1 f3 f4 f5
    obtain ⟨oi, e, c, dd⟩ := id st'
    exact ⟨en.key, rfl, go_of (s := { s with heap := h' }) e c dd (by decide) ⟨.ref xs[i].2.1, H, I1, hkey, ⟨rfl, _, List.getElem?_eq_getElem hi, rfl⟩, st', fun b hb => (hf b hb).1⟩⟩
  done := by
    intro X hP hw hK hc i pins s σ H E I hf st ⟨hd, hi⟩
    subst hP hw hK
    obtain ⟨f0, f1, f2, f3, f4, f5⟩ := hf it (List.mem_singleton_self _)
    obtain ⟨hs, hgd, hx, es', ep', hdt, hsz, _, ent⟩ := dn_frz I hd
    obtain ⟨rfl, rfl⟩ := dict_ep hod hdt
    exact next_key_end (I.ok.hd hc) st hgd hdt hsz hi fun h' eb => ⟨rfl, I.turned (t' := s.toks) (fun b ob hb e => eb b ob hb e) f0 f1 f3 f4 f5⟩
  self := fun A i s Q E st h => wpAny_pyIter_keyiter st h
theorem turn_ni {xs : List (NestedKey × Addr × V)} {elts : List Expr} {kk : Nat} {tpos : Pos} (it : Addr) (hod : o.data = .dict es ep) : Turn P w K (.Tuple elts kk tpos) (Itni w d o xs) [it] it (fun i h => ∃ ok ov, IsItemIter h it d i xs.length ep ok ov) where
  mem := List.mem_singleton_self _
  obj := fun i h st b hb => by
    rw [List.mem_singleton.mp hb]
    obtain ⟨ok, ov, e⟩ := st
    exact ⟨_, e, fun v z => nomatch z⟩
  keep := fun i h h' st k => let ⟨ok, ov, e⟩ := st; ⟨ok, ov, k it (List.mem_singleton_self _) _ e⟩
  item := by
    intro X hP hw hK hc i pins s σ H E I hf st ⟨hd, hi⟩
    subst hP hw hK
    obtain ⟨hs, hgd, hx, es', ep', hdt, hsz, _, ent⟩ := dn_frz I hd
    obtain ⟨rfl, rfl⟩ := dict_ep hod hdt
    obtain ⟨en, hen, hkey, hval⟩ := ent i _ (List.getElem?_eq_getElem hi)
    obtain ⟨ok, ov, he⟩ := st
    rw [← hsz] at he
    have hi2 : i < es'.size := by rw [hsz]; exact hi
    have hlt : it < s.heap.objs.size := Heap.lt_size he
    have een : es'[i] = en := by rw [Array.getElem?_eq_getElem hi2] at hen; exact Option.some.inj hen
    refine DT.nextI he ⟨_, hgd, hx, hdt⟩ hi2 fun h' ho hT hz hk => ?_
    refine ⟨_, rfl, wpAny_letOwnedTupleGo_items (s := { s with heap := h' }) ho fun h'' he' sb => ?_⟩
    have hT2 := (sb.2 _ (Nat.ne_of_gt hlt)).trans hT
    rw [een, hkey] at hT2
    have new : ObjOk X.prog X.w (upd H s.heap.objs.size (.tup [.ref xs[i].2.1, xs[i].2.2])) h'' s.heap.objs.size (.tup [.ref xs[i].2.1, xs[i].2.2]) := ⟨by show 2 ≤ sizeLine; decide, [.ref xs[i].2.1, en.val], .cons rfl (.cons hval .nil), ⟨_, hT2, rfl, _, rfl⟩⟩
    have I1 : Inv X pins σ (upd H s.heap.objs.size (.tup [.ref xs[i].2.1, xs[i].2.2])) { s with heap := h'' } := I.turnedNew (t' := s.toks) (ch := [it]) (fun b ob hb e => (sb.2 b (by simpa using hb)).trans (hk b ob (by simpa using hb) e)) hf (Nat.le_refl _) new
    refine ⟨.ref s.heap.objs.size, _, I1, rfl, ⟨_, _, List.getElem?_eq_getElem hi, rfl, I.hok.fresh (Nat.le_refl _), rfl⟩, ⟨_, _, by rw [← hsz]; exact he'⟩, fun b hb => ?_⟩
    rw [List.mem_singleton.mp hb, upd_ne (Nat.ne_of_lt hlt)]
    exact (hf it (List.mem_singleton_self _)).1
  done := by
    intro X hP hw hK hc i pins s σ H E I hf st ⟨hd, hi⟩
    subst hP hw hK
    obtain ⟨f0, f1, f2, f3, f4, f5⟩ := hf it (List.mem_singleton_self _)
    obtain ⟨hs, hgd, hx, es', ep', hdt, hsz, _, ent⟩ := dn_frz I hd
    obtain ⟨rfl, rfl⟩ := dict_ep hod hdt
    obtain ⟨ok, ov, he⟩ := st
    rw [← hsz] at he
    exact DT.endI (I.ok.hd hc) he ⟨_, hgd, hx, hdt⟩ (by omega) fun h' eb => ⟨rfl, I.turned (t' := s.toks) (fun b ob hb e => eb b ob hb e) f0 f1 f3 f4 f5⟩
  self := fun A i s Q E st h => let ⟨_, _, e⟩ := st; PySem.W.kcp_self e h
end
end VL
set_option Elab.async false
set_option linter.all false
set_option maxRecDepth 100000
set_option maxHeartbeats 1000000
/-! VLH: dicts read, walked, made of pairs, written. -/
namespace VL
open PySem PySem.Spec L2
def eTri (F : D → D → D → Option D) (a b c : Ex) : Ex := fun env => (a env).bind fun p => (b p.2).bind fun q => (c q.2).bind fun r => (F p.1 q.1 r.1).map fun z => (z, r.2)
theorem eTri_some {F : D → D → D → Option D} {a b c : Ex} {env env3 : List D} {r : D} (e : eTri F a b c env = some (r, env3)) : ∃ x env1 y env2 z, a env = some (x, env1) ∧ b env1 = some (y, env2) ∧ c env2 = some (z, env3) ∧ F x y z = some r := by
  unfold eTri at e
  cases h1 : a env with
  | none => rw [h1] at e; cases e
  | some p =>
    rw [h1] at e
    simp only [Option.bind_some] at e
    cases h2 : b p.2 with
    | none => rw [h2] at e; cases e
    | some q =>
      rw [h2] at e
      simp only [Option.bind_some] at e
      cases h3 : c q.2 with
      | none => rw [h3] at e; cases e
      | some w =>
        rw [h3] at e
        simp only [Option.bind_some] at e
        cases h4 : F p.1 q.1 w.1 with
        | none => rw [h4] at e; cases e
        | some z =>
          rw [h4] at e
          simp only [Option.map_some, Option.some.injEq, Prod.mk.injEq] at e
          obtain ⟨rfl, rfl⟩ := e
          exact ⟨p.1, p.2, q.1, q.2, w.1, rfl, h2, h3, h4⟩
def getD1 (d e : D) : Option D := match d with
  | .dict ds => (dLook ds e).map fun o => o.getD .none
  | _ => none
def getD2 (d e z : D) : Option D := match d with
  | .dict ds => (dLook ds e).map fun o => o.getD z
  | _ => none
def inA (d c : D) : Option D := match c with
  | .dict ds => (dLook ds d).map fun o => .bool o.isSome
  | _ => inD d c
def notInA (d c : D) : Option D := match c with
  | .dict ds => (dLook ds d).map fun o => .bool (!o.isSome)
  | _ => notInD d c
section
variable {X : Cx} {Γ Δ : Ctx} {T : Tg} {a b c : Expr} {pos apos cpos px : Pos} {f fa fb fc : Ex} {i : Nat} {x : Str}
theorem op_inA (hu : X.A.units + 66 < cLine) : OpR X (compareOp .In) (rD X.kw 0 inA) := by
  intro pins s σ H x y v u Q I rx ry ⟨d, c, z, G, sg, rd, rc, hz, q⟩
  by_cases hd : ∃ ds, c = .dict ds
  · obtain ⟨ds, rfl⟩ := hd
    simp only [inA, Option.map_eq_some_iff] at hz
    obtain ⟨o, l, rfl⟩ := hz
    obtain ⟨ad, od, u0, rfl, hG, rD⟩ := rep_dc rc (look_rf l)
    obtain rfl : u = Value.ref ad := ry
    exact dr_in (by omega) I sg (dc_rd (K := X.kw) sg hG) rD rd rx l fun s' I' => bool_fin I' sg q
  · refine op_inD hu pins s σ H x y v u Q I rx ry ⟨d, c, z, G, sg, rd, rc, ?_, q⟩
    unfold inA at hz
    split at hz
    · exact absurd ⟨_, rfl⟩ hd
    · exact hz
theorem op_notInA (hu : X.A.units + 66 < cLine) : OpR X (compareOp .NotIn) (rD X.kw 0 notInA) := by
  intro pins s σ H x y v u Q I rx ry ⟨d, c, z, G, sg, rd, rc, hz, q⟩
  by_cases hd : ∃ ds, c = .dict ds
  · obtain ⟨ds, rfl⟩ := hd
    simp only [notInA, Option.map_eq_some_iff] at hz
    obtain ⟨o, l, rfl⟩ := hz
    obtain ⟨ad, od, u0, rfl, hG, rD⟩ := rep_dc rc (look_rf l)
    obtain rfl : u = Value.ref ad := ry
    exact dr_notIn (by omega) I sg (dc_rd (K := X.kw) sg hG) rD rd rx l fun s' I' => bool_fin I' sg q
  · refine op_notInD hu pins s σ H x y v u Q I rx ry ⟨d, c, z, G, sg, rd, rc, ?_, q⟩
    unfold notInA at hz
    split at hz
    · exact absurd ⟨_, rfl⟩ hd
    · exact hz
theorem b_inA (hu : X.A.units + 66 < cLine) (ha : PE X a (tM X.kw Γ fa 0)) (hb : PE X b (tM X.kw Γ fb 0)) (hm : behindInMarks .In b = false) : PT X (.Compare a [.In] [b] pos) (tMT X.kw Γ (asB (eBin inA fa fb))) := b_cmp (op_inA hu) ha hb hm
theorem b_notInA (hu : X.A.units + 66 < cLine) (ha : PE X a (tM X.kw Γ fa 0)) (hb : PE X b (tM X.kw Γ fb 0)) (hm : behindInMarks .NotIn b = false) : PT X (.Compare a [.NotIn] [b] pos) (tMT X.kw Γ (asB (eBin notInA fa fb))) := b_cmp (op_notInA hu) ha hb hm
theorem m_get2 (hu : X.A.units + 66 < cLine) (ha : PE X a (tM X.kw Γ fa 0)) (hb : PE X b (tM X.kw Γ fb 0)) (hc : PE X c (tM X.kw Γ fc 0)) (m : M2 X a "get" apos b c cpos) : PE X (.Call (.Attribute a "get" apos) [b, c] [] cpos) (tM X.kw Γ (eTri getD2 fa fb fc) 0) := ⟨fun pins s σ H Q I h => by
  obtain ⟨O, G, env, L, r, env3, S, e, k⟩ := h
  obtain ⟨xd, env1, yd, env2, zd, e1, e2, e2', e3⟩ := eTri_some e
  unfold getD2 at e3
  split at e3
  case h_2 => cases e3
  rename_i ds
  simp only [Option.map_eq_some_iff] at e3
  obtain ⟨o, l, rfl⟩ := e3
  refine wpAny_Call_method m.base m.few m.line PySem.F.plainAttrs_dict PySem.F.slot_dict_get PySem.F.type_dict_get (thn (ha.run pins s σ H _ I ⟨O, G, env, L, .dict ds, env1, S, e1, fun v H1 G1 L1 S1 s1 v1 => (⟨G1, L1, s1, S1, v1.rep⟩ : ∃ G1 L1, SameG G G1 ∧ StR X.kw O Γ H1 G1 σ env1 L1 ∧ Rep X.kw G1 v (.dict ds))⟩) fun u s1 ⟨x, H1, I1, rx, G1, L1, g1, S1, r1⟩ => ?_)
  obtain ⟨ad, od, u0, rfl, hG, rD⟩ := rep_dc r1 (look_rf l)
  obtain rfl : u = Value.ref ad := rx
  obtain ⟨t1, t2, _⟩ := dc_is I1 S1.gh (dc_rd (K := X.kw) S1.gh hG) rD
  refine ⟨t1, t2, ?_⟩
  rw [m.trees]
  refine Calls.callWith_builtin rfl (Calls.evalArgs_plain (Calls.spliced_cons (thn (hb.run pins s1 σ H1 _ I1 ⟨O, G1, env1, L1, yd, env2, S1, e2, fun w H2 G2 L2 S2 g2 v2 => (⟨G2, L2, g2, S2, v2.rep⟩ : ∃ G2 L2, SameG G1 G2 ∧ StR X.kw O Γ H2 G2 σ env2 L2 ∧ Rep X.kw G2 w yd)⟩) fun iv s2 ⟨y, H2, I2, ry, G2, L2, g2, S2, r2⟩ =>
    Calls.spliced_cons (thn (hc.run pins s2 σ H2 _ I2 ⟨O, G2, env2, L2, zd, env3, S2, e2', fun w H3 G3 L3 S3 g3 v3 => (⟨G3, L3, g3, S3, v3.rep⟩ : ∃ G3 L3, SameG G2 G3 ∧ StR X.kw O Γ H3 G3 σ env3 L3 ∧ Rep X.kw G3 w zd)⟩) fun jv s3 ⟨z, H3, I3, rz, G3, L3, g3, S3, r3⟩ => Calls.spliced_nil ?_))))
  exact dr_get2 (by omega) I3 S3.gh (dc_rd (K := X.kw) S3.gh (g3 _ _ (g2 _ _ hG))) ((rD.mono g2).mono g3) (r2.mono g3) ry rz r3 l fun v w' s4 I4 rv rr => ⟨v, H3, I4, rv, k v H3 G3 L3 S3 ((g1.trans g2).trans g3) (.of_rep rr)⟩⟩
/-! ### walks -/
def keysOf (ds : List (D × D)) : List D := ds.map (·.1)
def pairsOf (ds : List (D × D)) : List D := ds.map fun p => .tuple [p.1, p.2]
def itemsA : D → Option (List D)
  | .dict ds => if isRf ds = true then none else some (keysOf ds)
  | d => itemsD d
def iSqA (f : Ex) : Ix := fun env => (f env).bind fun p => (itemsA p.1).map fun ds => (ds, p.2)
def iItm (f : Ex) : Ix := fun env => (f env).bind fun p => match p.1 with
  | .dict ds => if isRf ds = true then none else some (pairsOf ds, p.2)
  | _ => none
theorem repK_at {K : KW} {G : Gp} : ∀ {kvs : List (Key × V)} {ds : List (D × D)} {i : Nat} {k : Key} {v : V}, RepK K G kvs ds → kvs[i]? = some (k, v) → ∃ d, ds[i]? = some (kD k, d) ∧ Rep K G v d
  | _, _, _, _, _, .nil, e => by simp at e
  | _, _, 0, k, v, .cons r t, e => by
    simp only [List.getElem?_cons_zero, Option.some.injEq, Prod.mk.injEq] at e
    obtain ⟨rfl, rfl⟩ := e
    exact ⟨_, rfl, r⟩
  | _, _, i + 1, k, v, .cons r t, e => by
    obtain ⟨d, h1, h2⟩ := repK_at (i := i) t (by simpa using e)
    exact ⟨d, by simpa using h1, h2⟩
theorem walk_dkeys {K : KW} {G : Gp} {wk : Bool} {a : Addr} {o : Obj} {kvs : List (Key × V)} {ds : List (D × D)} (q : G a = some (.frz o (.dK kvs))) (r : RepK K G kvs ds) : WalkD K wk G (Itk a o kvs) (keysOf ds) where
  go := fun i H s h => ⟨s _ _ q, by rw [r.len]; simpa [keysOf] using h⟩
  stop := fun i H s h => ⟨s _ _ q, by rw [r.len, h]; simp [keysOf]⟩
  yld := fun i H x H' G1 s1 s2 ⟨e1, k, v, e2, e3⟩ h => by
    subst e1 e3
    obtain ⟨d, e4, _⟩ := repK_at r e2
    exact ⟨kD k, G1, by unfold keysOf; rw [List.getElem?_map, e4]; rfl, Ext.refl s2, .inl (kV_rep k)⟩
theorem walk_ditems {K : KW} {G : Gp} {a : Addr} {o : Obj} {kvs : List (Key × V)} {ds : List (D × D)} (q : G a = some (.frz o (.dK kvs))) (r : RepK K G kvs ds) : WalkD K true G (Iti a o kvs) (pairsOf ds) where
  go := fun i H s h => ⟨s _ _ q, by rw [r.len]; simpa [pairsOf] using h⟩
  stop := fun i H s h => ⟨s _ _ q, by rw [r.len, h]; simp [pairsOf]⟩
  yld := fun i H x H' G1 s1 s2 ⟨T, k, v, e2, e3, hT, e4⟩ h => by
    subst e3 e4
    obtain ⟨d, e5, r5⟩ := repK_at r e2
    have hh : Same H (upd H T (.tup [kV k, v])) := fun b o e => by rw [upd_ne (ne_of_none e hT)]; exact e
    exact ⟨.tuple [kD k, d], G1, by unfold pairsOf; rw [List.getElem?_map, e5]; rfl, ⟨(fun _ _ e => e), s2.trans hh, hh, fun a o e n => (by rw [n] at e; cases e), NT.refl _⟩, .inr ⟨rfl, T, _, _, rfl, .inl (.inl upd_same), rfl, .cons (kV_rep k) (.cons (r5.mono s1) .nil)⟩⟩
theorem repN_at {K : KW} {G : Gp} : ∀ {xs : List (NestedKey × Addr × V)} {ds : List (D × D)} {i : Nat} {p : NestedKey × Addr × V}, RepN K G xs ds → xs[i]? = some p → ∃ q, ds[i]? = some q ∧ Rep K G (.ref p.2.1) q.1 ∧ Rep K G p.2.2 q.2
  | _, _, _, _, .nil, e => by simp at e
  | _, _, 0, p, .cons hk _ r t, e => by
    simp only [List.getElem?_cons_zero, Option.some.injEq] at e
    subst e
    exact ⟨_, rfl, hk, r⟩
  | _, _, i + 1, p, .cons _ _ r t, e => by
    obtain ⟨q, h1, h2⟩ := repN_at (i := i) t (by simpa using e)
    exact ⟨q, by simpa using h1, h2⟩
theorem walk_nkeys {K : KW} {G : Gp} {wk : Bool} {a : Addr} {o : Obj} {xs : List (NestedKey × Addr × V)} {ds : List (D × D)} (q : G a = some (.frz o (dnO K.w a xs))) (r : RepN K G xs ds) : WalkD K wk G (Itn K.w a o xs) (keysOf ds) where
  go := fun i H s h => ⟨s _ _ q, by rw [r.len]; simpa [keysOf] using h⟩
  stop := fun i H s h => ⟨s _ _ q, by rw [r.len, h]; simp [keysOf]⟩
  yld := fun i H x H' G1 s1 s2 ⟨e1, p, e2, e3⟩ h => by
    subst e1 e3
    obtain ⟨z, e4, e5, _⟩ := repN_at r e2
    exact ⟨z.1, G1, by unfold keysOf; rw [List.getElem?_map, e4]; rfl, Ext.refl s2, .inl (e5.mono s1)⟩
theorem walk_nitems {K : KW} {G : Gp} {a : Addr} {o : Obj} {xs : List (NestedKey × Addr × V)} {ds : List (D × D)} (q : G a = some (.frz o (dnO K.w a xs))) (r : RepN K G xs ds) : WalkD K true G (Itni K.w a o xs) (pairsOf ds) where
  go := fun i H s h => ⟨s _ _ q, by rw [r.len]; simpa [pairsOf] using h⟩
  stop := fun i H s h => ⟨s _ _ q, by rw [r.len, h]; simp [pairsOf]⟩
  yld := fun i H x H' G1 s1 s2 ⟨T, p, e2, e3, hT, e4⟩ h => by
    subst e3 e4
    obtain ⟨z, e5, r4, r5⟩ := repN_at r e2
    have hh : Same H (upd H T (.tup [.ref p.2.1, p.2.2])) := fun b o e => by rw [upd_ne (ne_of_none e hT)]; exact e
    exact ⟨.tuple [z.1, z.2], G1, by unfold pairsOf; rw [List.getElem?_map, e5]; rfl, ⟨(fun _ _ e => e), s2.trans hh, hh, fun a o e n => (by rw [n] at e; cases e), NT.refl _⟩, .inr ⟨rfl, T, _, _, rfl, .inl (.inl upd_same), rfl, .cons (r4.mono s1) (.cons (r5.mono s1) .nil)⟩⟩
theorem i_seqA {tg l : Expr} {wk : Bool} (hl : PE X l (tM X.kw Γ f 0)) : PI X tg l (tI X.kw wk Γ (iSqA f)) := ⟨fun pins s σ H R I ⟨O, G, env, L, ds, env2, S, e, k⟩ => by
  unfold iSqA at e
  cases q : f env with
  | none => rw [q] at e; cases e
  | some p =>
    rw [q] at e
    simp only [Option.bind_some] at e
    obtain ⟨x, env1⟩ := p
    by_cases hd : ∃ es, x = .dict es
    · obtain ⟨es, rfl⟩ := hd
      simp only [itemsA] at e
      split at e
      · cases e
      rename_i hrf
      simp only [Option.map_some, Option.some.injEq, Prod.mk.injEq] at e
      obtain ⟨rfl, rfl⟩ := e
      refine thn (hl.run pins s σ H _ I ⟨O, G, env, L, .dict es, env1, S, q, fun v H1 G1 L1 S1 s1 v1 => (⟨G1, L1, s1, S1, v1.rep⟩ : ∃ G1 L1, SameG G G1 ∧ StR X.kw O Γ H1 G1 σ env1 L1 ∧ Rep X.kw G1 v (.dict es))⟩) fun u s1 ⟨x, H1, I1, rx, G1, L1, g1, S1, r1⟩ => ?_
      obtain ⟨ad, od, u0, rfl, hG, rD⟩ := rep_dc r1 (by simpa using hrf)
      obtain rfl : u = Value.ref ad := rx
      cases rD with
      | k rr =>
        obtain ⟨hs, hgd, hx, es', ep, vs, hdt, hsz, kv, hm⟩ := I1.frzK (S1.gh _ _ hG)
        exact iter_keys hs hgd hx hdt (pi_one (tk := s1.toks) I1 _ (turn_keys _ hdt) ⟨_, Heap.get?_push_size _ rfl, rfl, by rw [hsz]; rfl⟩ (k _ H1 G1 L1 S1 g1 (walk_dkeys hG rr)))
      | n rr =>
        obtain ⟨hs, hgd, hx, es', ep, hdt, hsz, _, _⟩ := dn_frz I1 (S1.gh _ _ hG)
        exact iter_keys hs hgd hx hdt (pi_one (tk := s1.toks) I1 _ (turn_n _ hdt) ⟨_, Heap.get?_push_size _ rfl, rfl, by rw [hsz]; rfl⟩ (k _ H1 G1 L1 S1 g1 (walk_nkeys hG rr)))
    · refine (i_seq hl).run pins s σ H R I ⟨O, G, env, L, ds, env2, S, ?_, k⟩
      unfold iSq
      rw [q]
      simp only [Option.bind_some]
      rw [← e]
      cases x with
      | dict es => exact absurd ⟨_, rfl⟩ hd
      | _ => rfl⟩
theorem i_items {elts : List Expr} {kk : Nat} {tpos : Pos} (ha : PE X a (tM X.kw Γ fa 0)) (hbase : attributeBase a "items" X.env (eval a X.env) = eval a X.env := by rfl) (hline : (apos.endLine == cpos.line) = true := by rfl) : PI X (.Tuple elts kk tpos) (.Call (.Attribute a "items" apos) [] [] cpos) (tI X.kw true Γ (iItm fa)) := ⟨fun pins s σ H R I ⟨O, G, env, L, ds, env2, S, e, k⟩ => by
  unfold iItm at e
  cases q : fa env with
  | none => rw [q] at e; cases e
  | some p =>
    rw [q] at e
    simp only [Option.bind_some] at e
    obtain ⟨x, env1⟩ := p
    cases x with
    | dict es =>
      simp only at e
      split at e
      · cases e
      rename_i hrf
      simp only [Option.some.injEq, Prod.mk.injEq] at e
      obtain ⟨rfl, rfl⟩ := e
      refine wpAny_Call_method (T := "dict") (id := "dict.items") hbase rfl hline F.plainAttrs_dict F.slot_dict_items F.type_dict_items (thn (ha.run pins s σ H _ I ⟨O, G, env, L, .dict es, env1, S, q, fun v H1 G1 L1 S1 s1 v1 => (⟨G1, L1, s1, S1, v1.rep⟩ : ∃ G1 L1, SameG G G1 ∧ StR X.kw O Γ H1 G1 σ env1 L1 ∧ Rep X.kw G1 v (.dict es))⟩) fun u s1 ⟨x, H1, I1, rx, G1, L1, g1, S1, r1⟩ => ?_)
      obtain ⟨ad, od, u0, rfl, hG, rD⟩ := rep_dc r1 (by simpa using hrf)
      obtain rfl : u = Value.ref ad := rx
      obtain ⟨t1, t2, hs⟩ := dc_is I1 S1.gh (dc_rd (K := X.kw) S1.gh hG) rD
      refine ⟨t1, t2, ?_⟩
      have I2 : Inv X pins σ H1 { s1 with heap := s1.heap.push { cls := .type "dict_items", data := .fields #[.ref ad] } } := I1.kept (t' := s1.toks) fun b ob q => Heap.get?_push_of_some _ q
      have go : ∀ (es' : Array DictEntry) (ep : Nat) (n : Nat) (od2 : Obj), s1.heap.get? ad = some od2 → od2.ExactDict → od2.data = .dict es' ep → es'.size = n → (∀ it, PIE X pins σ (.Tuple elts kk tpos) R (.ref it) { s1 with heap := (s1.heap.push { cls := .type "dict_items", data := .fields #[.ref ad] }).push { cls := .type "dict_itemiterator", data := .fields #[.none, .bool false, .ref ad, .int 0 0, .int es'.size 0, .int ep 0, .none, .none] } } ∨ it ≠ (s1.heap.push { cls := .type "dict_items", data := .fields #[.ref ad] }).objs.size) →
          wpAny (model X.prog X.w) X.A (callWith cpos (.builtin "dict.items") [.ref ad] [] []) (fun v s2 => wpAny (model X.prog X.w) X.A (pyIter v) (PIE X pins σ (.Tuple elts kk tpos) R) X.xe s2) X.xe s1 := fun es' ep n od2 g1 g2 g3 g4 g5 => by
        refine method_meetsIn F.slot_dict_items F.entry_dict_items rfl (PySem.evalArgs_none ⟨rfl, t1, F.args_dict_items_1 _, _, DT.meetsItems (es := es') (ep := ep) hs, ⟨_, g1, g2, g3⟩, ?_⟩)
        refine DT.iterI (d := ad) (es := es') (ep := ep) ⟨_, Heap.get?_push_size _ rfl, rfl, rfl⟩ (DT.Raw.push ⟨_, g1, g2, g3⟩ _) ?_
        rcases g5 _ with z | z
        · exact z
        · exact absurd rfl z
      cases rD with
      | k rr =>
        obtain ⟨_, hgd, hx, es', ep, vs, hdt, hsz, kv, hm⟩ := I1.frzK (S1.gh _ _ hG)
        refine go es' ep _ _ hgd hx hdt hsz fun it => ?_
        by_cases z : it = (s1.heap.push { cls := .type "dict_items", data := .fields #[.ref ad] }).objs.size
        · subst z
          exact .inl (pi_one (tk := s1.toks) I2 _ (turn_items _ hdt) ⟨.none, .none, by rw [← hsz]; exact Heap.get?_push_size _ rfl⟩ (k _ H1 G1 L1 S1 g1 (walk_ditems hG rr)))
        · exact .inr z
      | n rr =>
        obtain ⟨_, hgd, hx, es', ep, hdt, hsz, _, _⟩ := dn_frz I1 (S1.gh _ _ hG)
        refine go es' ep _ _ hgd hx hdt hsz fun it => ?_
        by_cases z : it = (s1.heap.push { cls := .type "dict_items", data := .fields #[.ref ad] }).objs.size
        · subst z
          exact .inl (pi_one (tk := s1.toks) I2 _ (turn_ni _ hdt) ⟨.none, .none, by rw [← hsz]; exact Heap.get?_push_size _ rfl⟩ (k _ H1 G1 L1 S1 g1 (walk_nitems hG rr)))
        · exact .inr z
    | _ => cases e⟩
/-! ### writing -/
/-- a place of an owned dict as a target -/
def dPutA (ds : List (D × D)) (e d : D) : Option (List (D × D)) := match keyOf e with
  | some k => if tupK ds = true then none else some (dPut ds k d)
  | none => (tkOf e).bind fun ks => if (tupK ds || ds.isEmpty) = true then some (dPutT ds ks d) else none
def gtDx (i : Nat) (fi : Ex) : Gx := fun d env => (fi env).bind fun q => match q.2[i]? with
  | some (.dict ds) => if ds.length < lim then (dPutA ds q.1 d).map fun es => q.2.set i (.dict es) else none
  | _ => none
theorem dr_setItem {pins : List (Addr × Obj)} {σ : St} {H : Hp} {G : Gp} {s : Shared} {a : Addr} {ds es : List (D × D)} {A : Around} {E : Value → Shared → Prop} {y v : V} {u w : Value} {e z : D} {u0 : HO} {Q : Unit → Shared → Prop} (hu : A.units + 16 < cLine) (I : Inv X pins σ H s) (sg : Sh G H) (o : H a = some u0) (r : DcR X.kw G a u0 ds) (re : Rep X.kw G y e) (ry : RelV y u) (rz : Rep X.kw G v z) (rv : RelV v w) (hl : ds.length < sizeLine) (l : dPutA ds e z = some es)
    (q : ∀ u' s', DcR X.kw G a u' es → Inv X pins σ (upd H a u') s' → Q () s') : wpAny (model X.prog X.w) A (setItem (.ref a) u w) Q E s := by
  unfold dPutA at l
  cases hk : keyOf e with
  | some k =>
    rw [hk] at l
    simp only at l
    split at l
    · cases l
    · rename_i ht
      cases l
      cases r with
      | k r =>
        have hy := rep_key re hk
        subst hy
        exact d_setItem (H' := upd H a (.dK _)) (by omega) I (.inl ⟨_, k, o, rfl, by rw [r.len]; exact hl, rfl⟩) ry rv fun s' I' => q _ s' (.k (repK_put r rz)) I'
      | n r => exact absurd (tupK_n r) ht
  | none =>
    rw [hk] at l
    simp only [Option.bind_eq_some_iff] at l
    obtain ⟨ks, h1, h2⟩ := l
    split at h2
    · rename_i ht
      cases h2
      obtain ⟨rfl, hd⟩ := tk_of h1
      have re' := re
      cases re with
      | tup =>
        cases ry
        exact n_setItem hu I sg o r ht re' hd hl rv rz q
    · cases h2
/-- o[y] = v of an owned dict, over data -/
def rSetR (K : KW) : TSet := fun o y v H Q => ∃ (a : Addr) (u0 : HO) (ds es : List (D × D)) (e z : D) (G : Gp), o = .ref a ∧ Sh G H ∧ H a = some u0 ∧ DcR K G a u0 ds ∧ Rep K G y e ∧ Rep K G v z ∧ ds.length < sizeLine ∧ dPutA ds e z = some es ∧ ∀ u', DcR K G a u' es → Q (upd H a u')
theorem set_dr (hu : X.A.units + 66 < cLine) : PSet X (rSetR X.kw) := by
  intro pins s σ H o i v ov iv u Q I ro ri rv h
  obtain ⟨a, u0, ds, es, e, z, G, rfl, sg, ho, r, re, rz, hl, l, q⟩ := h
  cases (show ov = Value.ref a from ro)
  exact dr_setItem (by omega) I sg ho r re ri rz rv hl l fun u' s' r' I' => ⟨_, I', q u' r'⟩
/-! ### dict(pairs), dict(d) -/
def pairK : D → Option (Key × D)
  | .tuple [k, v] => (keyOf k).map fun q => (q, v)
  | _ => none
def pairsK : List D → Option (List (Key × D))
  | [] => some []
  | d :: ds => (pairK d).bind fun p => (pairsK ds).map (p :: ·)
def mergeD (ds : List (D × D)) (ps : List (Key × D)) : List (D × D) := ps.foldl (fun acc p => dPut acc p.1 p.2) ds
def dictD : List D → Option D := fun ds => match ds with
  | [.list xs] => (pairsK xs).map fun ps => .dict (mergeD [] ps)
  | [.dict es] => if tupK es = true then none else some (.dict es)
  | _ => none
theorem pairs_rep {K : KW} {G : Gp} {H : Hp} (s : Sh G H) : ∀ {vs : List V} {ds : List D} {ps : List (Key × D)}, RepL K G vs ds → pairsK ds = some ps → ∃ (as : List Addr) (kvs : List (Key × V)), vs = as.map V.ref ∧ Paired (fun p (kv : Key × V) => SqT K.fr H p [kV kv.1, kv.2]) as kvs ∧ Paired (fun (kv : Key × V) (p : Key × D) => kv.1 = p.1 ∧ Rep K G kv.2 p.2) kvs ps
  | _, _, _, .nil, e => by cases e; exact ⟨[], [], rfl, .nil, .nil⟩
  | _, _, _, .cons (d := d) (ds := ds) r t, e => by
    simp only [pairsK] at e
    cases h1 : pairK d with
    | none => rw [h1] at e; cases e
    | some p =>
      rw [h1] at e
      simp only [Option.bind_some] at e
      cases h2 : pairsK ds with
      | none => rw [h2] at e; cases e
      | some ps =>
        rw [h2] at e
        cases e
        obtain ⟨as, kvs, rfl, q1, q2⟩ := pairs_rep s t h2
        unfold pairK at h1
        split at h1
        · rename_i kd vd
          cases h3 : keyOf kd with
          | none => rw [h3] at h1; cases h1
          | some kk =>
            rw [h3] at h1
            cases h1
            cases r with
            | @tup a vs _ hq rr =>
              cases rr with
              | cons r1 rr =>
                cases rr with
                | cons r2 rr =>
                  cases rr
                  have := rep_key r1 h3
                  subst this
                  exact ⟨a :: as, (kk, _) :: kvs, rfl, .cons (sqT_sh s hq.sqT) q1, .cons ⟨rfl, r2⟩ q2⟩
        · cases h1
theorem merge_rep {K : KW} {G : Gp} : ∀ {kvs : List (Key × V)} {ps : List (Key × D)} {acc : List (Key × V)} {ds : List (D × D)}, Paired (fun (kv : Key × V) (p : Key × D) => kv.1 = p.1 ∧ Rep K G kv.2 p.2) kvs ps → RepK K G acc ds → RepK K G (mergeK acc kvs) (mergeD ds ps)
  | _, _, _, _, .nil, r => r
  | _, _, acc, ds, .cons (a := kv) (b := p) h t, r => by
    have : RepK K G (putK acc kv.1 kv.2) (dPut ds p.1 p.2) := by rw [← h.1]; exact repK_put r h.2
    have := merge_rep (K := K) (G := G) t this
    unfold mergeK mergeD at this ⊢
    rw [List.foldl_cons, List.foldl_cons]
    exact this
theorem c_dict (hc : X.calm = true) : CallR X (.type "dict") (cD X.kw 100 dictD) := fun pins s σ H xs us Q I rv ⟨ds, z, G, sg, rr, hz, q⟩ => by
  unfold dictD at hz
  split at hz
  · rename_i ys
    cases h1 : pairsK ys with
    | none => rw [h1] at hz; cases hz
    | some ps =>
      rw [h1] at hz
      cases hz
      cases rr with
      | cons r rn =>
        cases rn
        cases r with
        | lst ha r2 =>
          obtain ⟨as, kvs, rfl, q1, q2⟩ := pairs_rep sg r2 h1
          exact call_dictP hc pins s σ H _ us Q I rv ⟨_, as, kvs, rfl, SqL.of (sg _ _ ha), q1, fun p hp => q _ _ _ (Res.newD sg hp (merge_rep q2 .nil))⟩
  · rename_i es
    split at hz
    case isTrue => cases hz
    rename_i hnt
    cases hz
    cases rr with
    | cons r rn =>
      cases rn
      cases r with
      | dk h rr =>
        cases rr with
        | k rr => exact call_dictD pins s σ H _ us Q I rv ⟨_, _, rfl, .inr ⟨_, sg _ _ h⟩, fun p hp => q _ _ _ (Res.newD sg hp rr)⟩
        | n rr => exact absurd (tupK_n rr) hnt
      | rf h => exact absurd rfl hnt
      | sto _ _ => exact absurd rfl hnt
  · cases hz
theorem bt_dict : bootBuiltins "dict" = some (.type "dict") := by decide +kernel
end
end VL
set_option Elab.async false
set_option linter.all false
set_option maxRecDepth 100000
set_option maxHeartbeats 1000000
/-! VLI: isinstance, methods of tuples. -/
namespace VL
open PySem PySem.Spec L2
end VL
set_option Elab.async false
set_option linter.all false
set_option maxRecDepth 100000
set_option maxHeartbeats 1000000
/-! VLJ: things owned to a greater depth. -/
namespace VL
open PySem PySem.Spec L2
section
variable {K : KW} {O : Gh} {Γ Δ : Ctx} {H H' : Hp} {G G' : Gp} {σ : St} {env : List D} {L : Nat → List Addr} {n m i : Nat} {v w : V} {d e : D} {M N : List Addr} {vs : List V} {ds : List D}
structure VML (K : KW) (O : Gh) (Γ : Ctx) (H : Hp) (G : Gp) (L : Nat → List Addr) (n : Nat) (vs : List V) (ds : List D) (M : List Addr) : Prop where
  own : OwnL K H G n vs ds M
  nd : M.Nodup
  new : ∀ a ∈ M, O.own a
  dj : ∀ i m, At Γ i m → ∀ a ∈ M, a ∉ L i
theorem ownL_len : ∀ {n : Nat} {vs : List V} {ds : List D} {M : List Addr}, OwnL K H G n vs ds M → vs.length = ds.length
  | _, _, _, _, .nil => rfl
  | _, _, _, _, .cons _ t => by simp [ownL_len t]
/-- what came first beside what came later -/
theorem VML.cons {Γ' : Ctx} {σ' : St} {env' : List D} {L' : Nat → List Addr} (S : StR K O Γ H G σ env L) (S' : StR K (O.at K Γ H G L) Γ' H' G' σ' env' L') (gg : SameG G G') (h : VM K O Γ H G L n v d M) (h' : VML K (O.at K Γ H G L) Γ' H' G' L' n vs ds N) (hn : n < 200) : VML K O Γ' H' G' L' n (v :: vs) (d :: ds) (M ++ N) := by
  have t := h.through S S' gg hn
  refine ⟨.cons t.own h'.own, List.nodup_append.mpr ⟨h.nd, h'.nd, fun a ha b hb z => ?_⟩, fun a ha => ?_, fun i m hi a ha => ?_⟩
  · subst z
    obtain ⟨g, hs, _⟩ := h.own.objs a ha
    rcases h'.new a hb with z | z
    · have z := S.pres.nt_no (a := a) z (h.own.hk a ha)
      rw [z] at hs; cases hs
    · obtain ⟨i, k, hi, hl⟩ := mem_allL.mp z
      exact h.dj i k hi a ha hl
  · rcases List.mem_append.mp ha with ha | ha
    · exact h.new a ha
    · exact S.own_of (h'.new a ha)
  · rcases List.mem_append.mp ha with ha | ha
    · exact t.dj i m hi a ha
    · exact h'.dj i m hi a ha
end
def tMAn (K : KW) (Γ : Ctx) (fs : List Ex) (n : Nat) : TA := fun σ H Q => ∃ (O : Gh) (G : Gp) (env : List D) (L : Nat → List Addr) (rs : List D) (env' : List D), StR K O Γ H G σ env L ∧ evs fs env = some (rs, env') ∧
  ∀ vs H' G' L' M, StR K O Γ H' G' σ env' L' → SameG G G' → VML K O Γ H' G' L' n vs rs M → Q vs H'
section
variable {X : Cx} {Γ Δ : Ctx} {T : Tg} {a b c : Expr} {pos apos cpos px : Pos} {f fa fb fc : Ex} {i j n : Nat} {x y : Str} {es : List Expr} {fs : List Ex}
theorem a_nilN : PA X [] (tMAn X.kw Γ [] n) := pa_nil.imp fun σ H Q ⟨O, G, env, L, rs, env1, S, e, k⟩ => by
  simp only [evs, Option.some.injEq, Prod.mk.injEq] at e
  obtain ⟨rfl, rfl⟩ := e
  exact k [] H G L [] S (fun _ _ e => e) ⟨.nil, List.nodup_nil, fun a m => (by cases m), fun _ _ _ a m => (by cases m)⟩
theorem a_consN (ha : PE X a (tM X.kw Γ fa n)) (hr : PA X es (tMAn X.kw Γ fs n)) (hs : starEach (a :: es) X.env = (false, eval a X.env) :: starEach es X.env := by rfl) (hn : n < 200 := by decide) : PA X (a :: es) (tMAn X.kw Γ (fa :: fs) n) :=
  (pa_cons ha hr hs).imp fun σ H Q ⟨O, G, env, L, rs, env2, S, e, k⟩ => by
    simp only [evs] at e
    cases h1 : fa env with
    | none => rw [h1] at e; cases e
    | some p =>
      rw [h1] at e
      simp only [Option.bind_some] at e
      cases h2 : evs fs p.2 with
      | none => rw [h2] at e; cases e
      | some q =>
        rw [h2] at e
        simp only [Option.map_some, Option.some.injEq, Prod.mk.injEq] at e
        obtain ⟨rfl, rfl⟩ := e
        refine ⟨O, G, env, L, p.1, p.2, S, h1, fun v H1 G1 L1 S1 s1 v1 => ?_⟩
        obtain ⟨M, v1⟩ := v1.vm
        exact ⟨_, G1, p.2, L1, q.1, q.2, S1.reg, h2, fun vs H2 G2 L2 N S2 s2 r2 => k (v :: vs) H2 G2 L2 (M ++ N) (S1.unreg S2) (s1.trans s2) (VML.cons S1 S2 s2 v1 r2 hn)⟩
theorem own_new {O : Gh} {H : Hp} {G : Gp} {σ : St} {env : List D} {L : Nat → List Addr} {p : Addr} {K : KW} (S : StR K O Γ H G σ env L) (hp : H p = none) : G p = none ∧ O.own p ∧ ∀ i m, At Γ i m → p ∉ L i := by
  refine ⟨S.gh.free hp, ?_, fun i m hi ha => ?_⟩
  · cases r : O.H0 p with
    | none => exact .inl r
    | some u =>
      by_cases hA : p ∈ O.A
      · exact .inr hA
      · rw [S.pres p u r hA] at hp; cases hp
  · obtain ⟨_, _, _, _, o⟩ := S.slot i m hi
    have := (o.objs p ha).2.1
    rw [hp] at this; cases this
theorem m_lstN (h : PA X es (tMAn X.kw Γ fs n)) (hl : fs.length ≤ 1000 := by decide) : PE X (.List es pos) (tM X.kw Γ (eLst fs) (n + 1)) :=
  (pe_lst h).imp fun σ H Q ⟨O, G, env, L, r, env2, S, e, k⟩ => by
    obtain ⟨xs, e1, e2⟩ := eNs_some e
    cases e2
    refine ⟨O, G, env, L, xs, env2, S, e1, fun vs H1 G1 L1 M S1 s1 r1 => ⟨by rw [ownL_len r1.own, evs_len e1]; exact small_size hl, fun p hp => ?_⟩⟩
    obtain ⟨g, ow, dj⟩ := own_new S1 hp
    have ne : ∀ b ∈ M, b ≠ p := fun b hb z => by
      have := (OwnL.objs r1.own b hb).2.1
      rw [z, hp] at this; cases this
    refine k _ _ G1 L1 (S1.put g dj ow) s1 ⟨p :: M, .lst upd_same g (r1.own.mono (fun _ _ e => e) (.inr (NT.refl _)) fun b hb => ⟨upd_ne (ne b hb), (OwnL.objs r1.own b hb).1⟩), List.nodup_cons.mpr ⟨fun z => ne p z rfl, r1.nd⟩, fun b hb => ?_, fun i m hi b hb => ?_⟩
    · rcases List.mem_cons.mp hb with rfl | hb
      · exact ow
      · exact r1.new b hb
    · rcases List.mem_cons.mp hb with rfl | hb
      · exact dj i m hi
      · exact r1.dj i m hi b hb
theorem m_tupN {x1} (h : PA X es (tMAn X.kw Γ fs (n + 1))) (hl : fs.length ≤ 1000 := by decide) : PE X (.Tuple es x1 pos) (tM X.kw Γ (eTup fs) (n + 1)) :=
  (pe_tupP h).imp fun σ H Q ⟨O, G, env, L, r, env2, S, e, k⟩ => by
    obtain ⟨xs, e1, e2⟩ := eNs_some e
    cases e2
    refine ⟨O, G, env, L, xs, env2, S, e1, fun vs H1 G1 L1 M S1 s1 r1 => ⟨by rw [ownL_len r1.own, evs_len e1]; exact small_size hl, fun p o hp hc hd => ?_⟩⟩
    obtain ⟨g, ow, dj⟩ := own_new S1 hp
    have ne : ∀ b ∈ M, b ≠ p := fun b hb z => by
      have := (OwnL.objs r1.own b hb).2.1
      rw [z, hp] at this; cases this
    have gg : SameG G1 (updG G1 p (.frz o (.tup vs))) := fun b o e => by rw [updG_ne (neG e g)]; exact e
    exact k _ _ _ L1 (S1.frzA g ow dj (.of_none hp) .frz) (s1.trans gg) ⟨M, .tup (.inl ⟨o, updG_same, hc, hd⟩) (r1.own.mono gg (.inr fun _ => updG_tag) fun b hb => ⟨upd_ne (ne b hb), by rw [updG_inl (ne b hb)]; exact (OwnL.objs r1.own b hb).1⟩), r1.nd, r1.new, r1.dj⟩
/-! ### t[k], t a tuple that has come with what it owns -/
def ixT (d : D) (j : Nat) : Option D := match d with
  | .tuple xs => xs[j]?
  | _ => none
def eIxT (j : Nat) (f : Ex) : Ex := eUn (fun d => ixT d j) f
/-! ### a name's value taken out of the state, and put back -/
end
end VL
set_option Elab.async false
set_option linter.all false
set_option maxRecDepth 100000
set_option maxHeartbeats 1000000
/-! VLK: displays with stars, small dict displays, global tuples. -/
namespace VL
open PySem PySem.Spec L2
abbrev Lx := List D → Option (List D × List D)
def tMB (K : KW) (Γ : Ctx) (F : Lx) : TA := fun σ H Q => ∃ (O : Gh) (G : Gp) (env : List D) (L : Nat → List Addr) (rs : List D) (env' : List D), StR K O Γ H G σ env L ∧ F env = some (rs, env') ∧
  ∀ vs H' G' L', StR K O Γ H' G' σ env' L' → SameG G G' → RepL K G' vs rs → Q vs H'
def lNil : Lx := fun env => some ([], env)
def lCons (f : Ex) (F : Lx) : Lx := fun env => (f env).bind fun p => (F p.2).map fun q => (p.1 :: q.1, q.2)
def lStar (f : Ex) (F : Lx) : Lx := fun env => (f env).bind fun p => (itemsD p.1).bind fun ds => (F p.2).map fun q => (ds ++ q.1, q.2)
def eTupB (F : Lx) : Ex := fun env => (F env).bind fun p => if p.1.length ≤ lim then some (.tuple p.1, p.2) else none
def eLstB (F : Lx) : Ex := fun env => (F env).bind fun p => if p.1.length ≤ lim then some (.list p.1, p.2) else none
section
variable {X : Cx} {Γ Δ : Ctx} {T : Tg} {a b c : Expr} {pos apos cpos px : Pos} {f fa fb fc : Ex} {i j n : Nat} {x y : Str} {es : List Expr} {F : Lx}
theorem l_nil : PA X [] (tMB X.kw Γ lNil) := pa_nil.imp fun σ H Q ⟨O, G, env, L, rs, env1, S, e, k⟩ => by
  simp only [lNil, Option.some.injEq, Prod.mk.injEq] at e
  obtain ⟨rfl, rfl⟩ := e
  exact k [] H G L S (fun _ _ e => e) .nil
theorem l_cons (ha : PE X a (tM X.kw Γ fa 0)) (hr : PA X es (tMB X.kw Γ F)) (hs : starEach (a :: es) X.env = (false, eval a X.env) :: starEach es X.env := by rfl) : PA X (a :: es) (tMB X.kw Γ (lCons fa F)) :=
  (pa_cons ha hr hs).imp fun σ H Q ⟨O, G, env, L, rs, env2, S, e, k⟩ => by
    unfold lCons at e
    cases h1 : fa env with
    | none => rw [h1] at e; cases e
    | some p =>
      rw [h1] at e
      simp only [Option.bind_some] at e
      cases h2 : F p.2 with
      | none => rw [h2] at e; cases e
      | some q =>
        rw [h2] at e
        simp only [Option.map_some, Option.some.injEq, Prod.mk.injEq] at e
        obtain ⟨rfl, rfl⟩ := e
        exact ⟨O, G, env, L, p.1, p.2, S, h1, fun v H1 G1 L1 S1 s1 v1 => ⟨O, G1, p.2, L1, q.1, q.2, S1, h2, fun vs H2 G2 L2 S2 s2 r2 => k (v :: vs) H2 G2 L2 S2 (s1.trans s2) (.cons (v1.rep.mono s2) r2)⟩⟩
theorem l_star (ha : PE X a (tM X.kw Γ fa 0)) (hr : PA X es (tMB X.kw Γ F)) (hs : starEach (.Starred a px :: es) X.env = (true, eval a X.env) :: starEach es X.env := by rfl) : PA X (.Starred a px :: es) (tMB X.kw Γ (lStar fa F)) :=
  (StX.pa_star ha hr hs).imp fun σ H Q ⟨O, G, env, L, rs, env2, S, e, k⟩ => by
    unfold lStar at e
    cases h1 : fa env with
    | none => rw [h1] at e; cases e
    | some p =>
      rw [h1] at e
      simp only [Option.bind_some] at e
      cases h3 : itemsD p.1 with
      | none => rw [h3] at e; cases e
      | some ds =>
        rw [h3] at e
        simp only [Option.bind_some] at e
        cases h2 : F p.2 with
        | none => rw [h2] at e; cases e
        | some q =>
          rw [h2] at e
          simp only [Option.map_some, Option.some.injEq, Prod.mk.injEq] at e
          obtain ⟨rfl, rfl⟩ := e
          refine ⟨O, G, env, L, p.1, p.2, S, h1, fun v H1 G1 L1 S1 s1 v1 => ?_⟩
          have r1 := v1.rep
          obtain ⟨x0, env0⟩ := p
          simp only at *
          cases r1 with
          | @tup ad vs _ hq rl =>
            cases h3
            exact ⟨ad, vs, rfl, .inl (sqT_sh S1.gh hq.sqT), O, G1, _, L1, q.1, q.2, S1, h2, fun us H2 G2 L2 S2 s2 r2 => k (vs ++ us) H2 G2 L2 S2 (s1.trans s2) ((rl.mono s2).append r2)⟩
          | @lst ad vs _ hq rl =>
            cases h3
            exact ⟨ad, vs, rfl, .inr (SqL.of (S1.gh _ _ hq)), O, G1, _, L1, q.1, q.2, S1, h2, fun us H2 G2 L2 S2 s2 r2 => k (vs ++ us) H2 G2 L2 S2 (s1.trans s2) ((rl.mono s2).append r2)⟩
          | _ => cases h3
theorem m_tupB {x1} (h : PA X es (tMB X.kw Γ F)) : PE X (.Tuple es x1 pos) (tM X.kw Γ (eTupB F) 0) :=
  (pe_tupP h).imp fun σ H Q ⟨O, G, env, L, r, env2, S, e, k⟩ => by
    unfold eTupB at e
    cases h1 : F env with
    | none => rw [h1] at e; cases e
    | some p =>
      rw [h1] at e
      simp only [Option.bind_some] at e
      split at e
      · rename_i hl
        cases e
        refine ⟨O, G, env, L, p.1, p.2, S, h1, fun vs H1 G1 L1 S1 s1 r1 => ⟨by rw [r1.length]; exact lim_le hl, fun p o hp hc hd => ?_⟩⟩
        have R := Res.newT S1.gh hp hc hd r1
        exact k _ _ _ L1 (S1.res R).1 (s1.trans R.gg) (S1.res R).2
      · cases e
theorem m_lstB (h : PA X es (tMB X.kw Γ F)) : PE X (.List es pos) (tM X.kw Γ (eLstB F) 1) :=
  (pe_lst h).imp fun σ H Q ⟨O, G, env, L, r, env2, S, e, k⟩ => by
    unfold eLstB at e
    cases h1 : F env with
    | none => rw [h1] at e; cases e
    | some p =>
      rw [h1] at e
      simp only [Option.bind_some] at e
      split at e
      · rename_i hl
        cases e
        refine ⟨O, G, env, L, p.1, p.2, S, h1, fun vs H1 G1 L1 S1 s1 r1 => ⟨by rw [r1.length]; exact lim_le hl, fun p hp => ?_⟩⟩
        have R := Res.newL S1.gh hp r1
        exact k _ _ _ L1 (S1.res R).1 (s1.trans R.gg) (S1.res R).2
      · cases e
end
end VL
set_option Elab.async false
set_option linter.all false
set_option maxRecDepth 100000
set_option maxHeartbeats 1000000
/-! VLL: sorted(d.items()). -/
namespace VL
open PySem PySem.Spec L2 PyProof.Rows PySem.W
section
variable {X : Cx} {pins : List (Addr × Obj)} {σ : L2.St} {H H' : Hp} {s : Shared} {h' : Heap} {tk : Nat}
/-- new objects, tracked all at once -/
theorem Inv.track (I : Inv X pins σ H s) (hk : ∀ b o, s.heap.get? b = some o → h'.get? b = some o) (kp : ∀ b u, H b = some u → H' b = some u) (low : ∀ b o, s.heap.get? b = some o → H' b = H b)
    (new : ∀ b u, H' b = some u → H b = none → ObjOk X.prog X.w H' h' b u) : Inv X pins σ H' { s with heap := h', toks := tk } := by
  refine I.call' (ch := []) rfl ⟨fun b o q _ _ _ => hk b o q, fun b o q _ _ _ => ⟨o.slots, hk b o q⟩, fun b o q n _ => ?_, fun b o q _ => ⟨o, hk b o q⟩, fun b xs q => kp b _ q, fun b o u q => kp b _ q, fun b ps q => ⟨#[], by rw [kp b _ q]; simp⟩⟩ (fun b u q => ?_) I.bare fun b z => by simp at z
  · rw [low b o q]; exact n
  · cases z : H b with
    | none => exact new b u q z
    | some u' =>
      have := kp b u' z
      rw [q] at this
      cases this
      exact (I.hok b u z).stay (fun d v _ y => hk d v y) (fun d y => kp d _ y) fun d xs y => kp d _ y
/-- tuples put beside -/
def putF (ts : List (Addr × HO)) (H : Hp) : Hp := fun b => match ts.lookup b with
  | some u => some u
  | none => H b
theorem putF_off {ts : List (Addr × HO)} {b : Addr} (h : b ∉ ts.map (·.1)) : putF ts H b = H b := by
  unfold putF
  have : ts.lookup b = none := by
    induction ts with
    | nil => rfl
    | cons t r ih =>
      rw [List.lookup_cons]
      have h1 : b ≠ t.1 := fun z => h (by simp [z])
      rw [show (b == t.1) = false from beq_eq_false_iff_ne.mpr h1]
      exact ih fun z => h (by simp at z ⊢; exact .inr z)
  rw [this]
theorem putF_at {ts : List (Addr × HO)} {b : Addr} {u : HO} (h : (b, u) ∈ ts) (nd : (ts.map (·.1)).Nodup) : putF ts H b = some u := by
  unfold putF
  have : ts.lookup b = some u := by
    induction ts with
    | nil => cases h
    | cons t r ih =>
      rw [List.map_cons, List.nodup_cons] at nd
      rw [List.lookup_cons]
      rcases List.mem_cons.mp h with e | h
      · subst e; rw [beq_self_eq_true]
      · have h1 : b ≠ t.1 := fun z => nd.1 (z ▸ List.mem_map_of_mem h)
        rw [show (b == t.1) = false from beq_eq_false_iff_ne.mpr h1]
        exact ih h nd.2
  rw [this]
end
theorem vals_refs : ∀ as : List Addr, Vals (as.map V.ref) (as.map Value.ref)
  | [] => .nil
  | _ :: as => .cons rfl (vals_refs as)
/-- .. shown -/
def putG (ts : List (Addr × HO)) (G : Gp) : Gp := fun x => match x with
  | .inl a => putF ts G.hp a
  | .inr a => G (.inr a)
def sortItemsD (d : D) : Option D := match d with
  | .dict ds => if (okSort (pairsOf ds) && !tupK ds) = true then some (.list (srt (pairsOf ds))) else none
  | _ => none
/-- the pairs of a dict as tuples, each at its address -/
theorem pairs_each {X : Cx} {G : Gp} {h' : Heap} : ∀ {kvs : List (Key × V)} {vs : List (Key × Value)} {ds : List (D × D)} {as : List Addr}, RepK X.kw G kvs ds → KV kvs vs → as.length = vs.length →
    (∀ (j : Nat) (a : Addr), as[j]? = some a → ∃ key k x, vs[j]? = some (k, x) ∧ (mixKind X.prog X.w).is k key = true ∧ h'.get? a = some { cls := .type "tuple", data := .seq #[key, x] }) →
    ∃ ts : List (Addr × HO), ts.map (·.1) = as ∧ (∀ t ∈ ts, ∃ o u w us, t.2 = .frz o (.tup [u, w]) ∧ o.cls = .type "tuple" ∧ o.dict = none ∧ h'.get? t.1 = some o ∧ Vals [u, w] us ∧ o.data = .seq us.toArray 0) ∧
      ∀ G' : Gp, SameG G G' → (∀ t ∈ ts, G' t.1 = some t.2) → RepL X.kw G' (as.map V.ref) (pairsOf ds)
  | _, _, _, [], .nil, kv, hl, hp => ⟨[], rfl, fun t h => (by cases h), fun G' _ _ => .nil⟩
  | _, _, _, [], .cons r t, kv, hl, hp => by cases kv; cases hl
  | _, _, _, a :: as, .nil, kv, hl, hp => by cases kv; cases hl
  | _, _, _, a :: as, .cons (k := k0) (v := v0) (d := d0) r t, kv, hl, hp => by
    cases kv with
    | @cons _ q _ vs k1 k2 =>
      obtain ⟨ts, t1, t2, t3⟩ := pairs_each t k2 (Nat.succ.inj hl) fun j b e => by
        obtain ⟨key, k, x, e1, e2, e3⟩ := hp (j + 1) b (by simpa using e)
        exact ⟨key, k, x, by simpa using e1, e2, e3⟩
      obtain ⟨key, k, x, e1, e2, e3⟩ := hp 0 a rfl
      simp only [List.getElem?_cons_zero, Option.some.injEq] at e1
      subst e1
      have kk : k0 = k := k1.1
      subst kk
      have rk : RelV (kV k0) key := relV_key (show keyIs k0 key = true from e2)
      refine ⟨(a, .frz { cls := .type "tuple", data := .seq #[key, x] } (.tup [kV k0, v0])) :: ts, by rw [List.map_cons, t1], fun t ht => ?_, fun G' gg hh => ?_⟩
      · rcases List.mem_cons.mp ht with rfl | ht
        · exact ⟨_, _, _, [key, x], rfl, rfl, rfl, e3, .cons rk (.cons k1.2 .nil), rfl⟩
        · exact t2 t ht
      · refine .cons (.tup (.inl ⟨_, hh _ List.mem_cons_self, rfl, rfl⟩) (.cons (kV_rep k0) (.cons (r.mono gg) .nil))) (t3 G' gg fun t ht => hh t (List.mem_cons_of_mem _ ht))
section
variable {X : Cx} {Γ : Ctx} {a : Expr} {fa : Ex} {p pos apos cpos : Pos}
theorem m_sortItems (hu : X.A.units + 80 < cLine) (hc : X.calm = true) (hg : Gl X "sorted") (hm : X.mg "sorted" = none) (ha : PE X a (tM X.kw Γ fa 0)) (hbase : attributeBase a "items" X.env (eval a X.env) = eval a X.env := by rfl) (hline : (apos.endLine == cpos.line) = true := by rfl)
    (hs : starEach [.Call (.Attribute a "items" apos) [] [] cpos] X.env = (false, eval (.Call (.Attribute a "items" apos) [] [] cpos) X.env) :: starEach [] X.env := by rfl) :
    PE X (.Call (.Name "sorted" p) [.Call (.Attribute a "items" apos) [] [] cpos] [] pos) (tM X.kw Γ (eUn sortItemsD fa) 1) := by
  refine ⟨fun pins s σ H Q I ⟨O, G, env, L, r, env2, S, e, k⟩ => ?_⟩
  obtain ⟨xd, e1, e2⟩ := eUn_some e
  unfold sortItemsD at e2
  split at e2
  · rename_i ds
    split at e2
    · rename_i ok'
      obtain ⟨ok, hnt⟩ : okSort (pairsOf ds) = true ∧ tupK ds = false := by simpa using ok'
      cases e2
      refine wpAny_Call_Name_kw (ld_blt I hg hm bt_sorted ?_)
      refine PyProof.Rows.callWith_builtin1 ?_ hs rfl
      rw [hs]
      show wpAny _ _ (spliced ((false, eval (.Call (.Attribute a "items" apos) [] [] cpos) X.env) :: backTo pos (starEach [] X.env))) _ _ s
      refine Calls.spliced_cons ?_
      refine wpAny_Call_method (T := "dict") (id := "dict.items") hbase rfl hline F.plainAttrs_dict F.slot_dict_items F.type_dict_items (thn (ha.run pins s σ H (fun v H1 => ∃ G1 L1, StR X.kw O Γ H1 G1 σ env2 L1 ∧ SameG G G1 ∧ Rep X.kw G1 v (.dict ds)) I ⟨O, G, env, L, .dict ds, env2, S, e1, fun v H1 G1 L1 S1 s1 v1 => ⟨G1, L1, S1, s1, v1.rep⟩⟩) fun u s1 ⟨x, H1, I1, rx, G1, L1, S1, sg, rep⟩ => ?_)
      cases rep with
      | rf _ => exact absurd (show (true : Bool) = false from hnt) (by decide)
      | sto _ _ => exact absurd (show (true : Bool) = false from hnt) (by decide)
      | @dk d o u0 _ hd rk =>
       cases rk with
       | n rk => exact absurd (tupK_n rk) (by rw [hnt]; decide)
       | @k _ kvs _ rk =>
        obtain rfl : u = Value.ref d := rx
        obtain ⟨hs0, hgd, hx, es, ep, vs, hdt, hsz, kv, hdm⟩ := I1.frzK (S1.gh _ _ hd)
        have lk : kvs.length = vs.length := Paired.length kv
        refine ⟨hdm.dictOf.typeIs, hdm.dictOf.mapOf.noDict, ?_⟩
        show wpAny _ _ (callWith cpos (.builtin "dict.items") [.ref d] [] []) _ X.xe s1
        refine method_meetsIn F.slot_dict_items F.entry_dict_items rfl (PySem.evalArgs_none ⟨rfl, hdm.dictOf.typeIs, F.args_dict_items_1 _, _, meets_dict_items (mixKind X.prog X.w) d hs0, ⟨vs, hdm.dictOf⟩, ?_⟩)
        refine Calls.spliced_nil ?_
        have I2 : Inv X pins σ H1 { s1 with heap := s1.heap.push { cls := .type "dict_items", data := .fields #[.ref d] } } := I1.kept (t' := s1.toks) fun b ob q => Heap.get?_push_of_some _ q
        obtain ⟨okA, okB, okC, okD⟩ := okSort_iff ok
        have hlen : kvs.length ≤ sizeLine := by
          rw [rk.len]
          have : (pairsOf ds).length = ds.length := by unfold pairsOf; rw [List.length_map]
          rw [← this]; exact lim_le okC
        refine Calls.call_function_entry kind_sorted plain_sorted entry_sorted (args_sorted1 _) ?_
        unfold Builtin.«sorted»
        refine wpAny_bind (m := checkCount "sorted" 1 1 _) (wpAny_pure ?_)
        refine wpAny_bind (kdx_collect (A := X.A.in1) (s := { s1 with heap := s1.heap.push { cls := .type "dict_items", data := .fields #[.ref d] } }) (knd := mixKind X.prog X.w) (kvs := vs) (ep := ep) (I1.ok.hd hc) ⟨_, Heap.get?_push_size _ rfl, rfl, rfl⟩ (hdm.push _) (by omega) fun h' tk as hk hl hG => ?_)
        -- the tuples, tracked
        obtain ⟨ts, t1, t2, t3⟩ := pairs_each (X := X) (h' := h') rk kv hl (fun j b e => hG.pairs j b e)
        have ndA : as.Nodup := List.Pairwise.imp (fun {a b} (h : a < b) => Nat.ne_of_lt h) hG.rise
        have ndT : (ts.map (·.1)).Nodup := by rw [t1]; exact ndA
        have newA : ∀ b ∈ as, H1 b = none := fun b hb => I2.hok.fresh (Nat.le_of_lt (hG.above b hb))
        have newG : ∀ b ∈ as, G1 b = none := fun b hb => S1.gh.free (newA b hb)
        have inAs : ∀ t ∈ ts, t.1 ∈ as := fun t ht => by rw [← t1]; exact List.mem_map_of_mem ht
        have kpH : ∀ b u, H1 b = some u → putF ts H1 b = some u := fun b u e => by
          rw [putF_off (fun z => by rw [t1] at z; rw [newA b z] at e; cases e)]; exact e
        have I3 : Inv X pins σ (putF ts H1) { s1 with heap := h', toks := tk } := by
          refine Inv.track (s := { s1 with heap := s1.heap.push { cls := .type "dict_items", data := .fields #[.ref d] } }) I2 hk kpH (fun b o q => putF_off fun z => ?_) (fun b u q z => ?_)
          · rw [t1] at z
            exact absurd (Heap.lt_size q) (Nat.not_lt.mpr (Nat.le_of_lt (hG.above b z)))
          · by_cases hb : b ∈ ts.map (·.1)
            · obtain ⟨t, ht, rfl⟩ := List.mem_map.mp hb
              rw [putF_at ht ndT] at q
              cases q
              obtain ⟨o', u', w', us, f1, f2, f3, f4, f5, f6⟩ := t2 t ht
              rw [f1]
              exact ⟨f4, by show 2 ≤ sizeLine; decide, us, f5, ⟨o', f4, f2, 0, f6⟩⟩
            · rw [putF_off hb, z] at q; cases q
        have gg : SameG G1 (putG ts G1) := fun x u e => by
          rcases x with b | b
          · show putF ts G1.hp b = some u
            rw [putF_off (fun z => by rw [t1] at z; rw [newG b z] at e; cases e)]; exact e
          · exact e
        have gh : Sh (putG ts G1) (putF ts H1) := fun b u e => by
          change putF ts G1.hp b = some u at e
          by_cases hb : b ∈ ts.map (·.1)
          · obtain ⟨t, ht, rfl⟩ := List.mem_map.mp hb
            rw [putF_at ht ndT] at e ⊢; exact e
          · rw [putF_off hb] at e ⊢; exact S1.gh b u e
        have hh : Same H1 (putF ts H1) := kpH
        have X1 : Ext G1 H1 (putG ts G1) (putF ts H1) := ⟨gg, gh, hh, fun b u e n => by
          change putF ts G1.hp b = some u at e
          by_cases hb : b ∈ ts.map (·.1)
          · rw [t1] at hb; exact newA b hb
          · rw [putF_off hb] at e; rw [show G1.hp b = none from n] at e; exact absurd e (by simp), fun _ => rfl⟩
        have S3 := S1.ext X1
        have rl : RepL X.kw (putG ts G1) (as.map V.ref) (pairsOf ds) := t3 _ gg fun t ht => putF_at ht ndT
        -- the list, sorted
        have hasl : (as.map Value.ref).length ≤ sizeLine := by rw [List.length_map, hl, ← lk]; exact hlen
        refine wpAny_bind (wpAny_newList ?_ hasl)
        have hB : (h'.push (seqObj "list" (as.map Value.ref).toArray 0)).get? h'.objs.size = some (seqObj "list" (as.map Value.ref).toArray 0) := Heap.get?_push_size _ rfl
        refine wpAny_bind (wpAny_holding (wpAny_call_entry slot_list_sort ⟨_, hB, rfl⟩ entry_list_sort ?_ (args_list_sort _)))
        have vals : Vals (as.map V.ref) (as.map Value.ref) := vals_refs as
        have e1' := each_rv vals rl
        have er := each_reads I3 S3.gh e1' (okSort_nr ok)
        have er' : EachIs (fun v b => ∃ as', Reads (sortingHeap (h'.push (seqObj "list" (as.map Value.ref).toArray 0)) h'.objs.size (as.map Value.ref)) v (id b) as') (as.map Value.ref) (pairsOf ds) :=
          er.mono fun _ _ ⟨as', r⟩ => ⟨as', PyProof.Rows.Reads.keeps (fun b o e => sortingHeap_old (Nat.ne_of_lt (Heap.lt_size e)) (Heap.get?_push_of_some _ e)) r⟩
        have hal : AllAlike ((pairsOf ds).map id) := by rw [List.map_id]; exact okA
        have SS := sorts_of (prog := X.prog) (w := X.w) (A := X.A.in1.in1) (s := { s1 with heap := sortingHeap (h'.push (seqObj "list" (as.map Value.ref).toArray 0)) h'.objs.size (as.map Value.ref), toks := tk }) ok (by show X.A.units + 1 + 1 + 64 < _; omega) er'
        refine list_sort_vals (s := { s1 with heap := h'.push (seqObj "list" (as.map Value.ref).toArray 0), toks := tk }) hB SS hasl ⟨_, rfl, wpAny_pure ⟨_, rfl, ?_⟩⟩
        have e2' : EachIs (RV X.kw (putG ts G1)) (sortVals (dataKind (sortingHeap (h'.push (seqObj "list" (as.map Value.ref).toArray 0)) h'.objs.size (as.map Value.ref)) (pairsOf ds)) false (as.map Value.ref) (as.map Value.ref)) (srt (pairsOf ds)) := by
          have := sortVals_data (enc := id) false e1' er' hal
          rw [List.map_id] at this
          exact this
        obtain ⟨vs', b1, b2⟩ := rv_each e2'
        obtain ⟨ep', he'⟩ := PyProof.Rows.sortedHeap_at (vs := as.map Value.ref) (out := (sortVals (dataKind (sortingHeap (h'.push (seqObj "list" (as.map Value.ref).toArray 0)) h'.objs.size (as.map Value.ref)) (pairsOf ds)) false (as.map Value.ref) (as.map Value.ref)).toArray) hB
        have hlen' : vs'.length ≤ sizeLine := by
          rw [b2.length]
          unfold srt
          rw [List.length_mergeSort]
          exact lim_le okC
        have np : putF ts H1 h'.objs.size = none := I3.hok.fresh (Nat.le_refl _)
        have R := Res.newL gh np b2
        refine ⟨.ref _, upd (putF ts H1) h'.objs.size (.lst vs'), I3.laid (t' := tk) (fun b o q => ?_) (Nat.le_refl _) ⟨hlen', _, ep', b1, he'⟩, rfl, k _ _ _ L1 (S3.res R).1 ((sg.trans gg).trans R.gg) (S3.res R).2⟩
        rw [PyProof.Rows.sortedHeap_old (Nat.ne_of_lt (Heap.lt_size q)) (by rw [size_push']; exact Nat.lt_succ_of_lt (Heap.lt_size q))]
        exact Heap.get?_push_of_some _ q
    · cases e2
  · cases e2
end
end VL
set_option Elab.async false
set_option linter.all false
set_option maxRecDepth 100000
set_option maxHeartbeats 1000000
/-! VLM: the bag that a law makes of its script. -/
namespace VL
open PySem PySem.Spec L2
def absI (i : Int) : Int := if i < 0 then -i else i
def spBag (K : PySem.W.Frag) : Sp := fun vs H Q _ => ∃ (a : Addr) (ns : List Int), vs = [.ref a] ∧ SqL K H a (ns.map V.int) ∧ ns.length ≤ 63 ∧ ∀ H' p q, Same H H' → H p = none → H q = none → p ≠ q → H' p = some (.lst [.int 0, .int 1234567891, .int 0, .ref q]) → H' q = some (.lst ((ns.map absI).map V.int)) → Q (.ref p) H'
def tBag (K : PySem.W.Frag) : TS := tRet (tLst (tCons (tC (.int 0)) (tCons (tC (.int 1234567891)) (tCons (tC (.int 0)) (tCons (tLc (iList K (tSl (rSlL K) (tVar 0) tNoPart (tPart (tC (.int 63))))) (gName 1) tYes (tCB (fun xs H Q => ∃ i, xs = [.int i] ∧ Q (.int (if i < 0 then -i else i)) H) (tCons (tVar 1) tNil)) [1]) tNil)))))
theorem cut63 (xs : List V) (h : xs.length ≤ 63) : cutV xs none (some 63) = xs := by
  unfold cutV
  rw [HT.sIx_none, show HT.sIx xs.length xs.length (some 63) = min 63 xs.length from HT.sIx_nat xs.length xs.length 63]
  rw [show min 63 xs.length = xs.length by omega]
  simp
theorem same_upd {H : Hp} {p : Addr} {o : HO} (h : H p = none) : Same H (upd H p o) := fun b x e => by
  rw [upd_ne (ne_of_none e h)]
  exact e
theorem bag_read {K : PySem.W.Frag} {H : Hp} {Q : VK} {a : Addr} {ns : List Int} {N : Hp → Prop} (hS : SqL K H a (ns.map V.int)) (hlen : ns.length ≤ 63)
    (q : ∀ H' p q, Same H H' → H p = none → H q = none → p ≠ q → H' p = some (.lst [.int 0, .int 1234567891, .int 0, .ref q]) → H' q = some (.lst ((ns.map absI).map V.int)) → Q (.ref p) H') :
    tBag K { nx := fun _ H' => Q .non H', rt := Q } [some (.ref a), none] H := by
  have hl63 : (ns.map V.int).length ≤ 63 := by rw [List.length_map]; exact hlen
  refine ⟨.ref a, rfl, 63, rfl, a, ns.map V.int, rfl, hS, fun c nc => ⟨c, rfl, ⟨_, SqL.of upd_same⟩, fun D hD => ?_⟩⟩
  rw [cut63 _ hl63] at hD ⊢
  have ncD : c ≠ D := fun z => by subst z; rw [upd_same] at hD; cases hD
  have nD : H D = none := by rw [upd_ne (Ne.symm ncD)] at hD; exact hD
  refine lc_list (xs := ns.map V.int) (fun i H' => Same H H' ∧ H' c = some (.lst (ns.map V.int)) ∧ H' D = some (.lst (((ns.take i).map absI).map V.int))) ⟨?_, ?_, upd_same⟩ (fun i H' _ h => SqL.of h.2.1) (fun i x H' hx h => ?_) (fun H' h => ?_)
  · exact (same_upd nc).trans (same_upd hD)
  · rw [upd_ne ncD, upd_same]
  · obtain ⟨h1, h2, h3⟩ := h
    rw [List.getElem?_map] at hx
    cases hn : ns[i]? with
    | none => rw [hn] at hx; cases hx
    | some n =>
      rw [hn] at hx
      cases hx
      refine ⟨rfl, ?_⟩
      refine ⟨.int n, rfl, n, rfl, _, h3, ?_, ?_, ?_, ?_⟩
      · rw [List.length_map, List.length_map, List.length_take]
        exact Nat.lt_of_le_of_lt (Nat.min_le_right _ _) (Nat.lt_of_le_of_lt hlen (by decide))
      · intro b o e
        rw [upd_ne (ne_of_none e nD)]; exact h1 b o e
      · rw [upd_ne ncD]; exact h2
      · rw [upd_same, List.take_add_one, hn]
        simp [absI]
  · obtain ⟨h1, h2, h3⟩ := h
    refine ⟨by show 4 ≤ sizeLine; decide, fun p hp => ?_⟩
    have npD : p ≠ D := fun z => by subst z; rw [h3] at hp; cases hp
    refine q _ p D (h1.trans (same_upd hp)) ?_ nD npD upd_same ?_
    · cases z : H p with
      | none => rfl
      | some u => rw [h1 _ _ z] at hp; cases hp
    · rw [upd_ne (Ne.symm npD), h3, List.length_map, List.take_length]
end VL
set_option Elab.async false
set_option linter.all false
set_option maxRecDepth 100000
set_option maxHeartbeats 1000000
/-! VLN: the law's own def, from its first statement on. -/
namespace VL
open PySem PySem.Spec PyProof.Rows L2
def bagD (ns : List Int) : D := .list [.int 0, .int 1234567891, .int 0, .list ((ns.map absI).map .int)]
def env0 (m : Nat) (ns : List Int) : List D := .none :: bagD ns :: List.replicate (m - 2) .none
def spLaw (K : PySem.W.Frag) : Sp := fun vs H Q _ => ∃ (a : Addr) (ns : List Int), vs = [.ref a] ∧ LamX.Tabs (tabsOf K) H ∧ SqL K H a (ns.map V.int) ∧ ns.length ≤ 63 ∧ ∀ H', Q (.bl true) H'
theorem ints_rep {K : KW} {G : Gp} : ∀ ns : List Int, RepL K G (ns.map V.int) (ns.map .int)
  | [] => .nil
  | n :: ns => .cons (.int n) (ints_rep ns)
/-- one place shown -/
def onlyG (H : Hp) (q : Addr) : Gp := fun x => match x with
  | .inl b => if b = q then H q else none
  | .inr _ => none
end VL
set_option Elab.async false
set_option linter.all false
set_option maxRecDepth 100000
set_option maxHeartbeats 1000000
/-! VLO: list comprehensions with two for. -/
namespace VL
open PySem PySem.Spec L2
def lcL2 (gt : Gx) (tt : Bx) (fi1 : Ix) (gt1 : Gx) (tt1 : Bx) (fe : Ex) : List D → List D → Option (List D × List D)
  | [], env => some ([], env)
  | d :: ds, env => (gt d env).bind fun e1 => (tt e1).bind fun p => if p.1 = true then (fi1 p.2).bind fun z => (lcL gt1 tt1 fe z.1 z.2).bind fun q => (lcL2 gt tt fi1 gt1 tt1 fe ds q.2).map fun r => (q.1 ++ r.1, r.2) else lcL2 gt tt fi1 gt1 tt1 fe ds p.2
def lcD2 (vs : List Nat) (fi : Ix) (gt : Gx) (tt : Bx) (fi1 : Ix) (gt1 : Gx) (tt1 : Bx) (fe : Ex) : Ex := fun env => (fi env).bind fun p => (lcL2 gt tt fi1 gt1 tt1 fe p.1 p.2).bind fun q => if q.1.length ≤ 1000000 then some (.list q.1, restore vs env q.2) else none
end VL
namespace VL
open PySem PySem.Spec L2
end VL
set_option Elab.async false
set_option linter.all false
set_option maxRecDepth 100000
set_option maxHeartbeats 1000000
/-! VC0: itertools.combinations. -/
namespace VC
open PySem PySem.Spec
abbrev cC : String := "itertools.combinations"
end VC
set_option Elab.async false
set_option linter.all false
set_option maxRecDepth 100000
set_option maxHeartbeats 1000000
namespace VC
open PySem PySem.Spec
open AutoSeq1 (wpAny_loadPart')
def combO (pool : Addr) (st : Int) (last : Value) (ix : List Nat) : Obj := { cls := .type cC, data := .fields ([.ref pool, rawInt st, last] ++ ix.map fun (i : Nat) => rawInt i).toArray }
end VC
set_option Elab.async false
set_option linter.all false
/-! VCm: the order in which combinations come, over places. -/
namespace VC
/-- r places of the m from a on -/
def cmb : Nat → Nat → Nat → List (List Nat)
  | 0, _, _ => [[]]
  | _ + 1, _, 0 => []
  | r + 1, a, m + 1 => (cmb r (a + 1) m).map (a :: ·) ++ cmb (r + 1) (a + 1) m
/-- the whole row -/
def row (n r : Nat) : List (List Nat) := cmb r 0 n
end VC
set_option Elab.async false
set_option linter.all false
set_option maxRecDepth 100000
set_option maxHeartbeats 1000000
namespace VC
open PySem PySem.Spec
open AutoSeq1 (wpAny_loadPart')
theorem set2 (p : Addr) (st : Int) (last last' : Value) (ix : List Nat) : Obj.mapFields (fun vs => vs.setIfInBounds 2 last') (combO p st last ix) = combO p st last' ix := by
  simp [combO, Obj.mapFields]
end VC
set_option Elab.async false
set_option linter.all false
set_option maxRecDepth 100000
set_option maxHeartbeats 1000000
namespace VC
open PySem PySem.Spec
open AutoSeq1 (wpAny_loadPart')
end VC
set_option Elab.async false
set_option linter.all false
set_option maxRecDepth 100000
set_option maxHeartbeats 1000000
namespace VC
open PySem PySem.Spec
open AutoSeq1 (wpAny_loadPart')
end VC
set_option Elab.async false
set_option linter.all false
set_option maxRecDepth 100000
set_option maxHeartbeats 1000000
namespace VC
open PySem PySem.Spec L2
end VC
set_option Elab.async false
set_option linter.all false
set_option maxRecDepth 100000
set_option maxHeartbeats 1000000
namespace VC
open PySem PySem.Spec PySem.Calls PyProof.Rows L2
end VC
namespace VL
open PySem PySem.Spec L2
end VL
set_option Elab.async false
set_option linter.all false
set_option maxRecDepth 100000
set_option maxHeartbeats 1000000
/-! VLP: t[::-1] of a tuple. -/
namespace VL
open PySem PySem.Spec PyProof.Rows L2
def revD (d : D) : Option D := match d with
  | .tuple xs => some (.tuple xs.reverse)
  | _ => none
end VL
set_option Elab.async false
set_option linter.all false
set_option maxRecDepth 100000
set_option maxHeartbeats 1000000
/-! VLR: sorted of anything that can be collected. -/
namespace VL
open PySem PySem.Spec PyProof.Rows PySem.W PySem.SeqAt
section
variable {X : L2.Cx} {pins : List (Addr × Obj)} {σ : L2.St}
open L2
theorem sorted_col {s : Shared} {H : Hp} {G : Gp} {arg : Value} {us : List Value} {vs : List V} {ds : List D} {Q : VK} (hu : X.A.units + 80 < cLine) (I : Inv X pins σ H s) (sg : Sh G H) (rv : Vals vs us) (rl : RepL X.kw G vs ds) (ok : okSort ds = true)
    (hcol : ∀ Q' : List Value → Shared → Prop, (∀ h' : Heap, (∀ b o, s.heap.get? b = some o → h'.get? b = some o) → Q' us { s with heap := h' }) → wpAny (model X.prog X.w) X.A.in1 (collect arg) Q' X.xe s)
    (k : ∀ v G' H', Res X.kw G H 1 v (.list (srt ds)) G' H' → Q v H') : wpAny (model X.prog X.w) X.A (call (.builtin "sorted") [arg]) (EP X pins σ Q) X.xe s := by
  obtain ⟨okA, okB, okC, okD⟩ := okSort_iff ok
  have hul : us.length ≤ sizeLine := by rw [← rv.length, rl.length]; exact lim_le okC
  refine Calls.call_function_entry kind_sorted plain_sorted entry_sorted (args_sorted1 _) ?_
  unfold Builtin.«sorted»
  refine wpAny_bind (m := checkCount "sorted" 1 1 _) (wpAny_pure (wpAny_bind (hcol _ fun h' hk => ?_)))
  have I3 : Inv X pins σ H { s with heap := h' } := I.kept (t' := s.toks) hk
  refine wpAny_bind (wpAny_newList ?_ hul)
  have hB : (h'.push (seqObj "list" us.toArray 0)).get? h'.objs.size = some (seqObj "list" us.toArray 0) := Heap.get?_push_size _ rfl
  refine wpAny_bind (wpAny_holding (wpAny_call_entry slot_list_sort ⟨_, hB, rfl⟩ entry_list_sort ?_ (args_list_sort _)))
  have e1 := each_rv rv rl
  have er := each_reads I3 sg e1 (okSort_nr ok)
  have er' : EachIs (fun v b => ∃ as', Reads (sortingHeap (h'.push (seqObj "list" us.toArray 0)) h'.objs.size us) v (id b) as') us ds :=
    er.mono fun _ _ ⟨as', r⟩ => ⟨as', PyProof.Rows.Reads.keeps (fun b o e => sortingHeap_old (Nat.ne_of_lt (Heap.lt_size e)) (Heap.get?_push_of_some _ e)) r⟩
  have hal : AllAlike (ds.map id) := by rw [List.map_id]; exact okA
  have SS := sorts_of (prog := X.prog) (w := X.w) (A := X.A.in1.in1) (s := { s with heap := sortingHeap (h'.push (seqObj "list" us.toArray 0)) h'.objs.size us }) ok (by show X.A.units + 1 + 1 + 64 < _; omega) er'
  refine list_sort_vals (s := { s with heap := h'.push (seqObj "list" us.toArray 0) }) hB SS hul ⟨_, rfl, wpAny_pure ⟨_, rfl, ?_⟩⟩
  have e2 : EachIs (RV X.kw G) (sortVals (dataKind (sortingHeap (h'.push (seqObj "list" us.toArray 0)) h'.objs.size us) ds) false us us) (srt ds) := by
    have q := sortVals_data (enc := id) false e1 er' hal
    rw [List.map_id] at q
    exact q
  obtain ⟨vs', b1, b2⟩ := rv_each e2
  obtain ⟨ep', he'⟩ := PyProof.Rows.sortedHeap_at (vs := us) (out := (sortVals (dataKind (sortingHeap (h'.push (seqObj "list" us.toArray 0)) h'.objs.size us) ds) false us us).toArray) hB
  have hl' : vs'.length ≤ sizeLine := by
    rw [b2.length]
    unfold srt
    rw [List.length_mergeSort]
    exact lim_le okC
  have np : H h'.objs.size = none := I3.hok.fresh (Nat.le_refl _)
  have R := Res.newL sg np b2
  refine ⟨.ref _, upd H h'.objs.size (.lst vs'), I3.laid (t' := s.toks) (fun b o q => ?_) (Nat.le_refl _) ⟨hl', _, ep', b1, he'⟩, rfl, k _ _ _ R⟩
  rw [PyProof.Rows.sortedHeap_old (Nat.ne_of_lt (Heap.lt_size q)) (by rw [size_push']; exact Nat.lt_succ_of_lt (Heap.lt_size q))]
  exact Heap.get?_push_of_some _ q
/-- sorted of a list or a tuple -/
def sortedA : List D → Option D := fun ds => match ds with
  | [.list xs] => if okSort xs = true then some (.list (srt xs)) else none
  | [.tuple xs] => if okSort xs = true then some (.list (srt xs)) else none
  | _ => none
theorem c_sortedA (hu : X.A.units + 80 < cLine) : CallR X (.builtin "sorted") (cD X.kw 1 sortedA) := fun pins s σ H xs us Q I rv ⟨ds, z, G, sg, rr, hz, q⟩ => by
  unfold sortedA at hz
  split at hz
  · exact c_sorted hu pins s σ H xs us Q I rv ⟨_, z, G, sg, rr, hz, q⟩
  · rename_i ys
    split at hz
    · rename_i ok
      cases hz
      cases rr with
      | cons r rn =>
        cases rn
        cases r with
        | tup ha r2 =>
          obtain ⟨its, rvs, ⟨o, h1, h2, n, h3⟩, hsz⟩ := I.tuple (sqT_sh sg ha.sqT)
          rw [Vals.ref1 rv]
          refine sorted_col hu I sg rvs r2 ok (fun Q' hQ => ?_) q
          have hz : its.toArray.size ≤ sizeLine := by rw [List.size_toArray, ← rvs.length]; exact hsz
          exact wpAny_collect_seq _ (.inr rfl) h1 h2 h3 (fun h' hk => by simpa using hQ h' hk) hz
    · cases hz
  · cases hz
end
end VL
set_option Elab.async false
set_option linter.all false
set_option maxRecDepth 100000
set_option maxHeartbeats 1000000
/-! VLS: an owned dict is lent to a test and thawed behind it. -/
namespace VL
open PySem L2
section
variable {X : Cx} {Γ : Ctx}
/-- a test that reads an owned dict -/
def bThw (i : Nat) (f : Bx) : Bx := fun env => match env[i]? with
  | some (.dict _) => (f env).map fun p => (p.1, env)
  | _ => none
end
end VL
set_option Elab.async false
set_option linter.all false
set_option maxRecDepth 100000
set_option maxHeartbeats 1000000
/-! VLT: == of two dicts. -/
namespace VL
open PySem L2 PySem.W PySem.SeqAt
end VL
set_option Elab.async false
set_option linter.all false
set_option maxRecDepth 100000
set_option maxHeartbeats 1000000
/-! VLU: dict comprehensions. -/
namespace VL
open PySem L2
def dcL (gt : Gx) (tt : Bx) (fk fe : Ex) : List D → List D → List (D × D) → Option (List (D × D) × List D)
  | [], e, acc => some (acc, e)
  | d :: ds, e, acc => (gt d e).bind fun e1 => (tt e1).bind fun p => if p.1 = true then (fk p.2).bind fun y => (fe y.2).bind fun z => (keyOf y.1).bind fun k => dcL gt tt fk fe ds z.2 (dPut acc k z.1) else dcL gt tt fk fe ds p.2 acc
def dcD (vs : List Nat) (fi : Ix) (gt : Gx) (tt : Bx) (fk fe : Ex) : Ex := fun env => (fi env).bind fun p => (dcL gt tt fk fe p.1 p.2 []).bind fun q => if p.1.length ≤ 1000000 then some (.dict q.1, restore vs env q.2) else none
section
variable {X : Cx} {Γ Γ1 : Ctx} {tg iter kx vx : Expr} {ifs : List Expr} {pos : Pos} {fi : Ix} {gt : Gx} {tt : Bx} {fk fe : Ex} {ws : List Nat} {wk : Bool}
theorem putK_len (kvs : List (Key × V)) (k : Key) (v : V) : (putK kvs k v).length ≤ kvs.length + 1 := by
  have := length_putK kvs k v; omega
end
end VL
set_option Elab.async false
set_option linter.all false
set_option maxRecDepth 100000
set_option maxHeartbeats 1000000
/-! VLV: sorted of a dict, any. -/
namespace VL
open PySem PySem.Spec PyProof.Rows PySem.W PySem.SeqAt
section
variable {X : L2.Cx} {pins : List (Addr × Obj)} {σ : L2.St}
open L2
def intsD : List D → Option (List Int)
  | [] => some []
  | .int b :: r => (intsD r).map (b :: ·)
  | _ :: _ => none
theorem intsD_rep {K : KW} {G : Gp} : ∀ {vs : List V} {ds : List D} {bs : List Int}, RepL K G vs ds → intsD ds = some bs → vs = bs.map V.int
  | _, _, _, .nil, h => by cases h; rfl
  | _, _, _, .cons (d := d) (ds := ds) r rs, h => by
    cases d with
    | int b =>
      cases r
      simp only [intsD] at h
      cases q : intsD ds with
      | none => rw [q] at h; cases h
      | some bs' =>
        rw [q] at h
        cases h
        rw [intsD_rep rs q]; rfl
    | _ => cases h
def maxI : Int → List Int → Int
  | m, [] => m
  | m, x :: r => maxI (if x > m then x else m) r
theorem maxI_le : ∀ (l : List Int) (m : Int), m ≤ maxI m l ∧ ∀ y ∈ l, y ≤ maxI m l
  | [], m => ⟨by simp [maxI], by simp⟩
  | x :: r, m => by
    have := maxI_le r (if x > m then x else m)
    unfold maxI
    refine ⟨Int.le_trans (by split <;> omega) this.1, fun y hy => ?_⟩
    rcases List.mem_cons.mp hy with rfl | hy
    · exact Int.le_trans (by split <;> omega) this.1
    · exact this.2 y hy
theorem maxI_mem : ∀ (l : List Int) (m : Int), maxI m l ∈ m :: l
  | [], m => by simp [maxI]
  | x :: r, m => by
    have := maxI_mem r (if x > m then x else m)
    unfold maxI
    rcases List.mem_cons.mp this with e | h
    · rw [e]; split <;> simp
    · exact List.mem_cons_of_mem _ (List.mem_cons_of_mem _ h)
/-- max of two ints, or of a list of them -/
def maxB : List D → Option D := fun ds => match ds with
  | [.list xs] => match intsD xs with
    | some (m :: r) => some (.int (maxI m r))
    | _ => none
  | ds => maxD ds
theorem c_maxB (hc : X.calm = true) : CallR X (.builtin "max") (cD X.kw 0 maxB) := fun pins s σ H xs us Q I rv ⟨ds, z, G, sg, rr, hz, q⟩ => by
  unfold maxB at hz
  split at hz
  · rename_i ys
    split at hz
    · rename_i m r hb
      cases hz
      cases rr with
      | cons rx rn =>
        cases rn
        cases rx with
        | lst ha r2 =>
          rw [intsD_rep r2 hb] at ha
          refine cr_max hc pins s σ H _ us Q I rv ⟨_, m :: r, rfl, SqL.of (sg _ _ ha), by simp, fun x hx hle => ?_⟩
          have e : x = maxI m r := Int.le_antisymm (by
            rcases List.mem_cons.mp hx with rfl | hx
            · exact (maxI_le r _).1
            · exact (maxI_le r _).2 x hx) (hle _ (maxI_mem r m))
          subst e
          exact q _ _ _ (Res.of_rep sg (.int _))
    · cases hz
  · exact c_max hc pins s σ H xs us Q I rv ⟨_, z, G, sg, rr, hz, q⟩
end
end VL
set_option Elab.async false
set_option linter.all false
set_option maxRecDepth 100000
set_option maxHeartbeats 4000000
/-! VKD: dicts of the module, written down there, with text keys; statements that are never reached. -/
namespace VL
open PySem PySem.Spec PyProof.Rows L2
/-- the rows of such a dict -/
inductive KRows (K : KW) : List DictEntry → List (Str × D) → Prop where
  | nil : KRows K [] []
  | cons {e : DictEntry} {es : List DictEntry} {k : Str} {t : Tok} {v : V} {d : D} {cs : List (Str × D)} (hk : e.key = .str k t) (hv : RelV v e.val) (hr : ∀ G, Rep K G v d) (r : KRows K es cs) : KRows K (e :: es) ((k, d) :: cs)
def cGet (cs : List (Str × D)) (z : Str) : Option D := (cs.find? fun p => decide (p.1 = z)).map (·.2)
theorem KRows.get {K : KW} {z : Str} : ∀ {es : List DictEntry} {cs : List (Str × D)}, KRows K es cs → (cGet cs z = none ∧ es.find? (·.key.isStr z) = none) ∨ ∃ e v d, es.find? (·.key.isStr z) = some e ∧ cGet cs z = some d ∧ RelV v e.val ∧ ∀ G, Rep K G v d
  | _, _, .nil => .inl ⟨rfl, rfl⟩
  | _, _, .cons (e := e) (es := es) (k := k) (t := t) (v := v) (d := d) (cs := cs) hk hv hr r => by
    by_cases h : k = z
    · subst h
      right
      refine ⟨e, v, d, ?_, by simp [cGet], hv, hr⟩
      rw [List.find?_cons, hk]
      simp [Value.isStr]
    · have h1 : e.key.isStr z = false := by rw [hk]; simp [Value.isStr, h]
      have h2 : cGet ((k, d) :: cs) z = cGet cs z := by simp [cGet, h]
      rw [List.find?_cons, h1, h2]
      exact r.get
/-! ### what is never reached -/
end VL
set_option Elab.async false
set_option linter.all false
set_option maxRecDepth 100000
set_option maxHeartbeats 4000000
/-! VKE: dict displays with text keys and constant values. -/
namespace VL
open PySem PySem.Spec PyProof.Rows L2
end VL
set_option Elab.async false
set_option linter.all false
set_option maxRecDepth 100000
set_option maxHeartbeats 1000000
/-! VP0: itertools.permutations. -/
set_option Elab.async false
set_option linter.all false
set_option maxRecDepth 100000
set_option maxHeartbeats 1000000
set_option Elab.async false
set_option linter.all false
set_option maxRecDepth 100000
set_option maxHeartbeats 2000000
set_option Elab.async false
set_option linter.all false
set_option maxRecDepth 100000
set_option maxHeartbeats 2000000
set_option Elab.async false
set_option linter.all false
set_option maxRecDepth 100000
set_option maxHeartbeats 2000000
set_option Elab.async false
set_option linter.all false
set_option maxRecDepth 100000
set_option maxHeartbeats 2000000
set_option Elab.async false
set_option linter.all false
set_option maxRecDepth 100000
set_option maxHeartbeats 2000000
set_option Elab.async false
set_option linter.all false
set_option maxRecDepth 100000
set_option maxHeartbeats 2000000
namespace VL
open PySem PySem.Spec PyProof.Rows PySem.W PySem.SeqAt
end VL
set_option Elab.async false
set_option linter.all false
set_option maxRecDepth 100000
set_option maxHeartbeats 1000000
/-! VX1: a comprehension with two for, set to a name. -/
namespace VL
open PySem PySem.Spec L2
end VL
set_option Elab.async false
set_option linter.all false
set_option maxRecDepth 100000
set_option maxHeartbeats 1000000
/-! VX2: what never changes counts as owned; append to a list within a tuple; min of a list. -/
namespace VL
open PySem PySem.Spec L2
def eImm (f : Ex) : Ex := fun env => (f env).bind fun p => if immut p.1 = true then some p else none
section
variable {X : Cx} {Γ : Ctx} {a : Expr} {f : Ex} {n : Nat}
theorem m_own (h : PE X a (tM X.kw Γ f 0)) : PE X a (tM X.kw Γ (eImm f) n) := h.imp fun σ H Q ⟨O, G, env, L, r, env1, S, e, k⟩ => by
  unfold eImm at e
  cases q : f env with
  | none => rw [q] at e; cases e
  | some p =>
    rw [q] at e
    simp only [Option.bind_some] at e
    split at e
    · rename_i hi
      cases e
      exact ⟨O, G, env, L, r, env1, S, q, fun v H1 G1 L1 S1 s1 v1 => k v H1 G1 L1 S1 s1 ⟨[], .imm hi v1.rep, List.nodup_nil, fun a m => (by cases m), fun _ _ _ a m => (by cases m)⟩⟩
    · cases e
end
section
variable {K : KW} {O : Gh} {Γ Δ : Ctx} {H H' : Hp} {G G' : Gp} {σ : St} {env : List D} {L : Nat → List Addr} {n m i : Nat} {v w : V} {d e : D} {M N : List Addr} {vs : List V} {ds : List D}
theorem VML.through {Γ' : Ctx} {σ' : St} {env' : List D} {L' : Nat → List Addr} (h : VML K O Γ H G L n vs ds M) (S : StR K O Γ H G σ env L) (S' : StR K (O.at K Γ H G L) Γ' H' G' σ' env' L') (gg : SameG G G') (hn : n < 200) : VML K O Γ' H' G' L' n vs ds M := by
  have as : ∀ a ∈ M, ∃ o, H a = some o ∧ H' a = some o ∧ G' a = none ∧ ∀ i m, At Γ' i m → a ∉ L' i := fun a ha => by
    obtain ⟨g, hs, _⟩ := OwnL.objs h.own a ha
    cases q : H a with
    | none => rw [q] at hs; cases hs
    | some o =>
      obtain ⟨z1, z2, z3⟩ := S.aside S' q g (fun i m hi hl => h.dj i m hi a ha hl) (by rw [← q]; exact OwnL.hk h.own a ha)
      exact ⟨o, rfl, z1, z2, z3⟩
  refine ⟨OwnL.mono gg (.inl hn) h.own fun a ha => ?_, h.nd, h.new, fun i m hi a ha => ?_⟩
  · obtain ⟨o, e1, e2, e3, _⟩ := as a ha
    exact ⟨by rw [e1, e2], e3⟩
  · obtain ⟨o, _, _, _, e4⟩ := as a ha
    exact e4 i m hi
end
end VL
namespace VL
open PySem PySem.Spec PyProof.Rows PySem.W PySem.SeqAt
open L2
end VL
set_option Elab.async false
set_option linter.all false
set_option maxRecDepth 100000
set_option maxHeartbeats 1000000
/-! VTX: texts: +, join, str, f'..', setdefault. -/
namespace VL
open PySem PySem.Spec L2
/-! ### + -/
/-! ### join -/
end VL
set_option Elab.async false
set_option linter.all false
set_option maxRecDepth 100000
set_option maxHeartbeats 1000000
/-! VTA: a new list handed in to be changed, and then dropped. -/
namespace VL
open PySem PySem.Spec L2
section
variable {K : KW} {O : Gh} {Γ Δ : Ctx} {H H' : Hp} {G G' : Gp} {σ : St} {env ds ds' : List D} {L L' : Nat → List Addr} {n m : Nat} {v : V} {d : D} {M : List Addr}
theorem at_app {k : Kd} {i : Nat} (h : At (Γ ++ [k]) i n) : At Γ i n ∨ (i = Γ.length ∧ k.dep = some n) := by
  obtain ⟨k', e1, e2⟩ := h
  by_cases hl : i < Γ.length
  · rw [List.getElem?_append_left hl] at e1; exact .inl ⟨k', e1, e2⟩
  · rw [List.getElem?_append_right (by omega)] at e1
    by_cases hz : i - Γ.length = 0
    · rw [hz] at e1; cases e1; exact .inr ⟨by omega, e2⟩
    · rw [List.getElem?_eq_none (by simp; omega)] at e1; cases e1
theorem at_lt {i : Nat} (h : At Γ i n) : i < Γ.length := by obtain ⟨k, e, _⟩ := h; exact (List.getElem?_eq_some_iff.mp e).1
/-- a value beside the slots, as a slot more -/
theorem StR.snoc (S : StR K O Γ H G σ env L) (vm : VM K O Γ H G L n v d M) : StR K O (Γ ++ [.ow n]) H G (σ ++ [some v]) (env ++ [d]) (setL L Γ.length M) := by
  have ll : ∀ {i m}, At Γ i m → setL L Γ.length M i = L i := fun {i m} hi => by unfold setL; rw [if_neg (Nat.ne_of_lt (at_lt hi))]
  have lr : setL L Γ.length M Γ.length = M := by unfold setL; rw [if_pos rfl]
  refine ⟨S.gh, by simp [S.ls], by simp [S.lg], fun i m hi => ?_, fun i m hi => ?_, fun i j m m' hi hj ne a ha ha' => ?_, fun i m hi a ha => ?_, S.pres, S.gn, fun i m e => ?_⟩
  · rcases at_app hi with hi | ⟨rfl, e⟩
    · obtain ⟨v', d', e1, e2, o⟩ := S.slot i m hi
      have l1 : i < σ.length := (List.getElem?_eq_some_iff.mp e1).1
      have l2 : i < env.length := (List.getElem?_eq_some_iff.mp e2).1
      exact ⟨v', d', by rw [List.getElem?_append_left l1]; exact e1, by rw [List.getElem?_append_left l2]; exact e2, by rw [ll hi]; exact o⟩
    · cases e
      refine ⟨v, d, ?_, ?_, by rw [lr]; exact vm.own⟩
      · rw [S.lg, ← S.ls]; simp
      · rw [S.lg]; simp
  · rcases at_app hi with hi | ⟨rfl, e⟩
    · rw [ll hi]; exact S.nd i m hi
    · rw [lr]; exact vm.nd
  · rcases at_app hi with hi | ⟨rfl, e⟩
    · rw [ll hi] at ha
      rcases at_app hj with hj | ⟨rfl, e'⟩
      · rw [ll hj] at ha'; exact S.dj i j m m' hi hj ne a ha ha'
      · rw [lr] at ha'; exact vm.dj i m hi a ha' ha
    · rw [lr] at ha
      rcases at_app hj with hj | ⟨rfl, e'⟩
      · rw [ll hj] at ha'; exact vm.dj j m' hj a ha ha'
      · exact ne rfl
  · rcases at_app hi with hi | ⟨rfl, e⟩
    · rw [ll hi] at ha; exact S.new i m hi a ha
    · rw [lr] at ha; exact vm.new a ha
  · by_cases hl : i < Γ.length
    · rw [List.getElem?_append_left hl] at e
      obtain ⟨u, e1, e2, e3⟩ := S.io i m e
      exact ⟨u, e1, by rw [List.getElem?_append_left (List.getElem?_eq_some_iff.mp e2).1]; exact e2, e3⟩
    · rw [List.getElem?_append_right (by omega)] at e
      by_cases hz : i - Γ.length = 0
      · rw [hz] at e; cases e
      · rw [List.getElem?_eq_none (by simp; omega)] at e; cases e
theorem ArgR.snoc {as : List Arg} {vs : List V} {u : Option V} {e : D} (A : ArgR K G σ env as vs ds) : ArgR K G (σ ++ [u]) (env ++ [e]) as vs ds := by
  induction A with
  | nil => exact .nil
  | v h t ih => exact .v h ih
  | io h1 h2 t ih => exact .io (by rw [List.getElem?_append_left (List.getElem?_eq_some_iff.mp h1).1]; exact h1) (by rw [List.getElem?_append_left (List.getElem?_eq_some_iff.mp h2).1]; exact h2) ih
theorem ArgR.app {as bs : List Arg} {vs us : List V} {es : List D} (A : ArgR K G σ env as vs ds) (B : ArgR K G σ env bs us es) : ArgR K G σ env (as ++ bs) (vs ++ us) (ds ++ es) := by
  induction A with
  | nil => exact B
  | v h t ih => exact .v h ih
  | io h1 h2 t ih => exact .io h1 h2 ih
end
end VL
namespace VL
open PySem PySem.Spec L2
end VL
set_option Elab.async false
set_option linter.all false
set_option maxRecDepth 100000
set_option maxHeartbeats 1000000
/-! VDN: dict(pairs), the keys tuples. -/
namespace VL
open PySem PySem.Spec L2
def pairN : D → Option (List NestedKey × D)
  | .tuple [k, v] => (tkOf k).map fun q => (q, v)
  | _ => none
def pairsN : List D → Option (List (List NestedKey × D))
  | [] => some []
  | d :: ds => (pairN d).bind fun p => (pairsN ds).map (p :: ·)
def mergeN (ds : List (D × D)) (ps : List (List NestedKey × D)) : List (D × D) := ps.foldl (fun acc p => dPutT acc p.1 p.2) ds
def dictX : List D → Option D := fun ds => match ds with
  | [.list (x :: xs)] => match pairsN (x :: xs) with
    | some ps => if ps.length ≤ lim then some (.dict (mergeN [] ps)) else none
    | none => dictD ds
  | ds => dictD ds
structure Qd where
  T : Addr
  ks : List NestedKey
  kb : Addr
  v : V
  d : D
  u : Value
structure QdOk (K : KW) (G : Gp) (h : Heap) (q : Qd) : Prop where
  tup : h.IsTuple q.T #[.ref q.kb, q.u]
  key : Rep K G (.ref q.kb) (NestedKey.tup q.ks).data
  dp : (NestedKey.tup q.ks).depth ≤ 8
  rv : RelV q.v q.u
  rd : Rep K G q.v q.d
theorem quads {X : Cx} {pins : List (Addr × Obj)} {σ : St} {H : Hp} {G : Gp} {s : Shared} (I : Inv X pins σ H s) (sg : Sh G H) : ∀ {vs : List V} {xs : List D} {ps : List (List NestedKey × D)}, RepL X.kw G vs xs → pairsN xs = some ps →
    ∃ qs : List Qd, vs = qs.map (fun q => V.ref q.T) ∧ ps = qs.map (fun q => (q.ks, q.d)) ∧ ∀ q ∈ qs, QdOk X.kw G s.heap q
  | _, _, _, .nil, e => by cases e; exact ⟨[], rfl, rfl, fun q m => by cases m⟩
  | _, _, ps, .cons (d := d) (ds := ds) r t, e => by
    simp only [pairsN] at e
    cases h1 : pairN d with
    | none => rw [h1] at e; cases e
    | some p =>
      rw [h1] at e
      simp only [Option.bind_some] at e
      cases h2 : pairsN ds with
      | none => rw [h2] at e; cases e
      | some ps2 =>
        rw [h2] at e
        simp only [Option.map_some, Option.some.injEq] at e
        subst e
        obtain ⟨qs, e1, e2, e3⟩ := quads I sg t h2
        unfold pairN at h1
        split at h1
        · rename_i k v
          rw [Option.map_eq_some_iff] at h1
          obtain ⟨ks, hk, rfl⟩ := h1
          obtain ⟨ek, dp⟩ := tk_of hk
          subst ek
          cases r with
          | @tup a us _ sq rr =>
            cases rr with
            | cons rk rr =>
              cases rr with
              | cons rv rr =>
                cases rr
                have hkr : ∃ kb : Addr, ∀ (x : V), Rep X.kw G x (NestedKey.tup ks).data → True := ⟨0, fun _ _ => trivial⟩
                rename_i kv vv
                obtain ⟨kb, rfl⟩ : ∃ kb : Addr, kv = .ref kb := by
                  have : ∀ {x : V} {d : D}, Rep X.kw G x d → d = (NestedKey.tup ks).data → ∃ kb : Addr, x = .ref kb := by
                    intro x d r e
                    rw [NestedKey.data] at e
                    subst e
                    cases r
                    exact ⟨_, rfl⟩
                  exact this rk rfl
                obtain ⟨its, rvs, ht, _⟩ := I.tuple (sqT_sh sg sq.sqT)
                obtain ⟨u0, u, ei, r0, ru⟩ := vals2 rvs
                subst ei
                obtain rfl : u0 = Value.ref kb := r0
                exact ⟨⟨a, ks, kb, vv, v, u⟩ :: qs, by rw [List.map_cons, ← e1], by rw [List.map_cons, ← e2], fun q m => by
                  rcases List.mem_cons.mp m with rfl | m
                  · exact ⟨ht, rk, dp, ru, rv⟩
                  · exact e3 q m⟩
        · cases h1
def nU (q : Qd) : NestedKey × Addr × Value := (.tup q.ks, q.kb, q.u)
def putsN (xs : List (NestedKey × Addr × V)) (qs : List Qd) : List (NestedKey × Addr × V) := qs.foldl (fun acc q => putN acc (.tup q.ks) q.kb q.v) xs
theorem puts_rep {K : KW} {G : Gp} {h : Heap} : ∀ {qs : List Qd} {xs : List (NestedKey × Addr × V)} {us : List (NestedKey × Addr × Value)} {ds : List (D × D)}, (∀ q ∈ qs, QdOk K G h q) → RepN K G xs ds → NV xs us →
    RepN K G (putsN xs qs) (mergeN ds (qs.map fun q => (q.ks, q.d))) ∧ NV (putsN xs qs) (storedAllH us (qs.map nU))
  | [], _, _, _, _, r, n => ⟨r, n⟩
  | q :: qs, xs, us, ds, hq, r, n => by
    have k := hq q List.mem_cons_self
    have := puts_rep (qs := qs) (fun q m => hq q (List.mem_cons_of_mem _ m)) (repN_put r k.key k.dp k.rd) (nv_put (k := .tup q.ks) k.rv (b := q.kb) n)
    exact this
theorem puts_ne {qs : List Qd} : ∀ {xs : List (NestedKey × Addr × V)}, (xs ≠ [] ∨ qs ≠ []) → ∃ p ys, putsN xs qs = p :: ys := by
  induction qs with
  | nil =>
    intro xs h
    cases xs with
    | nil => rcases h with h | h <;> exact absurd rfl h
    | cons p ys => exact ⟨p, ys, rfl⟩
  | cons q qs ih =>
    intro xs _
    obtain ⟨p, ys, e⟩ := putN_ne (xs := xs) (k := .tup q.ks) (b := q.kb) (v := q.v)
    exact ih (.inl (by show putN xs (.tup q.ks) q.kb q.v ≠ []; rw [e]; simp))
theorem puts_len : ∀ (qs : List Qd) (xs : List (NestedKey × Addr × V)), (putsN xs qs).length ≤ xs.length + qs.length
  | [], xs => Nat.le_refl _
  | q :: qs, xs => by
    have h1 := putN_len xs (.tup q.ks) q.kb q.v
    have h2 := puts_len qs (putN xs (.tup q.ks) q.kb q.v)
    show (putsN (putN xs (.tup q.ks) q.kb q.v) qs).length ≤ _
    rw [List.length_cons]; omega
theorem Res.newDn {K : KW} {G : Gp} {H : Hp} {p : Addr} {a : NestedKey × Addr × V} {xs : List (NestedKey × Addr × V)} {ds : List (D × D)} (s : Sh G H) (hp : H p = none) (r : RepN K G (a :: xs) ds) : Res K G H 100 (.ref p) (.dict ds) G (upd H p (dnO K.w p (a :: xs))) := by
  have hg : G p = none := s.free hp
  have hh : Same H (upd H p (dnO K.w p (a :: xs))) := fun b o e => by rw [upd_ne (ne_of_none e hp)]; exact e
  exact ⟨(fun _ _ e => e), s.trans hh, hh, fun a o e n => (by rw [n] at e; cases e), NT.refl _, [p], .dk upd_same hg (.n r), by simp, fun a m => by rw [List.mem_singleton.mp m]; exact hp⟩
theorem c_dictX {X : Cx} (hu : X.A.units + 80 < cLine) (hc : X.calm = true) : CallR X (.type "dict") (cD X.kw 100 dictX) := fun pins s σ H xs us Q I rv ⟨ds, z, G, sg, rr, hz, q⟩ => by
  unfold dictX at hz
  split at hz
  · rename_i y ys
    split at hz
    · rename_i ps hps
      split at hz
      · rename_i hlim
        cases hz
        cases rr with
        | cons r rn =>
          cases rn
          cases r with
          | lst ha r2 =>
            obtain ⟨its, rvs, pl, hsz⟩ := I.list (SqL.of (sg _ _ ha))
            obtain ⟨qs, e1, e2, e3⟩ := quads I sg r2 hps
            rw [Vals.ref1 rv]
            subst e1 e2
            have ei := refs_at (ps := qs.map (·.T)) (by rw [List.map_map]; exact rvs)
            rw [List.map_map] at ei
            obtain ⟨o, n, ho, hcl, hd, hdat⟩ := pl
            have hqn : qs ≠ [] := by rintro rfl; cases r2
            have hil : its.length = qs.length := by rw [ei]; simp
            let pv : List (Value × Value) := qs.map fun q => (.ref q.kb, q.u)
            have hpl : pv.length = qs.length := by simp [pv]
            refine call_dict_pairsH (knd := nestedKind X.prog X.w) (ps := qs.map nU) (PairArg.list _ its.toArray (fun j => ((qs[j]?).map (·.T)).getD 0) pv) (I.ok.hd hc) (room_n (by show X.A.units + 1 + 16 < _; omega)) ⟨⟨o, n, ho, hcl, hd, hdat⟩, by simp [hpl, hil], fun j k v hj => ?_⟩ ⟨by simp [pv], fun i key v hi => ?_⟩ (fun h' hk x hx => ?_) (by rw [hpl, ← hil]; rw [← rvs.length] at *; exact hsz) fun h' tk hd' hk => ?_
            · rw [List.getElem?_map, Option.map_eq_some_iff] at hj
              obtain ⟨q, hq, ev⟩ := hj
              cases ev
              refine ⟨?_, .inl ?_⟩
              · simp [ei, hq]
              · simpa [hq] using (e3 q (List.mem_of_getElem? hq)).tup
            · have hi' : pv[i]? = some (key, v) := hi
              rw [List.getElem?_map, Option.map_eq_some_iff] at hi'
              obtain ⟨q, hq, ev⟩ := hi'
              cases ev
              exact ⟨_, _, by rw [List.getElem?_map, hq]; rfl, rfl⟩
            · obtain ⟨q, hq, rfl⟩ := List.mem_map.mp hx
              have k := e3 q hq
              have I1 : Inv X pins σ H { s with heap := h' } := I.kept (t' := s.toks) fun b o e => hk b o (Nat.ne_of_lt (Heap.lt_size e)) (by simp) e
              exact key_is I1 sg k.key k.dp
            · obtain ⟨rN, nV⟩ := puts_rep (qs := qs) e3 (xs := []) (us := []) (ds := []) .nil .nil
              obtain ⟨p, ys', ep⟩ := puts_ne (qs := qs) (xs := []) (.inr hqn)
              have lp := puts_len qs []
              rw [ep] at rN nV lp
              have l3 : (p :: ys').length = (storedAllH [] (qs.map nU)).length := Paired.length nV
              have hp : H s.heap.objs.size = none := I.hok.fresh (Nat.le_refl _)
              have hsm : (s.heap.objs.size == sysModules) = false := beq_eq_false_iff_ne.mpr (Nat.ne_of_gt I.big)
              obtain ⟨ob, es, epp, f1, f2, f3, f4, f5, f6⟩ := hd'
              have hql : qs.length ≤ lim := by simpa using hlim
              refine ⟨.ref s.heap.objs.size, upd H s.heap.objs.size (dnO X.w s.heap.objs.size (p :: ys')), I.laid (t' := tk) (fun b o e => hk b o (by simp) e) (Nat.le_refl _) ?_, rfl, q _ _ _ (Res.newDn sg hp rN)⟩
              exact ⟨⟨hsm, _, nV, f6, by simp at lp; rw [← l3]; exact lim_le (Nat.le_trans lp hql), ob, es, epp, f1, f2, f3, f4⟩, ⟨_, f1⟩, fun h1 h2 ⟨k1, us', k2, k3, k4, o', es', ep', k5, k6⟩ k => ⟨k1, us', k2, k3, k4, o', es', ep', k _ k5, k6⟩⟩
      · cases hz
    · exact c_dict hc pins s σ H xs us Q I rv ⟨_, z, G, sg, rr, hz, q⟩
  · exact c_dict hc pins s σ H xs us Q I rv ⟨_, z, G, sg, rr, hz, q⟩
end VL
set_option Elab.async false
set_option linter.all false
/-! VLX: all rules. -/
set_option Elab.async false
set_option linter.all false
set_option maxRecDepth 100000
set_option maxHeartbeats 1000000
/-! VT0: the tracked things lent: all of them shown, their dicts locked, while an expression runs. -/
namespace VL
open PySem L2
/-- of the tracked things the dicts -/
def dcs : List Addr → List D → List Addr
  | a :: as, .dict _ :: ds => a :: dcs as ds
  | _ :: as, _ :: ds => dcs as ds
  | _, _ => []
theorem dcs_mem : ∀ {as : List Addr} {ds : List D} {a : Addr}, a ∈ dcs as ds → ∃ (x : Nat) (kvs : List (D × D)), as[x]? = some a ∧ ds[x]? = some (.dict kvs)
  | [], _, a, h => by simp [dcs] at h
  | _ :: _, [], a, h => by simp [dcs] at h
  | b :: as, d :: ds, a, h => by
    have step : a ∈ dcs as ds → ∃ (x : Nat) (kvs : List (D × D)), (b :: as)[x]? = some a ∧ (d :: ds)[x]? = some (.dict kvs) := fun h => by
      obtain ⟨x, kvs, h1, h2⟩ := dcs_mem h
      exact ⟨x + 1, kvs, by simpa using h1, by simpa using h2⟩
    cases d with
    | dict kvs =>
      simp only [dcs, List.mem_cons] at h
      rcases h with rfl | h
      · exact ⟨0, kvs, rfl, rfl⟩
      · exact step h
    | _ => exact step (by simpa [dcs] using h)
theorem dcs_in : ∀ {as : List Addr} {ds : List D} {x : Nat} {a : Addr} {kvs : List (D × D)}, as[x]? = some a → ds[x]? = some (.dict kvs) → a ∈ dcs as ds
  | [], _, x, a, _, h, _ => by simp at h
  | _ :: _, [], x, a, _, _, h => by simp at h
  | b :: as, d :: ds, 0, a, kvs, h1, h2 => by
    simp only [List.getElem?_cons_zero, Option.some.injEq] at h1 h2
    subst h1 h2
    simp [dcs]
  | b :: as, d :: ds, x + 1, a, kvs, h1, h2 => by
    have := dcs_in (as := as) (ds := ds) (x := x) (by simpa using h1) (by simpa using h2)
    cases d <;> simp [dcs, this]
def frzH (H : Hp) (od : Addr → Obj) (M : List Addr) : Hp := fun a => if a ∈ M then (H a).map (.frz (od a)) else H a
def thwH (H H' : Hp) (M : List Addr) : Hp := fun a => if a ∈ M then H a else H' a
theorem frzH_in {H : Hp} {od : Addr → Obj} {M : List Addr} {a : Addr} {u : HO} (m : a ∈ M) (h : H a = some u) : frzH H od M a = some (.frz (od a) u) := by
  unfold frzH; rw [if_pos m, h]; rfl
theorem frzH_out {H : Hp} {od : Addr → Obj} {M : List Addr} {a : Addr} (m : a ∉ M) : frzH H od M a = H a := if_neg m
theorem frzH_none {H : Hp} {od : Addr → Obj} {M : List Addr} {a : Addr} : frzH H od M a = none ↔ H a = none := by
  unfold frzH
  split
  · cases H a <;> simp
  · exact Iff.rfl
theorem thwH_in {H H' : Hp} {M : List Addr} {a : Addr} (m : a ∈ M) : thwH H H' M a = H a := if_pos m
theorem thwH_out {H H' : Hp} {M : List Addr} {a : Addr} (m : a ∉ M) : thwH H H' M a = H' a := if_neg m
section
variable {X : Cx} {pins : List (Addr × Obj)} {σ : St} {H H' : Hp} {s : Shared}
theorem lock_all (I : Inv X pins σ H s) : ∀ M : List Addr, (∀ a ∈ M, ∃ u, H a = some u ∧ Mut (some u)) → ∃ od : Addr → Obj, Inv X pins σ (frzH H od M) s
  | [], _ => ⟨fun _ => default, by
    have : frzH H (fun _ => default) [] = H := by funext a; exact if_neg (by simp)
    rw [this]; exact I⟩
  | a :: M, h => by
    obtain ⟨od, I1⟩ := lock_all I M fun b m => h b (List.mem_cons_of_mem _ m)
    obtain ⟨u, hu, mu⟩ := h a List.mem_cons_self
    by_cases ha : a ∈ M
    · refine ⟨od, ?_⟩
      have : frzH H od (a :: M) = frzH H od M := by
        funext b
        unfold frzH
        by_cases hb : b ∈ M
        · rw [if_pos hb, if_pos (List.mem_cons_of_mem _ hb)]
        · rw [if_neg hb, if_neg]
          intro z
          rcases List.mem_cons.mp z with rfl | z
          · exact hb ha
          · exact hb z
      rw [this]; exact I1
    · obtain ⟨o, I2⟩ := I1.lock (d := a) (u := u) (by rw [frzH_out ha]; exact hu) mu
      refine ⟨fun b => if b = a then o else od b, ?_⟩
      have : frzH H (fun b => if b = a then o else od b) (a :: M) = upd (frzH H od M) a (.frz o u) := by
        funext b
        by_cases hb : b = a
        · subst hb
          rw [upd_same, frzH_in List.mem_cons_self hu]; simp
        · rw [upd_ne hb]
          unfold frzH
          by_cases hm : b ∈ M
          · rw [if_pos hm, if_pos (List.mem_cons_of_mem _ hm)]; simp [hb]
          · rw [if_neg hm, if_neg]
            intro z
            rcases List.mem_cons.mp z with rfl | z
            · exact hb rfl
            · exact hm z
      rw [this]; exact I2
theorem unlock_all (od : Addr → Obj) : ∀ (M : List Addr) {σ' : St} {s' : Shared} {H' : Hp}, Inv X pins σ' H' s' → (∀ a ∈ M, ∃ u, H a = some u ∧ (∀ o' u', X.H_0 a ≠ some (.frz o' u')) ∧ H' a = some (.frz (od a) u)) → Inv X pins σ' (thwH H H' M) s'
  | [], _, _, H', I, _ => by
    have : thwH H H' [] = H' := by funext a; exact if_neg (by simp)
    rw [this]; exact I
  | a :: M, σ', s', H', I, h => by
    have I1 := unlock_all od M I fun b m => h b (List.mem_cons_of_mem _ m)
    obtain ⟨u, hu, hn, hf⟩ := h a List.mem_cons_self
    by_cases ha : a ∈ M
    · have : thwH H H' (a :: M) = thwH H H' M := by
        funext b
        unfold thwH
        by_cases hb : b ∈ M
        · rw [if_pos hb, if_pos (List.mem_cons_of_mem _ hb)]
        · rw [if_neg hb, if_neg]
          intro z
          rcases List.mem_cons.mp z with rfl | z
          · exact hb ha
          · exact hb z
      rw [this]; exact I1
    · have I2 := I1.unlock (d := a) (od := od a) (u := u) (by rw [thwH_out ha]; exact hf) hn
      have : thwH H H' (a :: M) = upd (thwH H H' M) a u := by
        funext b
        by_cases hb : b = a
        · subst hb
          rw [upd_same, thwH_in List.mem_cons_self, hu]
        · rw [upd_ne hb]
          unfold thwH
          by_cases hm : b ∈ M
          · rw [if_pos hm, if_pos (List.mem_cons_of_mem _ hm)]
          · rw [if_neg hm, if_neg]
            intro z
            rcases List.mem_cons.mp z with rfl | z
            · exact hb rfl
            · exact hm z
      rw [this]; exact I2
end
/-! ### the store lent -/
/-- Γ has the tracked things in slot g; Δ has them there to be read, and of the other slots what may be borrowed -/
def ldB (Γ Δ : Ctx) (g : Nat) : Bool := decide (Γ[g]? = some (.io 200)) && decide (Δ[g]? = some (.ow 0)) && bwB (Γ.set g (.ow 0)) Δ
theorem ldB_iff {Γ Δ : Ctx} {g : Nat} (h : ldB Γ Δ g = true) : Γ[g]? = some (.io 200) ∧ Δ[g]? = some (.ow 0) ∧ bwB (Γ.set g (.ow 0)) Δ = true := by
  unfold ldB at h
  simp only [Bool.and_eq_true, decide_eq_true_eq] at h
  exact ⟨h.1.1, h.1.2, h.2⟩
theorem ldB_get {Γ Δ : Ctx} {g i : Nat} {q : Kd} (h : ldB Γ Δ g = true) (hi : i ≠ g) (e : Δ[i]? = some q) : q = .un ∨ (q = .ow 0 ∧ ∃ n, At Γ i n ∧ n < 100) := by
  obtain ⟨_, _, hb⟩ := ldB_iff h
  rcases bwB_get hb e with z | ⟨z, n, ⟨k, e1, e2⟩, hn⟩
  · exact .inl z
  · rw [List.getElem?_set_ne (Ne.symm hi)] at e1
    exact .inr ⟨z, n, ⟨k, e1, e2⟩, hn⟩
section
variable {K : KW} {O : Gh} {Γ Δ : Ctx} {H H' : Hp} {G G' : Gp} {σ : St} {env : List D} {L : Nat → List Addr} {n g : Nat} {v : V} {d : D} {objs : List D} {as : List Addr} {od : Addr → Obj}
theorem repOL_of : ∀ {as : List Addr} {objs : List D}, as.length = objs.length → (∀ (x : Nat) a o, as[x]? = some a → objs[x]? = some o → RepO K G a o) → RepOL K G as objs
  | [], [], _, _ => .nil
  | [], _ :: _, h, _ => by simp at h
  | _ :: _, [], h, _ => by simp at h
  | a :: as, o :: objs, h, k => .cons (k 0 a o rfl rfl) (repOL_of (by simpa using h) fun x b p h1 h2 => k (x + 1) b p (by simpa using h1) (by simpa using h2))
theorem repOL_at : ∀ {as : List Addr} {objs : List D} {x : Nat} {o : D}, RepOL K G as objs → objs[x]? = some o → ∃ a, as[x]? = some a ∧ RepO K G a o
  | _, _, _, _, .nil, e => by simp at e
  | _, _, 0, _, .cons h _, e => by simp at e; subst e; exact ⟨_, rfl, h⟩
  | _, _, x + 1, _, .cons _ t, e => by
    obtain ⟨a, h1, h2⟩ := repOL_at (x := x) t (by simpa using e)
    exact ⟨a, by simpa using h1, h2⟩
end
/-! ### what may come out of such an expression -/
def rfB : D → Bool
  | .dict [(.tuple [.list []], .int (.ofNat _))] => true
  | _ => false
theorem rfB_is {d : D} (h : rfB d = true) : ∃ x, d = rfD x := by
  unfold rfB at h
  split at h
  · exact ⟨_, rfl⟩
  · cases h
mutual
def immutR : D → Bool
  | .none => true
  | .bool _ => true
  | .int _ => true
  | .str _ => true
  | .tuple xs => immutRL xs
  | .dict kvs => rfB (.dict kvs)
  | .list _ => false
def immutRL : List D → Bool
  | [] => true
  | x :: xs => immutR x && immutRL xs
end
mutual
def imR : Nat → D → Bool
  | 0, d => immutR d
  | n + 1, .list xs => imRL n xs
  | n + 1, .tuple xs => imRL (n + 1) xs
  | n + 1, .dict kvs => if n + 1 = 100 then imRK kvs else rfB (.dict kvs)
  | _ + 1, _ => true
def imRL : Nat → List D → Bool
  | _, [] => true
  | n, x :: xs => imR n x && imRL n xs
def imRK : List (D × D) → Bool
  | [] => true
  | (_, x) :: xs => immutR x && imRK xs
end
/-- of what is shown the tuples, and the numbers -/
def tupsT (G : Gp) : Gp := fun a => match a, G a with
  | .inr _, o => o
  | .inl _, some (.frz o (.tup xs)) => some (.frz o (.tup xs))
  | .inl _, _ => none
theorem tupsT_same {G : Gp} : SameG (tupsT G) G := fun a o h => by
  unfold tupsT at h
  split at h
  · exact h
  · rename_i e; rw [e]; exact h
  · cases h
mutual
theorem nk_immutR : ∀ k : NestedKey, immutR k.data = true
  | .none => by simp [NestedKey.data, immutR]
  | .num _ => by simp [NestedKey.data, immutR]
  | .text _ => by simp [NestedKey.data, immutR]
  | .tup ks => by simp only [NestedKey.data, immutR]; exact nk_immutRs ks
theorem nk_immutRs : ∀ ks : List NestedKey, immutRL (NestedKey.datas ks) = true
  | [] => by simp [NestedKey.datas, immutRL]
  | k :: ks => by simp [NestedKey.datas, immutRL, nk_immutR k, nk_immutRs ks]
end
section
variable {K : KW} {G G' : Gp} {H H' : Hp}
theorem sqP_cutR (s : SameG (tupsT G) G') {a : Addr} {xs : List V} (h : SqP K G a xs) : SqP K G' a xs := by
  rcases h with ⟨o, h, q⟩ | h
  · exact .inl ⟨o, s _ _ (by unfold tupsT; rw [h]), q⟩
  · exact .inr h
mutual
theorem Rep.cutR (s : SameG (tupsT G) G') : ∀ {v : V} {d : D}, Rep K G v d → immutR d = true → Rep K G' v d
  | _, _, .non, _ => .non
  | _, _, .bl b, _ => .bl b
  | _, _, .int i, _ => .int i
  | _, _, .str x, _ => .str x
  | _, _, .tup h r, e => .tup (sqP_cutR s h) (RepL.cutR s r (by simpa [immutR] using e))
  | _, _, .lst h r, e => by simp [immutR] at e
  | _, _, .dk h r, e => by
    exfalso
    simp only [immutR] at e
    obtain ⟨x, hx⟩ := rfB_is e
    have := isRf_d r
    cases hx
    cases this
  | _, _, .rf h, _ => .rf (s _ _ h)
  | _, _, .sto _ _, e => by simp [stD, immutR, rfB] at e
theorem RepL.cutR (s : SameG (tupsT G) G') : ∀ {v : List V} {d : List D}, RepL K G v d → immutRL d = true → RepL K G' v d
  | _, _, .nil, _ => .nil
  | _, _, .cons h r, e => by
    simp only [immutRL, Bool.and_eq_true] at e
    exact .cons (Rep.cutR s h e.1) (RepL.cutR s r e.2)
end
theorem RepK.cutR (s : SameG (tupsT G) G') : ∀ {v : List (Key × V)} {d : List (D × D)}, RepK K G v d → imRK d = true → RepK K G' v d
  | _, _, .nil, _ => .nil
  | _, _, .cons h r, e => by
    simp only [imRK, Bool.and_eq_true] at e
    exact .cons (h.cutR s e.1) (RepK.cutR s r e.2)
theorem RepN.cutR (s : SameG (tupsT G) G') : ∀ {v : List (NestedKey × Addr × V)} {d : List (D × D)}, RepN K G v d → imRK d = true → RepN K G' v d
  | _, _, .nil, _ => .nil
  | _, _, .cons hk hd h r, e => by
    simp only [imRK, Bool.and_eq_true] at e
    exact .cons (hk.cutR s (nk_immutR _)) hd (h.cutR s e.1) (RepN.cutR s r e.2)
theorem DcR.cutR (s : SameG (tupsT G) G') {a : Addr} {u : HO} {d : List (D × D)} (h : DcR K G a u d) (e : imRK d = true) : DcR K G' a u d := by
  cases h with
  | k r => exact .k (r.cutR s e)
  | n r => exact .n (r.cutR s e)
theorem immut_R : ∀ {d : D}, immut d = true → immutR d = true := by
  have key : ∀ n : Nat, ∀ d : D, sizeOf d < n → immut d = true → immutR d = true := by
    intro n
    induction n with
    | zero => intro d h; omega
    | succ n ih =>
      intro d hn h
      cases d with
      | tuple xs =>
        simp only [immut] at h
        simp only [immutR]
        have : ∀ ys : List D, sizeOf ys < n → immutL ys = true → immutRL ys = true := by
          intro ys
          induction ys with
          | nil => intro _ _; simp [immutRL]
          | cons y ys ih2 =>
            intro hs h
            simp only [immutL, Bool.and_eq_true] at h
            simp only [immutRL, Bool.and_eq_true]
            simp only [List.cons.sizeOf_spec] at hs
            exact ⟨ih y (by omega) h.1, ih2 (by omega) h.2⟩
        simp only [PyData.tuple.sizeOf_spec] at hn
        exact this xs (by omega) h
      | list _ => simp [immut] at h
      | dict _ => simp [immut] at h
      | _ => simp [immutR]
  exact fun {d} h => key (sizeOf d + 1) d (Nat.lt_succ_self _) h
mutual
theorem Own.cutR (s : SameG (tupsT G) G') : ∀ {n : Nat} {v : V} {d : D} {L : List Addr}, n < 200 → Own K H G n v d L → imR n d = true → (∀ a ∈ L, H' a = H a ∧ G' a = none) → Own K H' G' n v d L
  | _, _, d, _, hn, .rep r, e, _ => .rep (r.cutR s (by unfold imR at e; exact e))
  | _, _, _, _, hn, .imm e' r, e, _ => .imm e' (r.cutR s (immut_R e'))
  | _, _, _, _, hn, .lst h g r, e, k => .lst (by rw [(k _ List.mem_cons_self).1]; exact h) (k _ List.mem_cons_self).2 (OwnL.cutR s (by omega) r (by unfold imR at e; exact e) fun a m => k a (List.mem_cons_of_mem _ m))
  | _, _, _, _, hn, .tup h r, e, k => .tup (sqP_cutR s h) (OwnL.cutR s hn r (by unfold imR at e; exact e) k)
  | _, _, _, _, hn, .st h, e, k => absurd hn (by decide)
  | _, _, _, _, hn, .dk h g r, e, k => .dk (by rw [(k _ List.mem_cons_self).1]; exact h) (k _ List.mem_cons_self).2 (r.cutR s (by unfold imR at e; rw [if_pos rfl] at e; exact e))
  | _, _, _, _, hn, .bd h g r, e, k => by
    unfold imR at e
    rw [if_neg (by decide)] at e
    cases r with
    | e => cases e
    | b r => cases r with
      | nil => cases e
      | cons _ r => cases r <;> cases e
theorem OwnL.cutR (s : SameG (tupsT G) G') : ∀ {n : Nat} {v : List V} {d : List D} {L : List Addr}, n < 200 → OwnL K H G n v d L → imRL n d = true → (∀ a ∈ L, H' a = H a ∧ G' a = none) → OwnL K H' G' n v d L
  | _, _, _, _, _, .nil, _, _ => .nil
  | _, _, _, _, hn, .cons h r, e, k => by
    unfold imRL at e
    rw [Bool.and_eq_true] at e
    exact .cons (Own.cutR s hn h e.1 fun a m => k a (List.mem_append_left _ m)) (OwnL.cutR s hn r e.2 fun a m => k a (List.mem_append_right _ m))
end
end
end VL
set_option Elab.async false
set_option linter.all false
set_option maxRecDepth 100000
set_option maxHeartbeats 1000000
/-! VT1: the tracked things lent, at the state. -/
namespace VL
open PySem L2
section
variable {K : KW} {O : Gh} {Γ Δ : Ctx} {H H' : Hp} {G G' : Gp} {σ : St} {env : List D} {L : Nat → List Addr} {n g : Nat} {v : V} {d : D} {objs : List D} {as : List Addr} {od : Addr → Obj}
/-- the tracked things, their places known -/
structure StA (K : KW) (H : Hp) (G : Gp) (L : List Addr) (as : List Addr) (objs : List D) : Prop where
  len : as.length = objs.length
  tag : ∀ x a, as[x]? = some a ↔ G (.inr a) = some (.own x)
  own : ∀ (a : Addr) u, G (.inr a) = some u → ∃ x, u = .own x
  at_ : ∀ (x : Nat) a o, as[x]? = some a → objs[x]? = some o → a ∈ L ∧ ObjR K H G L a o
  ob : ∀ a ∈ L, G a = none ∧ (H a).isSome = true ∧ (∀ xs, H a ≠ some (.tup xs)) ∧ HK a (H a) ∧ ∀ o u, H a ≠ some (.frz o u)
theorem StO.sta {L : List Addr} (h : StO K H G L objs) : ∃ as, StA K H G L as objs := by
  obtain ⟨as, h1, h2, h3, h4⟩ := h.tags
  exact ⟨as, h1, h2, h3, h4, h.ob⟩
theorem StA.sto {L : List Addr} (h : StA K H G L as objs) : StO K H G L objs := ⟨⟨as, h.len, h.tag, h.own, h.at_⟩, h.ob⟩
theorem StA.inj {L : List Addr} (h : StA K H G L as objs) {x y : Nat} {a : Addr} (h1 : as[x]? = some a) (h2 : as[y]? = some a) : x = y := by
  have e1 := (h.tag x a).mp h1
  have e2 := (h.tag y a).mp h2
  rw [e1] at e2
  cases e2; rfl
/-- what stands at a dict's place -/
theorem StA.dc {L : List Addr} (h : StA K H G L as objs) {a : Addr} (m : a ∈ dcs as objs) : ∃ u ds, a ∈ L ∧ H a = some u ∧ DcR K G a u ds := by
  obtain ⟨x, kvs, e1, e2⟩ := dcs_mem m
  obtain ⟨hL, r⟩ := h.at_ x a _ e1 e2
  cases r with
  | dct h r => exact ⟨_, _, hL, h, r⟩
/-- the slot of the tracked things -/
theorem own_st {L : List Addr} (o : Own K H G 200 v (stD objs) L) : v = .int 0 ∧ ∃ as, StA K H G L as objs := by
  generalize hd : stD objs = d at o
  cases o with
  | imm e r => subst hd; simp [stD, immut] at e
  | @st _ objs' h =>
    have : objs = objs' := by
      unfold stD at hd
      simp only [PyData.dict.injEq, List.cons.injEq, Prod.mk.injEq, PyData.list.injEq, and_true, true_and] at hd
      exact hd
    subst this
    exact ⟨rfl, h.sta⟩
  | lst _ _ _ => cases hd
  | tup _ _ => cases hd
theorem StR.store (S : StR K O Γ H G σ env L) (hg : Γ[g]? = some (.io 200)) (he : env[g]? = some (stD objs)) : ∃ as, σ[g]? = some (some (.int 0)) ∧ StA K H G (L g) as objs := by
  obtain ⟨v, d, e1, e2, o⟩ := S.slot g 200 ⟨_, hg, rfl⟩
  rw [he] at e2; cases e2
  obtain ⟨rfl, as, h⟩ := own_st o
  exact ⟨as, e1, h⟩
/-- the dicts of the store, locked: nothing else is touched -/
theorem frz_off (S : StR K O Γ H G σ env L) (hg : Γ[g]? = some (.io 200)) (A : StA K H G (L g) as objs) {i m : Nat} (hi : At Γ i m) (ne : i ≠ g) : ∀ a ∈ L i, frzH H od (dcs as objs) a = H a := fun a ha => frzH_out fun hm => by
  obtain ⟨u, ds, hl, _, _⟩ := A.dc hm
  exact S.dj i g m 200 hi ⟨_, hg, rfl⟩ ne a ha hl
theorem frz_sh (S : StR K O Γ H G σ env L) (A : StA K H G (L g) as objs) : Sh G (frzH H od (dcs as objs)) := fun a o e => by
  rw [frzH_out]
  · exact S.gh a o e
  · intro hm
    obtain ⟨u, ds, hl, _, _⟩ := A.dc hm
    rw [(A.ob a hl).1] at e; cases e
theorem frz_tabs (S : StR K O Γ H G σ env L) (A : StA K H G (L g) as objs) : LamX.Tabs (tabsOf K.fr) (frzH H od (dcs as objs)) := fun q m => by
  obtain ⟨ps, h1, h2, h3⟩ := S.pres.tab q m
  have off : ∀ a u, H a = some u → ¬ HK a (some u) → frzH H od (dcs as objs) a = some u := fun a u e k => by
    rw [frzH_out]
    · exact e
    · intro hm
      obtain ⟨u', ds, hl, e', r⟩ := A.dc hm
      rw [e] at e'; cases e'
      exact k r.hk
  refine ⟨ps, off _ _ h1 fun k => k.1 ps rfl, h2, fun pos cv hc => ?_⟩
  obtain ⟨c, e1, e2⟩ := h3 pos cv hc
  exact ⟨c, e1, off _ _ e2 fun k => k.2 _ rfl⟩
theorem StR.lendS (S : StR K O Γ H G σ env L) (hb : ldB Γ Δ g = true) (he : env[g]? = some (stD objs)) (A : StA K H G (L g) as objs) (hv : σ[g]? = some (some (.int 0))) :
    StR K ⟨nt K (frzH H od (dcs as objs)), shw G (frzH H od (dcs as objs)) (bwL Δ L), [], fun _ => none, false⟩ Δ (frzH H od (dcs as objs)) (shw G (frzH H od (dcs as objs)) (bwL Δ L)) σ env (fun _ => []) := by
  obtain ⟨hg, hΔ, hbw⟩ := ldB_iff hb
  have sh1 : Sh G (frzH H od (dcs as objs)) := frz_sh S A
  have gL : ∀ a ∈ L g, a ∈ bwL Δ L := fun a ha => mem_bwL.mpr ⟨g, hΔ, ha⟩
  have z : ∀ i m, At Δ i m → m = 0 ∧ Δ[i]? = some (.ow 0) ∧ (i = g ∨ ∃ n, At Γ i n ∧ n < 100 ∧ i ≠ g) := fun i m ⟨k, e1, e2⟩ => by
    by_cases hi : i = g
    · subst hi
      rw [hΔ] at e1; cases e1; cases e2
      exact ⟨rfl, hΔ, .inl rfl⟩
    · rcases ldB_get hb hi e1 with rfl | ⟨rfl, n, hn, hl⟩
      · cases e2
      · cases e2; exact ⟨rfl, e1, .inr ⟨n, hn, hl, hi⟩⟩
  have hkM : ∀ a ∈ bwL Δ L, HK a (frzH H od (dcs as objs) a) := fun a ha => by
    obtain ⟨i, e, hl⟩ := mem_bwL.mp ha
    by_cases hm : a ∈ dcs as objs
    · obtain ⟨u, ds, _, e', _⟩ := A.dc hm
      rw [frzH_in hm e']; exact .frz
    · rw [frzH_out hm]
      obtain ⟨_, _, y⟩ := z i 0 ⟨_, e, rfl⟩
      rcases y with rfl | ⟨n, hn, _, _⟩
      · exact (A.ob a hl).2.2.2.1
      · obtain ⟨_, _, _, _, o⟩ := S.slot i n hn
        exact o.hk a hl
  refine ⟨shw_h sh1, S.ls, ?_, fun i m hi => ?_, fun _ _ _ => List.nodup_nil, fun _ _ _ _ _ _ _ a m => (by cases m), fun _ _ _ a m => (by cases m), ?_, fun a o e => .inl (by show (shw G _ _ (.inl a)).isSome = true; rw [e]; rfl), fun i m e => ?_⟩
  · have := bwB_len hbw
    rw [List.length_set] at this
    exact this.trans S.lg
  · obtain ⟨rfl, e0, y⟩ := z i m hi
    rcases y with rfl | ⟨n, hn, hl, ne⟩
    · refine ⟨.int 0, stD objs, hv, he, .rep (.sto (as := as) (fun x a e => (shw_nt a).trans ((A.tag x a).mp e)) (repOL_of A.len fun x a o e1 e2 => ?_))⟩
      obtain ⟨hL, r⟩ := A.at_ x a o e1 e2
      have at1 : shw G (frzH H od (dcs as objs)) (bwL Δ L) (.inl a) = frzH H od (dcs as objs) a := shw_at (gL a hL) (A.ob a hL).1
      have out : (∀ kvs, o ≠ .dict kvs) → frzH H od (dcs as objs) a = H a := fun nd => frzH_out fun hm => by
        obtain ⟨y, kvs, y1, y2⟩ := dcs_mem hm
        have := A.inj e1 y1
        subst this
        rw [e2] at y2; cases y2
        exact nd kvs rfl
      cases r with
      | lst h r => exact .lst (by rw [at1, out (fun _ z => by cases z)]; exact h) (r.mono shw_l)
      | dct h r =>
        refine .dk (o := od a) ?_ (r.mono shw_l)
        rw [at1, frzH_in (dcs_in e1 e2) h]
      | @ins _ dx _ _ _ hc h hd hx r =>
        have hdx : frzH H od (dcs as objs) dx = H dx := frzH_out fun hm => by
          obtain ⟨u, ds', _, e', r'⟩ := A.dc hm
          rcases hx with q | q
          · rw [q] at e'; cases e'; cases r'
          · rw [q] at e'; cases e'; cases r'
        have at2 : shw G (frzH H od (dcs as objs)) (bwL Δ L) (.inl dx) = frzH H od (dcs as objs) dx := shw_at (gL dx hd) (A.ob dx hd).1
        have at3 : shw G (frzH H od (dcs as objs)) (bwL Δ L) (.inl a) = H a := at1.trans (out fun _ z => by cases z)
        refine RepO.ins (dx := dx) hc ?_ (r.mono shw_l)
        rcases h with ⟨h1, h2⟩ | ⟨h1, h2⟩
        · exact .inl ⟨at3.trans h1, h2⟩
        · exact .inr ⟨at3.trans h1, (at2.trans hdx).trans h2⟩
    · obtain ⟨v', d', e1, e2, o⟩ := S.slot i n hn
      have o' : Own K (frzH H od (dcs as objs)) G n v' d' (L i) := o.mono (fun _ _ e => e) (.inr (NT.refl _)) fun a ha => ⟨frz_off S hg A hn ne a ha, (o.objs a ha).1⟩
      exact ⟨v', d', e1, e2, .rep (Own.read sh1 hl o' fun a ha => mem_bwL.mpr ⟨i, e0, ha⟩)⟩
  · have P : PresR K ⟨nt K (frzH H od (dcs as objs)), G, [], fun _ => none, false⟩ (frzH H od (dcs as objs)) G := ⟨fun b o e _ => nt_some e, frz_tabs S A, S.pres.tg, fun p m => nt_at m, fun _ => NT.refl _, S.pres.tgu⟩
    exact (P.shw hkM).reg
  · obtain ⟨_, e0, _⟩ := z i m ⟨_, e, rfl⟩
    rw [e] at e0; cases e0
/-- behind it all is as it was -/
theorem StR.backS {env1 : List D} {L1 : Nat → List Addr} {Gb : Gp} (S : StR K O Γ H G σ env L) (hb : ldB Γ Δ g = true) (A : StA K H G (L g) as objs)
    (S1 : StR K ⟨nt K (frzH H od (dcs as objs)), shw G (frzH H od (dcs as objs)) (bwL Δ L), [], fun _ => none, false⟩ Δ H' Gb σ env1 L1) (hs : SameG (shw G (frzH H od (dcs as objs)) (bwL Δ L)) Gb)
    (hv : VR K ⟨nt K (frzH H od (dcs as objs)), shw G (frzH H od (dcs as objs)) (bwL Δ L), [], fun _ => none, false⟩ Δ H' Gb L1 n v d) (hi : imR n d = true) (hn : n < 200) :
    (∀ a ∈ dcs as objs, ∃ u, H a = some u ∧ Mut (some u) ∧ H' a = some (.frz (od a) u)) ∧ ∃ G', SameG G G' ∧ StR K O Γ (thwH H H' (dcs as objs)) G' σ env L ∧ VR K O Γ (thwH H H' (dcs as objs)) G' L n v d ∧ NT G G' ∧ ∀ p : Addr, Gb (.inl p) = none → G' (.inl p) = none := by
  obtain ⟨hg, hΔ, hbw⟩ := ldB_iff hb
  have sh1 : Sh G (frzH H od (dcs as objs)) := frz_sh S A
  have gL : ∀ a ∈ L g, a ∈ bwL Δ L := fun a ha => mem_bwL.mpr ⟨g, hΔ, ha⟩
  have P0 : ∀ p ∈ tabsOf K.fr, ∃ ps, frzH H od (dcs as objs) p.1 = some (.tbl ps) := fun p m => by
    obtain ⟨ps, h, _⟩ := frz_tabs (od := od) S A p m
    exact ⟨ps, h⟩
  have nt1 : ∀ b o, frzH H od (dcs as objs) b = some o → HK b (some o) → nt K (frzH H od (dcs as objs)) b = some o := fun b o e k => by
    unfold nt
    rw [if_neg]
    · exact e
    · intro z
      obtain ⟨p, m, e2⟩ := List.mem_map.mp z
      obtain ⟨ps, e3⟩ := P0 p m
      rw [e2, e] at e3; cases e3
      exact k.1 ps rfl
  have hh : ∀ b o, frzH H od (dcs as objs) b = some o → HK b (some o) → H' b = some o := fun b o e k => S1.pres b o (nt1 b o e k) (by simp)
  have h2 : ∀ b o, H b = some o → HK b (some o) → thwH H H' (dcs as objs) b = some o := fun b o e k => by
    by_cases hm : b ∈ dcs as objs
    · rw [thwH_in hm]; exact e
    · rw [thwH_out hm]; exact hh b o (by rw [frzH_out hm]; exact e) k
  have inM : ∀ a, a ∈ bwL Δ L → G a = none ∧ (H a).isSome = true ∧ HK a (H a) ∧ (∀ o xs, H a ≠ some (.frz o (.tup xs))) := fun a ha => by
    obtain ⟨i, e, hl⟩ := mem_bwL.mp ha
    by_cases hi : i = g
    · subst hi
      obtain ⟨q1, q2, q3, q4, q5⟩ := A.ob a hl
      exact ⟨q1, q2, q4, fun o xs z => q5 o _ z⟩
    · rcases ldB_get hb hi e with z | ⟨_, n, hn, hl2⟩
      · cases z
      · obtain ⟨_, _, _, _, o⟩ := S.slot i n hn
        refine ⟨(o.objs a hl).1, (o.objs a hl).2.1, o.hk a hl, fun o' xs z => ?_⟩
        have := o.notT (by omega) a hl
        unfold tupsH at this
        rw [z] at this; cases this
  have gnew : ∀ (a : Addr) o, Gb a = some o → a ∉ bwL Δ L → G a = none → H a = none := fun a o e hm hg' => by
    rcases S1.gn a o e with q | q | q
    · change (shw G (frzH H od (dcs as objs)) (bwL Δ L) a).isSome = true at q
      rw [shw_not hm, hg'] at q; cases q
    · rcases nt_none q with z | ⟨p, m, rfl⟩
      · exact frzH_none.mp z
      · rw [S1.pres.tg p m] at e; cases e
    · cases q
  let G2 : Gp := fun a => match a with
    | .inl a => if a ∈ bwL Δ L then none else Gb a
    | .inr a => Gb (.inr a)
  have g2n : ∀ a : Addr, a ∈ bwL Δ L → G2 a = none := fun a h => by show (if _ then _ else _) = _; rw [if_pos h]
  have g2y : ∀ a : Addr, a ∉ bwL Δ L → G2 a = Gb a := fun a h => by show (if _ then _ else _) = _; rw [if_neg h]
  have ntb : NT G G2 := (shw_nt (H := frzH H od (dcs as objs)) (L := bwL Δ L)).trans (S1.pres.ntg rfl)
  have gg : SameG G G2 := fun x o e => by
    rcases x with a | b
    rotate_left
    · exact hs _ _ (shw_l _ _ e)
    have hm : a ∉ bwL Δ L := fun h => by rw [(inM a h).1] at e; cases e
    rw [g2y a hm]
    exact hs _ _ (shw_l _ _ e)
  have inDc : ∀ a, a ∈ dcs as objs → a ∈ bwL Δ L := fun a hm => by
    obtain ⟨_, _, hl, _⟩ := A.dc hm
    exact gL a hl
  have gh2 : Sh G2 (thwH H H' (dcs as objs)) := fun a o e => by
    by_cases hm : a ∈ bwL Δ L
    · rw [g2n a hm] at e; cases e
    · rw [g2y a hm] at e
      rw [thwH_out fun z => hm (inDc a z)]
      exact S1.gh _ _ e
  have hk : ∀ a, (H a).isSome = true → HK a (H a) → thwH H H' (dcs as objs) a = H a := fun a e k => by
    cases q : H a with
    | none => rw [q] at e; cases e
    | some o => rw [h2 _ _ q (by rw [← q]; exact k)]
  have hid : ∀ i m, At Γ i m → ∀ a ∈ L i, G2 a = none := fun i m hi a ha => by
    obtain ⟨_, _, _, _, o⟩ := S.slot i m hi
    by_cases hm : a ∈ bwL Δ L
    · exact g2n a hm
    · rw [g2y a hm]
      cases q : Gb a with
      | none => rfl
      | some u =>
        have z := gnew a u q hm (o.objs a ha).1
        have y := (o.objs a ha).2.1
        rw [z] at y; cases y
  obtain ⟨M, om, nd, ow, _⟩ := hv
  have mfr : ∀ a ∈ M, H a = none := fun a ha => by
    rcases ow a ha with q | q
    · rcases nt_none q with z | ⟨p, m, e⟩
      · exact frzH_none.mp z
      · exact absurd e (S1.pres.off (om.hk a ha) m)
    · cases q
  refine ⟨fun a hm => ?_, G2, gg, ⟨gh2, S.ls, S.lg, fun i m hi => ?_, S.nd, S.dj, S.new, ?_, fun a o e => ?_, S.io⟩, ⟨M, ?_, nd, fun a ha => ?_, fun i m hi a ha hl => ?_⟩, ntb, fun p e => by
    show (if _ then _ else _) = _
    split
    · rfl
    · exact e⟩
  · obtain ⟨u, ds, hl, e, r⟩ := A.dc hm
    exact ⟨u, e, r.mut, hh a _ (frzH_in hm e) .frz⟩
  · obtain ⟨v', d', e1, e2, o⟩ := S.slot i m hi
    exact ⟨v', d', e1, e2, o.mono gg (.inr ntb) fun a ha => ⟨hk a (o.objs a ha).2.1 (o.hk a ha), hid i m hi a ha⟩⟩
  · refine ⟨fun b o e hb => ?_, fun p m => ?_, fun p m => ?_, S.pres.to, fun z => (S.pres.ntg z).trans ntb, fun a b x e1 e2 => S.pres.tgu a b x ((ntb a).symm.trans e1) ((ntb b).symm.trans e2)⟩
    · have e0 := S.pres b o e hb
      by_cases hm : b ∈ dcs as objs
      · rw [thwH_in hm]; exact e0
      · rw [thwH_out hm]
        refine S1.pres b o ?_ (by simp)
        show nt K (frzH H od (dcs as objs)) b = some o
        unfold nt
        rw [if_neg]
        · rw [frzH_out hm]; exact e0
        · intro z
          obtain ⟨p, m, rfl⟩ := List.mem_map.mp z
          rw [S.pres.to p m] at e; cases e
    · obtain ⟨ps, t1, t2, t3⟩ := S1.pres.tab p m
      have off : ∀ a u, H' a = some u → ¬ HK a (some u) → thwH H H' (dcs as objs) a = some u := fun a u e k => by
        rw [thwH_out]
        · exact e
        · intro hm
          obtain ⟨u', ds, hl, e', r⟩ := A.dc hm
          have := hh a _ (frzH_in hm e') .frz
          rw [e] at this; cases this
          exact k .frz
      refine ⟨ps, off _ _ t1 fun k => k.1 ps rfl, t2, fun pos cv hc => ?_⟩
      obtain ⟨c, y1, y2⟩ := t3 pos cv hc
      exact ⟨c, y1, off _ _ y2 fun k => k.2 _ rfl⟩
    · by_cases hm : p.1 ∈ bwL Δ L
      · exact g2n _ hm
      · rw [g2y _ hm]; exact S1.pres.tg p m
  · by_cases hm : a ∈ bwL Δ L
    · rw [g2n a hm] at e; cases e
    · rw [g2y a hm] at e
      cases q : G a with
      | some u => exact S.gn a u q
      | none =>
        have z := gnew a o e hm q
        cases r : O.H0 a with
        | none => exact .inr (.inl r)
        | some u =>
          by_cases hA : a ∈ O.A
          · exact .inr (.inr hA)
          · rw [S.pres a u r hA] at z; cases z
  · refine om.cutR (fun x o e => ?_) hn hi fun a ha => ⟨?_, ?_⟩
    · rcases x with a | b
      rotate_left
      · exact tupsT_same _ _ e
      have e' : Gb (.inl a) = some o := tupsT_same _ _ e
      by_cases hm : a ∈ bwL Δ L
      · exfalso
        obtain ⟨_, q2, q3, q4⟩ := inM a hm
        unfold tupsT at e
        simp only [e'] at e
        have eH := S1.gh _ _ e'
        cases hH : H a with
        | none => rw [hH] at q2; cases q2
        | some u =>
          by_cases hd : a ∈ dcs as objs
          · have := hh a _ (frzH_in hd hH) .frz
            rw [eH] at this; cases this
            split at e
            · rename_i y; cases y
            · rename_i o' xs _ y
              cases y
              obtain ⟨_, _, _, e9, r9⟩ := A.dc hd
              rw [hH] at e9; cases e9
              exact r9.notT.1 xs rfl
            · cases e
          · have := hh a u (by rw [frzH_out hd]; exact hH) (by rw [← hH]; exact q3)
            rw [eH] at this; cases this
            split at e
            · rename_i y; cases y
            · rename_i o' xs _ y
              cases y
              exact q4 _ _ hH
            · cases e
      · rw [g2y a hm]; exact e'
    · rw [thwH_out]
      intro hm
      obtain ⟨u, ds, hl, e, _⟩ := A.dc hm
      rw [mfr a ha] at e; cases e
    · have hm : a ∉ bwL Δ L := fun h => by have := (inM a h).2.1; rw [mfr a ha] at this; cases this
      rw [g2y a hm]
      exact (om.objs a ha).1
  · cases r : O.H0 a with
    | none => exact .inl r
    | some u =>
      by_cases hA : a ∈ O.A
      · exact .inr hA
      · have z := mfr a ha
        rw [S.pres a u r hA] at z; cases z
  · obtain ⟨_, _, _, _, o⟩ := S.slot i m hi
    have y := (o.objs a hl).2.1
    rw [mfr a ha] at y; cases y
end
end VL
set_option Elab.async false
set_option linter.all false
set_option maxRecDepth 100000
set_option maxHeartbeats 1000000
/-! VT2: expressions and tests while the tracked things are lent; reading them there. -/
namespace VL
open PySem L2
/-- g is the slot of the tracked things -/
def eLend (g n : Nat) (f : Ex) : Ex := fun env => match env[g]? with
  | some (.dict [(.tuple [.list [.bool true]], .list _)]) => (f env).bind fun p => if imR n p.1 = true then some (p.1, env) else none
  | _ => none
def bLend (g : Nat) (f : Bx) : Bx := fun env => match env[g]? with
  | some (.dict [(.tuple [.list [.bool true]], .list _)]) => (f env).map fun p => (p.1, env)
  | _ => none
section
variable {X : Cx} {Γ Δ : Ctx} {a b c : Expr} {pos : Pos} {f fa fb : Ex} {n g : Nat}
theorem eLend_some {env env2 : List D} {r : D} (e : eLend g n f env = some (r, env2)) : ∃ objs env1, env[g]? = some (stD objs) ∧ f env = some (r, env1) ∧ imR n r = true ∧ env2 = env := by
  unfold eLend at e
  split at e
  · rename_i objs he
    cases q : f env with
    | none => rw [q] at e; cases e
    | some p =>
      rw [q] at e
      simp only [Option.bind_some] at e
      split at e
      · rename_i hi
        simp only [Option.some.injEq, Prod.mk.injEq] at e
        obtain ⟨rfl, rfl⟩ := e
        exact ⟨objs, p.2, he, rfl, hi, rfl⟩
      · cases e
  · cases e
theorem bLend_some {f : Bx} {env env2 : List D} {r : Bool} (e : bLend g f env = some (r, env2)) : ∃ objs env1, env[g]? = some (stD objs) ∧ f env = some (r, env1) ∧ env2 = env := by
  unfold bLend at e
  split at e
  · rename_i objs he
    cases q : f env with
    | none => rw [q] at e; cases e
    | some p =>
      rw [q] at e
      simp only [Option.map_some, Option.some.injEq, Prod.mk.injEq] at e
      obtain ⟨rfl, rfl⟩ := e
      exact ⟨objs, p.2, he, rfl, rfl⟩
  · cases e
/-- an expression that only reads the tracked things -/
theorem m_lend (g : Nat) (Δ : Ctx) (h : PE X a (tM X.kw Δ f n)) (hb : ldB Γ Δ g = true := by rfl) (hn : n < 200 := by decide) : PE X a (tM X.kw Γ (eLend g n f) n) := ⟨fun pins s σ H Q I ⟨O, G, env, L, r, env2, S, e, k⟩ => by
  obtain ⟨objs, env1, he, e1, e2, rfl⟩ := eLend_some e
  obtain ⟨as, hv, A⟩ := S.store (ldB_iff hb).1 he
  have hl : ∀ a ∈ dcs as objs, ∃ u, H a = some u ∧ Mut (some u) := fun a m => by
    obtain ⟨u, ds, _, h1, h2⟩ := A.dc m
    exact ⟨u, h1, h2.mut⟩
  obtain ⟨od, I1⟩ := lock_all I (dcs as objs) hl
  have := h.run pins s σ _ (fun v H' => (∀ a ∈ dcs as objs, ∃ u, H a = some u ∧ Mut (some u) ∧ H' a = some (.frz (od a) u)) ∧ Q v (thwH H H' (dcs as objs))) I1 ⟨_, _, env2, _, r, env1, S.lendS hb he A hv, e1, fun v H1 G1 L1 S1 s1 v1 => by
    obtain ⟨q1, G2, gg, S2, v2, _⟩ := S.backS hb A S1 s1 v1 e2 hn
    exact ⟨q1, k v _ G2 L S2 gg v2⟩⟩
  exact thn this fun u s1 ⟨v, H1, I2, rv, q1, q2⟩ => ⟨v, _, unlock_all od _ I2 fun a m => by
    obtain ⟨w, y1, y2, y3⟩ := q1 a m
    exact ⟨w, y1, I.nofrz y1 y2, y3⟩, rv, q2⟩⟩
theorem b_lend (g : Nat) (Δ : Ctx) {f : Bx} (h : PT X a (tMT X.kw Δ f)) (hb : ldB Γ Δ g = true := by rfl) : PT X a (tMT X.kw Γ (bLend g f)) := ⟨fun pins s σ H Q I ⟨O, G, env, L, r, env2, S, e, k⟩ => by
  obtain ⟨objs, env1, he, e1, rfl⟩ := bLend_some e
  obtain ⟨as, hv, A⟩ := S.store (ldB_iff hb).1 he
  have hl : ∀ a ∈ dcs as objs, ∃ u, H a = some u ∧ Mut (some u) := fun a m => by
    obtain ⟨u, ds, _, h1, h2⟩ := A.dc m
    exact ⟨u, h1, h2.mut⟩
  obtain ⟨od, I1⟩ := lock_all I (dcs as objs) hl
  have := h.run pins s σ _ (fun v H' => (∀ a ∈ dcs as objs, ∃ u, H a = some u ∧ Mut (some u) ∧ H' a = some (.frz (od a) u)) ∧ Q v (thwH H H' (dcs as objs))) I1 ⟨_, _, env2, _, r, env1, S.lendS hb he A hv, e1, fun H1 G1 L1 S1 s1 => by
    obtain ⟨q1, G2, gg, S2, _, _⟩ := S.backS (n := 0) (v := .non) (d := .none) hb A S1 s1 (.of_rep .non) rfl (by decide)
    exact ⟨q1, k _ G2 L S2 gg⟩⟩
  exact thn this fun u s1 ⟨H1, I2, q1, q2⟩ => ⟨_, unlock_all od _ I2 fun a m => by
    obtain ⟨w, y1, y2, y3⟩ := q1 a m
    exact ⟨w, y1, I.nofrz y1 y2, y3⟩, q2⟩⟩
/-! ### reading there -/
/-- the tracked thing that d is the number of; what is no number stands for itself -/
def drf (st d : D) : Option D := match d with
  | .dict [(.tuple [.list []], .int (.ofNat x))] => match st with
    | .dict [(.tuple [.list [.bool true]], .list objs)] => match objs[x]? with
      | some (.list ds) => some (.list ds)
      | some (.dict ds) => some (.dict ds)
      | _ => none
    | _ => none
  | d => some d
theorem sto_at {K : KW} {G : Gp} {objs : List D} {v : V} {x : Nat} {a : Addr} {o : D} (uq : ∀ (a b : Addr) x, G (.inr a) = some (.own x) → G (.inr b) = some (.own x) → a = b) (r : Rep K G v (stD objs)) (h : G (.inr a) = some (.own x)) (e : objs[x]? = some o) : RepO K G a o := by
  generalize hd : stD objs = d at r
  cases r with
  | @sto as objs' ht rs =>
    have : objs = objs' := by
      unfold stD at hd
      simp only [PyData.dict.injEq, List.cons.injEq, Prod.mk.injEq, PyData.list.injEq, and_true, true_and] at hd
      exact hd
    subst this
    obtain ⟨b, h1, h2⟩ := repOL_at rs e
    have := uq a b x h (ht x b h1)
    subst this
    exact h2
  | dk h r =>
    have := isRf_d r
    unfold stD at hd
    cases hd
    cases this
  | _ => cases hd
theorem drf_rep {K : KW} {G : Gp} {v w : V} {d st z : D} (uq : ∀ (a b : Addr) x, G (.inr a) = some (.own x) → G (.inr b) = some (.own x) → a = b) (r : Rep K G v d) (rs : Rep K G w st) (e : drf st d = some z) : Rep K G v z := by
  unfold drf at e
  split at e
  · rename_i x
    split at e
    · rename_i objs
      have rs' : Rep K G w (stD objs) := rs
      cases r with
      | rf h =>
        split at e
        · rename_i ds ho
          cases e
          cases sto_at uq rs' h ho with
          | lst h r => exact .lst h r
        · rename_i ds ho
          cases e
          cases sto_at uq rs' h ho with
          | dk h r => exact .dk h r
        · cases e
      | dk h r =>
        have := isRf_d r
        cases this
    · cases e
  · cases e; exact r
def eDrf (g : Nat) (f : Ex) : Ex := fun env => (f env).bind fun p => (p.2[g]?).bind fun st => (drf st p.1).map fun z => (z, p.2)
theorem m_drf (g : Nat) (h : PE X a (tM X.kw Γ f 0)) (hg : Γ[g]? = some (.ow 0) := by rfl) : PE X a (tM X.kw Γ (eDrf g f) 0) := h.imp fun σ H Q ⟨O, G, env, L, r, env1, S, e, k⟩ => by
  unfold eDrf at e
  cases q : f env with
  | none => rw [q] at e; cases e
  | some p =>
    rw [q] at e
    simp only [Option.bind_some, Option.bind_eq_some_iff, Option.map_eq_some_iff, Prod.mk.injEq] at e
    obtain ⟨st, e1, z, e2, rfl, rfl⟩ := e
    refine ⟨O, G, env, L, p.1, p.2, S, q, fun v H1 G1 L1 S1 s1 v1 => ?_⟩
    obtain ⟨w, d, _, y2, o⟩ := S1.slot g 0 ⟨_, hg, rfl⟩
    rw [e1] at y2; cases y2
    exact k v H1 G1 L1 S1 s1 (.of_rep (drf_rep S1.pres.tgu v1.rep o.zero.2 e2))
end
end VL
set_option Elab.async false
set_option linter.all false
set_option maxRecDepth 100000
set_option maxHeartbeats 1000000
/-! VT3: fields of tracked instances, read while the tracked things are lent. -/
namespace VL
open PySem L2
def isUn : D → Bool
  | .dict [(.tuple [.list [.none]], .none)] => true
  | _ => false
/-- a field of the instance whose number d is: its class c, its slot i -/
def fldD (c : Str) (i : Nat) (st d : D) : Option D := match st, d with
  | .dict [(.tuple [.list [.bool true]], .list objs)], .dict [(.tuple [.list []], .int (.ofNat x))] => match objs[x]? with
    | some (.tuple (.str c' :: ds)) => if c' = c then (ds[i]?).bind fun d => if isUn d = true then none else some d else none
    | _ => none
  | _, _ => none
theorem fldD_some {c : Str} {i : Nat} {st d z : D} (e : fldD c i st d = some z) : ∃ objs x ds, st = stD objs ∧ d = rfD x ∧ objs[x]? = some (.tuple (.str c :: ds)) ∧ ds[i]? = some z ∧ isUn z = false := by
  unfold fldD at e
  split at e
  · rename_i objs x
    split at e
    · rename_i c' ds ho
      split at e
      · rename_i hc
        subst hc
        cases q : ds[i]? with
        | none => rw [q] at e; cases e
        | some w =>
          rw [q] at e
          simp only [Option.bind_some] at e
          split at e
          · cases e
          · rename_i hu
            cases e
            exact ⟨objs, x, ds, rfl, rfl, ho, q, by simpa using hu⟩
      · cases e
    · cases e
  · cases e
section
variable {K : KW} {G : Gp}
theorem FldR.get : ∀ {vs : List (Option V)} {ds : List D} {i : Nat} {d : D}, FldR K G vs ds → ds[i]? = some d → isUn d = false → ∃ v, vs[i]? = some (some v) ∧ Rep K G v d
  | _, _, _, _, .nil, e, _ => by simp at e
  | _, _, 0, _, .cons h _, e, _ => by
    simp only [List.getElem?_cons_zero, Option.some.injEq] at e
    subst e
    exact ⟨_, rfl, h⟩
  | _, _, i + 1, d, .cons _ t, e, u => by
    obtain ⟨v, h1, h2⟩ := FldR.get (i := i) (d := d) t (by simpa using e) u
    exact ⟨v, by simpa using h1, h2⟩
  | _, _, 0, _, .un _, e, u => by
    simp only [List.getElem?_cons_zero, Option.some.injEq] at e
    subst e
    cases u
  | _, _, i + 1, d, .un t, e, u => by
    obtain ⟨v, h1, h2⟩ := FldR.get (i := i) (d := d) t (by simpa using e) u
    exact ⟨v, by simpa using h1, h2⟩
theorem rep_rf {v : V} {x : Nat} (r : Rep K G v (rfD x)) : ∃ a, v = .ref a ∧ G (.inr a) = some (.own x) := by
  generalize hd : rfD x = d at r
  cases r with
  | rf h =>
    unfold rfD at hd
    simp only [PyData.dict.injEq, List.cons.injEq, Prod.mk.injEq, PyData.int.injEq, and_true, true_and] at hd
    have := Int.ofNat.inj hd
    subst this
    exact ⟨_, rfl, h⟩
  | dk h r =>
    have := isRf_d r
    unfold rfD at hd
    cases hd
    cases this
  | sto _ _ => simp [rfD, stD] at hd
  | _ => cases hd
theorem rep_st {v : V} {objs : List D} (r : Rep K G v (stD objs)) : v = .int 0 := by
  generalize hd : stD objs = d at r
  cases r with
  | sto _ _ => rfl
  | rf h => simp [rfD, stD] at hd
  | dk h r =>
    have := isRf_d r
    unfold stD at hd
    cases hd
    cases this
  | _ => cases hd
theorem slt_sh {H : Hp} {a C dx : Addr} {vs : List (Option V)} (s : Sh G H) (h : SlX.Slt G.hp a C dx vs) : SlX.Slt H a C dx vs :=
  h.imp (fun y => ⟨s _ _ y.1, y.2⟩) fun y => ⟨s _ _ y.1, s _ _ y.2⟩
theorem fld_rep {v w : V} {c : Str} {C : Addr} {i : Nat} {st d z : D} (uq : ∀ (a b : Addr) x, G (.inr a) = some (.own x) → G (.inr b) = some (.own x) → a = b) (hc : K.mg c = some (.ref C)) (r : Rep K G v d) (rs : Rep K G w st) (e : fldD c i st d = some z) :
    ∃ a dx vs u, v = .ref a ∧ SlX.Slt G.hp a C dx vs ∧ vs[i]? = some (some u) ∧ Rep K G u z := by
  obtain ⟨objs, x, ds, rfl, rfl, ho, hi, hu⟩ := fldD_some e
  obtain ⟨a, rfl, ht⟩ := rep_rf r
  cases sto_at uq rs ht ho with
  | ins hc' h r =>
    rw [hc] at hc'
    cases hc'
    obtain ⟨u, h1, h2⟩ := r.get hi hu
    exact ⟨a, _, _, u, rfl, h, h1, h2⟩
end
def eFld (g : Nat) (c : Str) (i : Nat) (f : Ex) : Ex := fun env => (f env).bind fun p => (p.2[g]?).bind fun st => (fldD c i st p.1).map fun z => (z, p.2)
section
variable {X : Cx} {Γ : Ctx} {a : Expr} {pos : Pos} {fa : Ex}
theorem m_fld (g : Nat) {c f : Str} {C p : Addr} {i : Nat} (hc : X.mg c = some (.ref C)) (cl : SlX.SCls X.K C) (k : SlX.Slot1 X.K C f p i) (h : PE X a (tM X.kw Γ fa 0)) (hg : Γ[g]? = some (.ow 0) := by rfl) (hb : attributeBase a f X.env (eval a X.env) = eval a X.env := by rfl) : PE X (.Attribute a f pos) (tM X.kw Γ (eFld g c i fa) 0) :=
  (SlX.pe_sl h hb).imp fun σ H Q ⟨O, G, env, L, r, env1, S, e, kk⟩ => by
    unfold eFld at e
    cases q : fa env with
    | none => rw [q] at e; cases e
    | some p =>
      rw [q] at e
      simp only [Option.bind_some, Option.bind_eq_some_iff, Option.map_eq_some_iff, Prod.mk.injEq] at e
      obtain ⟨st, e1, z, e2, rfl, rfl⟩ := e
      refine ⟨O, G, env, L, p.1, p.2, S, q, fun v H1 G1 L1 S1 s1 v1 => ?_⟩
      obtain ⟨w, d, _, y2, o⟩ := S1.slot g 0 ⟨_, hg, rfl⟩
      rw [e1] at y2; cases y2
      obtain ⟨a, dx, vs, u, rfl, sl, hi, ru⟩ := fld_rep S1.pres.tgu hc v1.rep o.zero.2 e2
      exact ⟨a, C, dx, _, vs, _, u, rfl, slt_sh S1.gh sl, cl, k, hi, kk u H1 G1 L1 S1 s1 (.of_rep ru)⟩
end
end VL
set_option Elab.async false
set_option linter.all false
set_option maxRecDepth 100000
set_option maxHeartbeats 1000000
/-! VT4: defs that get the tracked things (behind their parameters, under the name "$", which no text has). -/
namespace VL
open PySem PySem.Spec PyProof.Rows L2
def spS (K : KW) (Δ : Ctx) (n : Nat) (F : List D → Option (D × List D)) : Sp := fun vs H Q E => spM K Δ n F (vs ++ [.int 0]) H Q E
def isSt : Option D → Bool
  | some (.dict [(.tuple [.list [.bool true]], .list _)]) => true
  | _ => false
theorem isSt_is {o : Option D} (h : isSt o = true) : ∃ objs, o = some (stD objs) := by
  unfold isSt at h
  split at h
  · exact ⟨_, rfl⟩
  · cases h
/-- it wants the tracked things as its last -/
def stF (F : List D → Option (D × List D)) : List D → Option (D × List D) := fun ds => if isSt ds.getLast? = true then F ds else none
theorem stF_some {F : List D → Option (D × List D)} {ds : List D} {r : D × List D} (h : stF F ds = some r) : isSt ds.getLast? = true ∧ F ds = some r := by
  unfold stF at h
  split at h
  · rename_i q; exact ⟨q, h⟩
  · cases h
def PFS (P : Program) (w : World) (K : PySem.W.Frag) (mg : Str → Option Value) (base : Heap) (x : Str) (k : Nat) (ps : List Str) (Δ : Ctx) (n : Nat) (F : List D → Option (D × List D)) : Prop :=
  ∃ (f : Addr) (fd : FuncData), FnG P w K mg base CX0 k f fd ps (spS ⟨K, w, mg⟩ Δ n (stF F)) ∧ mg x = some (.ref f) ∧ PySem.W.keepIn K (.ref f) = true ∧ Binds K fd ps []
/-- how the tracked things are handed on: to be changed, or to be read -/
def GA (Γ : Ctx) (g : Nat) (a : Arg) : Prop := (a = .io g ∧ Γ[g]? = some (.io 200)) ∨ (a = .v (eVar g) ∧ Γ[g]? = some (.ow 0))
theorem evArgs_gh {Γ : Ctx} {g : Nat} {ag : Arg} (hg : GA Γ g ag) : ∀ {as : List Arg} {env ds env1 : List D}, evArgs (as ++ [ag]) env = some (ds, env1) → ∃ ds0 d, evArgs as env = some (ds0, env1) ∧ env1[g]? = some d ∧ ds = ds0 ++ [d]
  | [], env, ds, env1, e => by
    rcases hg with ⟨rfl, _⟩ | ⟨rfl, _⟩
    · simp only [List.nil_append, evArgs, Option.bind_some, Option.map_eq_some_iff, Prod.mk.injEq] at e
      obtain ⟨d, h1, rfl, rfl⟩ := e
      exact ⟨[], d, rfl, h1, rfl⟩
    · simp only [List.nil_append, evArgs, eVar, Option.map_some, Option.bind_eq_some_iff, Option.map_eq_some_iff, Option.some.injEq, Prod.mk.injEq] at e
      obtain ⟨p, ⟨d, h1, rfl⟩, rfl, rfl⟩ := e
      exact ⟨[], d, rfl, h1, rfl⟩
  | .v f :: as, env, ds, env1, e => by
    simp only [List.cons_append, evArgs] at e
    cases h1 : f env with
    | none => rw [h1] at e; cases e
    | some p =>
      rw [h1] at e
      simp only [Option.bind_some, Option.map_eq_some_iff, Prod.mk.injEq] at e
      obtain ⟨q, h2, rfl, rfl⟩ := e
      obtain ⟨ds0, d, h3, h4, h5⟩ := evArgs_gh hg h2
      exact ⟨p.1 :: ds0, d, by simp only [evArgs, h1, Option.bind_some, h3, Option.map_some], h4, by rw [h5]; rfl⟩
  | .io i :: as, env, ds, env1, e => by
    simp only [List.cons_append, evArgs, Option.bind_eq_some_iff, Option.map_eq_some_iff, Prod.mk.injEq] at e
    obtain ⟨q, h2, d1, h6, rfl, rfl⟩ := e
    obtain ⟨ds0, d, h3, h4, h5⟩ := evArgs_gh hg h2
    exact ⟨d1 :: ds0, d, by simp only [evArgs, h3, Option.bind_some, h6, Option.map_some], h4, by rw [h5]; rfl⟩
theorem ArgR.append {K : KW} {G : Gp} {σ : L2.St} {env : List D} : ∀ {as bs : List Arg} {vs us : List V} {ds es : List D}, ArgR K G σ env as vs ds → ArgR K G σ env bs us es → ArgR K G σ env (as ++ bs) (vs ++ us) (ds ++ es)
  | _, _, _, _, _, _, .nil, t => t
  | _, _, _, _, _, _, .v h r, t => .v h (ArgR.append r t)
  | _, _, _, _, _, _, .io h h' r, t => .io h h' (ArgR.append r t)
theorem ArgR.gh {K : KW} {O : Gh} {Γ : Ctx} {H : Hp} {G : Gp} {σ : L2.St} {env : List D} {L : Nat → List Addr} {g : Nat} {ag : Arg} {objs : List D} {as : List Arg} {vs : List V} {ds : List D} (S : StR K O Γ H G σ env L) (hg : GA Γ g ag) (he : env[g]? = some (stD objs)) (A : ArgR K G σ env as vs ds) :
    ArgR K G σ env (as ++ [ag]) (vs ++ [.int 0]) (ds ++ [stD objs]) := by
  refine A.append ?_
  rcases hg with ⟨rfl, h⟩ | ⟨rfl, h⟩
  · obtain ⟨as', h1, _⟩ := S.store h he
    exact .io h1 he .nil
  · obtain ⟨v, d, e1, e2, o⟩ := S.slot g 0 ⟨_, h, rfl⟩
    rw [he] at e2; cases e2
    have := rep_st o.zero.2
    subst this
    exact .v o.zero.2 .nil
section
variable {X : Cx} {Γ Δ : Ctx} {k j n : Nat} {ps : List Str} {F : List D → Option (D × List D)} {x : Str} {p pos : Pos} {a : Expr} {es : List Expr} {as : List Arg}
/-- from the arguments that are written to all of them -/
theorem callS_imp {K : KW} {g : Nat} {ag : Arg} (hG : GA Γ g ag) (ok : okA Γ (as ++ [ag]) Δ = true) (os : okSt Γ (as ++ [ag]) Δ = true) {σ : L2.St} {H : Hp} {Q : VK} {E : XK} (h : tM K Γ (eCall (stF F) (as ++ [ag])) n σ H Q) :
    tMG K Γ as σ H fun vs H1 => spS K Δ n (stF F) vs H1 Q E := by
  obtain ⟨O, G, env, L, r, env2, S, e, kk⟩ := h
  obtain ⟨ds, env1, ds', e1, e2, rfl⟩ := eCall_some e
  obtain ⟨ds0, d, e3, e4, rfl⟩ := evArgs_gh hG e1
  obtain ⟨objs, ho⟩ := isSt_is (stF_some e2).1
  rw [List.getLast?_concat] at ho
  cases ho
  refine ⟨O, G, env, L, ds0, env1, S, e3, fun vs H1 G1 L1 S1 s1 A1 => ?_⟩
  have A2 := ArgR.gh S1 hG e4 A1
  refine ⟨G1, ds0 ++ [stD objs], argL (as ++ [ag]) L1, argA (as ++ [ag]) L1, fun j => (vs ++ [.int 0])[j]?, r, ds', S1.enter ok A2, e2, fun v H2 G2 L2 S2 s2 v2 => ?_⟩
  have := S1.leave ok os A2 S2 s2 v2
  exact kk v H2 G2 _ this.1 (s1.trans s2) this.2
theorem m_callS (g : Nat) (ag : Arg) (h : PFS X.prog X.w X.K X.mg X.base x j ps Δ n F) (hG : GA Γ g ag) (hgd : X.A.guards = some []) (hr : Room k X.A) (hj : j ≤ k) (hg : Gl X x)
    (ha : PA X (a :: es) (tMG X.kw Γ as)) (ok : okA Γ (as ++ [ag]) Δ = true := by rfl) (os : okSt Γ (as ++ [ag]) Δ = true := by rfl) (hdb : (x == ("__debug__" : Str)) = false := by decide) (he : starEach (a :: es) X.env = (false, eval a X.env) :: starEach es X.env := by rfl) (hpl : (backTo pos (starEach es X.env)).any (·.1) = false := by rfl) :
    PE X (.Call (.Name x p) (a :: es) [] pos) (tM X.kw Γ (eCall (stF F) (as ++ [ag])) n) := by
  obtain ⟨f, fd, hF, hm, hk, hb⟩ := h
  exact (pe_callG hF hgd (hr.mono hj) hg hm hk hb (E := E0) pass0 ha hdb he hpl).imp fun σ H Q h => callS_imp hG ok os h
end
/-! ### such a def -/
theorem inv_ghost {X : Cx} {pins : List (Addr × Obj)} {σ : L2.St} {H : Hp} {s : Shared} {p : Nat} {x : Str} {v : V} (I : Inv X pins σ H s) (hN : X.N[p]? = some x) (hv : ¬ Vis X.env.scope x) : Inv X pins (σ.set p (some v)) H s := by
  obtain ⟨m, h1, h2⟩ := I.loc
  refine { I with loc := ⟨m, h1, fun i y w e1 e2 e3 => ?_⟩, len := by rw [List.length_set]; exact I.len }
  by_cases hi : i = p
  · subst hi
    rw [hN] at e1
    cases e1
    exact absurd e3 hv
  · rw [List.getElem?_set_ne (Ne.symm hi)] at e2
    exact h2 i y w e1 e2 e3
theorem pss_ghost {X : Cx} {sts : List Stmt} {t : TS} {p : Nat} {x : Str} (v : V) (h : PSs X sts t) (hN : X.N[p]? = some x) (hv : ¬ Vis X.env.scope x) : PSs X sts (fun D σ H => t D (σ.set p (some v)) H) :=
  ⟨fun pins s σ H D I q => h.run pins s _ H D (inv_ghost I hN hv) q⟩
theorem start_ghost {N : List Str} {vs : List V} {v : V} (h : vs.length < N.length) : (L2.start N vs).set vs.length (some v) = L2.start N (vs ++ [v]) := by
  unfold L2.start
  rw [List.set_append_right _ _ (by simp)]
  obtain ⟨r, hr⟩ : ∃ r, N.length - vs.length = r + 1 := ⟨N.length - vs.length - 1, by omega⟩
  have : N.length - (vs ++ [v]).length = r := by simp; omega
  rw [hr, this]
  simp [List.replicate_succ]
theorem def_okS {P : Program} {w : World} {K : PySem.W.Frag} {mg : Str → Option Value} {base : Heap} {x qual : Str} {st : Stmt} {f : Addr} {fd : FuncData} {N ps : List Str} {k n m : Nat} {Δ Γ' : Ctx} {g : Sx} (F : Fun K x qual st f fd) (Sc : FnScope N ps (defScope st))
    (hN : N[ps.length]? = some "$") (hv : ¬ Vis (defScope st) "$")
    (hp : Δ.length = ps.length + 1) (hm : N.length = m) (hle : Δ.length ≤ m) (h0 : zeroB Δ = true) (hw : wkB Γ' (rtC Δ m) = true) (hn : n = 0 ∨ ∀ ds e, g ds ≠ some (.nx e))
    (hb : ∀ (cdv : Value) (A : Around) (outer : List Env) (s : Shared) (H : Hp) (E : XK), fd.code = cdv → A.guards = some [] → Room k (A.deeper (PyProof.Rows.envOfC qual (defScope st) s.heap.objs.size f cdv)) → PSs (cxOf CX0 P w K mg base N qual (defScope st) f cdv A outer s H E).nox (defBody st) (tS ⟨K, w, mg⟩ ⟨rtC Δ m, n, [], []⟩ (inC Δ m) Γ' g)) :
    FnG P w K mg base CX0 (k + 1) f fd ps (spS ⟨K, w, mg⟩ Δ n (stF (runD Δ g m))) := by
  refine FnG.of F Sc (fun vs H Q E h => ?_) (fun cdv A outer s H vs Q E hcd hgd hr h => ?_)
  · obtain ⟨G, ds, L, A, io, z, ds', S, _⟩ := h
    have h1 := S.ls
    rw [List.length_map, ← S.lg, hp] at h1
    simpa using h1
  · obtain ⟨G, ds, L, As, io, z, ds', S, e, q⟩ := h
    have lv : vs.length = ps.length := by
      have h1 := S.ls
      rw [List.length_map, ← S.lg, hp] at h1
      simpa using h1
    replace e := (stF_some e).2
    refine ⟨_, pss_ghost (p := ps.length) (x := "$") (.int 0) (hb cdv A outer s H E hcd hgd hr).nox hN hv, ?_⟩
    have hst : (L2.start N vs).set ps.length (some (.int 0)) = L2.start N (vs ++ [.int 0]) := by
      rw [← lv]
      exact start_ghost (by rw [lv, hm]; omega)
    show tS _ _ _ _ _ _ ((L2.start N vs).set ps.length (some (.int 0))) H
    rw [hst]
    unfold runD at e
    cases r : g (ds ++ List.replicate (m - ds.length) .none) with
    | none => rw [r] at e; cases e
    | some o =>
      rw [r] at e
      simp only [Option.bind_some] at e
      refine ⟨_, G, _, L, o, S.begin hle N hm, r, ?_⟩
      cases o with
      | nx en =>
        simp only [Option.some.injEq, Prod.mk.injEq] at e
        obtain ⟨rfl, rfl⟩ := e
        have n0 : n = 0 := by
          rcases hn with hn | hn
          · exact hn
          · exact absurd r (hn _ _)
        subst n0
        intro σ' H' G' L' S' s'
        obtain ⟨gg, S2, hv⟩ := S'.weak hw
        have := S.finish hle S2 (s'.trans gg) (hv 0 .non .none (.of_rep .non)) (zeroB_get h0)
        exact q .non H' _ _ this.1 (s'.trans gg) this.2
      | rt r' en =>
        simp only [Option.some.injEq, Prod.mk.injEq] at e
        obtain ⟨rfl, rfl⟩ := e
        intro v σ' H' G' L' S' s' v'
        have := S.finish hle S' s' v' (zeroB_get h0)
        exact q v H' _ _ this.1 s' this.2
      | bk en => cases e
      | ct en => cases e
theorem def_okPS {P : Program} {w : World} {K : PySem.W.Frag} {mg : Str → Option Value} {base : Heap} {x : Str} {st : Stmt} {N ps : List Str} {k n m : Nat} {Δ Γ' : Ctx} {g : Sx} (d : DP K mg x st ps) (Sc : FnScope N ps (defScope st))
    (hb : ∀ (f : Addr) (cdv : Value) (A : Around) (outer : List Env) (s : Shared) (H : Hp) (E : XK), (A.deeper (envOfC x (defScope st) s.heap.objs.size f cdv)).guards = some [] → Room k (A.deeper (envOfC x (defScope st) s.heap.objs.size f cdv)) → PSs (cxOf CX0 P w K mg base N x (defScope st) f cdv A outer s H E).nox (defBody st) (tS ⟨K, w, mg⟩ ⟨rtC Δ m, n, [], []⟩ (inC Δ m) Γ' g))
    (hn : n = 0 ∨ Stops g) (hN : N[ps.length]? = some "$" := by rfl) (hv : ¬ Vis (defScope st) "$" := by unfold Vis; decide +kernel) (hp : Δ.length = ps.length + 1 := by rfl) (hm : N.length = m := by rfl) (hle : Δ.length ≤ m := by decide) (h0 : zeroB Δ = true := by rfl) (hw : wkB Γ' (rtC Δ m) = true := by rfl) :
    PFS P w K mg base x (k + 1) ps Δ n (runD Δ g m) := by
  obtain ⟨f, fd, hF, hm2, hB⟩ := d
  exact ⟨f, fd, def_okS hF Sc hN hv hp hm hle h0 hw hn fun cdv A outer s H E _ hgd hr => hb f cdv A outer s H E hgd hr, hm2, hF.kp, hB⟩
end VL
set_option Elab.async false
set_option linter.all false
set_option maxRecDepth 100000
set_option maxHeartbeats 1000000
/-! VT5: the tracked things changed; new ones. -/
namespace VL
open PySem L2
section
variable {K : KW} {O : Gh} {Γ Δ : Ctx} {H H' : Hp} {G G' : Gp} {σ : St} {env : List D} {L : Nat → List Addr} {n g : Nat} {v : V} {d : D} {objs : List D} {as : List Addr} {a p : Addr} {u : HO} {o o' : D} {x : Nat}
theorem ObjR.notOwn {L : List Addr} (h : ObjR K H G L a d) : (∀ y, H a ≠ some (.own y)) ∧ H a ≠ some (.xd []) := by
  cases h with
  | lst h r => rw [h]; exact ⟨fun _ z => (nomatch z), fun z => (nomatch z)⟩
  | dct h r => rw [h]; cases r <;> exact ⟨fun _ z => (nomatch z), fun z => (nomatch z)⟩
  | ins hc h hd hx r =>
    rcases h with ⟨q, _⟩ | ⟨q, _⟩
    · rw [q]; exact ⟨fun _ z => (nomatch z), fun z => (nomatch z)⟩
    · rw [q]
      unfold SlX.SlO
      exact ⟨fun _ z => (nomatch z), fun z => (nomatch z)⟩
theorem ObjR.away {L : List Addr} {b : Addr} (h : ObjR K H G L b d) (hb : b ≠ a) (no : (∀ y, H a ≠ some (.own y)) ∧ H a ≠ some (.xd [])) : ObjR K (upd H a u) G L b d := by
  cases h with
  | lst h r => exact .lst (by rw [upd_ne hb]; exact h) r
  | dct h r => exact .dct (by rw [upd_ne hb]; exact h) r
  | @ins _ dx _ _ _ hc h hd hx r =>
    have ne : dx ≠ a := fun z => by
      subst z
      rcases hx with q | q
      · exact no.1 _ q
      · exact no.2 q
    exact .ins hc (h.imp (fun y => ⟨by rw [upd_ne hb]; exact y.1, y.2⟩) fun y => ⟨by rw [upd_ne hb]; exact y.1, by rw [upd_ne ne]; exact y.2⟩) hd (by rw [upd_ne ne]; exact hx) r
theorem slO_code {a C dx : Addr} {vs : List (Option V)} {q : Str} : some (SlX.SlO a C dx vs) ≠ some (LamX.CodeO a q) := fun z => by
  unfold SlX.SlO LamX.CodeO at z
  have e := HO.ext.inj (Option.some.inj z)
  let oc : Obj := { cls := .none, data := .fields #[.none, .str q 0] }
  let h0 : Heap := { objs := Array.replicate (a + 1) oc }
  have g : h0.get? a = some oc := by
    unfold Heap.get?
    simp only [h0, Array.getElem?_replicate]
    rw [if_pos (Nat.lt_succ_self a)]
  have y : (∃ (oc : Obj) (vs : Array Value) (t : Tok), h0.get? a = some oc ∧ oc.data = .fields vs ∧ vs[1]? = some (.str q t)) := ⟨oc, _, 0, g, rfl, rfl⟩
  rw [← congrFun e h0] at y
  obtain ⟨us, y2, _⟩ := y
  rw [g] at y2
  have y3 := congrArg (fun o => o.map Obj.cls) y2
  simp only [oc, Option.map_some, Option.some.injEq] at y3
  cases y3
/-- what may stand at a place of the tracked things -/
def ObK (a : Addr) (u : Option HO) : Prop := u.isSome = true ∧ (∀ xs, u ≠ some (.tup xs)) ∧ HK a u ∧ ∀ o v, u ≠ some (.frz o v)
theorem ObK.xd : ObK a (some (.xd [])) := ⟨rfl, fun _ z => (nomatch z), ⟨fun _ z => (nomatch z), fun _ z => by unfold LamX.CodeO at z; cases z⟩, fun _ _ z => (nomatch z)⟩
theorem ObK.own {y : Addr} : ObK a (some (.own y)) := ⟨rfl, fun _ z => (nomatch z), ⟨fun _ z => (nomatch z), fun _ z => by unfold LamX.CodeO at z; cases z⟩, fun _ _ z => (nomatch z)⟩
theorem ObK.ins {C dx : Addr} {fs : List (Str × V)} : ObK a (some (.ins C dx fs)) := ⟨rfl, fun _ z => (nomatch z), ⟨fun _ z => (nomatch z), fun _ z => by unfold LamX.CodeO at z; cases z⟩, fun _ _ z => (nomatch z)⟩
theorem ObjR.obK {L : List Addr} (h : ObjR K H G L a d) : ObK a (H a) := by
  cases h with
  | lst h r => rw [h]; exact ⟨rfl, fun _ z => (nomatch z), .lst, fun _ _ z => (nomatch z)⟩
  | dct h r => rw [h]; exact ⟨rfl, fun xs z => r.notT.1 xs (Option.some.inj z), r.hk, fun o u z => r.notT.2 o u (Option.some.inj z)⟩
  | ins hc h hd hx r =>
    rcases h with ⟨q, _⟩ | ⟨q, _⟩
    · rw [q]; exact .ins
    · rw [q]
      refine ⟨rfl, fun _ z => (nomatch z), ⟨fun _ z => (nomatch z), fun q z => slO_code z⟩, fun _ _ z => (nomatch z)⟩
theorem StA.put {L : List Addr} (A : StA K H G L as objs) (e1 : as[x]? = some a) (e2 : objs[x]? = some o) (r : ObjR K (upd H a u) G L a o') : StA K (upd H a u) G L as (objs.set x o') where
  len := by rw [List.length_set]; exact A.len
  tag := A.tag
  own := A.own
  at_ := fun y b w h1 h2 => by
    obtain ⟨ha, ra⟩ := A.at_ x a o e1 e2
    by_cases hy : y = x
    · subst hy
      rw [e1] at h1; cases h1
      rw [List.getElem?_set_self (List.getElem?_eq_some_iff.mp e2).1] at h2
      cases h2
      exact ⟨ha, r⟩
    · rw [List.getElem?_set_ne (Ne.symm hy)] at h2
      obtain ⟨hb, rb⟩ := A.at_ y b w h1 h2
      refine ⟨hb, rb.away (fun z => ?_) ra.notOwn⟩
      subst z
      exact hy (A.inj h1 e1)
  ob := fun b hb => by
    by_cases z : b = a
    · subst z
      exact ⟨(A.ob b hb).1, r.obK⟩
    · rw [upd_ne z]; exact A.ob b hb
/-- one of the tracked things is changed -/
theorem StR.stput (S : StR K O Γ H G σ env L) (hg : Γ[g]? = some (.io 200)) (he : env[g]? = some (stD objs)) (A : StA K H G (L g) as objs) (hv : σ[g]? = some (some (.int 0))) (e1 : as[x]? = some a) (e2 : objs[x]? = some o) (r : ObjR K (upd H a u) G (L g) a o') :
    StR K O Γ (upd H a u) G σ (env.set g (stD (objs.set x o'))) L := by
  obtain ⟨ha, ra⟩ := A.at_ x a o e1 e2
  have hi : At Γ g 200 := ⟨_, hg, rfl⟩
  have gn := (A.ob a ha).1
  have li : g < env.length := (List.getElem?_eq_some_iff.mp he).1
  refine ⟨fun b w e => ?_, by simp [S.ls], by simp [S.lg], fun j m hj => ?_, S.nd, S.dj, S.new, S.pres.put (S.new g 200 hi a ha) (A.ob a ha).2.2.2.1, S.gn, S.io⟩
  · rw [upd_ne (ne_G e gn)]; exact S.gh b w e
  · by_cases z : j = g
    · subst z
      cases hj.uniq hi
      exact ⟨.int 0, _, hv, List.getElem?_set_self li, .st (A.put e1 e2 r).sto⟩
    · obtain ⟨v', d', y1, y2, o'⟩ := S.slot j m hj
      refine ⟨v', d', y1, by rw [List.getElem?_set_ne (Ne.symm z)]; exact y2, o'.mono (fun _ _ e => e) (.inr (NT.refl _)) fun b hb => ⟨?_, (o'.objs b hb).1⟩⟩
      rw [upd_ne fun q => S.dj j g m 200 hj hi z b hb (by rw [q]; exact ha)]
/-- the thing at p gets the number n -/
def tagG (G : Gp) (p : Addr) (n : Nat) : Gp := fun b => if b = .inr p then some (.own n) else G b
theorem tagG_at : tagG G p n (.inr p) = some (.own n) := if_pos rfl
theorem tagG_inl {b : Addr} : tagG G p n (.inl b) = G (.inl b) := if_neg (by intro z; cases z)
theorem tagG_ne {b : Addr} (h : b ≠ p) : tagG G p n (.inr b) = G (.inr b) := if_neg fun z => h (Sum.inr.inj z)
theorem tagG_same (h : G (.inr p) = none) : SameG G (tagG G p n) := fun b w e => by
  unfold tagG
  rw [if_neg]
  · exact e
  · intro z; subst z; rw [h] at e; cases e
/-- the tracked things stand in slot g alone -/
def stU (Γ : Ctx) (g : Nat) : Bool := (List.range Γ.length).all fun i => i == g || ((Γ[i]?).bind Kd.dep).all fun n => decide (n < 200)
theorem stU_lt {i m : Nat} (h : stU Γ g = true) (hi : At Γ i m) (ne : i ≠ g) : m < 200 := by
  obtain ⟨k, e1, e2⟩ := hi
  have := List.all_eq_true.mp h i (List.mem_range.mpr (List.getElem?_eq_some_iff.mp e1).1)
  rw [e1, Option.bind_some, e2] at this
  simpa [ne] using this
theorem ObjR.app {L M : List Addr} (h : ObjR K H G L a d) (s : SameG G G') (k : ∀ b ∈ L, b ∈ M) : ObjR K H G' M a d := by
  cases h with
  | lst h r => exact .lst h (r.mono s)
  | dct h r => exact .dct h (r.mono s)
  | ins hc h hd hx r => exact .ins hc h (k _ hd) hx (r.mono s)
theorem StA.push {L M : List Addr} (A : StA K H G L as objs) (hp : G (.inr p) = none) (hM : ∀ a ∈ M, G a = none ∧ ObK a (H a)) (pM : p ∈ M) (r : ObjR K H G M p o) :
    StA K H (tagG G p objs.length) (L ++ M) (as ++ [p]) (objs ++ [o]) where
  len := by simp [A.len]
  tag := fun y b => by
    rcases Nat.lt_trichotomy y as.length with h | h | h
    · rw [List.getElem?_append_left h]
      by_cases z : b = p
      · subst z
        rw [tagG_at]
        constructor
        · intro e
          rw [(A.tag y b).mp e] at hp; cases hp
        · intro e
          simp only [Option.some.injEq, HO.own.injEq] at e
          rw [← e, A.len] at h
          omega
      · rw [tagG_ne z]; exact A.tag y b
    · subst h
      rw [List.getElem?_append_right (Nat.le_refl _)]
      simp only [Nat.sub_self, List.getElem?_cons_zero, Option.some.injEq]
      constructor
      · intro e; subst e; rw [tagG_at, A.len]
      · intro e
        by_cases z : b = p
        · exact z.symm
        · rw [tagG_ne z] at e
          have := (A.tag _ b).mpr e
          have := (List.getElem?_eq_some_iff.mp this).1
          omega
    · rw [List.getElem?_append_right (by omega)]
      have : ([p] : List Addr)[y - as.length]? = none := by rw [List.getElem?_eq_none_iff]; simp; omega
      rw [this]
      constructor
      · intro e; cases e
      · intro e
        by_cases z : b = p
        · subst z
          rw [tagG_at] at e
          simp only [Option.some.injEq, HO.own.injEq] at e
          rw [← e, A.len] at h
          omega
        · rw [tagG_ne z] at e
          have := (A.tag _ b).mpr e
          have := (List.getElem?_eq_some_iff.mp this).1
          omega
  own := fun b w e => by
    by_cases z : b = p
    · subst z
      rw [tagG_at] at e; cases e
      exact ⟨_, rfl⟩
    · rw [tagG_ne z] at e; exact A.own b w e
  at_ := fun y b w h1 h2 => by
    rcases Nat.lt_or_ge y as.length with h | h
    · rw [List.getElem?_append_left h] at h1
      rw [List.getElem?_append_left (by rw [← A.len]; exact h)] at h2
      obtain ⟨hb, rb⟩ := A.at_ y b w h1 h2
      exact ⟨List.mem_append_left _ hb, rb.app (tagG_same hp) fun _ m => List.mem_append_left _ m⟩
    · rw [List.getElem?_append_right h] at h1
      rw [List.getElem?_append_right (by rw [← A.len]; exact h)] at h2
      have : y - as.length = 0 := by
        have := (List.getElem?_eq_some_iff.mp h1).1
        simp at this; omega
      rw [this] at h1
      rw [← A.len, this] at h2
      simp only [List.getElem?_cons_zero, Option.some.injEq] at h1 h2
      subst h1 h2
      exact ⟨List.mem_append_right _ pM, r.app (tagG_same hp) fun _ m => List.mem_append_right _ m⟩
  ob := fun b hb => by
    rw [tagG_inl]
    rcases List.mem_append.mp hb with m | m
    · exact A.ob b m
    · exact hM b m
/-- something of one's own is tracked from now on -/
theorem StR.track {M : List Addr} (S : StR K O Γ H G σ env L) (hg : Γ[g]? = some (.io 200)) (hu : stU Γ g = true) (he : env[g]? = some (stD objs)) (nd : M.Nodup) (hO : ∀ a ∈ M, O.own a) (hM : ∀ a ∈ M, G a = none ∧ ObK a (H a))
    (dj : ∀ i m, At Γ i m → ∀ a ∈ M, a ∉ L i) (pM : p ∈ M) (r : ObjR K H G M p o) :
    SameG G (tagG G p objs.length) ∧ StR K O Γ H (tagG G p objs.length) σ (env.set g (stD (objs ++ [o]))) (fun i => if i = g then L g ++ M else L i) := by
  obtain ⟨as, hv, A⟩ := S.store hg he
  have hi : At Γ g 200 := ⟨_, hg, rfl⟩
  have li : g < env.length := (List.getElem?_eq_some_iff.mp he).1
  have hp : G (.inr p) = none := by
    cases q : G (.inr p) with
    | none => rfl
    | some u =>
      obtain ⟨x, rfl⟩ := A.own p u q
      have h1 := (A.tag x p).mpr q
      have hx : x < objs.length := by rw [← A.len]; exact (List.getElem?_eq_some_iff.mp h1).1
      have := (A.at_ x p _ h1 (List.getElem?_eq_getElem hx)).1
      exact absurd this (dj g 200 hi p pM)
  have ss := tagG_same (n := objs.length) hp
  have A2 := A.push hp hM pM r
  have st : O.st = true := by
    obtain ⟨_, _, _, q⟩ := S.io g 200 hg
    exact q rfl
  refine ⟨ss, ⟨fun b w e => ?_, by simp [S.ls], by simp [S.lg], fun j m hj => ?_, fun j m hj => ?_, fun j j' m m' hj hj' ne b hb hb' => ?_, fun j m hj b hb => ?_, ?_, fun b w e => ?_, S.io⟩⟩
  · exact S.gh b w (by rw [← tagG_inl (G := G) (p := p) (n := objs.length)]; exact e)
  · by_cases z : j = g
    · subst z
      cases hj.uniq hi
      refine ⟨.int 0, _, hv, List.getElem?_set_self li, ?_⟩
      simp only [if_true]
      exact .st A2.sto
    · obtain ⟨v', d', y1, y2, o'⟩ := S.slot j m hj
      refine ⟨v', d', y1, by rw [List.getElem?_set_ne (Ne.symm z)]; exact y2, ?_⟩
      rw [if_neg z]
      exact o'.mono ss (.inl (stU_lt hu hj z)) fun b hb => ⟨rfl, by rw [tagG_inl]; exact (o'.objs b hb).1⟩
  · by_cases z : j = g
    · subst z
      simp only [if_true]
      rw [List.nodup_append]
      exact ⟨S.nd _ _ hj, nd, fun b hb c hc e => by subst e; exact dj _ _ hj b hc hb⟩
    · simp only [if_neg z]; exact S.nd j m hj
  · by_cases z : j = g
    · subst z
      simp only [if_true] at hb
      rw [if_neg (Ne.symm ne)] at hb'
      rcases List.mem_append.mp hb with q | q
      · exact S.dj _ _ _ _ hj hj' ne b q hb'
      · exact dj _ _ hj' b q hb'
    · rw [if_neg z] at hb
      by_cases z' : j' = g
      · subst z'
        simp only [if_true] at hb'
        rcases List.mem_append.mp hb' with q | q
        · exact S.dj _ _ _ _ hj hj' ne b hb q
        · exact dj _ _ hj b q hb
      · rw [if_neg z'] at hb'
        exact S.dj _ _ _ _ hj hj' ne b hb hb'
  · by_cases z : j = g
    · subst z
      simp only [if_true] at hb
      rcases List.mem_append.mp hb with q | q
      · exact S.new _ _ hj b q
      · exact hO b q
    · rw [if_neg z] at hb; exact S.new j m hj b hb
  · refine ⟨S.pres.keep, S.pres.tab, fun q m => by rw [tagG_inl]; exact S.pres.tg q m, S.pres.to, fun z => (by rw [st] at z; cases z), fun b c y e1 e2 => ?_⟩
    have h1 := (A2.tag y b).mpr e1
    have h2 := (A2.tag y c).mpr e2
    rw [h1] at h2
    cases h2; rfl
  · rw [tagG_inl] at e; exact S.gn b w e
end
/-! ### new tracked things -/
def eTrkD (g : Nat) (f : Ex) : Ex := fun env => (f env).bind fun p => match p.1, p.2[g]? with
  | .dict ds, some (.dict [(.tuple [.list [.bool true]], .list objs)]) => some (rfD objs.length, p.2.set g (stD (objs ++ [.dict ds])))
  | _, _ => none
def eTrkL (g : Nat) (f : Ex) : Ex := fun env => (f env).bind fun p => match p.1, p.2[g]? with
  | .list ds, some (.dict [(.tuple [.list [.bool true]], .list objs)]) => some (rfD objs.length, p.2.set g (stD (objs ++ [.list ds])))
  | _, _ => none
section
variable {X : Cx} {Γ Δ : Ctx} {a b c : Expr} {pos : Pos} {f fa fb : Ex} {n : Nat}
theorem m_trkD (g : Nat) (h : PE X a (tM X.kw Γ f 100)) (hg : Γ[g]? = some (.io 200) := by rfl) (hu : stU Γ g = true := by rfl) : PE X a (tM X.kw Γ (eTrkD g f) 0) := h.imp fun σ H Q ⟨O, G, env, L, r, env2, S, e, k⟩ => by
  unfold eTrkD at e
  cases q : f env with
  | none => rw [q] at e; cases e
  | some p =>
    rw [q] at e
    simp only [Option.bind_some] at e
    split at e
    · rename_i ds objs hd he
      cases e
      obtain ⟨d, env1⟩ := p
      simp only at hd he
      subst hd
      refine ⟨O, G, env, L, _, env1, S, q, fun v H1 G1 L1 S1 s1 v1 => ?_⟩
      obtain ⟨M, om, nd, ow, dj⟩ := v1
      obtain ⟨p, u, rfl, rfl, h1, h2, h3⟩ := own100 om
      have hr : ObjR X.kw H1 G1 [p] p (.dict ds) := .dct h1 h3
      have ob : ∀ a ∈ [p], G1 a = none ∧ ObK a (H1 a) := fun a m => by
        rw [List.mem_singleton.mp m]
        exact ⟨h2, hr.obK⟩
      obtain ⟨ss, S2⟩ := S1.track hg hu he nd ow ob (fun i m hi => dj i m hi) List.mem_cons_self hr
      exact k _ _ _ _ S2 (s1.trans ss) (.of_rep (.rf tagG_at))
    · cases e
theorem own1 {K : KW} {H : Hp} {G : Gp} {v : V} {ds : List D} {M : List Addr} (h : Own K H G 1 v (.list ds) M) : ∃ a vs, v = .ref a ∧ M = [a] ∧ H a = some (.lst vs) ∧ G a = none ∧ RepL K G vs ds := by
  cases h with
  | imm e _ => simp [immut] at e
  | lst h g r =>
    obtain ⟨rfl, r2⟩ := repL0 r
    exact ⟨_, _, rfl, rfl, h, g, r2⟩
theorem m_trkL (g : Nat) (h : PE X a (tM X.kw Γ f 1)) (hg : Γ[g]? = some (.io 200) := by rfl) (hu : stU Γ g = true := by rfl) : PE X a (tM X.kw Γ (eTrkL g f) 0) := h.imp fun σ H Q ⟨O, G, env, L, r, env2, S, e, k⟩ => by
  unfold eTrkL at e
  cases q : f env with
  | none => rw [q] at e; cases e
  | some p =>
    rw [q] at e
    simp only [Option.bind_some] at e
    split at e
    · rename_i ds objs hd he
      cases e
      obtain ⟨d, env1⟩ := p
      simp only at hd he
      subst hd
      refine ⟨O, G, env, L, _, env1, S, q, fun v H1 G1 L1 S1 s1 v1 => ?_⟩
      obtain ⟨M, om, nd, ow, dj⟩ := v1
      obtain ⟨p, u, rfl, rfl, h1, h2, h3⟩ := own1 om
      have hr : ObjR X.kw H1 G1 [p] p (.list ds) := .lst h1 h3
      have ob : ∀ a ∈ [p], G1 a = none ∧ ObK a (H1 a) := fun a m => by
        rw [List.mem_singleton.mp m]
        exact ⟨h2, hr.obK⟩
      obtain ⟨ss, S2⟩ := S1.track hg hu he nd ow ob (fun i m hi => dj i m hi) List.mem_cons_self hr
      exact k _ _ _ _ S2 (s1.trans ss) (.of_rep (.rf tagG_at))
    · cases e
end
/-! ### places of tracked things as targets -/
/-- e[k] = .. -/
def gtSix (g : Nat) (fb fk : Ex) : Gx := fun d env => (fb env).bind fun b => (fk b.2).bind fun k => match b.1, k.2[g]? with
  | .dict [(.tuple [.list []], .int (.ofNat x))], some (.dict [(.tuple [.list [.bool true]], .list objs)]) => match objs[x]? with
    | some (.dict ds) => if ds.length < lim then (dPutA ds k.1 d).map fun es => k.2.set g (stD (objs.set x (.dict es))) else none
    | some (.list ds) => match k.1 with
      | .int j => (ixN ds.length j).map fun i => k.2.set g (stD (objs.set x (.list (ds.set i d))))
      | _ => none
    | _ => none
  | _, _ => none
section
variable {X : Cx} {Γ Δ : Ctx} {a b c : Expr} {pos : Pos} {f fb fk : Ex} {n : Nat}
theorem pset_or {t t' : TSet} (h : PSet X t) (h' : PSet X t') : PSet X (fun o i v H Q => t o i v H Q ∨ t' o i v H Q) := by
  intro pins s σ H o i v ov iv u Q I ro ri rv q
  rcases q with q | q
  · exact h pins s σ H o i v ov iv u Q I ro ri rv q
  · exact h' pins s σ H o i v ov iv u Q I ro ri rv q
theorem t_six (g : Nat) (hu : X.A.units + 66 < cLine) (hb : PE X a (tM X.kw Γ fb 0)) (hk : PE X b (tM X.kw Γ fk 0)) (hg : Γ[g]? = some (.io 200) := by rfl)
    (ha : ∀ v, assign (.Subscript a b pos) X.env v = (do
      let ov ← holding [v] (eval a X.env)
      let iv ← holding [v, ov] (eval b X.env)
      standAt pos
      holding [v, ov, iv] (setItem ov iv v)
      release [v, ov, iv] []) := by intro _; rfl) : PG X (.Subscript a b pos) (tG X.kw false Γ Γ (gtSix g fb fk) []) :=
  (pg_sub hb hk (pset_or (set_dr hu) set_list) ha).imp fun v σ H Q ⟨O, G, env, L, d, env2, S, r, e, k⟩ => by
    have r : Rep X.kw G v d := by
      rcases r with r | ⟨z, _⟩
      · exact r
      · cases z
    unfold gtSix at e
    cases h1 : fb env with
    | none => rw [h1] at e; cases e
    | some q =>
      rw [h1] at e
      simp only [Option.bind_some] at e
      obtain ⟨bd, env1⟩ := q
      simp only at e
      cases h2 : fk env1 with
      | none => rw [h2] at e; cases e
      | some q =>
        rw [h2] at e
        simp only [Option.bind_some] at e
        obtain ⟨kd, env3⟩ := q
        simp only at e
        refine ⟨O, G, env, L, bd, env1, S, h1, fun w H1 G1 L1 S1 s1 v1 => ⟨O, G1, env1, L1, kd, env3, S1, h2, fun w2 H2 G2 L2 S2 s2 v2 => ?_⟩⟩
        split at e
        · rename_i x objs he
          obtain ⟨as, hv, A⟩ := S2.store hg he
          obtain ⟨p, rfl, ht⟩ := rep_rf (x := x) v1.rep
          have hp := (A.tag x p).mpr (s2 _ _ ht)
          split at e
          · rename_i ds ho
            split at e
            · rename_i hlt
              simp only [Option.map_eq_some_iff] at e
              obtain ⟨es, hput, rfl⟩ := e
              obtain ⟨hL, ro⟩ := A.at_ x p _ hp ho
              cases ro with
              | dct h0 r0 =>
                exact .inl ⟨p, _, ds, es, kd, d, G2, rfl, S2.gh, h0, r0, v2.rep, r.mono (s1.trans s2), lim_lt hlt, hput, fun u' r' => k σ _ G2 L2 (S2.stput hg he A hv hp ho (.dct upd_same r')) (s1.trans s2) ⟨rfl, fun _ _ => rfl⟩⟩
            · cases e
          · rename_i ds ho
            split at e
            · rename_i j
              cases h3 : ixN ds.length j with
              | none => rw [h3] at e; cases e
              | some i =>
                rw [h3] at e
                simp only [Option.map_some, Option.some.injEq] at e
                subst e
                obtain ⟨hL, ro⟩ := A.at_ x p _ hp ho
                cases ro with
                | lst h0 r0 =>
                  rename_i vs
                  have := v2.rep
                  cases this
                  refine .inr ⟨p, vs, j, i, rfl, rfl, h0, by rw [r0.length]; exact h3, ?_⟩
                  exact k σ _ G2 L2 (S2.stput hg he A hv hp ho (.lst upd_same (r0.set i (r.mono (s1.trans s2))))) (s1.trans s2) ⟨rfl, fun _ _ => rfl⟩
            · cases e
          · cases e
        · cases e
end
end VL
set_option Elab.async false
set_option linter.all false
set_option maxRecDepth 100000
set_option maxHeartbeats 1000000
/-! VT6: dict displays with text keys, the values any expressions. -/
namespace VL
open PySem PySem.Spec PyProof.Rows L2
section
variable {K : KW} {O : Gh} {Γ Δ : Ctx} {H H' : Hp} {G G' : Gp} {σ σ' : L2.St} {env env' : List D} {L L' : Nat → List Addr} {a p : Addr} {o u : HO}
theorem StR.own_none (S : StR K O Γ H G σ env L) (h : H a = none) : O.own a := by
  cases r : O.H0 a with
  | none => exact .inl r
  | some u =>
    by_cases hA : a ∈ O.A
    · exact .inr hA
    · rw [S.pres a u r hA] at h; cases h
end
end VL
set_option Elab.async false
set_option linter.all false
set_option maxRecDepth 100000
set_option maxHeartbeats 1000000
/-! VT7: tracked instances: made, their methods called, their properties read, their fields stored. -/
namespace VL
open PySem PySem.Spec PyProof.Rows L2
/-- a def at its place -/
def DA (K : PySem.W.Frag) (x qual : Str) (st : Stmt) (ps : List Str) (f : Addr) : Prop := ∃ (fd : FuncData), Fun K x qual st f fd ∧ Binds K fd ps []
/-- a def at its place, with its promise, the tracked things behind its parameters -/
def PFA (P : Program) (w : World) (K : PySem.W.Frag) (mg : Str → Option Value) (base : Heap) (f : Addr) (k : Nat) (ps : List Str) (Δ : Ctx) (n : Nat) (F : List D → Option (D × List D)) : Prop :=
  ∃ (fd : FuncData), FnG P w K mg base CX0 k f fd ps (spS ⟨K, w, mg⟩ Δ n (stF F)) ∧ Binds K fd ps []
theorem def_okA {P : Program} {w : World} {K : PySem.W.Frag} {mg : Str → Option Value} {base : Heap} {x qual : Str} {st : Stmt} {f : Addr} {N ps : List Str} {k n m : Nat} {Δ Γ' : Ctx} {g : Sx} (d : DA K x qual st ps f) (Sc : FnScope N ps (defScope st))
    (hb : ∀ (f : Addr) (cdv : Value) (A : Around) (outer : List Env) (s : Shared) (H : Hp) (E : XK), (A.deeper (envOfC qual (defScope st) s.heap.objs.size f cdv)).guards = some [] → Room k (A.deeper (envOfC qual (defScope st) s.heap.objs.size f cdv)) → PSs (cxOf CX0 P w K mg base N qual (defScope st) f cdv A outer s H E).nox (defBody st) (tS ⟨K, w, mg⟩ ⟨rtC Δ m, n, [], []⟩ (inC Δ m) Γ' g))
    (hn : n = 0 ∨ Stops g) (hN : N[ps.length]? = some "$" := by rfl) (hv : ¬ Vis (defScope st) "$" := by unfold Vis; decide +kernel) (hp : Δ.length = ps.length + 1 := by rfl) (hm : N.length = m := by rfl) (hle : Δ.length ≤ m := by decide) (h0 : zeroB Δ = true := by rfl) (hw : wkB Γ' (rtC Δ m) = true := by rfl) :
    PFA P w K mg base f (k + 1) ps Δ n (runD Δ g m) := by
  obtain ⟨fd, hF, hB⟩ := d
  exact ⟨fd, def_okS hF Sc hN hv hp hm hle h0 hw hn fun cdv A outer s H E _ hgd hr => hb f cdv A outer s H E hgd hr, hB⟩
section
variable {X : Cx} {CX : CXT} {k : Nat} {f C p : Addr} {fd : FuncData} {ps : List Str} {sp : Sp} {E : XK} {x m : Str} {np pos apos : Pos} {e o : Expr} {es : List Expr} {t : TA} {ta : TE}
theorem run_fnG {pins : List (Addr × Obj)} {σ : L2.St} {H : Hp} {s : Shared} {Q : VK} {us : List Value} {vs : List V} (F : FnG X.prog X.w X.K X.mg X.base CX k f fd ps sp) (hgd : X.A.guards = some []) (hr : Room k X.A) (hb : Binds X.K fd ps []) (hx : Passes CX X E)
    (I : Inv X pins σ H s) (r : Vals vs us) (h : sp vs H Q E) : wpAny (model X.prog X.w) X.A (call (.ref f) us) (EP X pins σ Q) X.xe s := by
  have hl : us.length = ps.length := by rw [← r.length]; exact F.len _ _ _ _ h
  have hb' := hb s us I.kIn (by rw [List.append_nil]; exact hl)
  rw [List.append_nil] at hb'
  refine wpAny_call (codeAny_mono (F.run X.A X.stack s H ⟨us, []⟩ us vs Q E hgd hr I.env0 hb' r h) fun r s' hq => ?_)
  cases r with
  | error e => exact hx pins σ H s e s' I hq
  | ok fl =>
    cases fl with
    | ret u => exact I.after hq
    | next => exact False.elim hq
    | brk => exact False.elim hq
    | cont => exact False.elim hq
theorem run_makeG {pins : List (Addr × Obj)} {σ : L2.St} {H : Hp} {s : Shared} {Q : VK} {us : List Value} {vs : List V} (M : Mk X.K C f) (F : FnG X.prog X.w X.K X.mg X.base CX k f fd ps sp) (hgd : X.A.guards = some []) (hr : Room (k + 1) X.A) (hb : Binds X.K fd ps [])
    (hx : Passes CX X E) (I : Inv X pins σ H s) (r : Vals vs us)
    (h : ∀ x dx, H x = none → H dx = none → dx ≠ x → sp (.ref x :: vs) (upd (upd H dx (.own x)) x (.ins C dx [])) (fun v H2 => v = .non ∧ Q (.ref x) H2) E) :
    wpAny (model X.prog X.w) X.A (call (.ref C) us) (EP X pins σ Q) X.xe s := by
  have hq := h (s.heap.objs.size + 1) s.heap.objs.size (I.hok.fresh (Nat.le_succ _)) (I.hok.fresh (Nat.le_refl _)) (Nat.ne_of_lt (Nat.lt_succ_self _))
  have I2 := Inv.made (C := C) I
  have r2 : Vals (V.ref (s.heap.objs.size + 1) :: vs) (Value.ref (s.heap.objs.size + 1) :: us) := .cons rfl r
  have hl : (Value.ref (s.heap.objs.size + 1) :: us).length = ps.length := by
    have e := r2.length
    rw [F.len _ _ _ _ hq] at e
    exact e.symm
  have hb' := hb { s with heap := _ } (Value.ref (s.heap.objs.size + 1) :: us) I2.kIn (by rw [List.append_nil]; exact hl)
  rw [List.append_nil] at hb'
  refine wpAny_call (make_map (f := f) I.kIn M.makes M.init (beq_iff_eq.mp M.fn) (codeAny_mono (F.run _ X.stack _ _ ⟨Value.ref (s.heap.objs.size + 1) :: us, []⟩ (Value.ref (s.heap.objs.size + 1) :: us) _ _ E hgd (hr.make C us [])
    (I2.env0.make C us []) hb' r2 hq) fun r s' hq' => ?_))
  cases r with
  | error e => exact hx pins σ _ _ e s' I2 hq'
  | ok fl =>
    cases fl with
    | ret u =>
      obtain ⟨v, H', I3, rv, ev, q3⟩ := I2.after hq'
      subst ev
      exact ⟨rv, ⟨V.ref (s.heap.objs.size + 1), H', I3, rfl, q3⟩⟩
    | next => exact False.elim hq'
    | brk => exact False.elim hq'
    | cont => exact False.elim hq'
theorem pe_makeG0 (M : Mk X.K C f) (F : FnG X.prog X.w X.K X.mg X.base CX k f fd ps sp) (hgd : X.A.guards = some []) (hr : Room (k + 1) X.A) (hg : Gl X x) (hm : X.mg x = some (.ref C)) (hb : Binds X.K fd ps []) (hx : Passes CX X E)
    (hdb : (x == ("__debug__" : Str)) = false := by decide) :
    PE X (.Call (.Name x np) [] [] pos) (fun σ H Q => tNil σ H fun vs H1 => ∀ x dx, H1 x = none → H1 dx = none → dx ≠ x → sp (.ref x :: vs) (upd (upd H1 dx (.own x)) x (.ins C dx [])) (fun v H2 => v = .non ∧ Q (.ref x) H2) E) := by
  refine ⟨fun pins s σ H Q I h => ?_⟩
  refine wpAny_Call_Name_kw (ld_glob I hg hm ?_ hdb)
  exact PySem.W.callWith_K0 I.kIn M.kp (run_makeG (us := []) M F hgd hr hb hx I .nil h)
theorem pe_methG {pl : Sem Bool} (he : PE X o ta) (c : SlX.SCls X.K C) (hm : Meth X.K C m f) (F : FnG X.prog X.w X.K X.mg X.base CX k f fd ps sp) (hgd : X.A.guards = some []) (hr : Room k X.A) (hb : Binds X.K fd ps []) (hx : Passes CX X E) (ha : PA X (e :: es) t)
    (hst : starEach (e :: es) X.env = (false, eval e X.env) :: starEach es X.env := by rfl) (hpl : (backTo pos (starEach es X.env)).any (·.1) = false := by rfl)
    (ht : eval (.Call (.Attribute o m apos) (e :: es) [] pos) X.env = (do
      let ov ← eval o X.env
      standAt apos.atName
      let (f, first) ← holding [ov] (getMethod ov m pl)
      callWith pos f first (backTo pos (starEach (e :: es) X.env)) (backToKw pos (keywordEach [] X.env))) := by rfl) :
    PE X (.Call (.Attribute o m apos) (e :: es) [] pos) (SlX.tMethSl C sp E ta t) := by
  refine ⟨fun pins s σ H Q I h => ?_⟩
  refine PySem.W.methodCall_KW (pl := pl) (thn (he.run pins s σ H _ I h) fun u s1 ⟨x, H1, I1, rx, a, dx, vs, ex, hsl, q⟩ => ?_) ht
  subst ex
  obtain rfl : u = Value.ref a := rx
  refine SlX.getmethsl_ok I1 hsl c hm ?_
  refine PySem.W.callWith_K (first := [.ref a]) (h₀ := X.base) I.ok.mod.kin hm.kp (thn (ha.run pos pins s1 σ H1 _ I1 q) fun us s2 ⟨ws, H2, I2, r, q2⟩ => ⟨I2.kIn, ?_⟩) hst hpl
  exact run_fnG (us := .ref a :: us) (vs := .ref a :: ws) F hgd hr hb hx I2 (.cons rfl r) q2
theorem pe_methG0 {pl : Sem Bool} (he : PE X o ta) (c : SlX.SCls X.K C) (hm : Meth X.K C m f) (F : FnG X.prog X.w X.K X.mg X.base CX k f fd ps sp) (hgd : X.A.guards = some []) (hr : Room k X.A) (hb : Binds X.K fd ps []) (hx : Passes CX X E)
    (ht : eval (.Call (.Attribute o m apos) [] [] pos) X.env = (do
      let ov ← eval o X.env
      standAt apos.atName
      let (f, first) ← holding [ov] (getMethod ov m pl)
      callWith pos f first (backTo pos (starEach [] X.env)) (backToKw pos (keywordEach [] X.env))) := by rfl) :
    PE X (.Call (.Attribute o m apos) [] [] pos) (SlX.tMethSl C sp E ta tNil) := by
  refine ⟨fun pins s σ H Q I h => ?_⟩
  refine PySem.W.methodCall_KW (pl := pl) (thn (he.run pins s σ H _ I h) fun u s1 ⟨x, H1, I1, rx, a, dx, vs, ex, hsl, q⟩ => ?_) ht
  subst ex
  obtain rfl : u = Value.ref a := rx
  refine SlX.getmethsl_ok I1 hsl c hm ?_
  exact PySem.W.callWith_K0 (first := [.ref a]) I1.kIn hm.kp (run_fnG (us := [.ref a]) (vs := [.ref a]) F hgd hr hb hx I1 (.cons rfl .nil) q)
/-- o.f as a target -/
theorem pg_fld (ho : PE X o ta) : PG X (.Attribute o m pos) (fun v σ H Q => ta σ H fun x H1 => ∃ a C dx p vs i, x = .ref a ∧ SlX.Slt H1 a C dx vs ∧ SlX.SCls X.K C ∧ SlX.Slot1 X.K C m p i ∧ Q σ (SlX.slH H1 a C dx (SlX.putS i v vs))) := by
  refine ⟨fun pins s σ H v u Q I r h => ?_⟩
  rw [assign_Attribute]
  refine wpAny_bind (wpAny_holding (thn (ho.run pins s σ H _ I h) fun ov s1 ⟨x, H1, I1, r1, a, C, dx, p, vs, i, ex, hs, c, k, q1⟩ => ?_))
  subst ex
  obtain rfl : ov = Value.ref a := r1
  refine wpAny_bind (wpAny_standAt (wpAny_bind (wpAny_holding (SlX.setslot_ok I1 hs c k r fun s2 I2 => ?_))))
  exact wpAny_release ⟨σ, _, I2, q1⟩
end
/-! ### over the data -/
section
variable {K : KW} {O : Gh} {Γ Δ : Ctx} {H H' : Hp} {G G' : Gp} {σ : L2.St} {env : List D} {L : Nat → List Addr} {n g : Nat} {v : V} {d : D} {objs : List D} {as : List Addr} {a p C dx : Addr} {c : Str} {vs : List (Option V)} {ds : List D} {x i : Nat}
theorem ObjR.xd {L : List Addr} {b : Addr} {o : D} (h : ObjR K H G L b o) (hx : (∃ y, H dx = some (.own y)) ∨ H dx = some (.xd [])) : ObjR K (upd H dx (.xd [])) G L b o := by
  have ne : b ≠ dx := fun z => by
    subst z
    rcases hx with ⟨y, q⟩ | q
    · exact h.notOwn.1 y q
    · exact h.notOwn.2 q
  cases h with
  | lst h r => exact .lst (by rw [upd_ne ne]; exact h) r
  | dct h r => exact .dct (by rw [upd_ne ne]; exact h) r
  | @ins _ dx2 _ _ _ hc h hd hx2 r =>
    by_cases z : dx2 = dx
    · subst z
      exact .ins hc (h.imp (fun y => ⟨by rw [upd_ne ne]; exact y.1, y.2⟩) fun y => ⟨by rw [upd_ne ne]; exact y.1, upd_same⟩) hd (.inr upd_same) r
    · exact .ins hc (h.imp (fun y => ⟨by rw [upd_ne ne]; exact y.1, y.2⟩) fun y => ⟨by rw [upd_ne ne]; exact y.1, by rw [upd_ne z]; exact y.2⟩) hd (by rw [upd_ne z]; exact hx2) r
theorem StA.xd {L : List Addr} (A : StA K H G L as objs) (hx : (∃ y, H dx = some (.own y)) ∨ H dx = some (.xd [])) : StA K (upd H dx (.xd [])) G L as objs where
  len := A.len
  tag := A.tag
  own := A.own
  at_ := fun y b w h1 h2 => by
    obtain ⟨hb, rb⟩ := A.at_ y b w h1 h2
    exact ⟨hb, rb.xd hx⟩
  ob := fun b hb => by
    by_cases z : b = dx
    · subst z
      rw [upd_same]
      exact ⟨(A.ob b hb).1, ObK.xd⟩
    · rw [upd_ne z]; exact A.ob b hb
theorem StR.stxd (S : StR K O Γ H G σ env L) (hg : Γ[g]? = some (.io 200)) (he : env[g]? = some (stD objs)) (A : StA K H G (L g) as objs) (hv : σ[g]? = some (some (.int 0))) (hd : dx ∈ L g) (hx : (∃ y, H dx = some (.own y)) ∨ H dx = some (.xd [])) : StR K O Γ (upd H dx (.xd [])) G σ env L := by
  have hi : At Γ g 200 := ⟨_, hg, rfl⟩
  have gn := (A.ob dx hd).1
  refine ⟨fun b w e => ?_, S.ls, S.lg, fun j m hj => ?_, S.nd, S.dj, S.new, S.pres.put (S.new g 200 hi dx hd) (A.ob dx hd).2.2.2.1, S.gn, S.io⟩
  · rw [upd_ne (ne_G e gn)]; exact S.gh b w e
  · by_cases z : j = g
    · subst z
      cases hj.uniq hi
      exact ⟨.int 0, _, hv, he, .st (A.xd hx).sto⟩
    · obtain ⟨v', d', y1, y2, o'⟩ := S.slot j m hj
      refine ⟨v', d', y1, y2, o'.mono (fun _ _ e => e) (.inr (NT.refl _)) fun b hb => ⟨?_, (o'.objs b hb).1⟩⟩
      rw [upd_ne fun q => S.dj j g m 200 hj hi z b hb (by rw [q]; exact hd)]
/-- the fields behind x.f = d, f in slot i -/
def fldP (i : Nat) (d : D) (ds : List D) : List D := (ds ++ List.replicate (i + 1 - ds.length) unD).set i d
theorem FldR.length : ∀ {vs : List (Option V)} {ds : List D}, FldR K G vs ds → vs.length = ds.length
  | _, _, .nil => rfl
  | _, _, .cons _ t => by simp [t.length]
  | _, _, .un t => by simp [t.length]
theorem FldR.append : ∀ {vs us : List (Option V)} {ds es : List D}, FldR K G vs ds → FldR K G us es → FldR K G (vs ++ us) (ds ++ es)
  | _, _, _, _, .nil, q => q
  | _, _, _, _, .cons h t, q => .cons h (FldR.append t q)
  | _, _, _, _, .un t, q => .un (FldR.append t q)
theorem FldR.uns : ∀ n : Nat, FldR K G (List.replicate n none) (List.replicate n unD)
  | 0 => .nil
  | n + 1 => .un (FldR.uns n)
theorem FldR.set (r : Rep K G v d) : ∀ {vs : List (Option V)} {ds : List D} (i : Nat), FldR K G vs ds → FldR K G (vs.set i (some v)) (ds.set i d)
  | _, _, _, .nil => .nil
  | _, _, 0, .cons _ t => .cons r t
  | _, _, 0, .un t => .cons r t
  | _, _, i + 1, .cons h t => .cons h (FldR.set r i t)
  | _, _, i + 1, .un t => .un (FldR.set r i t)
theorem FldR.put (r : Rep K G v d) (i : Nat) (h : FldR K G vs ds) : FldR K G (SlX.putS i v vs) (fldP i d ds) := by
  unfold SlX.putS fldP
  rw [h.length]
  exact FldR.set r i (h.append (FldR.uns _))
theorem StR.stfld (S : StR K O Γ H G σ env L) (hg : Γ[g]? = some (.io 200)) (he : env[g]? = some (stD objs)) (A : StA K H G (L g) as objs) (hv : σ[g]? = some (some (.int 0))) (e1 : as[x]? = some a) (e2 : objs[x]? = some (.tuple (.str c :: ds)))
    (hc : K.mg c = some (.ref C)) (hs : SlX.Slt H a C dx vs) (hd : dx ∈ L g) (hx : H dx = some (.own a) ∨ H dx = some (.xd [])) (r : FldR K G vs ds) (rv : Rep K G v d) :
    StR K O Γ (SlX.slH H a C dx (SlX.putS i v vs)) G σ (env.set g (stD (objs.set x (.tuple (.str c :: fldP i d ds))))) L := by
  have hx' : (∃ y, H dx = some (.own y)) ∨ H dx = some (.xd []) := hx.imp (fun q => ⟨_, q⟩) id
  have ra := (A.at_ x a _ e1 e2).2
  have ne : dx ≠ a := fun z => by
    subst z
    rcases hx' with ⟨y, q⟩ | q
    · exact ra.notOwn.1 y q
    · exact ra.notOwn.2 q
  have S1 := S.stxd hg he A hv hd hx'
  exact S1.stput hg he (A.xd hx') hv e1 e2 (.ins hc (.inr ⟨upd_same, by rw [upd_ne ne, upd_same]⟩) hd (.inr (by rw [upd_ne ne, upd_same])) (r.put rv i))
/-- d is the number of an instance of the class c -/
def insB (c : Str) (st : Option D) (d : D) : Bool := match st, d with
  | some (.dict [(.tuple [.list [.bool true]], .list objs)]), .dict [(.tuple [.list []], .int (.ofNat x))] => match objs[x]? with
    | some (.tuple (.str c' :: _)) => decide (c' = c)
    | _ => false
  | _, _ => false
theorem insB_is {st : Option D} (h : insB c st d = true) : ∃ objs x ds, st = some (stD objs) ∧ d = rfD x ∧ objs[x]? = some (.tuple (.str c :: ds)) := by
  unfold insB at h
  split at h
  · rename_i objs x
    split at h
    · rename_i c' ds ho
      have := of_decide_eq_true h
      subst this
      exact ⟨objs, x, ds, rfl, rfl, ho⟩
    · cases h
  · cases h
def eIns (g : Nat) (c : Str) (f : Ex) : Ex := fun env => (f env).bind fun p => if insB c p.2[g]? p.1 = true then some p else none
theorem ins_slt {ag : Arg} (S : StR K O Γ H G σ env L) (hG : GA Γ g ag) (hc : K.mg c = some (.ref C)) (r : Rep K G v d) (h : insB c env[g]? d = true) : ∃ a dx vs, v = .ref a ∧ SlX.Slt H a C dx vs := by
  obtain ⟨objs, x, ds, he, rfl, ho⟩ := insB_is h
  obtain ⟨a, rfl, ht⟩ := rep_rf r
  rcases hG with ⟨_, hg⟩ | ⟨_, hg⟩
  · obtain ⟨as, hv, A⟩ := S.store hg he
    have e1 := (A.tag x a).mpr ht
    obtain ⟨_, q⟩ := A.at_ x a _ e1 ho
    cases q with
    | ins hc' h hd hx r =>
      rw [hc] at hc'; cases hc'
      exact ⟨a, _, _, rfl, h⟩
  · obtain ⟨w, d2, _, y2, o⟩ := S.slot g 0 ⟨_, hg, rfl⟩
    rw [he] at y2; cases y2
    cases sto_at S.pres.tgu o.zero.2 ht ho with
    | ins hc' h r =>
      rw [hc] at hc'; cases hc'
      exact ⟨a, _, _, rfl, slt_sh S.gh h⟩
end
section
variable {X : Cx} {Γ Δ : Ctx} {k j n : Nat} {C f p : Addr} {ps : List Str} {F : List D → Option (D × List D)} {x m c : Str} {np pos apos : Pos} {a o : Expr} {es : List Expr} {as : List Arg} {fo : Ex}
/-- behind the object: its method's other arguments -/
theorem methS_imp {K : KW} {g : Nat} {ag : Arg} (hG : GA Γ g ag) (hc : K.mg c = some (.ref C)) (ok : okA Γ (.v (eIns g c fo) :: (as ++ [ag])) Δ = true) (os : okSt Γ (.v (eIns g c fo) :: (as ++ [ag])) Δ = true) {σ : L2.St} {H : Hp} {Q : VK} {E : XK}
    (h : tM K Γ (eCall (stF F) (.v (eIns g c fo) :: (as ++ [ag]))) n σ H Q) : SlX.tMethSl C (spS K Δ n (stF F)) E (tM K Γ fo 0) (tMG K Γ as) σ H Q := by
  obtain ⟨O, G, env, L, r, env2, S, e, kk⟩ := h
  obtain ⟨ds, env1, ds', e1, e2, rfl⟩ := eCall_some e
  simp only [evArgs, Option.bind_eq_some_iff, Option.map_eq_some_iff, Prod.mk.injEq] at e1
  obtain ⟨q, h1, q2, h2, rfl, rfl⟩ := e1
  unfold eIns at h1
  simp only [Option.bind_eq_some_iff] at h1
  obtain ⟨q3, h3, h4⟩ := h1
  split at h4
  · rename_i hi
    cases h4
    obtain ⟨ds0, d, e3, e4, e5⟩ := evArgs_gh hG h2
    obtain ⟨q1, env1⟩ := q2
    simp only at e3 e4 e5
    subst e5
    obtain ⟨objs, ho⟩ := isSt_is (stF_some e2).1
    rw [← List.cons_append, List.getLast?_concat] at ho
    cases ho
    refine ⟨O, G, env, L, q.1, q.2, S, h3, fun v H1 G1 L1 S1 s1 v1 => ?_⟩
    obtain ⟨b, dx, vs, rfl, hs⟩ := ins_slt S1 hG hc v1.rep hi
    refine ⟨b, dx, vs, rfl, hs, O, G1, q.2, L1, ds0, env1, S1, e3, fun ws H2 G2 L2 S2 s2 A2 => ?_⟩
    have A3 : ArgR K G2 σ env1 (.v (eIns g c fo) :: (as ++ [ag])) (.ref b :: (ws ++ [.int 0])) (q.1 :: (ds0 ++ [stD objs])) := .v (v1.rep.mono s2) (ArgR.gh S2 hG e4 A2)
    refine ⟨G2, q.1 :: (ds0 ++ [stD objs]), argL (.v (eIns g c fo) :: (as ++ [ag])) L2, argA (.v (eIns g c fo) :: (as ++ [ag])) L2, fun j => (V.ref b :: (ws ++ [.int 0]))[j]?, r, ds', S2.enter ok A3, e2, fun v3 H3 G3 L3 S3 s3 v3' => ?_⟩
    have := S2.leave ok os A3 S3 s3 v3'
    exact kk v3 H3 G3 _ this.1 (s1.trans (s2.trans s3)) this.2
  · cases h4
/-- o.m(a, ..), with the tracked things -/
theorem m_methS (g : Nat) (ag : Arg) {pl : Sem Bool} (h : PFA X.prog X.w X.K X.mg X.base f j ps Δ n F) (hG : GA Γ g ag) (cl : SlX.SCls X.K C) (hm : Meth X.K C m f) (hc : X.mg c = some (.ref C)) (hgd : X.A.guards = some []) (hr : Room k X.A) (hj : j ≤ k)
    (ho : PE X o (tM X.kw Γ fo 0)) (ha : PA X (a :: es) (tMG X.kw Γ as)) (ok : okA Γ (.v (eIns g c fo) :: (as ++ [ag])) Δ = true := by rfl) (os : okSt Γ (.v (eIns g c fo) :: (as ++ [ag])) Δ = true := by rfl)
    (hst : starEach (a :: es) X.env = (false, eval a X.env) :: starEach es X.env := by rfl) (hpl : (backTo pos (starEach es X.env)).any (·.1) = false := by rfl)
    (ht : eval (.Call (.Attribute o m apos) (a :: es) [] pos) X.env = (do
      let ov ← eval o X.env
      standAt apos.atName
      let (f, first) ← holding [ov] (getMethod ov m pl)
      callWith pos f first (backTo pos (starEach (a :: es) X.env)) (backToKw pos (keywordEach [] X.env))) := by rfl) :
    PE X (.Call (.Attribute o m apos) (a :: es) [] pos) (tM X.kw Γ (eCall (stF F) (.v (eIns g c fo) :: (as ++ [ag]))) n) := by
  obtain ⟨fd, hF, hb⟩ := h
  exact (pe_methG ho cl hm hF hgd (hr.mono hj) hb (E := E0) pass0 ha hst hpl ht).imp fun σ H Q h => methS_imp hG hc ok os h
theorem m_methS0 (g : Nat) (ag : Arg) {pl : Sem Bool} (h : PFA X.prog X.w X.K X.mg X.base f j ps Δ n F) (hG : GA Γ g ag) (cl : SlX.SCls X.K C) (hm : Meth X.K C m f) (hc : X.mg c = some (.ref C)) (hgd : X.A.guards = some []) (hr : Room k X.A) (hj : j ≤ k)
    (ho : PE X o (tM X.kw Γ fo 0)) (ok : okA Γ [.v (eIns g c fo), ag] Δ = true := by rfl) (os : okSt Γ [.v (eIns g c fo), ag] Δ = true := by rfl)
    (ht : eval (.Call (.Attribute o m apos) [] [] pos) X.env = (do
      let ov ← eval o X.env
      standAt apos.atName
      let (f, first) ← holding [ov] (getMethod ov m pl)
      callWith pos f first (backTo pos (starEach [] X.env)) (backToKw pos (keywordEach [] X.env))) := by rfl) :
    PE X (.Call (.Attribute o m apos) [] [] pos) (tM X.kw Γ (eCall (stF F) [.v (eIns g c fo), ag]) n) := by
  obtain ⟨fd, hF, hb⟩ := h
  refine (pe_methG0 ho cl hm hF hgd (hr.mono hj) hb (E := E0) pass0 ht).imp fun σ H Q h => ?_
  obtain ⟨O, G, env, L, r, env1, S, e, q⟩ := methS_imp (as := []) (E := E0) hG hc ok os h
  refine ⟨O, G, env, L, r, env1, S, e, fun v H1 G1 L1 S1 s1 v1 => ?_⟩
  obtain ⟨b, dx, vs, e1, e2, O', G', env', L', ds', env'', S', e', q'⟩ := q v H1 G1 L1 S1 s1 v1
  simp only [evArgs, Option.some.injEq, Prod.mk.injEq] at e'
  obtain ⟨rfl, rfl⟩ := e'
  exact ⟨b, dx, vs, e1, e2, q' [] H1 G' L' S' (fun _ _ e => e) .nil⟩
/-- o.f = .. -/
def gtFld (g : Nat) (c : Str) (i : Nat) (fo : Ex) : Gx := fun d env => (fo env).bind fun b => match b.1, b.2[g]? with
  | .dict [(.tuple [.list []], .int (.ofNat x))], some (.dict [(.tuple [.list [.bool true]], .list objs)]) => match objs[x]? with
    | some (.tuple (.str c' :: ds)) => if c' = c then some (b.2.set g (stD (objs.set x (.tuple (.str c' :: fldP i d ds))))) else none
    | _ => none
  | _, _ => none
theorem t_fld (g : Nat) {i : Nat} (hc : X.mg c = some (.ref C)) (cl : SlX.SCls X.K C) (k : SlX.Slot1 X.K C m p i) (ho : PE X o (tM X.kw Γ fo 0)) (hg : Γ[g]? = some (.io 200) := by rfl) : PG X (.Attribute o m pos) (tG X.kw false Γ Γ (gtFld g c i fo) []) :=
  (pg_fld ho).imp fun v σ H Q ⟨O, G, env, L, d, env2, S, r, e, kk⟩ => by
    have r : Rep X.kw G v d := by
      rcases r with r | ⟨z, _⟩
      · exact r
      · cases z
    unfold gtFld at e
    simp only [Option.bind_eq_some_iff] at e
    obtain ⟨q, h1, e⟩ := e
    obtain ⟨bd, env1⟩ := q
    simp only at e
    refine ⟨O, G, env, L, bd, env1, S, h1, fun w H1 G1 L1 S1 s1 v1 => ?_⟩
    split at e
    · rename_i x objs he
      split at e
      · rename_i c' ds ho'
        split at e
        · rename_i ec
          subst ec
          cases e
          obtain ⟨as, hv, A⟩ := S1.store hg he
          obtain ⟨b, rfl, ht⟩ := rep_rf (x := x) v1.rep
          have e1 := (A.tag x b).mpr ht
          obtain ⟨hL, ro⟩ := A.at_ x b _ e1 ho'
          cases ro with
          | ins hc' hs hd hx rr =>
            have : X.kw.mg c' = some (.ref C) := hc
            rw [this] at hc'; cases hc'
            exact ⟨b, C, _, p, _, i, rfl, hs, cl, k, kk σ _ G1 L1 (S1.stfld hg he A hv e1 ho' hc hs hd hx rr (r.mono s1)) s1 ⟨rfl, fun _ _ => rfl⟩⟩
        · cases e
      · cases e
    · cases e
/-! ### a new one -/
def newD (c : Str) : D := .tuple [.str c]
def eNew (c : Str) (F : List D → Option (D × List D)) (as : List Arg) (g : Nat) : Ex := fun env => (evArgs as env).bind fun p => match p.2[g]? with
  | some (.dict [(.tuple [.list [.bool true]], .list objs)]) => (F (rfD objs.length :: (p.1 ++ [stD (objs ++ [newD c])]))).bind fun q => match q.1 with
    | .none => some (rfD objs.length, wb (.v (eC .none) :: (as ++ [.io g])) q.2 (p.2.set g (stD (objs ++ [newD c]))))
    | _ => none
  | _ => none
theorem okA_ne {Γ : Ctx} {g : Nat} : ∀ {as : List Arg} {Δ : Ctx}, okA Γ (as ++ [.io g]) Δ = true → ∀ i, Arg.io i ∈ as → i ≠ g
  | [], _, _, i, m => by cases m
  | .v f :: as, Δ, h, i, m => by
    cases Δ with
    | nil => simp [okA] at h
    | cons q Δ =>
      rcases List.mem_cons.mp m with z | m
      · cases z
      · cases q with
        | ow n =>
          cases n with
          | zero => simp only [List.cons_append, okA] at h; exact okA_ne h i m
          | succ n => simp [okA] at h
        | un => simp [okA] at h
        | io n => simp [okA] at h
  | .io l :: as, Δ, h, i, m => by
    cases Δ with
    | nil => simp [okA] at h
    | cons q Δ =>
      cases q with
      | io n =>
        simp only [List.cons_append, okA, Bool.and_eq_true] at h
        rcases List.mem_cons.mp m with z | m
        · cases z
          intro z
          subst z
          have := h.1.2
          simp [Arg.isIo] at this
        · exact okA_ne h.2 i m
      | un => simp [okA] at h
      | ow n => simp [okA] at h
theorem ArgR.upd {K : KW} {G G' : Gp} {σ : L2.St} {env env' : List D} (s : SameG G G') : ∀ {as : List Arg} {vs : List V} {ds : List D}, ArgR K G σ env as vs ds → (∀ i, Arg.io i ∈ as → env'[i]? = env[i]?) → ArgR K G' σ env' as vs ds
  | _, _, _, .nil, _ => .nil
  | _, _, _, .v h t, k => .v (h.mono s) (ArgR.upd s t fun i m => k i (List.mem_cons_of_mem _ m))
  | _, _, _, .io h h' t, k => .io h ((k _ List.mem_cons_self).trans h') (ArgR.upd s t fun i m => k i (List.mem_cons_of_mem _ m))
theorem new_imp {K : KW} {g : Nat} (hg : Γ[g]? = some (.io 200)) (hu : stU Γ g = true) (hc : K.mg c = some (.ref C)) (ok : ∀ f, okA Γ (.v f :: (as ++ [.io g])) Δ = true) (os : ∀ f, okSt Γ (.v f :: (as ++ [.io g])) Δ = true) {σ : L2.St} {H : Hp} {Q : VK} {E : XK}
    (h : tM K Γ (eNew c (stF F) as g) 0 σ H Q) : tMG K Γ as σ H fun vs H1 => ∀ x dx, H1 x = none → H1 dx = none → dx ≠ x → spS K Δ 0 (stF F) (.ref x :: vs) (upd (upd H1 dx (.own x)) x (.ins C dx [])) (fun v H2 => v = .non ∧ Q (.ref x) H2) E := by
  obtain ⟨O, G, env, L, r, env2, S, e, kk⟩ := h
  unfold eNew at e
  simp only [Option.bind_eq_some_iff] at e
  obtain ⟨q, e1, e⟩ := e
  obtain ⟨ds0, env1⟩ := q
  simp only at e
  split at e
  · rename_i objs he
    cases e2 : stF F (rfD objs.length :: (ds0 ++ [stD (objs ++ [newD c])])) with
    | none => rw [e2] at e; cases e
    | some q =>
      rw [e2] at e
      simp only [Option.bind_some] at e
      obtain ⟨z, ds'⟩ := q
      simp only at e
      split at e
      · cases e
        refine ⟨O, G, env, L, ds0, env1, S, e1, fun vs H1 G1 L1 S1 s1 A1 x dx hx hdx ne => ?_⟩
        have hx1 : upd H1 dx (.own x) x = none := by rw [upd_ne (Ne.symm ne)]; exact hx
        have S2 : StR K O Γ (upd (upd H1 dx (.own x)) x (.ins C dx [])) G1 σ env1 L1 := weakT (weakT S1 hdx) hx1
        have gx : G1 x = none := S1.gh.free hx
        have gdx : G1 dx = none := S1.gh.free hdx
        have hr : ObjR K (upd (upd H1 dx (.own x)) x (.ins C dx [])) G1 [x, dx] x (newD c) := .ins (vs := []) hc (.inl ⟨upd_same, rfl⟩) (by simp) (.inl (by rw [upd_ne ne, upd_same])) .nil
        have nL : ∀ b, H1 b = none → ∀ i m, At Γ i m → b ∉ L1 i := fun b hb i m hi hl => by
          obtain ⟨_, _, _, _, o⟩ := S1.slot i m hi
          have := (o.objs b hl).2.1
          rw [hb] at this; cases this
        have mem : ∀ b ∈ [x, dx], b = x ∨ b = dx := fun b m => by simpa using m
        obtain ⟨ss, S3⟩ := S2.track (M := [x, dx]) (p := x) (o := newD c) hg hu he (by simp [Ne.symm ne]) (fun b m => by
            rcases mem b m with rfl | rfl
            · exact S1.own_none hx
            · exact S1.own_none hdx) (fun b m => by
            rcases mem b m with rfl | rfl
            · exact ⟨gx, by rw [upd_same]; exact ObK.ins⟩
            · exact ⟨gdx, by rw [upd_ne ne, upd_same]; exact ObK.own⟩) (fun i m hi b mb => by
            rcases mem b mb with rfl | rfl
            · exact nL b hx i m hi
            · exact nL b hdx i m hi) (by simp) hr
        have li : g < env1.length := (List.getElem?_eq_some_iff.mp he).1
        have he3 : (env1.set g (stD (objs ++ [newD c])))[g]? = some (stD (objs ++ [newD c])) := List.getElem?_set_self li
        have ok' : okA Γ (as ++ [.io g]) Δ.tail = true := by
          have := ok (eC .none)
          cases Δ with
          | nil => simp [okA] at this
          | cons q Δ =>
            cases q with
            | ow n =>
              cases n with
              | zero => simpa [okA] using this
              | succ n => simp [okA] at this
            | un => simp [okA] at this
            | io n => simp [okA] at this
        have A2 := A1.upd (env' := env1.set g (stD (objs ++ [newD c]))) ss fun i m => List.getElem?_set_ne (Ne.symm (okA_ne ok' i m))
        have A3 : ArgR K (tagG G1 x objs.length) σ (env1.set g (stD (objs ++ [newD c]))) (.v (eC .none) :: (as ++ [.io g])) (.ref x :: (vs ++ [.int 0])) (rfD objs.length :: (ds0 ++ [stD (objs ++ [newD c])])) := .v (.rf tagG_at) (ArgR.gh S3 (.inl ⟨rfl, hg⟩) he3 A2)
        refine ⟨tagG G1 x objs.length, rfD objs.length :: (ds0 ++ [stD (objs ++ [newD c])]), argL (.v (eC .none) :: (as ++ [.io g])) _, argA (.v (eC .none) :: (as ++ [.io g])) _, fun j => (V.ref x :: (vs ++ [.int 0]))[j]?, .none, ds', S3.enter (ok _) A3, e2, fun v4 H4 G4 L4 S4 s4 v4' => ?_⟩
        have := S3.leave (ok _) (os _) A3 S4 s4 v4'
        have hv : v4 = .non := by
          have := v4'.rep
          cases this; rfl
        exact ⟨hv, kk (.ref x) H4 G4 _ this.1 (s1.trans (ss.trans s4)) (.of_rep ((Rep.rf tagG_at).mono s4))⟩
      · cases e
  · cases e
end
end VL
set_option Elab.async false
set_option linter.all false
set_option maxRecDepth 100000
set_option maxHeartbeats 1000000
/-! VT8: the law's own def, with tracked things: none at its beginning. -/
namespace VL
open PySem PySem.Spec PyProof.Rows L2
def env0S (m : Nat) (ns : List Int) : List D := .none :: bagD ns :: (List.replicate (m - 3) .none ++ [stD []])
def ctx0S (m : Nat) : Ctx := .un :: .ow 1 :: (List.replicate (m - 3) .un ++ [.io 200])
theorem rep_last {α : Type} {k i : Nat} {x y z : α} (h : (List.replicate k x ++ [y])[i]? = some z) : (i < k ∧ z = x) ∨ (i = k ∧ z = y) := by
  rcases Nat.lt_trichotomy i k with q | q | q
  · rw [List.getElem?_append_left (by simpa using q), List.getElem?_replicate, if_pos q] at h
    cases h
    exact .inl ⟨q, rfl⟩
  · subst q
    rw [List.getElem?_append_right (by simp)] at h
    simp at h
    exact .inr ⟨rfl, h.symm⟩
  · rw [List.getElem?_append_right (by simp; omega)] at h
    have := (List.getElem?_eq_some_iff.mp h).1
    simp at this
    omega
theorem rep_at {α : Type} {k : Nat} {x y : α} : (List.replicate k x ++ [y])[k]? = some y := by
  rw [List.getElem?_append_right (by simp)]
  simp
theorem begin_lawS {K : KW} {H : Hp} {p q : Addr} {ns : List Int} {m : Nat} {x : Option V} (hm : 3 ≤ m) (hT : LamX.Tabs (tabsOf K.fr) H) (pq : p ≠ q) (hp : H p = some (.lst [.int 0, .int 1234567891, .int 0, .ref q])) (hq : H q = some (.lst ((ns.map absI).map V.int))) :
    StR K ⟨nt K H, onlyG H q, [p], fun _ => some (.int 0), true⟩ (ctx0S m) H (onlyG H q) (x :: some (.ref p) :: (List.replicate (m - 3) none ++ [some (.int 0)])) (env0S m ns) (fun i => if i = 1 then [p] else []) := by
  have at1 : ∀ i n, At (ctx0S m) i n → (i = 1 ∧ n = 1) ∨ (i = m - 1 ∧ n = 200) := fun i n ⟨k, e1, e2⟩ => by
    unfold ctx0S at e1
    match i, e1 with
    | 0, e1 => simp at e1; subst e1; cases e2
    | 1, e1 => simp at e1; subst e1; cases e2; exact .inl ⟨rfl, rfl⟩
    | i + 2, e1 =>
      simp only [List.getElem?_cons_succ] at e1
      rcases rep_last e1 with ⟨_, rfl⟩ | ⟨h, rfl⟩
      · cases e2
      · cases e2
        exact .inr ⟨by omega, rfl⟩
  have gq : onlyG H q (.inl q) = some (.lst ((ns.map absI).map V.int)) := by show (if q = q then H q else none) = _; rw [if_pos rfl]; exact hq
  have l2 : ∀ {α : Type} {x y z w : α}, (x :: y :: (List.replicate (m - 3) z ++ [w]))[m - 1]? = some w := by
    intro α x y z w
    have : m - 1 = (m - 3) + 1 + 1 := by omega
    rw [this, List.getElem?_cons_succ, List.getElem?_cons_succ]
    exact rep_at
  refine ⟨fun b u e => ?_, by simp [env0S], by simp [ctx0S, env0S], fun i n hi => ?_, fun i n hi => ?_, fun i j n n' hi hj ne a ha ha' => ?_, fun i n hi b hb => ?_, ⟨fun b o e _ => nt_some e, hT, fun t m => ?_, fun t m => nt_at m, fun z => (by cases z), fun a b x e => (by cases e)⟩, fun b o e => .inl (by show (onlyG H q (.inl b)).isSome = true; rw [e]; rfl), fun i n e => ?_⟩
  · change (if b = q then H q else none) = some u at e
    split at e
    · rename_i z; rw [z]; exact e
    · cases e
  · rcases at1 i n hi with ⟨rfl, rfl⟩ | ⟨rfl, rfl⟩
    · refine ⟨.ref p, bagD ns, rfl, rfl, ?_⟩
      show Own K H _ 1 (.ref p) (bagD ns) [p]
      exact .lst hp (by show (if p = q then H q else none) = none; rw [if_neg pq]) (ownL0 (.cons (.int _) (.cons (.int _) (.cons (.int _) (.cons (.lst gq (ints_rep _)) .nil)))))
    · refine ⟨.int 0, stD [], l2, l2, ?_⟩
      rw [if_neg (by omega)]
      exact .st ⟨⟨[], rfl, fun x a => ⟨fun z => (by simp at z), fun z => (by cases z)⟩, fun a u z => (by cases z), fun x a o z => (by simp at z)⟩, fun a z => (by cases z)⟩
  · rcases at1 i n hi with ⟨rfl, rfl⟩ | ⟨rfl, rfl⟩
    · simp
    · rw [if_neg (by omega)]; exact List.nodup_nil
  · rcases at1 i n hi with ⟨rfl, rfl⟩ | ⟨rfl, rfl⟩
    · rcases at1 j n' hj with ⟨rfl, rfl⟩ | ⟨rfl, rfl⟩
      · exact ne rfl
      · rw [if_neg (by omega)] at ha'; cases ha'
    · rw [if_neg (by omega)] at ha; cases ha
  · rcases at1 i n hi with ⟨rfl, rfl⟩ | ⟨rfl, rfl⟩
    · exact .inr (by simpa using hb)
    · rw [if_neg (by omega)] at hb; cases hb
  · show (if t.1 = q then H q else none) = none
    rw [if_neg]
    intro z
    obtain ⟨ps, e, _⟩ := hT t m
    rw [z, hq] at e
    cases e
  · rcases at1 i n ⟨_, e, rfl⟩ with ⟨rfl, rfl⟩ | ⟨rfl, rfl⟩
    · simp [ctx0S] at e
    · exact ⟨.int 0, rfl, l2, fun _ => rfl⟩
theorem law_readS {K : KW} {H : Hp} {Q : VK} {a : Addr} {ns : List Int} {m : Nat} {N : List Str} {R : Ctx} {Γ' : Ctx} {g : Sx} {e : List D} (hm : 3 ≤ m) (hN : N.length = m) (hT : LamX.Tabs (tabsOf K.fr) H) (hS : SqL K.fr H a (ns.map V.int)) (hlen : ns.length ≤ 63) (hq : ∀ H', Q (.bl true) H')
    (hg : g (env0S m ns) = some (.rt (.bool true) e)) :
    tSeq (tAsg (fun σ H Q => (tCons (tVar 0) tNil) σ H fun vs H1 => spBag K.fr vs H1 Q E0) (gName 1)) (tS K ⟨R, 0, [], []⟩ (ctx0S m) Γ' g) { nx := fun _ H' => Q .non H', rt := Q } ((L2.start N [.ref a]).set (m - 1) (some (.int 0))) H := by
  have hs : (L2.start N [.ref a]).set (m - 1) (some (.int 0)) = some (.ref a) :: none :: (List.replicate (m - 3) none ++ [some (.int 0)]) := by
    rw [start_eq]
    have e1 : N.length - ([V.ref a] : List V).length = (m - 3) + 1 + 1 := by rw [hN]; simp; omega
    rw [e1, List.replicate_succ]
    have : m - 1 = (m - 3) + 1 + 1 := by omega
    rw [this]
    simp only [List.map_cons, List.map_nil, List.cons_append, List.nil_append, List.set_cons_succ]
    rw [List.replicate_succ', List.set_append_right _ _ (by simp)]
    simp
  rw [hs]
  refine ⟨.ref a, rfl, a, ns, rfl, hS, hlen, fun H' p q s1 _ _ pq hp hq' => ?_⟩
  refine ⟨_, _, env0S m ns, _, _, begin_lawS (x := some (.ref a)) hm (hT.ext s1) pq hp hq', hg, ?_⟩
  intro v σ' H2 G2 L2 S2 s2 v2
  have := v2.rep
  cases this
  exact hq _
end VL
set_option Elab.async false
set_option linter.all false
set_option maxRecDepth 100000
set_option maxHeartbeats 1000000
/-! VLW: the law's end where tables of code objects may grow (lambdas). -/
namespace VL
open PySem PySem.Spec PyProof.Rows L2
theorem codeTab_hd {K : PySem.W.Frag} {h : Heap} {c P : Addr} {q : Str} (X : K.In h) (e : codeTab K c = some (P, q)) : PySem.W.CodeHd h c P ∧ K.lookup P = none := by
  unfold codeTab at e
  split at e
  · rename_i dd us sl e1
    split at e
    · rename_i q' t P' file tf flags tg inF text tt h1 h2 h3 h4 h5 h6
      split at e
      · rename_i hc
        cases e
        refine ⟨⟨_, us, file, tf, flags, tg, inF, text, tt, X _ _ e1, rfl, rfl, h2, ?_, h3, h4, h5, h6, hc.1⟩, Option.isNone_iff_eq_none.mp hc.2.1⟩
        rw [Array.getD_eq_getD_getElem?, h2]
        rfl
      · cases e
    · cases e
  · cases e
theorem tabsOf_mem {K : PySem.W.Frag} {p : Addr × Str} (m : p ∈ tabsOf K) : ∃ c q, codeTab K c = some (p.1, q) ∧ p.2 = lamN q := by
  unfold tabsOf at m
  obtain ⟨x, _, e⟩ := List.mem_filterMap.mp m
  cases q : codeTab K x.1 with
  | none => rw [q] at e; cases e
  | some y => rw [q] at e; cases e; exact ⟨x.1, y.2, q, rfl⟩
theorem mem_look {K : PySem.W.Frag} {a : Addr} {o : Obj} (h : K.lookup a = some o) : (a, o) ∈ K := by
  induction K with
  | nil => cases h
  | cons x K ih =>
    rw [List.lookup_cons] at h
    by_cases e : a = x.1
    · rw [show (a == x.1) = true from by simp [e]] at h
      cases h
      rw [e]
      exact List.mem_cons_self
    · rw [show (a == x.1) = false from beq_eq_false_iff_ne.mpr e] at h
      exact List.mem_cons_of_mem _ (ih h)
theorem tabsOf_of {K : PySem.W.Frag} {c P : Addr} {q : Str} (e : codeTab K c = some (P, q)) : (P, lamN q) ∈ tabsOf K := by
  have hl : ∃ o, K.lookup c = some o := by
    unfold codeTab at e
    split at e
    · rename_i h; exact ⟨_, h⟩
    · cases e
  obtain ⟨o, hl⟩ := hl
  exact List.mem_filterMap.mpr ⟨(c, o), mem_look hl, by show (codeTab K c).map _ = _; rw [e]; rfl⟩
/-- what a def that makes lambdas asks of the base -/
structure TBs (K : PySem.W.Frag) (mg : Str → Option Value) (base : Heap) : Prop where
  tb : ∀ c P q, codeTab K c = some (P, q) → LamX.TabB base mg c P
  uq : ∀ p ∈ tabsOf K, ∀ q ∈ tabsOf K, p.1 = q.1 → p.2 = q.2
/-- the heap at the beginning: the script, the tables -/
def headH (K : PySem.W.Frag) (a : Addr) (o : Obj) (ns : List Int) : Hp := fun b => if b ∈ (tabsOf K).map (·.1) then some (.tbl #[]) else if b = a ∧ K.lookup a = none then some (.frz o (.lst (ns.map V.int))) else none
theorem law_callT {P : Program} {w : World} {K : PySem.W.Frag} {mg mb : Str → Option Value} {k : Nat} {fa a : Addr} {fd : FuncData} {x : Str} {sp : Sp} {s₁ : Shared} {vs : List Value} {ns : List Int}
    (hK : K.In s₁.heap) (hns : s₁.heap.Ns mainGlobals mg) (hb : s₁.heap.Ns builtinsNs mb) (hbb : ∀ x : Str, x ≠ "__name__" → mb x = bootBuiltins x) (hlim : s₁.heap.NoLimit) (hg : s₁.gens = #[])
    (hT : ∀ p ∈ tabsOf K, s₁.heap.get? p.1 = some { cls := .none, data := .fields #[] }) (hu : ∀ p ∈ tabsOf K, ∀ q ∈ tabsOf K, p.1 = q.1 → p.2 = q.2)
    (hbm : ∃ (bm : Addr) (ob : Obj), mg "__builtins__" = some (.ref bm) ∧ bm ≠ builtinsNs ∧ s₁.heap.get? bm = some ob ∧ ob.cls = .type "module" ∧ ob.dict = some builtinsNs ∧ ob.data = .plain)
    (ha : s₁.heap.get? a = some { cls := .type "list", data := .seq vs.toArray }) (hi : IntsAre vs ns) (hl : ns.length ≤ sizeLine) (hr : Room k callerA)
    (F : ∀ base : Heap, K.In base → base.Ns mainGlobals mg → TBs K mg base → FnG P w K mg base CX0 k fa fd [x] sp) (hbind : ∀ (s : Shared) (u : Value), BindsTo s fd ⟨[u], []⟩ [(x, u)])
    (hsp : ∀ H : Hp, LamX.Tabs (tabsOf K) H → SqL K H a (ns.map V.int) → sp [.ref a] H (fun v _ => v = .bl true) fun _ _ _ => False) :
    codeAny (model P w) callerA (.call (.ref fa) ⟨[.ref a], []⟩) (fun r s' => r = .ok (.ret (.bool true)) ∧ OldK s₁.heap s'.heap ∧ s'.os = s₁.os ∧ AllBare s'.gens) s₁ := by
  let ol : Obj := { cls := .type "list", data := .seq vs.toArray }
  let H := headH K a ol ns
  have tabAt : ∀ {b}, b ∈ (tabsOf K).map (·.1) → s₁.heap.get? b = some { cls := .none, data := .fields #[] } := fun {b} m => by
    obtain ⟨p, hp, rfl⟩ := List.mem_map.mp m
    exact hT p hp
  have aOff : a ∉ (tabsOf K).map (·.1) := fun m => by
    have e := tabAt m
    rw [ha] at e
    have z : Data.seq vs.toArray _ = Data.fields #[] := congrArg Obj.data (Option.some.inj e)
    cases z
  have tabNo : ∀ {b}, b ∈ (tabsOf K).map (·.1) → K.lookup b = none := fun {b} m => by
    obtain ⟨p, hp, rfl⟩ := List.mem_map.mp m
    obtain ⟨c, q, e, _⟩ := tabsOf_mem hp
    exact (codeTab_hd hK e).2
  have atT : ∀ {b}, b ∈ (tabsOf K).map (·.1) → H b = some (.tbl #[]) := fun {b} m => if_pos m
  -- what stands in H
  have cs : ∀ b, H b = none ∨ (b ∈ (tabsOf K).map (·.1) ∧ H b = some (.tbl #[])) ∨ (b = a ∧ K.lookup a = none ∧ H b = some (.frz ol (.lst (ns.map V.int)))) := fun b => by
    by_cases m : b ∈ (tabsOf K).map (·.1)
    · exact .inr (.inl ⟨m, atT m⟩)
    · by_cases z : b = a ∧ K.lookup a = none
      · exact .inr (.inr ⟨z.1, z.2, (if_neg m).trans (if_pos z)⟩)
      · exact .inl ((if_neg m).trans (if_neg z))
  have hok : HOk P w H s₁.heap := fun b u e => by
    rcases cs b with z | ⟨m, z⟩ | ⟨rfl, _, z⟩
    · rw [z] at e; cases e
    · rw [z] at e; cases e
      exact tabAt m
    · rw [z] at e; cases e
      exact ⟨ha, by rw [List.length_map]; exact hl, vs, _, vals_ints hi, ha⟩
  have plainO : ∀ {b : Addr} {o : Obj}, s₁.heap.get? b = some o → o ≠ ol → o ≠ { cls := .none, data := .fields #[] } → H b = none := fun {b o} e n1 n2 => by
    rcases cs b with z | ⟨m, _⟩ | ⟨rfl, _, _⟩
    · exact z
    · exact absurd (Option.some.inj (e.symm.trans (tabAt m))) n2
    · exact absurd (Option.some.inj (e.symm.trans ha)) n1
  have hidB : ∀ {b : Addr} {o : Obj}, s₁.heap.get? b = some o → o ≠ ol → o ≠ { cls := .none, data := .fields #[] } → (hidT s₁.heap H).get? b = some o := fun e n1 n2 => hidT_get e (plainO e n1 n2)
  have nsB : ∀ {b : Addr} {m : Str → Option Value}, s₁.heap.Ns b m → (hidT s₁.heap H).Ns b m := fun {b m} ⟨o, es, ep, e, d, r⟩ =>
    ⟨o, es, ep, hidB e (fun z => by rw [z] at d; cases (show Data.seq vs.toArray _ = Data.dict es ep from d)) (fun z => by rw [z] at d; cases (show Data.fields #[] = Data.dict es ep from d)), d, r⟩
  have kB : K.In (hidT s₁.heap H) := fun b o e => by
    refine hidT_get (hK b o e) ?_
    rcases cs b with z | ⟨m, _⟩ | ⟨rfl, z, _⟩
    · exact z
    · rw [tabNo m] at e; cases e
    · rw [z] at e; cases e
  have md : Mod K mg (hidT s₁.heap H) := by
    obtain ⟨mc, h1, h2⟩ := hlim
    exact ⟨kB, nsB hns, ⟨mb, nsB hb, hbb⟩, mc, nsB h1, h2⟩
  have tbs : TBs K mg (hidT s₁.heap H) := by
    refine ⟨fun c P' q e => ?_, hu⟩
    have hP : P' ∈ (tabsOf K).map (·.1) := List.mem_map.mpr ⟨_, tabsOf_of e, rfl⟩
    refine ⟨(codeTab_hd kB e).1, ?_, fun z => ?_⟩
    · obtain ⟨bm, ob, b1, b2, b3, b4, b5, b6⟩ := hbm
      refine ⟨bm, ob, b1, b2, fun z => ?_, fun z => ?_, hidB b3 (fun z => ?_) (fun z => ?_), b4, b5, b6⟩
      · obtain ⟨o, es, ep, e', d, _⟩ := hns
        rw [z, e'] at b3
        cases b3
        rw [d] at b6
        cases b6
      · rw [z, tabAt hP] at b3
        cases b3
        cases b6
      · rw [z] at b6; cases (show Data.seq vs.toArray _ = Data.plain from b6)
      · rw [z] at b6; cases (show Data.fields #[] = Data.plain from b6)
    · obtain ⟨o, es, ep, e', d, _⟩ := hns
      rw [z, tabAt hP] at e'
      cases e'
      cases (show Data.fields #[] = Data.dict es ep from d)
  have hTabs : LamX.Tabs (tabsOf K) H := fun p m => LamX.TabS.nil (atT (List.mem_map.mpr ⟨p, m, rfl⟩))
  have hS : SqL K H a (ns.map V.int) := by
    cases q : K.lookup a with
    | none => exact .inl (.inr ⟨ol, (if_neg aOff).trans (if_pos ⟨rfl, q⟩)⟩)
    | some o =>
      have e := hK a o q
      rw [ha] at e
      cases e
      refine .inr ⟨_, vs.toArray, _, q, rfl, rfl, rfl, ?_, ?_⟩
      · rw [List.size_toArray, hi.length]; exact hl
      · simpa using vals_ints hi
  have e0 : Env0 P w K mg (hidT s₁.heap H) callerA [] s₁ H :=
    { frames := rfl, mod := md, bs := fun b o e => of_hidT e, bsz := Nat.le_of_eq (hidT_size _ _), funs := trivial, frf := fun b hb => (by cases (show b ∈ ([] : List Addr) from hb)), hok := hok, bare := .of_eq hg }
  refine codeAny_mono ((F _ kB (nsB hns) tbs).run callerA [] s₁ H ⟨[.ref a], []⟩ [.ref a] [.ref a] _ _ rfl hr e0 (hbind s₁ (.ref a)) (.cons rfl .nil) (hsp H hTabs hS)) ?_
  intro r s' hr'
  cases r with
  | error ex => exact False.elim hr'
  | ok fl =>
    cases fl with
    | next => exact False.elim hr'
    | brk => exact False.elim hr'
    | cont => exact False.elim hr'
    | ret u =>
      obtain ⟨v, H', os, bare, un, hok', rv, hv⟩ := hr'
      have hv' : v = .bl true := hv
      subst hv'
      have eu : u = Value.bool true := rv
      subst eu
      have same : ∀ b o, b ∉ (tabsOf K).map (·.1) → s₁.heap.get? b = some o → s'.heap.get? b = some o := fun b o nb e => by
        rcases cs b with z | ⟨m, _⟩ | ⟨rfl, _, z⟩
        · exact un.keep b o e z (fun y => (by cases (show b ∈ ([] : List Addr) from y))) (fun y => (by cases y))
        · exact absurd m nb
        · have h2 := (hok' b _ (un.frzs b _ _ z)).1
          rw [ha] at e
          cases e
          exact h2
      have grows : ∀ {b}, b ∈ (tabsOf K).map (·.1) → ∃ more : Array Value, s'.heap.get? b = some { cls := .none, data := .fields more } := fun {b} m => by
        obtain ⟨more, z⟩ := un.tbls b #[] (atT m)
        exact ⟨_, hok' b _ z⟩
      refine ⟨rfl, ⟨fun b o e => ?_, fun b o e => ?_⟩, os, bare⟩
      · by_cases m : b ∈ (tabsOf K).map (·.1)
        · obtain ⟨more, hm⟩ := grows m
          have hb' := tabAt m
          rw [e] at hb'
          cases hb'
          obtain ⟨p, hp, rfl⟩ := List.mem_map.mp m
          obtain ⟨c, q, ec, _⟩ := tabsOf_mem hp
          exact .inr (.inl ⟨((codeTab_hd hK ec).1.tab e).isCodeTable, rfl, #[], more, rfl, by rw [Array.empty_append]; exact hm⟩)
        · exact .inl (same b o m e)
      · by_cases m : b ∈ (tabsOf K).map (·.1)
        · obtain ⟨more, hm⟩ := grows m
          exact ⟨_, hm⟩
        · exact ⟨o, same b o m e⟩
theorem walk_ofT {l : PySem.W.OpenLaw} {n k : Nat} {q : Program} {loose : List Str} {XP : (Str → Option Value) → Heap → Prop} {YP : World → Heap → Prop} {d : DefRec} {K : Params → PySem.W.Frag} {sp : PySem.W.Frag → Sp} {x : Str}
    (hn : l.most = some n) (hn2 : n ≤ sizeLine) (hdf : d.params.defaults = []) (hr : Room k callerA) (hY : ∀ (w : World) (h : Heap), YP w h → (K w.params).In h)
    (hT : ∀ (w : World) (h : Heap), YP w h → ∀ p ∈ tabsOf (K w.params), h.get? p.1 = some { cls := .none, data := .fields #[] }) (hu : ∀ w : World, ∀ p ∈ tabsOf (K w.params), ∀ q ∈ tabsOf (K w.params), p.1 = q.1 → p.2 = q.2)
    (F : ∀ (w : World) (mg : Str → Option Value) (fa : Addr) (h : Heap), (K w.params).In h → h.Ns mainGlobals mg → mg d.name = some (.ref fa) →
      ∃ fd : FuncData, (∀ (s : Shared) (u : Value), BindsTo s fd ⟨[u], []⟩ [(x, u)]) ∧ ∀ base : Heap, (K w.params).In base → base.Ns mainGlobals mg → TBs (K w.params) mg base → FnG l.prog w (K w.params) mg base CX0 k fa fd [x] (sp (K w.params)))
    (hsp : ∀ (K : PySem.W.Frag) (H : Hp) (a : Addr) (ns : List Int), ns.length ≤ n → LamX.Tabs (tabsOf K) H → SqL K H a (ns.map V.int) → sp K [.ref a] H (fun v _ => v = .bl true) fun _ _ _ => False) :
    PySem.W.WalkO q loose XP YP l.row.toRowW d [] (fun f vs => PySem.call f vs) := by
  refine Att.attach_callB hn hdf fun w s₀ s₁ mg mb fa o pm cd doc a vs ns Gr Y ho hd hcd hmg hobj hints hlen hbits hg => ?_
  obtain ⟨fd, hb, hF⟩ := F w mg fa _ (hY w _ Y) Gr.T.g hmg
  exact law_callT (hY w _ Y) Gr.T.g Gr.T.b Gr.T.builtins Gr.T.nolimit hg (hT w _ Y) (hu w) Gr.T.bmain hobj hints (Nat.le_trans hlen hn2) hr hF hb fun H hH hS => hsp _ H a ns hlen hH hS
end VL
namespace VL
open PySem PySem.Spec PyProof.Rows L2
/-! ### the code objects of some defs marked -/
/-- a code object of one of the names -/
def isCodeOf (names : List Str) (o : Obj) : Bool := match o.data with
  | .fields us => match us[1]? with
    | some (Value.str q _) => names.contains q
    | _ => false
  | _ => false
def markL (names : List Str) (K : PySem.W.Frag) : PySem.W.Frag := K ++ K.filter fun x => isCodeOf names x.2
theorem app_look {a : Addr} {M : PySem.W.Frag} : ∀ {K : PySem.W.Frag}, (∀ o, (a, o) ∈ M → (K.lookup a).isSome = true) → List.lookup a (K ++ M) = K.lookup a
  | [], h => by
    cases q : List.lookup a M with
    | none => simpa using q
    | some o => have := h o (mem_look q); cases this
  | (b, u) :: K, h => by
    rw [List.cons_append, List.lookup_cons, List.lookup_cons]
    by_cases e : a = b
    · rw [show (a == b) = true from by simp [e]]
    · have e' : (a == b) = false := beq_eq_false_iff_ne.mpr e
      rw [e']
      refine app_look fun o m => ?_
      have := h o m
      rw [List.lookup_cons, e'] at this
      exact this
theorem look_of_mem {a : Addr} {o : Obj} : ∀ {K : PySem.W.Frag}, (a, o) ∈ K → (K.lookup a).isSome = true
  | (b, u) :: K, h => by
    rw [List.lookup_cons]
    by_cases e : a = b
    · rw [show (a == b) = true from by simp [e]]; rfl
    · rw [show (a == b) = false from beq_eq_false_iff_ne.mpr e]
      rcases List.mem_cons.mp h with z | z
      · exact absurd (congrArg Prod.fst z) e
      · exact look_of_mem z
theorem markL_look {names : List Str} {K : PySem.W.Frag} {a : Addr} : (markL names K).lookup a = K.lookup a := app_look fun o m => look_of_mem (List.mem_filter.mp m).1
theorem markL_get {names : List Str} {K : PySem.W.Frag} {a : Addr} {o : Obj} (h : K.lookup a = some o) : (markL names K).lookup a = some o := markL_look.trans h
theorem markL_in {names : List Str} {K : PySem.W.Frag} {h : Heap} (X : K.In h) : (markL names K).In h := fun a o e => X a o (markL_look.symm.trans e)
theorem nsIn_mark {names : List Str} {K : PySem.W.Frag} {a : Addr} {x : Str} {v : Option (Option Value)} (h : PySem.W.nsIn K a x = v) : PySem.W.nsIn (markL names K) a x = v := by
  unfold PySem.W.nsIn at h ⊢
  rw [markL_look]
  exact h
theorem codeIn_mark {names : List Str} {K : PySem.W.Frag} {c : Value} {q : Str} {b : Bool} (h : PySem.W.codeIn K c q = b) : PySem.W.codeIn (markL names K) c q = b := by
  unfold PySem.W.codeIn at h ⊢
  cases c with
  | ref c => simp only [markL_look]; exact h
  | _ => exact h
theorem keepIn_mark {names : List Str} {K : PySem.W.Frag} {f : Addr} {c : Value} {d : Option Addr} {fd : FuncData} {sl : Array (Option Value)} (h : K.lookup f = some ⟨c, d, .func fd, sl⟩) : PySem.W.keepIn (markL names K) (.ref f) = true := by
  unfold PySem.W.keepIn
  simp only [markL_look, h]
/-- the tables are those told, each of one name -/
def tabCheck (names : List Str) (ts : List Addr) (K : PySem.W.Frag) : Bool := ((tabsOf (markL names K)).all fun p => ts.contains p.1) && (tabsOf (markL names K)).all fun p => (tabsOf (markL names K)).all fun q => !(p.1 == q.1) || p.2 == q.2
theorem tabCheck_t {names : List Str} {ts : List Addr} {K : PySem.W.Frag} {g : Heap} (h : tabCheck names ts K = true) (X : ∀ P ∈ ts, g.get? P = some (PySem.W.tabObj #[])) : ∀ p ∈ tabsOf (markL names K), g.get? p.1 = some { cls := .none, data := .fields #[] } := fun p hp => by
  unfold tabCheck at h
  simp only [Bool.and_eq_true] at h
  have := List.all_eq_true.mp h.1 p hp
  rw [List.contains_iff_mem] at this
  exact X _ this
theorem tabCheck_q {names : List Str} {ts : List Addr} {K : PySem.W.Frag} (h : tabCheck names ts K = true) : ∀ p ∈ tabsOf (markL names K), ∀ q ∈ tabsOf (markL names K), p.1 = q.1 → p.2 = q.2 := fun p hp q hq e => by
  unfold tabCheck at h
  simp only [Bool.and_eq_true] at h
  have := List.all_eq_true.mp (List.all_eq_true.mp h.2 p hp) q hq
  rw [e] at this
  simpa using this
theorem walk_ofD {l : PySem.W.OpenLaw} {n k : Nat} {q : Program} {loose : List Str} {XP : (Str → Option Value) → Heap → Prop} {YP : World → Heap → Prop} {d : DefRec} {K : Params → PySem.W.Frag} {sp : PySem.W.Frag → Sp} {x : Str} (names : List Str) {ts : List Addr}
    (hn : l.most = some n) (hn2 : n ≤ sizeLine) (hdf : d.params.defaults = []) (hr : Room k callerA) (hY : ∀ (w : World) (h : Heap), YP w h → (K w.params).In h ∧ ∀ P ∈ ts, h.get? P = some (PySem.W.tabObj #[])) (hC : ∀ w : World, tabCheck names ts (K w.params) = true)
    (F : ∀ (w : World) (mg : Str → Option Value) (fa : Addr) (h : Heap), (markL names (K w.params)).In h → h.Ns mainGlobals mg → mg d.name = some (.ref fa) →
      ∃ fd : FuncData, (∀ (s : Shared) (u : Value), BindsTo s fd ⟨[u], []⟩ [(x, u)]) ∧ ∀ base : Heap, (markL names (K w.params)).In base → base.Ns mainGlobals mg → TBs (markL names (K w.params)) mg base → FnG l.prog w (markL names (K w.params)) mg base CX0 k fa fd [x] (sp (markL names (K w.params))))
    (hsp : ∀ (K : PySem.W.Frag) (H : Hp) (a : Addr) (ns : List Int), ns.length ≤ n → LamX.Tabs (tabsOf K) H → SqL K H a (ns.map V.int) → sp K [.ref a] H (fun v _ => v = .bl true) fun _ _ _ => False) :
    PySem.W.WalkO q loose XP YP l.row.toRowW d [] (fun f vs => PySem.call f vs) :=
  walk_ofT (K := fun p => markL names (K p)) hn hn2 hdf hr (fun w h Y => markL_in (hY w h Y).1) (fun w h Y => tabCheck_t (hC w) (hY w h Y).2) (fun w => tabCheck_q (hC w)) F hsp
end VL
set_option Elab.async false
set_option linter.all false
set_option maxRecDepth 100000
set_option maxHeartbeats 1000000
/-! VSK: sorted(x, key=f), f giving ints: stable, over heaps that only grow. -/
namespace VL
open PySem PySem.Spec PyProof.Rows L2 SrtO
end VL
set_option Elab.async false
set_option linter.all false
set_option maxRecDepth 100000
set_option maxHeartbeats 1000000
/-! VSL: a lambda is made; sorted(x, key=lambda p: p[1]) of pairs of ints. -/
namespace VL
open PySem PySem.Spec PyProof.Rows L2 SrtO
/-! ### the mirror -/
/-! ### stable sorting is merge sort -/
/-! ### the call of lambda p: p[1] -/
end VL
set_option Elab.async false
set_option linter.all false
set_option maxRecDepth 100000
set_option maxHeartbeats 1000000
/-! VS: mirrors, evaluated by simp. -/
namespace VL
open PySem L2
/-- an equation that simp does not take for definitional -/
theorem rflN {α : Sort _} {a b : α} (h : a = b) : a = b := h
/-- bind and map under names of our own, so that nothing is taken by definition -/
def ob {α β : Type} (x : Option α) (f : α → Option β) : Option β := x.bind f
def om {α β : Type} (x : Option α) (f : α → β) : Option β := x.map f
@[simp] theorem ob_some {α β : Type} (a : α) (f : α → Option β) : ob (some a) f = f a := rflN rfl
@[simp] theorem ob_none {α β : Type} (f : α → Option β) : ob none f = none := rflN rfl
@[simp] theorem om_some {α β : Type} (a : α) (f : α → β) : om (some a) f = some (f a) := rflN rfl
@[simp] theorem om_none {α β : Type} (f : α → β) : om none f = none := rflN rfl
def toB : D × List D → Option (Bool × List D) := fun p => match p.1 with
  | .bool b => some (b, p.2)
  | _ => none
@[simp] theorem toB_b (b : Bool) (e : List D) : toB (.bool b, e) = some (b, e) := rflN rfl
@[simp] theorem zz_asB (a : Ex) (env : List D) : asB a env = ob (a env) toB := rflN rfl
def andK (b : Ex) : D × List D → Option (D × List D) := fun p => match p.1 with
  | .bool true => b p.2
  | .bool false => some (.bool false, p.2)
  | _ => none
def orK (b : Ex) : D × List D → Option (D × List D) := fun p => match p.1 with
  | .bool true => some (.bool true, p.2)
  | .bool false => b p.2
  | _ => none
@[simp] theorem andK_t (b : Ex) (e : List D) : andK b (.bool true, e) = b e := rflN rfl
@[simp] theorem andK_f (b : Ex) (e : List D) : andK b (.bool false, e) = some (.bool false, e) := rflN rfl
@[simp] theorem orK_t (b : Ex) (e : List D) : orK b (.bool true, e) = some (.bool true, e) := rflN rfl
@[simp] theorem orK_f (b : Ex) (e : List D) : orK b (.bool false, e) = b e := rflN rfl
@[simp] theorem zz_eAnd (a b : Ex) (env : List D) : eAnd a b env = ob (a env) (andK b) := by
  unfold eAnd andK ob; rfl
@[simp] theorem zz_eOr (a b : Ex) (env : List D) : eOr a b env = ob (a env) (orK b) := by
  unfold eOr orK ob; rfl
def sqK (y : Sx) : Out → Option Out := fun o => match o with
  | .nx e => y e
  | o => some o
@[simp] theorem sqK_nx (y : Sx) (e : List D) : sqK y (.nx e) = y e := rflN rfl
@[simp] theorem sqK_rt (y : Sx) (r : D) (e : List D) : sqK y (.rt r e) = some (.rt r e) := rflN rfl
@[simp] theorem sqK_bk (y : Sx) (e : List D) : sqK y (.bk e) = some (.bk e) := rflN rfl
@[simp] theorem sqK_ct (y : Sx) (e : List D) : sqK y (.ct e) = some (.ct e) := rflN rfl
@[simp] theorem zz_sq (x y : Sx) (env : List D) : sq x y env = ob (x env) (sqK y) := by
  unfold sq sqK ob; rfl
def runK (Δ : Ctx) (ds : List D) : Out → Option (D × List D) := fun o => match o with
  | .rt r e => some (r, outP Δ ds e)
  | .nx e => some (.none, outP Δ ds e)
  | _ => none
@[simp] theorem runK_rt (Δ : Ctx) (ds e : List D) (r : D) : runK Δ ds (.rt r e) = some (r, outP Δ ds e) := rflN rfl
@[simp] theorem runK_nx (Δ : Ctx) (ds e : List D) : runK Δ ds (.nx e) = some (.none, outP Δ ds e) := rflN rfl
theorem runD_eq (Δ : Ctx) (g : Sx) (m : Nat) (ds : List D) : runD Δ g m ds = ob (g (ds ++ List.replicate (m - ds.length) .none)) (runK Δ ds) := by
  unfold runD runK ob; rfl
def frzK : D × List D → Option (D × List D) := fun p => match p.1 with
  | .dict _ => some p
  | _ => none
@[simp] theorem frzK_d (ds : List (D × D)) (e : List D) : frzK (.dict ds, e) = some (.dict ds, e) := rflN rfl
@[simp] theorem zz_eFrz (a : Ex) (env : List D) : eFrz a env = ob (a env) frzK := rflN rfl
def pK : D × List D → Option (Option Int × List D) := fun p => match p.1 with
  | .int i => some (some i, p.2)
  | _ => none
@[simp] theorem pK_i (i : Int) (e : List D) : pK (.int i, e) = some (some i, e) := rflN rfl
@[simp] theorem zz_pIs (a : Ex) (env : List D) : pIs a env = ob (a env) pK := rflN rfl
def forK (gt : Gx) (gb : Sx) (ds : List D) : Out → Option Out := fun o => match o with
  | .nx e => forL gt gb ds e
  | .ct e => forL gt gb ds e
  | .bk e => some (.nx e)
  | .rt r e => some (.rt r e)
@[simp] theorem forK_nx (gt : Gx) (gb : Sx) (ds e : List D) : forK gt gb ds (.nx e) = forL gt gb ds e := rflN rfl
@[simp] theorem forK_ct (gt : Gx) (gb : Sx) (ds e : List D) : forK gt gb ds (.ct e) = forL gt gb ds e := rflN rfl
@[simp] theorem forK_bk (gt : Gx) (gb : Sx) (ds e : List D) : forK gt gb ds (.bk e) = some (.nx e) := rflN rfl
@[simp] theorem forK_rt (gt : Gx) (gb : Sx) (ds e : List D) (r : D) : forK gt gb ds (.rt r e) = some (.rt r e) := rflN rfl
@[simp] theorem forL_nil (gt : Gx) (gb : Sx) (e : List D) : forL gt gb [] e = some (.nx e) := rflN rfl
theorem forL_cons (gt : Gx) (gb : Sx) (d : D) (ds e : List D) : forL gt gb (d :: ds) e = ob (gt d e) fun e1 => ob (gb e1) (forK gt gb ds) := by
  unfold forL forK ob; rfl
@[simp] theorem lcL_nil (gt : Gx) (tt : Bx) (fe : Ex) (e : List D) : lcL gt tt fe [] e = some ([], e) := rflN rfl
theorem lcL_cons (gt : Gx) (tt : Bx) (fe : Ex) (d : D) (ds e : List D) : lcL gt tt fe (d :: ds) e = ob (gt d e) fun e1 => ob (tt e1) fun p => if p.1 = true then ob (fe p.2) fun q => om (lcL gt tt fe ds q.2) fun r => (q.1 :: r.1, r.2) else lcL gt tt fe ds p.2 := rflN rfl
def itK : D × List D → Option (List D × List D) := fun p => match p.1 with
  | .list xs => some (enumFrom 0 xs, p.2)
  | .tuple xs => some (enumFrom 0 xs, p.2)
  | _ => none
@[simp] theorem itK_t (xs e : List D) : itK (.tuple xs, e) = some (enumFrom 0 xs, e) := rflN rfl
@[simp] theorem itK_l (xs e : List D) : itK (.list xs, e) = some (enumFrom 0 xs, e) := rflN rfl
@[simp] theorem zz_iEn (a : Ex) (env : List D) : iEn a env = ob (a env) itK := rflN rfl
def rgK : D × List D → Option (List D × List D) := fun p => match p.1 with
  | .int j => if okR j = true then some (upTo j.toNat, p.2) else none
  | _ => none
theorem rgK_i (j : Int) (e : List D) (h1 : -4611686018427387904 ≤ j) (h2 : j < 4611686018427387904) : rgK (.int j, e) = some (upTo j.toNat, e) := by
  have : okR j = true := by unfold okR; simp only [Bool.and_eq_true, decide_eq_true_eq]; exact ⟨h1, h2⟩
  simp [rgK, this]
@[simp] theorem zz_iRg1 (a : Ex) (env : List D) : iRg1 a env = ob (a env) rgK := rflN rfl
def mutK (i : Nat) (U : List D → List D → Option (D × List D)) : List D × List D → Option (D × List D) := fun p => match p.2[i]? with
  | some (.list ds) => (U ds p.1).map fun q => (q.1, p.2.set i (.list q.2))
  | _ => none
theorem mutK_l {i : Nat} {U : List D → List D → Option (D × List D)} {xs e ds : List D} (h : e[i]? = some (.list ds)) : mutK i U (xs, e) = om (U ds xs) fun q => (q.1, e.set i (.list q.2)) := by
  simp [mutK, h, om]
theorem eMut_l {i : Nat} {U : List D → List D → Option (D × List D)} {fs : List Ex} {env ds : List D} (h : env[i]? = some (.list ds)) : eMut i U fs env = ob (evs fs env) (mutK i U) := by
  unfold eMut mutK ob; rw [h]; simp only [isL, if_true]; first | done | rfl
@[simp] theorem zu_app (ds : List D) (e : D) : uAppend ds [e] = if ds.length < lim then some (.none, ds ++ [e]) else none := rflN rfl
@[simp] theorem zu_ext (ds xs : List D) : uExtend ds [.list xs] = if ds.length + xs.length ≤ lim then some (.none, ds ++ xs) else none := rflN rfl
section
variable {env : List D} {a b c f g : Ex} {p q : Bx} {x y : Sx}
@[simp] theorem zz_eVar (i : Nat) : eVar i env = om (env[i]?) fun d => (d, env) := rflN rfl
@[simp] theorem zz_eC (d : D) : eC d env = some (d, env) := rflN rfl
@[simp] theorem zz_eUn (F : D → Option D) : eUn F a env = ob (a env) fun p => om (F p.1) fun r => (r, p.2) := rflN rfl
@[simp] theorem zz_eBin (F : D → D → Option D) : eBin F a b env = ob (a env) fun p => ob (b p.2) fun q => om (F p.1 q.1) fun r => (r, q.2) := rflN rfl
@[simp] theorem zz_eTri (F : D → D → D → Option D) : eTri F a b c env = ob (a env) fun p => ob (b p.2) fun q => ob (c q.2) fun r => om (F p.1 q.1 r.1) fun z => (z, r.2) := rflN rfl
@[simp] theorem zz_eNs (F : List D → Option D) (as : List Ex) : eNs F as env = ob (evs as env) fun p => om (F p.1) fun r => (r, p.2) := rflN rfl
@[simp] theorem zz_evs0 : evs [] env = some ([], env) := rflN rfl
@[simp] theorem zz_evs1 (as : List Ex) : evs (a :: as) env = ob (a env) fun p => om (evs as p.2) fun q => (p.1 :: q.1, q.2) := rflN rfl
@[simp] theorem zz_eTup (as : List Ex) : eTup as env = om (evs as env) fun p => (.tuple p.1, p.2) := by unfold eTup om eNs; cases evs as env <;> rfl
@[simp] theorem zz_eLst (as : List Ex) : eLst as env = om (evs as env) fun p => (.list p.1, p.2) := by unfold eLst om eNs; cases evs as env <;> rfl
@[simp] theorem zz_eIf : eIf p a b env = ob (p env) fun r => if r.1 = true then a r.2 else b r.2 := rflN rfl
@[simp] theorem zz_bAnd : bAnd p q env = ob (p env) fun r => if r.1 = true then q r.2 else some (false, r.2) := rflN rfl
@[simp] theorem zz_bOr : bOr p q env = ob (p env) fun r => if r.1 = true then some (true, r.2) else q r.2 := rflN rfl
@[simp] theorem zz_bNot : bNot p env = om (p env) fun r => (!r.1, r.2) := rflN rfl
@[simp] theorem zz_bYes : bYes env = some (true, env) := rflN rfl
@[simp] theorem zz_bBor : bBor p env = om (p env) fun r => (r.1, env) := rflN rfl
@[simp] theorem zz_eBor (n : Nat) : eBor n a env = ob (a env) fun p => if imk n p.1 = true then some (p.1, env) else none := rflN rfl
@[simp] theorem zz_call (F : List D → Option (D × List D)) (as : List Arg) : eCall F as env = ob (evArgs as env) fun p => om (F p.1) fun q => (q.1, wb as q.2 p.2) := rflN rfl
@[simp] theorem zz_ev0 : evArgs [] env = some ([], env) := rflN rfl
@[simp] theorem zz_evV (r : List Arg) : evArgs (.v f :: r) env = ob (f env) fun p => om (evArgs r p.2) fun q => (p.1 :: q.1, q.2) := rflN rfl
@[simp] theorem zz_evI (r : List Arg) (i : Nat) : evArgs (.io i :: r) env = ob (evArgs r env) fun q => om (q.2[i]?) fun d => (d :: q.1, q.2) := rflN rfl
@[simp] theorem zz_isIoV (i : Nat) : Arg.isIo i (.v f) = false := rflN rfl
@[simp] theorem zz_isIoI (i j : Nat) : Arg.isIo i (.io j) = (i == j) := rflN rfl
@[simp] theorem zz_wb (as : List Arg) (ds : List D) : wb as ds env = env.mapIdx fun i d => match as.findIdx? (Arg.isIo i) with | some j => ds.getD j d | none => d := rflN rfl
@[simp] theorem zz_find0 {α : Type} (r : α → Bool) : List.findIdx? r [] = none := rflN rfl
@[simp] theorem zz_find1 {α : Type} (r : α → Bool) (z : α) (zs : List α) : List.findIdx? r (z :: zs) = if r z = true then some 0 else (List.findIdx? r zs).map (· + 1) := by simp [List.findIdx?_cons]
@[simp] theorem zz_sNil : sNil env = some (.nx env) := rflN rfl
@[simp] theorem zz_asg (i : Nat) : asg i a env = om (a env) fun p => .nx (p.2.set i p.1) := rflN rfl
@[simp] theorem zz_retE : retE a env = om (a env) fun p => .rt p.1 p.2 := rflN rfl
@[simp] theorem zz_sExp : sExp a env = om (a env) fun p => .nx p.2 := rflN rfl
@[simp] theorem zz_sIf : sIf p x y env = ob (p env) fun r => if r.1 = true then x r.2 else y r.2 := rflN rfl
@[simp] theorem zz_asg2 (i j : Nat) : asg2 i j a b env = ob (a env) fun p => om (b p.2) fun q => .nx ((q.2.set i p.1).set j q.1) := rflN rfl
@[simp] theorem zz_asg3 (i j l : Nat) : asg3 i j l a b c env = ob (a env) fun p => ob (b p.2) fun q => om (c q.2) fun r => .nx (((r.2.set i p.1).set j q.1).set l r.1) := rflN rfl
@[simp] theorem zz_asgG (gt : Gx) : asgG a gt env = ob (a env) fun p => om (gt p.1 p.2) .nx := rflN rfl
@[simp] theorem zz_gtName (i : Nat) (d : D) : gtName i d env = some (env.set i d) := rflN rfl
@[simp] theorem zz_forD (fi : Ix) (gt : Gx) : forD fi gt x env = ob (fi env) fun p => forL gt x p.1 p.2 := rflN rfl
@[simp] theorem zz_iSqA : iSqA a env = ob (a env) fun p => om (itemsA p.1) fun ds => (ds, p.2) := rflN rfl
@[simp] theorem zz_lcD (vs : List Nat) (fi : Ix) (gt : Gx) : lcD vs fi gt p a env = ob (fi env) fun z => ob (lcL gt p a z.1 z.2) fun q => if q.1.length ≤ 1000000 then some (.list q.1, restore vs env q.2) else none := rflN rfl
@[simp] theorem zz_eSl (F : D → Option Int → Option Int → Option D) (lo hi : Px) : eSl F a lo hi env = ob (a env) fun p => ob (lo p.2) fun q => ob (hi q.2) fun r => om (F p.1 q.1 r.1) fun z => (z, r.2) := rflN rfl
@[simp] theorem zz_pNo : pNo env = some (none, env) := rflN rfl
@[simp] theorem zz_eIxT (j : Nat) : eIxT j a env = ob (a env) fun p => om (ixT p.1 j) fun r => (r, p.2) := rflN rfl
end
/-! outcomes -/
theorem sq_nx {x y : Sx} {env e : List D} (h : x env = some (.nx e)) : sq x y env = y e := by simp [sq, h]
@[simp] theorem zt_tuple (xs : List D) (j : Nat) : ixT (.tuple xs) j = xs[j]? := rflN rfl
@[simp] theorem zd_add (i j : Int) : addD (.int i) (.int j) = some (.int (i + j)) := rflN rfl
@[simp] theorem zd_addT (xs ys : List D) : addD (.tuple xs) (.tuple ys) = if xs.length + ys.length ≤ lim then some (.tuple (xs ++ ys)) else none := rflN rfl
@[simp] theorem zd_addL (xs ys : List D) : addD (.list xs) (.list ys) = if xs.length + ys.length ≤ lim then some (.list (xs ++ ys)) else none := rflN rfl
@[simp] theorem zd_catL (xs ys : List D) : catL (.list xs) (.list ys) = if xs.length + ys.length ≤ lim then some (.list (xs ++ ys)) else none := rflN rfl
@[simp] theorem zd_sub (i j : Int) : subD (.int i) (.int j) = some (.int (i - j)) := rflN rfl
@[simp] theorem zd_not (t : Bool) : notD (.bool t) = some (.bool (!t)) := rflN rfl
@[simp] theorem zd_lt (i j : Int) : ltD (.int i) (.int j) = some (.bool (decide (i < j))) := rflN rfl
@[simp] theorem zd_gt (i j : Int) : gtD (.int i) (.int j) = some (.bool (decide (j < i))) := rflN rfl
@[simp] theorem zd_ge (i j : Int) : geD (.int i) (.int j) = some (.bool (decide (j ≤ i))) := rflN rfl
@[simp] theorem zd_lenL (xs : List D) : lenD [.list xs] = some (.int xs.length) := rflN rfl
@[simp] theorem zd_lenT (xs : List D) : lenD [.tuple xs] = some (.int xs.length) := rflN rfl
@[simp] theorem zd_intI (i : Int) : intD [.int i] = some (.int i) := rflN rfl
@[simp] theorem zd_intB (t : Bool) : intD [.bool t] = some (.int (if t then 1 else 0)) := rflN rfl
@[simp] theorem zd_itL (xs : List D) : itemsA (.list xs) = some xs := rflN rfl
@[simp] theorem zd_itT (xs : List D) : itemsA (.tuple xs) = some xs := rflN rfl
@[simp] theorem zd_itL' (xs : List D) : itemsD (.list xs) = some xs := rflN rfl
@[simp] theorem zd_itT' (xs : List D) : itemsD (.tuple xs) = some xs := rflN rfl
@[simp] theorem zd_listD (d : D) : listD [d] = om (itemsD d) .list := rflN rfl
@[simp] theorem zd_tupD (d : D) : tupD [d] = om (itemsD d) .tuple := rflN rfl
@[simp] theorem zd_ixL (xs : List D) (i : Int) : ixA (.list xs) (.int i) = L2.atI xs i := rflN rfl
@[simp] theorem zd_ixT (xs : List D) (i : Int) : ixA (.tuple xs) (.int i) = L2.atI xs i := rflN rfl
@[simp] theorem zd_isN (d : D) : isND d .none = some (.bool (match d with | .none => true | _ => false)) := rflN rfl
@[simp] theorem zd_notN (d : D) : notND d .none = some (.bool (match d with | .none => false | _ => true)) := rflN rfl
@[simp] theorem zd_outP (Δ : Ctx) (ds env : List D) : outP Δ ds env = (env.take ds.length).mapIdx fun i d => match Δ[i]? with | some (.io _) => d | _ => ds.getD i d := rflN rfl
@[simp] theorem zd_immI (n : Nat) (i : Int) : imk n (.int i) = true := by cases n <;> simp [imk, immutF]
@[simp] theorem zd_immB (n : Nat) (i : Bool) : imk n (.bool i) = true := by cases n <;> simp [imk, immutF]
@[simp] theorem zd_immN (n : Nat) : imk n (.none) = true := by cases n <;> simp [imk, immutF]
@[simp] theorem zd_immS (n : Nat) (x : Str) : imk n (.str x) = true := by cases n <;> simp [imk, immutF]
@[simp] theorem ze_ii (i j : Int) : eqD (.int i) (.int j) = some (.bool (i == j)) := by simp [eqD, halfOk, PyData.plain, PyData.depth, PyData.eqv]
@[simp] theorem ze_ss (x y : Str) : eqD (.str x) (.str y) = some (.bool (x == y)) := by simp [eqD, halfOk, PyData.plain, PyData.depth, PyData.eqv]
@[simp] theorem zn_ii (i j : Int) : neD (.int i) (.int j) = some (.bool (!(i == j))) := by simp [neD, halfOk, PyData.plain, PyData.depth, PyData.eqv]
@[simp] theorem zn_ss (x y : Str) : neD (.str x) (.str y) = some (.bool (!(x == y))) := by simp [neD, halfOk, PyData.plain, PyData.depth, PyData.eqv]
@[simp] theorem zi_0 (d : D) : imk 0 d = immutF d := by simp [imk]
@[simp] theorem zi_t (xs : List D) : immutF (.tuple xs) = immutFL xs := by simp [immutF]
@[simp] theorem zi_i (i : Int) : immutF (.int i) = true := by simp [immutF]
@[simp] theorem zi_b (i : Bool) : immutF (.bool i) = true := by simp [immutF]
@[simp] theorem zi_s (i : Str) : immutF (.str i) = true := by simp [immutF]
@[simp] theorem zi_n : immutF .none = true := by simp [immutF]
@[simp] theorem zi_nil : immutFL [] = true := by simp [immutFL]
@[simp] theorem zi_cons (x : D) (xs : List D) : immutFL (x :: xs) = (immutF x && immutFL xs) := by simp [immutFL]
@[simp] theorem zz_gtTup (n : Nat) (h : List D → List D → Option (List D)) (ds env : List D) : gtTup n h (.tuple ds) env = if ds.length = n then h ds env else none := rflN rfl
@[simp] theorem zz_gtNil (env : List D) : gtNil [] env = some env := rflN rfl
@[simp] theorem zz_gtCons (g : Gx) (h : List D → List D → Option (List D)) (d : D) (ds env : List D) : gtCons g h (d :: ds) env = ob (g d env) fun e => h ds e := rflN rfl
@[simp] theorem zz_modD (i j : Int) : modD (.int i) (.int j) = if 0 < j then some (.int (i % j)) else none := by simp [modD, ii, okMod]
@[simp] theorem zz_fdivD (i j : Int) : fdivD (.int i) (.int j) = if 0 < j ∧ j < 1073741824 then some (.int (i / j)) else none := by simp [fdivD, ii, okDiv]
theorem isRf_tup {ds : List (D × D)} (h : isRf ds = true) : tupK ds = true := by
  unfold isRf at h
  split at h
  · rfl
  · cases h
theorem dLook_k {ds : List (D × D)} {e : D} {k : Key} (h : keyOf e = some k) : dLook ds e = if tupK ds = true then none else some (dGet ds k) := by
  unfold dLook
  rw [h]
  by_cases z : isRf ds = true
  · rw [if_pos z, if_pos (isRf_tup z)]
  · rw [if_neg z]
@[simp] theorem zx_i (ds : List (D × D)) (i : Int) : ixA (.dict ds) (.int i) = if tupK ds = true then none else dGet ds (.inl i) := by simp only [ixA, dLook_k (e := .int i) (k := .inl i) rfl]; split <;> simp
@[simp] theorem zx_s (ds : List (D × D)) (x : Str) : ixA (.dict ds) (.str x) = if tupK ds = true then none else dGet ds (.inr x) := by simp only [ixA, dLook_k (e := .str x) (k := .inr x) rfl]; split <;> simp
@[simp] theorem zx_in (ds : List (D × D)) (i : Int) : inA (.int i) (.dict ds) = if tupK ds = true then none else some (.bool (dGet ds (.inl i)).isSome) := by simp only [inA, dLook_k (e := .int i) (k := .inl i) rfl]; split <;> simp
@[simp] theorem zx_ni (ds : List (D × D)) (i : Int) : notInA (.int i) (.dict ds) = if tupK ds = true then none else some (.bool (!(dGet ds (.inl i)).isSome)) := by simp only [notInA, dLook_k (e := .int i) (k := .inl i) rfl]; split <;> simp
@[simp] theorem zx_g1 (ds : List (D × D)) (i : Int) : getD1 (.dict ds) (.int i) = if tupK ds = true then none else some ((dGet ds (.inl i)).getD .none) := by simp only [getD1, dLook_k (e := .int i) (k := .inl i) rfl]; split <;> simp
@[simp] theorem zx_g2 (ds : List (D × D)) (i : Int) (z : D) : getD2 (.dict ds) (.int i) z = if tupK ds = true then none else some ((dGet ds (.inl i)).getD z) := by simp only [getD2, dLook_k (e := .int i) (k := .inl i) rfl]; split <;> simp
end VL
set_option Elab.async false
set_option linter.all false
set_option maxRecDepth 100000
set_option maxHeartbeats 1000000
namespace VL
open PySem L2
@[simp] theorem zz_lcD2 (vs : List Nat) (fi : Ix) (gt : Gx) (tt : Bx) (fi1 : Ix) (gt1 : Gx) (tt1 : Bx) (fe : Ex) (env : List D) : lcD2 vs fi gt tt fi1 gt1 tt1 fe env = ob (fi env) fun p => ob (lcL2 gt tt fi1 gt1 tt1 fe p.1 p.2) fun q => if q.1.length ≤ 1000000 then some (.list q.1, restore vs env q.2) else none := rflN rfl
@[simp] theorem lcL2_nil (gt : Gx) (tt : Bx) (fi1 : Ix) (gt1 : Gx) (tt1 : Bx) (fe : Ex) (e : List D) : lcL2 gt tt fi1 gt1 tt1 fe [] e = some ([], e) := rflN rfl
@[simp] theorem zr_revT (xs : List D) : revD (.tuple xs) = some (.tuple xs.reverse) := rflN rfl
@[simp] theorem zs_L (xs : List D) : sortedA [.list xs] = if okSort xs = true then some (.list (srt xs)) else none := rflN rfl
@[simp] theorem zs_T (xs : List D) : sortedA [.tuple xs] = if okSort xs = true then some (.list (srt xs)) else none := rflN rfl
end VL
set_option Elab.async false
set_option linter.all false
set_option maxRecDepth 100000
set_option maxHeartbeats 1000000
/-! MF: small data can be compared and shown. -/
namespace VL
open PySem L2
mutual
def okS : D → Bool
  | .none => true
  | .bool _ => true
  | .int i => decide (i.natAbs < 10 ^ 100)
  | .str x => x.cps.toList.all fun c => decide (c < 16 ^ 8)
  | .list xs => okSA xs
  | .tuple xs => okSA xs
  | .dict _ => false
def okSA : List D → Bool
  | [] => true
  | x :: xs => okS x && okSA xs
end
theorem okSA_all : ∀ {xs : List D}, okSA xs = true ↔ ∀ d ∈ xs, okS d = true
  | [] => by simp [okSA]
  | x :: xs => by simp [okSA, okSA_all (xs := xs)]
theorem log2_small {n : Nat} (h : n < 10 ^ 100) : n.log2 < 1920 := by
  by_cases h0 : n = 0
  · subst h0; decide
  · rw [Nat.log2_lt h0]
    exact Nat.lt_trans h (by decide +kernel)
theorem shown_small {i : Int} (h : i.natAbs < 10 ^ 100) : (PyData.shown (.int i)).length ≤ 101 := by
  have e := PySem.int_text_length_le10 (k := 100) (by decide) h
  show (Str.ofString (toString i)).length ≤ 101
  rw [ofString_length]; exact e
mutual
theorem okS_all : ∀ {d : D}, okS d = true → d.plain = true ∧ d.showable = true ∧ d.leavesShort 101 = true
  | .none, _ => ⟨rfl, rfl, rfl⟩
  | .bool _, _ => ⟨rfl, rfl, rfl⟩
  | .int i, h => by
    simp only [okS, decide_eq_true_eq] at h
    refine ⟨rfl, ?_, ?_⟩
    · simp only [PyData.showable, decide_eq_true_eq]; exact log2_small h
    · simp only [PyData.leavesShort, decide_eq_true_eq]; exact shown_small h
  | .str x, h => ⟨rfl, rfl, by simpa [okS, PyData.leavesShort] using h⟩
  | .list xs, h => by
    simp only [okS] at h
    simpa only [PyData.plain, PyData.showable, PyData.leavesShort] using okSA_all' h
  | .tuple xs, h => by
    simp only [okS] at h
    simpa only [PyData.plain, PyData.showable, PyData.leavesShort] using okSA_all' h
  | .dict _, h => by simp [okS] at h
theorem okSA_all' : ∀ {xs : List D}, okSA xs = true → PyData.plainAll xs = true ∧ PyData.showableAll xs = true ∧ PyData.leavesShortAll 101 xs = true
  | [], _ => ⟨rfl, rfl, rfl⟩
  | x :: xs, h => by
    simp only [okSA, Bool.and_eq_true] at h
    obtain ⟨a, b, c⟩ := okS_all h.1
    obtain ⟨a', b', c'⟩ := okSA_all' h.2
    simp [PyData.plainAll, PyData.showableAll, PyData.leavesShortAll, a, b, c, a', b', c']
end
mutual
theorem plain_noDict : ∀ {d : D}, d.plain = true → d.hasDict = false
  | .none, _ => rfl
  | .bool _, _ => rfl
  | .int _, _ => rfl
  | .str _, _ => rfl
  | .list xs, h => by simp only [PyData.plain] at h; simpa only [PyData.hasDict] using plain_noDictA h
  | .tuple xs, h => by simp only [PyData.plain] at h; simpa only [PyData.hasDict] using plain_noDictA h
  | .dict _, h => by simp [PyData.plain] at h
theorem plain_noDictA : ∀ {xs : List D}, PyData.plainAll xs = true → PyData.hasDictAll xs = false
  | [], _ => rfl
  | x :: xs, h => by
    simp only [PyData.plainAll, Bool.and_eq_true] at h
    simp [PyData.hasDictAll, plain_noDict h.1, plain_noDictA h.2]
end
/-- small data: leaves small, flat enough, few -/
structure Sm (d : D) : Prop where
  ok : okS d = true
  dp : d.depth ≤ 64
  bk : d.bulk ≤ 9000
theorem Sm.eq {d : D} (h : Sm d) : eqD d d = some (.bool true) := by
  have p := (okS_all h.ok).1
  simp [eqD, halfOk, p, h.dp, PySem.SeqAt.eqv_refl_plain d p]
theorem Sm.repr {d : D} (h : Sm d) : reprD [d] = some (.str d.shown) := by
  obtain ⟨p, s, l⟩ := okS_all h.ok
  have q := PyData.shown_le_bulk 101 (by decide) d l
  have hb := h.bk
  have hl : d.shown.length ≤ lim := Nat.le_trans q (Nat.le_trans (Nat.add_le_add_right (Nat.mul_le_mul_left _ hb) _) (by decide))
  unfold reprD
  simp only [s, h.dp, hl, plain_noDict p, decide_true, Bool.not_false, Bool.true_or, Bool.and_self, if_true]
theorem bulk_le {m : Nat} : ∀ {xs : List D}, (∀ d ∈ xs, d.bulk ≤ m) → PyData.bulkAll xs ≤ (m + 1) * xs.length
  | [], _ => by simp [PyData.bulkAll]
  | x :: xs, h => by
    have h1 := h x List.mem_cons_self
    have h2 := bulk_le (xs := xs) fun d hd => h d (List.mem_cons_of_mem _ hd)
    simp only [PyData.bulkAll, List.length_cons, Nat.mul_add, Nat.mul_one]
    omega
theorem depth_le {m : Nat} : ∀ {xs : List D}, (∀ d ∈ xs, d.depth ≤ m) → PyData.depthAll xs ≤ m
  | [], _ => by simp [PyData.depthAll]
  | x :: xs, h => by
    have h1 := h x List.mem_cons_self
    have h2 := depth_le (xs := xs) fun d hd => h d (List.mem_cons_of_mem _ hd)
    simp only [PyData.depthAll]
    omega
/-- data with bounds that can be put together -/
structure Bd (d : D) (dp bk : Nat) : Prop where
  ok : okS d = true
  dp : d.depth ≤ dp
  bk : d.bulk ≤ bk
theorem Bd.sm {d : D} {a b : Nat} (h : Bd d a b) (ha : a ≤ 64) (hb : b ≤ 9000) : Sm d := ⟨h.ok, Nat.le_trans h.dp ha, Nat.le_trans h.bk hb⟩
theorem Bd.mono {d : D} {a b a' b' : Nat} (h : Bd d a b) (ha : a ≤ a') (hb : b ≤ b') : Bd d a' b' := ⟨h.ok, Nat.le_trans h.dp ha, Nat.le_trans h.bk hb⟩
theorem bd_bool (b : Bool) : Bd (.bool b) 0 0 := ⟨rfl, by simp [PyData.depth], by simp [PyData.bulk]⟩
theorem bd_int {i : Int} (h : i.natAbs < 10 ^ 100) : Bd (.int i) 0 0 := ⟨by simpa [okS] using h, by simp [PyData.depth], by simp [PyData.bulk]⟩
theorem bd_list {xs : List D} {a b n : Nat} (h : ∀ d ∈ xs, Bd d a b) (hn : xs.length ≤ n) : Bd (.list xs) (a + 1) ((b + 1) * n) := by
  refine ⟨by simp only [okS]; exact okSA_all.mpr fun d m => (h d m).ok, ?_, ?_⟩
  · have := depth_le fun d m => (h d m).dp
    simp only [PyData.depth]; omega
  · have := bulk_le fun d m => (h d m).bk
    simp only [PyData.bulk]
    exact Nat.le_trans this (Nat.mul_le_mul_left _ hn)
theorem bd_tup {xs : List D} {a b n : Nat} (h : ∀ d ∈ xs, Bd d a b) (hn : xs.length ≤ n) : Bd (.tuple xs) (a + 1) ((b + 1) * n) := by
  refine ⟨by simp only [okS]; exact okSA_all.mpr fun d m => (h d m).ok, ?_, ?_⟩
  · have := depth_le fun d m => (h d m).dp
    simp only [PyData.depth]; omega
  · have := bulk_le fun d m => (h d m).bk
    simp only [PyData.bulk]
    exact Nat.le_trans this (Nat.mul_le_mul_left _ hn)
/-- a loop: what holds between two turns -/
theorem for_gen {gt : Gx} {gb : Sx} (P : List D → Prop) (R : D → Prop) (h : ∀ d e, R d → P e → ∃ e1 e2, gt d e = some e1 ∧ gb e1 = some (.nx e2) ∧ P e2) :
    ∀ (ds e : List D), (∀ d ∈ ds, R d) → P e → ∃ e', forL gt gb ds e = some (.nx e') ∧ P e'
  | [], e, _, p => ⟨e, by simp, p⟩
  | d :: ds, e, hr, p => by
    obtain ⟨e1, e2, h1, h2, p2⟩ := h d e (hr d List.mem_cons_self) p
    obtain ⟨e', h3, p'⟩ := for_gen P R h ds e2 (fun x m => hr x (List.mem_cons_of_mem _ m)) p2
    exact ⟨e', by rw [forL_cons, h1, ob_some, h2, ob_some, forK_nx, h3], p'⟩
theorem upTo_len (n : Nat) : (upTo n).length = n := by simp [upTo]
/-- a loop, by the number of the turn -/
theorem for_genN {gt : Gx} {gb : Sx} (P : Nat → List D → Prop) : ∀ (ds : List D) (k : Nat) (e : List D), (∀ (j : Nat) d e, ds[j]? = some d → P (k + j) e → ∃ e1 e2, gt d e = some e1 ∧ (gb e1 = some (.nx e2) ∨ gb e1 = some (.ct e2)) ∧ P (k + j + 1) e2) → P k e → ∃ e', forL gt gb ds e = some (.nx e') ∧ P (k + ds.length) e'
  | [], k, e, _, p => ⟨e, by simp, p⟩
  | d :: ds, k, e, h, p => by
    obtain ⟨e1, e2, h1, h2, p2⟩ := h 0 d e rfl p
    obtain ⟨e', h3, p'⟩ := for_genN (gt := gt) (gb := gb) P ds (k + 1) e2 (fun j x e hx q => by
      have := h (j + 1) x e (by simpa using hx) (by rw [show k + (j + 1) = k + 1 + j by omega]; exact q)
      rwa [show k + (j + 1) + 1 = k + 1 + j + 1 by omega] at this) p2
    refine ⟨e', ?_, by rw [List.length_cons, show k + (ds.length + 1) = k + 1 + ds.length by omega]; exact p'⟩
    rcases h2 with h2 | h2
    · rw [forL_cons, h1, ob_some, h2, ob_some, forK_nx, h3]
    · rw [forL_cons, h1, ob_some, h2, ob_some, forK_ct, h3]
theorem srt_perm (xs : List D) : (srt xs).Perm xs := List.mergeSort_perm _ _
end VL
set_option Elab.async false
set_option linter.all false
set_option maxRecDepth 100000
set_option maxHeartbeats 1000000
/-! MS: sorted lists of rows of ints. -/
namespace VL
open PySem L2
theorem eq_of_sorted {α : Type} {le : α → α → Prop} : ∀ {a b : List α}, a.Pairwise le → b.Pairwise le → (∀ x ∈ a, ∀ y ∈ a, le x y → le y x → x = y) → a.Perm b → a = b
  | [], b, _, _, _, p => (List.nil_perm.mp p).symm
  | x :: a, [], _, _, _, p => by have := p.length_eq; simp at this
  | x :: a, y :: b, ha, hb, an, p => by
    have hxy : x = y := by
      have my : y ∈ x :: a := p.mem_iff.mpr List.mem_cons_self
      have mx : x ∈ y :: b := p.mem_iff.mp List.mem_cons_self
      rcases List.mem_cons.mp my with e | my'
      · exact e.symm
      · rcases List.mem_cons.mp mx with e | mx'
        · exact e
        · exact an x List.mem_cons_self y my ((List.pairwise_cons.mp ha).1 y my') ((List.pairwise_cons.mp hb).1 x mx')
    subst hxy
    rw [eq_of_sorted (List.pairwise_cons.mp ha).2 (List.pairwise_cons.mp hb).2 (fun u hu v hv => an u (List.mem_cons_of_mem _ hu) v (List.mem_cons_of_mem _ hv)) (List.perm_cons x |>.mp p)]
theorem srt_sorted (xs : List D) : (srt xs).Pairwise fun a b => PySem.W.dataLe false id a b = true := PySem.W.sort_pairwise (PySem.W.sortLe_total _ _ _) xs
end VL
set_option Elab.async false
set_option linter.all false
set_option maxRecDepth 100000
set_option maxHeartbeats 1000000
/-! MG: loops over items that stand for something; dicts from ints. -/
namespace VL
open PySem L2
section
variable {α : Type}
theorem lc_map {gt : Gx} {tt : Bx} {fe : Ex} (P : List D → Prop) (en : α → D) (t : α → Bool) (f : α → D) : ∀ (as : List α) (e : List D), (∀ a ∈ as, ∀ e, P e → ∃ e1 e2, gt (en a) e = some e1 ∧ tt e1 = some (t a, e2) ∧ (t a = false → P e2) ∧ (t a = true → ∃ e3, fe e2 = some (f a, e3) ∧ P e3)) → P e →
    ∃ e', lcL gt tt fe (as.map en) e = some ((as.filter t).map f, e') ∧ P e'
  | [], e, _, p => ⟨e, rfl, p⟩
  | a :: as, e, h, p => by
    obtain ⟨e1, e2, h1, h2, hf, ht⟩ := h a List.mem_cons_self e p
    have h' := fun x m => h x (List.mem_cons_of_mem a m)
    cases q : t a with
    | false =>
      obtain ⟨e', h4, p'⟩ := lc_map P en t f as e2 h' (hf q)
      refine ⟨e', ?_, p'⟩
      rw [List.map_cons, lcL_cons, h1, ob_some, h2, ob_some]
      simp [q, h4]
    | true =>
      obtain ⟨e3, h3, p3⟩ := ht q
      obtain ⟨e', h4, p'⟩ := lc_map P en t f as e3 h' p3
      refine ⟨e', ?_, p'⟩
      rw [List.map_cons, lcL_cons, h1, ob_some, h2, ob_some]
      simp [q, h3, h4]
@[simp] theorem zz_dcD (vs : List Nat) (fi : Ix) (gt : Gx) (tt : Bx) (fk fe : Ex) (env : List D) : dcD vs fi gt tt fk fe env = ob (fi env) fun p => ob (dcL gt tt fk fe p.1 p.2 []) fun q => if p.1.length ≤ 1000000 then some (.dict q.1, restore vs env q.2) else none := rflN rfl
end
/-! ### dicts from ints -/
def dI (m : List (Int × D)) : List (D × D) := m.map fun p => (.int p.1, p.2)
def iGet (m : List (Int × D)) (k : Int) : Option D := (m.find? fun p => decide (p.1 = k)).map (·.2)
def iPut (m : List (Int × D)) (k : Int) (v : D) : List (Int × D) := if (m.any fun p => decide (p.1 = k)) = true then m.map (fun p => if p.1 = k then (p.1, v) else p) else m ++ [(k, v)]
theorem isK_int (k j : Int) (d : D) : isK (.inl k) (.int j, d) = decide (j = k) := by
  unfold isK
  show decide (some (Sum.inl j : Key) = some (.inl k)) = _
  simp
theorem dGet_dI (m : List (Int × D)) (k : Int) : dGet (dI m) (.inl k) = iGet m k := by
  unfold dGet iGet dI
  rw [List.find?_map]
  have : (isK (.inl k) ∘ fun p : Int × D => (PyData.int p.1, p.2)) = fun p => decide (p.1 = k) := by
    funext p; exact isK_int k p.1 p.2
  rw [this]
  cases m.find? fun p => decide (p.1 = k) <;> rfl
theorem dPut_dI (m : List (Int × D)) (k : Int) (v : D) : dPut (dI m) (.inl k) v = dI (iPut m k v) := by
  have h1 : (dI m).any (isK (.inl k)) = m.any fun p => decide (p.1 = k) := by
    unfold dI
    rw [List.any_map]
    congr 1
    funext p; exact isK_int k p.1 p.2
  unfold dPut iPut
  rw [h1]
  split
  · unfold dI
    rw [List.map_map, List.map_map]
    refine List.map_congr_left fun p _ => ?_
    simp only [Function.comp, isK_int]
    by_cases h : p.1 = k <;> simp [h]
  · simp [dI, kD]
@[simp] theorem tupK_dI (m : List (Int × D)) : tupK (dI m) = false := by cases m <;> rfl
@[simp] theorem dPutA_dI (m : List (Int × D)) (k : Int) (v : D) : dPutA (dI m) (.int k) v = some (dI (iPut m k v)) := by simp [dPutA, VL.keyOf, dPut_dI]
def iMake (ps : List (Int × D)) : List (Int × D) := ps.foldl (fun m p => iPut m p.1 p.2) []
theorem iPut_new {m : List (Int × D)} {k : Int} {v : D} (h : k ∉ m.map (·.1)) : iPut m k v = m ++ [(k, v)] := by
  unfold iPut
  rw [if_neg]
  simp only [List.any_eq_true, decide_eq_true_eq, not_exists, not_and]
  intro p hp e
  exact h (List.mem_map.mpr ⟨p, hp, e⟩)
theorem iFold_new : ∀ (ps m : List (Int × D)), ((m ++ ps).map (·.1)).Nodup → ps.foldl (fun m p => iPut m p.1 p.2) m = m ++ ps
  | [], m, _ => by simp
  | p :: ps, m, h => by
    rw [List.foldl_cons]
    have hk : p.1 ∉ m.map (·.1) := by
      rw [List.map_append, List.nodup_append] at h
      intro hm
      exact h.2.2 _ hm p.1 (by simp) rfl
    rw [iPut_new hk, iFold_new ps _ (by simpa using h)]
    simp
theorem iMake_id {ps : List (Int × D)} (h : (ps.map (·.1)).Nodup) : iMake ps = ps := by
  have := iFold_new ps [] (by simpa using h)
  simpa [iMake] using this
theorem iGet_mem {m : List (Int × D)} {k : Int} {v : D} (nd : (m.map (·.1)).Nodup) (h : (k, v) ∈ m) : iGet m k = some v := by
  unfold iGet
  induction m with
  | nil => cases h
  | cons p m ih =>
    rw [List.map_cons, List.nodup_cons] at nd
    rw [List.find?_cons]
    by_cases e : p.1 = k
    · rw [show decide (p.1 = k) = true by simpa using e]
      rcases List.mem_cons.mp h with q | q
      · rw [← q]; rfl
      · exact absurd (List.mem_map.mpr ⟨_, q, rfl⟩) (e ▸ nd.1)
    · rw [show decide (p.1 = k) = false by simpa using e]
      rcases List.mem_cons.mp h with q | q
      · exact absurd (by rw [← q]) e
      · exact ih nd.2 q
theorem iGet_some {m : List (Int × D)} {k : Int} {v : D} (h : iGet m k = some v) : (k, v) ∈ m := by
  unfold iGet at h
  cases q : m.find? fun p => decide (p.1 = k) with
  | none => rw [q] at h; cases h
  | some p =>
    rw [q] at h
    have h1 := List.mem_of_find?_eq_some q
    have h2 := List.find?_some q
    simp at h h2
    rw [← h, ← h2]; exact h1
/-- by ascending keys -/
def iSort (m : List (Int × D)) : List (Int × D) := m.mergeSort fun a b => decide (a.1 ≤ b.1)
theorem iSort_perm (m : List (Int × D)) : (iSort m).Perm m := List.mergeSort_perm _ _
theorem iSort_pw (m : List (Int × D)) : (iSort m).Pairwise fun a b => a.1 ≤ b.1 := by
  have := List.pairwise_mergeSort (le := fun a b : Int × D => decide (a.1 ≤ b.1)) (fun a b c h1 h2 => by simp at *; omega) (fun a b => by simp; omega) m
  exact this.imp fun h => by simpa using h
theorem iSort_nodup {m : List (Int × D)} (h : (m.map (·.1)).Nodup) : ((iSort m).map (·.1)).Nodup := ((iSort_perm m).map _).nodup_iff.mpr h
theorem le_int (a b : Int) : PySem.W.dataLe false id (.int a) (.int b) = decide (a ≤ b) := by
  have : PySem.W.dataLe false id (.int a) (.int b) = !PyProof.Rows.lexLt PyProof.Rows.itemOrd (PySem.W.keyToks (.int b)) (PySem.W.keyToks (.int a)) := rfl
  rw [this]
  simp only [PySem.W.keyToks]
  by_cases h : b < a
  · rw [PyProof.Rows.lex_diff (by intro z; cases z; omega)]
    show (!decide (b < a)) = _
    simp only [h, decide_true, Bool.not_true]
    simp; omega
  · by_cases h2 : a = b
    · subst h2
      rw [PyProof.Rows.lex_self]
      simp [PyProof.Rows.lexLt]
    · rw [PyProof.Rows.lex_diff (by intro z; cases z; exact h2 rfl)]
      show (!decide (b < a)) = _
      simp only [h, decide_false, Bool.not_false]
      simp; omega
theorem le_pair {a b : Int} {v w : D} (h : a ≠ b) : PySem.W.dataLe false id (.tuple [.int a, v]) (.tuple [.int b, w]) = decide (a < b) := by
  have : PySem.W.dataLe false id (.tuple [.int a, v]) (.tuple [.int b, w]) = !PyProof.Rows.lexLt PyProof.Rows.itemOrd (PySem.W.keyToks (.tuple [.int b, w])) (PySem.W.keyToks (.tuple [.int a, v])) := rfl
  rw [this]
  simp only [PySem.W.keyToks, PySem.W.keyToksAll, List.cons_append, List.nil_append]
  rw [PyProof.Rows.lex_self, PyProof.Rows.lex_diff (by intro z; cases z; exact h rfl)]
  show (!decide (b < a)) = _
  by_cases h2 : b < a
  · simp [h2]; omega
  · simp [h2]; omega
theorem srt_keys {m : List (Int × D)} (nd : (m.map (·.1)).Nodup) : srt ((dI m).map (·.1)) = (iSort m).map fun p => .int p.1 := by
  refine eq_of_sorted (srt_sorted _) ?_ (fun x hx y hy h1 h2 => ?_) ((srt_perm _).trans ?_)
  · rw [List.pairwise_map]
    exact (iSort_pw m).imp fun h => by rw [le_int]; simpa using h
  · have hx' := (srt_perm _).mem_iff.mp hx
    have hy' := (srt_perm _).mem_iff.mp hy
    simp only [dI, List.map_map, List.mem_map, Function.comp] at hx' hy'
    obtain ⟨p, _, rfl⟩ := hx'
    obtain ⟨q, _, rfl⟩ := hy'
    rw [le_int] at h1 h2
    simp at h1 h2
    rw [show p.1 = q.1 by omega]
  · simp only [dI, List.map_map]
    exact ((iSort_perm m).map _).symm
theorem srt_pairs {m : List (Int × D)} (nd : (m.map (·.1)).Nodup) : srt (pairsOf (dI m)) = (iSort m).map fun p => .tuple [.int p.1, p.2] := by
  have e : pairsOf (dI m) = m.map fun p => .tuple [.int p.1, p.2] := by simp [pairsOf, dI]
  rw [e]
  have key : ∀ p ∈ m, ∀ q ∈ m, PySem.W.dataLe false id (.tuple [.int p.1, p.2]) (.tuple [.int q.1, q.2]) = true → PySem.W.dataLe false id (.tuple [.int q.1, q.2]) (.tuple [.int p.1, p.2]) = true → p = q := fun p hp q hq h1 h2 => by
    by_cases h : p.1 = q.1
    · have a := iGet_mem nd hp
      have b := iGet_mem nd hq
      rw [h, b] at a
      exact Prod.ext h (by simpa using a.symm)
    · rw [le_pair h] at h1
      rw [le_pair (Ne.symm h)] at h2
      simp at h1 h2
      omega
  refine eq_of_sorted (srt_sorted _) ?_ (fun x hx y hy h1 h2 => ?_) ((srt_perm _).trans ((iSort_perm m).map _).symm)
  · rw [List.pairwise_map]
    have nd' := iSort_nodup nd
    have pw := iSort_pw m
    rw [List.Nodup, List.pairwise_map] at nd'
    exact (pw.and nd').imp fun ⟨h, n⟩ => by rw [le_pair n]; simp; omega
  · have hx' := (srt_perm _).mem_iff.mp hx
    have hy' := (srt_perm _).mem_iff.mp hy
    obtain ⟨p, hp, rfl⟩ := List.mem_map.mp hx'
    obtain ⟨q, hq, rfl⟩ := List.mem_map.mp hy'
    rw [key p hp q hq h1 h2]
theorem pairsK_I : ∀ (ps : List (Int × D)), pairsK (ps.map fun p => .tuple [.int p.1, p.2]) = some (ps.map fun p => (.inl p.1, p.2))
  | [] => rfl
  | p :: ps => by simp [pairsK, pairK, VL.keyOf, pairsK_I ps]
theorem mergeD_I : ∀ (ps m : List (Int × D)), mergeD (dI m) (ps.map fun p => (.inl p.1, p.2)) = dI (ps.foldl (fun m p => iPut m p.1 p.2) m)
  | [], m => rfl
  | p :: ps, m => by
    have := mergeD_I ps (iPut m p.1 p.2)
    unfold mergeD at this ⊢
    rw [List.map_cons, List.foldl_cons, List.foldl_cons, ← this, ← dPut_dI]
theorem dictD_I (ps : List (Int × D)) : dictD [.list (ps.map fun p => .tuple [.int p.1, p.2])] = some (.dict (dI (iMake ps))) := by
  simp only [dictD, pairsK_I, Option.map_some]
  rw [show mergeD [] (ps.map fun p => (.inl p.1, p.2)) = dI (iMake ps) from mergeD_I ps []]
theorem okSort_keys {m : List (Int × D)} (hl : m.length ≤ 1000) : okSort ((dI m).map (·.1)) = true := by
  have h1 : (((dI m).map (·.1)).all fun d => ((dI m).map (·.1)).all fun e => PySem.W.alike d e) = true := by
    simp [dI, PySem.W.alike]
  have h2 : ((dI m).map (·.1)).all otherB = true := by simp [dI, otherB]
  have h3 : (((dI m).map (·.1)).all fun d => decide (d.depth ≤ 64)) = true := by simp [dI, PyData.depth]
  have h4 : ((dI m).map (·.1)).length ≤ lim := by simp [dI]; exact Nat.le_trans hl (by decide)
  unfold okSort
  have h5 : PyData.plainAll ((dI m).map (·.1)) = true := by
    clear h1 h2 h3 h4 hl
    induction m with
    | nil => rfl
    | cons p m ih => simpa [dI, PyData.plainAll, PyData.plain] using ih
  rw [h1, h2, h3, decide_eq_true h4, h5]
  simp
end VL
set_option Elab.async false
set_option linter.all false
set_option maxRecDepth 100000
set_option maxHeartbeats 4000000
/-! VSS: sorted(set(x)) of a list of ints. -/
namespace L2
open PySem PySem.Spec PyProof.Rows
end L2
namespace VL
open PySem L2
end VL
set_option Elab.async false
set_option linter.all false
set_option maxRecDepth 100000
set_option maxHeartbeats 4000000
/-! VT9: sorted of a dict of the module; how many members the set of a tuple's texts has (all unlike). -/
namespace L2
open PySem PySem.Spec PyProof.Rows
end L2
namespace VL
open PySem PySem.Spec PyProof.Rows L2
end VL
set_option Elab.async false
set_option linter.all false
/-! VTB: what stands in a class. -/
namespace VL
open PySem
def clsBody : Stmt → List Stmt
  | .ClassDef _ _ _ body _ _ _ _ _ _ _ => body
  | _ => []
end VL
namespace VL
open PySem
theorem markL_nil (K : PySem.W.Frag) : markL [] K = K := by
  unfold markL
  have : K.filter (fun x => isCodeOf [] x.2) = [] := by
    rw [List.filter_eq_nil_iff]
    intro x _
    unfold isCodeOf
    split
    · split <;> simp
    · simp
  rw [this, List.append_nil]
end VL
set_option Elab.async false
set_option linter.all false
set_option maxRecDepth 100000
set_option maxHeartbeats 1000000
/-! VTC: {**d, k: v}. -/
namespace VL
open PySem PySem.Spec PyProof.Rows L2
end VL
set_option Elab.async false
set_option linter.all false
set_option maxRecDepth 100000
set_option maxHeartbeats 1000000
/-! VTD: {**d, k: v}. -/
namespace VL
open PySem PySem.Spec PyProof.Rows L2
end VL
set_option Elab.async false
set_option linter.all false
set_option maxRecDepth 100000
set_option maxHeartbeats 1000000
/-! VTE: dicts whose keys are truths. -/
namespace VL
open PySem PySem.Spec PyProof.Rows L2
def isB (b : Bool) : D → Bool
  | .bool c => c == b
  | _ => false
def bPut (ds : List (D × D)) (b : Bool) (d : D) : List (D × D) := if ds.any (fun p => isB b p.1) = true then ds.map (fun p => if isB b p.1 = true then (p.1, d) else p) else ds ++ [(.bool b, d)]
def bGet (ds : List (D × D)) (b : Bool) : Option D := (ds.find? fun p => isB b p.1).map (·.2)
section
variable {K : KW} {G : Gp}
theorem RepB.any {b : Bool} : ∀ {xs : List (Bool × V)} {ds : List (D × D)}, RepB K G xs ds → (ds.any fun p => isB b p.1) = xs.any fun p => decide (p.1 = b)
  | _, _, .nil => rfl
  | _, _, .cons (b := c) h r => by
    show (isB b (.bool c) || _) = (decide (c = b) || _)
    rw [r.any]
    cases c <;> cases b <;> rfl
theorem RepB.put {b : Bool} {v : V} {d : D} {xs : List (Bool × V)} {ds : List (D × D)} (r : RepB K G xs ds) (h : Rep K G v d) : RepB K G (putK xs b v) (bPut ds b d) := by
  unfold putK bPut
  rw [r.any]
  split
  · rename_i qq; clear qq
    induction r with
    | nil => exact .nil
    | @cons c v' d' vs ds h' r ih =>
      simp only [List.map_cons]
      by_cases q : c = b
      · subst q
        rw [if_pos rfl, if_pos (by cases c <;> rfl)]
        exact .cons h ih
      · rw [if_neg q, if_neg (by cases c <;> cases b <;> first | (exact absurd rfl q) | decide)]
        exact .cons h' ih
  · rename_i qq; clear qq
    induction r with
    | nil => exact .cons h .nil
    | cons h' r ih => exact .cons h' ih
theorem RepB.get {b : Bool} {d : D} : ∀ {xs : List (Bool × V)} {ds : List (D × D)}, RepB K G xs ds → bGet ds b = some d → ∃ v, valV xs b = some v ∧ Rep K G v d
  | _, _, .nil, e => by cases e
  | _, _, .cons (b := c) (v := v) (vs := vs) (ds := ds) h r, e => by
    by_cases q : c = b
    · subst q
      have : isB c (.bool c) = true := by cases c <;> rfl
      unfold bGet at e
      rw [List.find?_cons, this] at e
      cases e
      exact ⟨v, valV_pos rfl, h⟩
    · have : isB b (.bool c) = false := by cases c <;> cases b <;> first | (exact absurd rfl q) | rfl
      unfold bGet at e
      rw [List.find?_cons, this] at e
      obtain ⟨w, h1, h2⟩ := r.get e
      exact ⟨w, by rw [valV_neg q]; exact h1, h2⟩
theorem RepB.len : ∀ {xs : List (Bool × V)} {ds : List (D × D)}, RepB K G xs ds → xs.length = ds.length
  | _, _, .nil => rfl
  | _, _, .cons _ r => by rw [List.length_cons, List.length_cons, r.len]
end
end VL
set_option Elab.async false
set_option linter.all false
set_option maxRecDepth 100000
set_option maxHeartbeats 1000000
/-! VTF: a def that only reads the tracked things, called where they may be changed: they are lent behind its arguments. -/
namespace VL
open PySem PySem.Spec PyProof.Rows L2
end VL
set_option Elab.async false
set_option linter.all false
set_option maxRecDepth 100000
set_option maxHeartbeats 1000000
/-! VTG: a field is read, the tracked things not lent: what it holds may be a dict. -/
namespace VL
open PySem L2
end VL
set_option Elab.async false
set_option linter.all false
set_option maxRecDepth 100000
set_option maxHeartbeats 1000000
/-! VTH: name op= e of ints; sum of a list of ints. -/
namespace VL
open PySem L2 PyProof.Rows
section
variable {X : Cx} {Γ : Ctx} {T : Tg} {a : Expr} {pos pos' : Pos} {f : Ex}
def ipC (c : Int → Int → Bool) (f : Int → Int → Int) : TIp := fun x y H Q => ∃ i j, x = .int i ∧ y = .int j ∧ c i j = true ∧ Q (.int (f i j)) H
theorem ip_addC : PIp X .Add (ipC yes2 fun i j => i + j) := fun pins s σ H x y v u Q I r1 r2 ⟨i, j, e1, e2, _, q⟩ => ip_add pins s σ H x y v u Q I r1 r2 ⟨i, j, e1, e2, q⟩
def augN (i : Nat) (c : Int → Int → Bool) (fo : Int → Int → Int) (f : Ex) : Sx := fun env => (f env).bind fun r => match env[i]?, r.1 with
  | some (.int x), .int y => if c x y = true then some (.nx (r.2.set i (.int (fo x y)))) else none
  | _, _ => none
theorem s_augN (i : Nat) {x : Str} {op : Operator} {c : Int → Int → Bool} {fo : Int → Int → Int} (hN : X.N.Nodup) (he : PE X a (tM X.kw Γ f 0)) (ho : PIp X op (ipC c fo)) (hg : Γ[i]? = some (.ow 0) := by rfl) (hx : X.N[i]? = some x := by rfl) (hl : Loc X.env.scope x := by first | exact Or.inl rfl | exact Or.inr rfl)
    (hf : X.fn x = true ∨ X.env.scope.names.lookup x = some .local := by first | exact .inl rfl | exact .inr rfl | assumption) : PS X (.AugAssign (.Name x pos') op a pos) (tS X.kw T Γ (Γ.set i (.ow 0)) (augN i c fo f)) :=
  (ps_aug hN hx hl he ho hf).imp fun E σ H ⟨O, G, env, L, o, S, e, k⟩ => by
    unfold augN at e
    cases q : f env with
    | none => rw [q] at e; cases e
    | some p =>
      rw [q] at e
      simp only [Option.bind_some] at e
      obtain ⟨r, env1⟩ := p
      simp only at e
      split at e
      · rename_i x0 y he0
        split at e
        · rename_i hc
          cases e
          obtain ⟨v0, d0, y1, y2, o0⟩ := S.slot i 0 ⟨_, hg, rfl⟩
          rw [he0] at y2
          cases y2
          have r0 := o0.zero.2
          cases r0
          refine ⟨.int x0, y1, O, G, env, L, .int y, env1, S, q, fun v H1 G1 L1 S1 s1 v1 => ?_⟩
          have rv := v1.rep
          cases rv
          refine ⟨x0, y, rfl, rfl, hc, ?_⟩
          have hi : notIo Γ[i]? = true := by rw [hg]; rfl
          obtain ⟨L2, S2⟩ := S1.set (n := 0) (v := .int (fo x0 y)) (d := .int (fo x0 y)) (.of_rep (.int _)) (notIo_lt hi).1 (notIo_lt hi).2
          exact k _ _ _ _ S2 s1
        · cases e
      · cases e
end
end VL
set_option Elab.async false
set_option linter.all false
set_option maxRecDepth 100000
set_option maxHeartbeats 1000000
/-! VTI: a block that is never reached. -/
namespace VL
open PySem L2 PyProof.Rows
end VL
set_option Elab.async false
set_option linter.all false
set_option maxRecDepth 100000
set_option maxHeartbeats 1000000
/-! VTJ: {k: v} of one pair, the key a tuple. -/
namespace VL
open PySem PySem.Spec PyProof.Rows L2
end VL
set_option Elab.async false
set_option linter.all false
set_option maxRecDepth 100000
set_option maxHeartbeats 1000000
/-! VTK: zip of two lists. -/
namespace VL
open PySem PySem.Spec PyProof.Rows L2
end VL
set_option Elab.async false
set_option linter.all false
set_option maxRecDepth 100000
set_option maxHeartbeats 1000000
/-! VTL: an expression that reads an owned dict; its value is a number, a text, a truth or None. -/
namespace VL
open PySem PySem.Spec PyProof.Rows L2
def scal : D → Bool
  | .int _ => true
  | .bool _ => true
  | .str _ => true
  | .none => true
  | _ => false
theorem rep_scal {K : KW} {G G' : Gp} {v : V} {r : D} (h : scal r = true) (x : Rep K G v r) : Rep K G' v r := by
  cases x with
  | non => exact .non
  | bl b => exact .bl b
  | int i => exact .int i
  | str s => exact .str s
  | _ => cases h
def eThw (i : Nat) (f : Ex) : Ex := fun env => match env[i]? with
  | some (.dict _) => (f env).bind fun p => if scal p.1 = true then some (p.1, env) else none
  | _ => none
end VL
set_option Elab.async false
set_option linter.all false
set_option maxRecDepth 100000
set_option maxHeartbeats 1000000
/-! VTN: xs[::-1] of a list: a new list. -/
namespace VL
open PySem PySem.Spec PyProof.Rows L2
end VL
set_option Elab.async false
set_option linter.all false
set_option maxRecDepth 100000
set_option maxHeartbeats 1000000
/-! VTO: what a field tells, with all that it holds; a name's dict gets a number; e[k] op= v; stars of a list of the module; == of instances. -/
namespace VL
open PySem PySem.Spec PyProof.Rows L2
/-! ### with all that it holds -/
def drfV (st : D) : List (D × D) → Option (List (D × D))
  | [] => some []
  | p :: r => (drf st p.2).bind fun z => (drfV st r).map ((p.1, z) :: ·)
def drf2 (st d : D) : Option D := (drf st d).bind fun z => match z with
  | .dict ds => if tupK ds = true then none else (drfV st ds).map .dict
  | z => some z
theorem drfV_rep {K : KW} {G : Gp} {w : V} {st : D} (uq : ∀ (a b : Addr) x, G (.inr a) = some (.own x) → G (.inr b) = some (.own x) → a = b) (rs : Rep K G w st) : ∀ {kvs : List (Key × V)} {ds es : List (D × D)}, RepK K G kvs ds → drfV st ds = some es → RepK K G kvs es
  | _, _, es, .nil, e => by cases e; exact .nil
  | _, _, es, .cons h t, e => by
    simp only [drfV, Option.bind_eq_some_iff, Option.map_eq_some_iff] at e
    obtain ⟨z, e1, fs, e2, rfl⟩ := e
    exact .cons (drf_rep uq h rs e1) (drfV_rep uq rs t e2)
theorem drf2_rep {K : KW} {G : Gp} {v w : V} {d st z : D} (uq : ∀ (a b : Addr) x, G (.inr a) = some (.own x) → G (.inr b) = some (.own x) → a = b) (r : Rep K G v d) (rs : Rep K G w st) (e : drf2 st d = some z) : Rep K G v z := by
  unfold drf2 at e
  simp only [Option.bind_eq_some_iff] at e
  obtain ⟨y, e1, e2⟩ := e
  have r1 := drf_rep uq r rs e1
  split at e2
  · rename_i ds
    split at e2
    · cases e2
    · rename_i ht
      simp only [Option.map_eq_some_iff] at e2
      obtain ⟨es, e3, rfl⟩ := e2
      have hrf : isRf ds = false := by
        cases h : isRf ds with
        | false => rfl
        | true => exact absurd (by unfold isRf at h; split at h <;> first | rfl | cases h) ht
      obtain ⟨a, o, u, rfl, hG, rD⟩ := rep_dc r1 hrf
      cases rD with
      | k rr => exact .dk hG (.k (drfV_rep uq rs rr e3))
      | n rr => exact absurd (tupK_n rr) ht
  · cases e2; exact r1
def eDrf2 (g : Nat) (f : Ex) : Ex := fun env => (f env).bind fun p => (p.2[g]?).bind fun st => (drf2 st p.1).map fun z => (z, p.2)
section
variable {X : Cx} {Γ Δ : Ctx} {T : Tg} {a b c : Expr} {pos : Pos} {f fa fb fk fi fe : Ex} {n : Nat}
theorem m_drf2 (g : Nat) (h : PE X a (tM X.kw Γ f 0)) (hg : Γ[g]? = some (.ow 0) := by rfl) : PE X a (tM X.kw Γ (eDrf2 g f) 0) := h.imp fun σ H Q ⟨O, G, env, L, r, env1, S, e, k⟩ => by
  unfold eDrf2 at e
  cases q : f env with
  | none => rw [q] at e; cases e
  | some p =>
    rw [q] at e
    simp only [Option.bind_some, Option.bind_eq_some_iff, Option.map_eq_some_iff, Prod.mk.injEq] at e
    obtain ⟨st, e1, z, e2, rfl, rfl⟩ := e
    refine ⟨O, G, env, L, p.1, p.2, S, q, fun v H1 G1 L1 S1 s1 v1 => ?_⟩
    obtain ⟨w, d, _, y2, o⟩ := S1.slot g 0 ⟨_, hg, rfl⟩
    rw [e1] at y2; cases y2
    exact k v H1 G1 L1 S1 s1 (.of_rep (drf2_rep S1.pres.tgu v1.rep o.zero.2 e2))
/-! ### a name's dict gets a number -/
def sTrk (i g : Nat) (s : Sx) : Sx := fun env => match env[i]?, env[g]? with
  | some (.dict ds), some (.dict [(.tuple [.list [.bool true]], .list objs)]) => s ((env.set g (stD (objs ++ [.dict ds]))).set i (rfD objs.length))
  | _, _ => none
/-! ### e[k] op= v of a tracked list of numbers -/
def augSix (g : Nat) (op : Int → Int → Int) (fb fi fe : Ex) : Sx := fun env => (fb env).bind fun b => (fi b.2).bind fun q => match b.1, q.1, q.2[g]? with
  | .dict [(.tuple [.list []], .int (.ofNat x))], .int k, some (.dict [(.tuple [.list [.bool true]], .list objs)]) => match objs[x]? with
    | some (.list ds) => if 0 ≤ k then (match ds[k.toNat]? with
      | some (.int old) => (fe q.2).bind fun r => match r.1, r.2[g]? with
        | .int y, some (.dict [(.tuple [.list [.bool true]], .list objs2)]) => match objs2[x]? with
          | some (.list ds2) => if k.toNat < ds2.length then some (.nx (r.2.set g (stD (objs2.set x (.list (ds2.set k.toNat (.int (op old y)))))))) else none
          | _ => none
        | _, _ => none
      | _ => none) else none
    | _ => none
  | _, _, _ => none
theorem s_augSix (g : Nat) {op : Operator} {fo : Int → Int → Int} {tpos : Pos} (hb : PE X b (tM X.kw Γ fb 0)) (hi : PE X c (tM X.kw Γ fi 0)) (he : PE X a (tM X.kw Γ fe 0)) (ho : PIp X op (ipI fo)) (hg : Γ[g]? = some (.io 200) := by rfl)
    (ha : ∀ ov iv new, augStore c ov iv new = (do holding [new, ov, iv] (setItem ov iv new); release [new, ov, iv] []; pure .next) := by intros; rfl) : PS X (.AugAssign (.Subscript b c tpos) op a pos) (tS X.kw T Γ Γ (augSix g fo fb fi fe)) :=
  (ps_augS hb hi get_nn he ho set_list ha).imp fun E σ H ⟨O, G, env, L, o, S, e, k⟩ => by
    unfold augSix at e
    cases h1 : fb env with
    | none => rw [h1] at e; cases e
    | some q =>
      rw [h1] at e
      simp only [Option.bind_some] at e
      obtain ⟨bd, env1⟩ := q
      simp only at e
      cases h2 : fi env1 with
      | none => rw [h2] at e; cases e
      | some q =>
        rw [h2] at e
        simp only [Option.bind_some] at e
        obtain ⟨kd, env2⟩ := q
        simp only at e
        refine ⟨O, G, env, L, bd, env1, S, h1, fun w H1 G1 L1 S1 s1 v1 => ⟨O, G1, env1, L1, kd, env2, S1, h2, fun w2 H2 G2 L2 S2 s2 v2 => ?_⟩⟩
        split at e
        · rename_i x kk objs hs
          split at e
          · rename_i ds hx
            split at e
            · rename_i h0
              split at e
              · rename_i old hold
                cases h3 : fe env2 with
                | none => rw [h3] at e; cases e
                | some r =>
                  rw [h3] at e
                  simp only [Option.bind_some] at e
                  obtain ⟨yd, env3⟩ := r
                  simp only at e
                  split at e
                  · rename_i yy objs2 hs2
                    split at e
                    · rename_i ds2 hx2
                      split at e
                      · rename_i hlt
                        cases e
                        obtain ⟨as, hv, A⟩ := S2.store hg hs
                        obtain ⟨p, rfl, ht⟩ := rep_rf (x := x) v1.rep
                        have hp := (A.tag x p).mpr (s2 _ _ ht)
                        obtain ⟨hL, ro⟩ := A.at_ x p _ hp hx
                        cases ro with
                        | lst z1 z2 =>
                          rename_i vs
                          have rk := v2.rep
                          cases rk
                          obtain ⟨vo, hvo, rvo⟩ := z2.get hold
                          refine ⟨p, vs, kk, vo, rfl, rfl, z1, h0, hvo, O, G2, env2, L2, .int yy, env3, S2, h3, fun w3 H3 G3 L3 S3 s3 v3 => ?_⟩
                          have r3 := v3.rep
                          cases r3
                          cases rvo
                          obtain ⟨as3, hv3, A3⟩ := S3.store hg hs2
                          have hp3 := (A3.tag x p).mpr (s3 _ _ (s2 _ _ ht))
                          obtain ⟨hL3, ro3⟩ := A3.at_ x p _ hp3 hx2
                          cases ro3 with
                          | lst y1 y2 =>
                            rename_i vs3
                            refine ⟨old, yy, rfl, rfl, p, vs3, kk, kk.toNat, rfl, rfl, y1, ?_, ?_⟩
                            · unfold ixN
                              rw [if_pos h0, if_pos (by rw [y2.length]; omega)]
                            · exact k σ _ G3 L3 (S3.stput hg hs2 A3 hv3 hp3 hx2 (.lst upd_same (y2.set _ (.int _)))) ((s1.trans s2).trans s3)
                      · cases e
                    · cases e
                  · cases e
              · cases e
            · cases e
          · cases e
        · cases e
/-! ### a star of a list of the module -/
theorem l_starG {x : Str} {px p : Pos} {es : List Expr} {F : Lx} {ad : Addr} {vs : List V} {ds : List D} (hm : X.mg x = some (.ref ad)) (hq : ∀ H, SqL X.K H ad vs) (hr : ∀ G, RepL X.kw G vs ds) (hg : Gl X x) (h : PA X es (tMB X.kw Γ F)) (hd : (x == ("__debug__" : Str)) = false := by decide)
    (hs : starEach (.Starred (.Name x p) px :: es) X.env = (true, eval (.Name x p) X.env) :: starEach es X.env := by rfl) : PA X (.Starred (.Name x p) px :: es) (tMB X.kw Γ (lStar (eC (.list ds)) F)) :=
  (StX.pa_star (pe_glob (v := .ref ad) hg hm rfl hd) h hs).imp fun σ H Q ⟨O, G, env, L, rs, env2, S, e, k⟩ => by
    unfold lStar at e
    simp only [eC, Option.bind_some, itemsD] at e
    cases h2 : F env with
    | none => rw [h2] at e; cases e
    | some q =>
      rw [h2] at e
      simp only [Option.map_some, Option.some.injEq, Prod.mk.injEq] at e
      obtain ⟨rfl, rfl⟩ := e
      exact ⟨ad, vs, rfl, .inr (hq H), O, G, env, L, q.1, q.2, S, h2, fun us H2 G2 L2 S2 s2 r2 => k (vs ++ us) H2 G2 L2 S2 s2 ((hr G2).append r2)⟩
end
end VL
set_option Elab.async false
set_option linter.all false
set_option maxRecDepth 100000
set_option maxHeartbeats 1000000
/-! VTP: == of two instances of a class with its own ==. -/
namespace VL
open PySem PySem.Spec PyProof.Rows L2
section
variable {X : Cx} {CX : CXT} {k : Nat} {f C : Addr} {fd : FuncData} {ps : List Str} {sp : Sp} {E : XK} {a b : Expr} {ta tb : TE}
def tEqI (C : Addr) (sp : Sp) (E : XK) (ta tb : TE) : TE := fun σ H Q => ta σ H fun x H1 => tb σ H1 fun y H2 => ∃ a dx vs b dy us, x = .ref a ∧ y = .ref b ∧ SlX.Slt H2 a C dx vs ∧ SlX.Slt H2 b C dy us ∧ sp [.ref a, .ref b] H2 (fun v H3 => (∃ c, v = .bl c) ∧ Q v H3) E
theorem pc_eqG (ha : PE X a ta) (hb : PE X b tb) (hm : Meth X.K C "__eq__" f) (F : FnG X.prog X.w X.K X.mg X.base CX k f fd ps sp) (hgd : X.A.guards = some []) (hr : Room k X.A) (hbd : Binds X.K fd ps []) (hx : Passes CX X E) : PC X .Eq a b (tEqI C sp E ta tb) := by
  refine ⟨fun pins s σ H Q I h => thn (ha.run pins s σ H _ I h) fun v s1 ⟨x, H1, I1, rx, q1⟩ => thn (hb.run pins s1 σ H1 _ I1 q1) fun u s2 ⟨y, H2, I2, ry, a', dx, vs, b', dy, us, ex, ey, ea, eb, q2⟩ => ?_⟩
  subst ex ey
  obtain rfl : v = Value.ref a' := rx
  obtain rfl : u = Value.ref b' := ry
  show wpAny (model X.prog X.w) X.A (richCompare .Eq (.ref a') (.ref b')) (EP X pins σ Q) X.xe s2
  obtain ⟨sl, od, _, J, _⟩ := SlX.slt_inst I2 ea
  obtain ⟨sl', od', _, J', _⟩ := SlX.slt_inst I2 eb
  obtain ⟨m, hF⟩ := I2.fr
  refine PySem.W.cmp_K (op := .Eq) (tb := .ref C) hr.units0 hF I2.ok.mod.kin J J'.type (by simp [PySem.W.notFirst]) hm.at_ hm.fn ?_
  refine wpAny_mono (run_fnG (us := [.ref a', .ref b']) (vs := [.ref a', .ref b']) F hgd hr hbd hx I2 (.cons rfl (.cons rfl .nil)) q2) (fun r s' ⟨z, H', I', rz, ⟨c, ez⟩, q⟩ => ?_) fun _ _ e => e
  subst ez
  cases rz
  exact ⟨.bl c, H', I', rfl, q⟩
end
section
variable {X : Cx} {Γ Δ : Ctx} {f C : Addr} {ps : List Str} {c : Str} {F : List D → Option (D × List D)} {fa fb : Ex} {a b : Expr} {pos : Pos} {j k : Nat}
/-- a == b of two instances of c -/
def eEqI (g : Nat) (c : Str) (F : List D → Option (D × List D)) (fa fb : Ex) : Ex := fun env => (fa env).bind fun p => (fb p.2).bind fun q => match q.2[g]? with
  | some st => if (insB c (some st) p.1 && insB c (some st) q.1) = true then (stF F [p.1, q.1, st]).bind fun r => match r.1 with
    | .bool t => some (.bool t, q.2)
    | _ => none
    else none
  | none => none
theorem eqI_imp {K : KW} {g : Nat} {n : Nat} (hg : Γ[g]? = some (.ow 0)) (hc : K.mg c = some (.ref C)) (ok : okA Γ [.v fa, .v fb, .v (eVar g)] Δ = true) (os : okSt Γ [.v fa, .v fb, .v (eVar g)] Δ = true) {σ : L2.St} {H : Hp} {Q : VK} {E : XK}
    (h : tM K Γ (eEqI g c F fa fb) 0 σ H Q) : tEqI C (spS K Δ 0 (stF F)) E (tM K Γ fa 0) (tM K Γ fb 0) σ H Q := by
  obtain ⟨O, G, env, L, r, env2, S, e, kk⟩ := h
  unfold eEqI at e
  simp only [Option.bind_eq_some_iff] at e
  obtain ⟨⟨xd, env1⟩, h1, ⟨yd, env9⟩, h2, e⟩ := e
  simp only at h1 h2 e
  split at e
  · rename_i st hst
    split at e
    · rename_i hi
      rw [Bool.and_eq_true] at hi
      simp only [Option.bind_eq_some_iff] at e
      obtain ⟨⟨rd, ds'⟩, e2, e⟩ := e
      simp only at e
      split at e
      · rename_i t
        cases e
        have hG : GA Γ g (.v (eVar g)) := .inr ⟨rfl, hg⟩
        obtain ⟨objs, x, ds0, ho, _, _⟩ := insB_is hi.1
        cases ho
        refine ⟨O, G, env, L, xd, env1, S, h1, fun v H1 G1 L1 S1 s1 v1 => ⟨O, G1, env1, L1, yd, env2, S1, h2, fun u H2 G2 L2 S2 s2 v2 => ?_⟩⟩
        have rx := v1.rep.mono s2
        obtain ⟨a', dx, vs, rfl, sa⟩ := ins_slt (C := C) S2 hG hc rx (by rw [hst]; exact hi.1)
        obtain ⟨b', dy, us, rfl, sb⟩ := ins_slt (C := C) S2 hG hc v2.rep (by rw [hst]; exact hi.2)
        refine ⟨a', dx, vs, b', dy, us, rfl, rfl, sa, sb, ?_⟩
        have A3 : ArgR K G2 σ env2 ([.v fa, .v fb] ++ [.v (eVar g)]) ([.ref a', .ref b'] ++ [.int 0]) ([xd, yd] ++ [stD objs]) := ArgR.gh S2 hG hst (.v rx (.v v2.rep .nil))
        refine ⟨G2, [xd, yd] ++ [stD objs], argL [.v fa, .v fb, .v (eVar g)] L2, argA [.v fa, .v fb, .v (eVar g)] L2, fun j => ([V.ref a', .ref b'] ++ [.int 0])[j]?, .bool t, ds', S2.enter ok A3, e2, fun v3 H3 G3 L3 S3 s3 v3' => ?_⟩
        have := S2.leave ok os A3 S3 s3 v3'
        have r3 := this.2.rep
        cases r3
        refine ⟨⟨t, rfl⟩, ?_⟩
        have hw : wb [.v fa, .v fb, .v (eVar g)] ds' env2 = env2 := by
          unfold wb
          exact List.ext_getElem? fun i => by
            rw [List.getElem?_mapIdx]
            cases env2[i]? <;> simp [Arg.isIo, ixOf]
        have S4 := this.1
        rw [hw] at S4
        exact kk _ H3 G3 _ S4 (s1.trans (s2.trans s3)) this.2
      · cases e
    · cases e
  · cases e
theorem m_eqI (g : Nat) (h : PFA X.prog X.w X.K X.mg X.base f j ps Δ 0 F) (hm : Meth X.K C "__eq__" f) (hc : X.mg c = some (.ref C)) (hgd : X.A.guards = some []) (hr : Room k X.A) (hj : j ≤ k) (ha : PE X a (tM X.kw Γ fa 0)) (hb : PE X b (tM X.kw Γ fb 0)) (hg : Γ[g]? = some (.ow 0) := by rfl)
    (ok : okA Γ [.v fa, .v fb, .v (eVar g)] Δ = true := by rfl) (os : okSt Γ [.v fa, .v fb, .v (eVar g)] Δ = true := by rfl) : PE X (.Compare a [.Eq] [b] pos) (tM X.kw Γ (eEqI g c F fa fb) 0) := by
  obtain ⟨fd, hF, hbd⟩ := h
  exact (pe_cmp (pc_eqG ha hb hm hF hgd (hr.mono hj) hbd (E := E0) pass0)).imp fun σ H Q q => eqI_imp (n := 0) hg hc ok os q
end
end VL
namespace VL
open PySem PySem.Spec PyProof.Rows L2
section
variable {X : Cx} {Γ : Ctx} {C : Addr} {c : Str} {fa : Ex} {a : Expr} {pos p2 p3 : Pos}
theorem call_isI (hi : PySem.W.isIn X.K (.ref C) C = true) : CallR X (.builtin "isinstance") (fun xs H Q => ∃ a dx vs, xs = [.ref a, .ref C] ∧ SlX.Slt H a C dx vs ∧ Q (.bl true) H) := by
  intro pins s σ H xs us Q I r h
  obtain ⟨a, dx, vs, rfl, hsl, q⟩ := h
  obtain ⟨u1, u2, rfl, r1, r2⟩ := r.two
  cases (show u1 = Value.ref a from r1)
  cases (show u2 = Value.ref C from r2)
  obtain ⟨sl, od, _, J, _⟩ := SlX.slt_inst I hsl
  exact PySem.W.isi_call I.kIn (fun M => J.type) hi (fun z => nomatch z) ⟨.bl true, H, I, rfl, q⟩
/-- isinstance(e, c) of what is an instance of c -/
def eIsI (g : Nat) (c : Str) (f : Ex) : Ex := fun env => (f env).bind fun p => if insB c p.2[g]? p.1 = true then some (.bool true, p.2) else none
theorem m_isiI (g : Nat) (ag : Arg) (hG : GA Γ g ag) (hi : PySem.W.isIn X.K (.ref C) C = true) (hC : X.mg c = some (.ref C)) (hg : Gl X "isinstance") (hm : X.mg "isinstance" = none) (hgc : Gl X c) (ha : PE X a (tM X.kw Γ fa 0)) (hd : (c == ("__debug__" : Str)) = false := by decide)
    (h1 : starEach [a, .Name c p2] X.env = (false, eval a X.env) :: starEach [.Name c p2] X.env := by rfl) (h2 : starEach [.Name c p2] X.env = (false, eval (.Name c p2) X.env) :: starEach [] X.env := by rfl) (hpl : (backTo pos (starEach [.Name c p2] X.env)).any (·.1) = false := by rfl) :
    PE X (.Call (.Name "isinstance" p3) [a, .Name c p2] [] pos) (tM X.kw Γ (eIsI g c fa) 0) :=
  (pe_callB (call_isI hi) hg hm (by decide +kernel) (pa_cons ha (pa_cons (pe_glob (v := .ref C) hgc hC rfl hd) pa_nil h2) h1) (by decide) (by decide) h1 hpl).imp fun σ H Q ⟨O, G, env, L, r, env2, S, e, k⟩ => by
    unfold eIsI at e
    simp only [Option.bind_eq_some_iff] at e
    obtain ⟨⟨xd, env1⟩, e1, e⟩ := e
    simp only at e1 e
    split at e
    · rename_i hi
      cases e
      refine ⟨O, G, env, L, xd, env2, S, e1, fun v H1 G1 L1 S1 s1 v1 => ?_⟩
      obtain ⟨a', dx, vs, rfl, sa⟩ := ins_slt (C := C) S1 hG hC v1.rep hi
      exact ⟨a', dx, vs, rfl, sa, k _ H1 G1 L1 S1 s1 (.of_rep (.bl _))⟩
    · cases e
end
end VL
set_option Elab.async false
set_option linter.all false
set_option maxRecDepth 100000
set_option maxHeartbeats 4000000
/-! VTQ: {k: new list for ..} while the tracked things are lent; the lists and the dict have numbers then. -/
namespace VL
open PySem PyProof.Rows L2
/-- a dict of new lists of scalars, each at its address -/
inductive RowsN (K : KW) (H : Hp) (G : Gp) : List (Key × V) → List (D × D) → List Addr → Prop
  | nil : RowsN K H G [] [] []
  | snoc {kvs : List (Key × V)} {ds : List (D × D)} {as : List Addr} {k : Key} {a : Addr} {vs : List V} {ws : List D} : RowsN K H G kvs ds as → H a = some (.lst vs) → G a = none → RepL K G vs ws → ws.all VL.scal = true → RowsN K H G (kvs ++ [(k, .ref a)]) (ds ++ [(kD k, .list ws)]) (as ++ [a])
theorem repL_scal {K : KW} {G G' : Gp} : ∀ {vs : List V} {ws : List D}, RepL K G vs ws → ws.all VL.scal = true → RepL K G' vs ws
  | _, _, .nil, _ => .nil
  | _, _, .cons r t, h => by
    rw [List.all_cons, Bool.and_eq_true] at h
    exact .cons (rep_scal h.1 r) (repL_scal t h.2)
theorem RowsN.move {K : KW} {H H' : Hp} {G G' : Gp} {kvs : List (Key × V)} {ds : List (D × D)} {as : List Addr} (r : RowsN K H G kvs ds as) : (∀ a ∈ as, ∀ vs, H a = some (.lst vs) → G a = none → H' a = some (.lst vs) ∧ G' a = none) → RowsN K H' G' kvs ds as := by
  induction r with
  | nil => exact fun _ => .nil
  | snoc r h g rl sc ih =>
    intro q
    obtain ⟨h1, g1⟩ := q _ (by simp) _ h g
    exact .snoc (ih fun a m => q a (List.mem_append_left _ m)) h1 g1 (repL_scal rl sc) sc
theorem RowsN.at_ {K : KW} {H : Hp} {G : Gp} {kvs : List (Key × V)} {ds : List (D × D)} {as : List Addr} (r : RowsN K H G kvs ds as) : ∀ a ∈ as, ∃ vs, H a = some (.lst vs) ∧ G a = none := by
  induction r with
  | nil => exact fun _ m => by cases m
  | snoc r h g rl sc ih =>
    intro b m
    rcases List.mem_append.mp m with m | m
    · exact ih b m
    · rw [List.mem_singleton.mp m]; exact ⟨_, h, g⟩
theorem RowsN.len {K : KW} {H : Hp} {G : Gp} {kvs : List (Key × V)} {ds : List (D × D)} {as : List Addr} (r : RowsN K H G kvs ds as) : kvs.length = ds.length := by
  induction r with
  | nil => rfl
  | snoc r h g rl sc ih => simp [ih]
theorem RowsN.any {K : KW} {H : Hp} {G : Gp} {kvs : List (Key × V)} {ds : List (D × D)} {as : List Addr} {kk : Key} (r : RowsN K H G kvs ds as) : (kvs.any fun kv => decide (kv.1 = kk)) = ds.any (isK kk) := by
  induction r with
  | nil => rfl
  | snoc r h g rl sc ih =>
    rw [List.any_append, List.any_append, ih]
    congr 1
    simp [isK, keyOf_kD]
def dcLN (gt : Gx) (fk fe : Ex) : List D → List D → List (D × D) → Option (List (D × D) × List D)
  | [], e, acc => some (acc, e)
  | d :: ds, e, acc => (gt d e).bind fun e1 => (fk e1).bind fun y => (fe y.2).bind fun z => (keyOf y.1).bind fun k => match z.1 with
    | .list ws => if ws.all VL.scal = true ∧ acc.any (isK k) = false then dcLN gt fk fe ds z.2 (acc ++ [(kD k, .list ws)]) else none
    | _ => none
def dcDN (vs : List Nat) (fi : Ix) (gt : Gx) (fk fe : Ex) : List D → Option (List (D × D) × List D) := fun env => (fi env).bind fun p => (dcLN gt fk fe p.1 p.2 []).bind fun q => if p.1.length ≤ 1000000 then some (q.1, restore vs env q.2) else none
def tDN (K : KW) (Γ : Ctx) (f : List D → Option (List (D × D) × List D)) : TE := fun σ H Q => ∃ (O : Gh) (G : Gp) (env : List D) (L : Nat → List Addr) (r : List (D × D)) (env' : List D), StR K O Γ H G σ env L ∧ f env = some (r, env') ∧
  ∀ (P : Addr) (kvs : List (Key × V)) (as : List Addr) (H' : Hp) (G' : Gp) (L' : Nat → List Addr), StR K O Γ H' G' σ env' L' → SameG G G' → H' P = some (.dK kvs) → G' P = none → O.own P → (∀ i m, At Γ i m → P ∉ L' i) → RowsN K H' G' kvs r as → (P :: as).Nodup → (∀ a ∈ as, O.own a ∧ ∀ i m, At Γ i m → a ∉ L' i) → Q (.ref P) H'
section
variable {K : KW} {O : Gh} {Γ : Ctx} {H H' : Hp} {G G' : Gp} {σ : L2.St} {env : List D} {L : Nat → List Addr}
theorem StR.at_no {p : Addr} {o : HO} (S : StR K O Γ H G σ env L) (hp : H p = some o) (hl : ∀ i m, At Γ i m → p ∉ L i) (hk : HK p (some o)) : ¬ (O.at K Γ H G L).own p := fun h => by
  rcases h with h | h
  · have h := S.pres.nt_no (a := p) h (by rw [hp]; exact hk)
    rw [hp] at h; cases h
  · obtain ⟨i, m, hi, ha⟩ := mem_allL.mp h
    exact hl i m hi ha
end
section
variable {X : Cx} {Γ Γ1 : Ctx} {tg iter kx vx : Expr} {ifs : List Expr} {pos : Pos} {fi : Ix} {gt : Gx} {fk fe : Ex} {ws : List Nat} {wk : Bool}
theorem tDcN_of {vs : List Nat} {σ : L2.St} {H : Hp} {Q : VK} (hu : unAll Γ vs = true) (hw : ws.all (fun j => decide (j ∈ vs)) = true) (hl1 : wkB Γ1 Γ = true) (h : tDN X.kw Γ (dcDN vs fi gt fk fe) σ H Q) :
    tDc (tI X.kw wk Γ fi) (tG X.kw wk Γ Γ1 gt ws) (tMT X.kw Γ1 bYes) (tM X.kw Γ1 fk 0) (tM X.kw Γ1 fe 1) vs σ H Q := by
  obtain ⟨O, G, env, L, r, env2, S, e, k⟩ := h
  have hu' := unAll_get hu
  have hw' : ∀ j, j ∈ ws → j ∈ vs := fun j hj => of_decide_eq_true (List.all_eq_true.mp hw j hj)
  unfold dcDN at e
  cases q : fi env with
  | none => rw [q] at e; cases e
  | some p =>
    rw [q] at e
    simp only [Option.bind_some] at e
    obtain ⟨ds, env1⟩ := p
    simp only at e
    cases q2 : dcLN gt fk fe ds env1 [] with
    | none => rw [q2] at e; cases e
    | some p2 =>
      rw [q2] at e
      simp only [Option.bind_some] at e
      split at e
      · rename_i hmil
        simp only [Option.some.injEq, Prod.mk.injEq] at e
        obtain ⟨rfl, rfl⟩ := e
        refine ⟨O, G, env, L, ds, env1, S, q, fun J H1 G1 L1 S1 s1 w P hP => ?_⟩
        have hg1 : G1 P = none := S1.gh.free hP
        have ownP : O.own P := by
          cases r : O.H0 P with
          | none => exact .inl r
          | some u =>
            by_cases hA : P ∈ O.A
            · exact .inr hA
            · rw [S1.pres P u r hA] at hP; cases hP
        have nP : ∀ i m, At Γ i m → P ∉ L1 i := fun i m hi ha => by
          obtain ⟨_, _, _, _, o⟩ := S1.slot i m hi
          have := (o.objs P ha).2.1
          rw [hP] at this; cases this
        refine ⟨fun i m H => m = ds.length - i ∧ i ≤ ds.length ∧ ∃ G2 env2 L2 acc dacc as, StR X.kw O Γ H G2 (wipe σ vs) env2 L2 ∧ SameG G1 G2 ∧ H P = some (.dK acc) ∧ G2 P = none ∧ (∀ i m, At Γ i m → P ∉ L2 i) ∧ RowsN X.kw H G2 acc dacc as ∧ (P :: as).Nodup ∧ (∀ a ∈ as, O.own a ∧ ∀ i m, At Γ i m → a ∉ L2 i) ∧ acc.length ≤ i ∧ dcLN gt fk fe (ds.drop i) env2 dacc = some (p2.1, p2.2),
          ⟨ds.length, rfl, Nat.zero_le _, G1, env1, L1, [], [], [], (S1.put hg1 nP ownP).wiped hu', (fun _ _ e => e), upd_same, hg1, nP, .nil, by simp, (fun _ m => by cases m), Nat.zero_le _, q2⟩, ?_⟩
        rintro i m H2 ⟨rfl, hle, G2, env2, L2, acc, dacc, as, S2, s2, hP2, gP2, nP2, racc, nda, oas, alen, e2⟩
        by_cases hlt : i < ds.length
        · rw [List.drop_eq_getElem_cons hlt] at e2
          simp only [dcLN] at e2
          cases q3 : gt ds[i] env2 with
          | none => rw [q3] at e2; cases e2
          | some e3 =>
            rw [q3] at e2
            simp only [Option.bind_some] at e2
            refine .inr ⟨w.go i H2 (s2.sh S2.gh) hlt, fun H' => ∃ G2 env2 L2 acc dacc as, StR X.kw O Γ H' G2 (wipe σ vs) env2 L2 ∧ SameG G1 G2 ∧ H' P = some (.dK acc) ∧ G2 P = none ∧ (∀ i m, At Γ i m → P ∉ L2 i) ∧ RowsN X.kw H' G2 acc dacc as ∧ (P :: as).Nodup ∧ (∀ a ∈ as, O.own a ∧ ∀ i m, At Γ i m → a ∉ L2 i) ∧ acc.length ≤ i + 1 ∧ dcLN gt fk fe (ds.drop (i + 1)) env2 dacc = some (p2.1, p2.2),
              fun H' h' => ⟨ds.length - (i + 1), by omega, rfl, hlt, h'⟩, fun x H3 y => ?_⟩
            obtain ⟨d, G3, hd, R, rx⟩ := w.yld i H2 x H3 G2 s2 S2.gh y hlt
            rw [List.getElem?_eq_getElem hlt] at hd
            cases hd
            have S3 := S2.ext R
            have hP3 : H3 P = some (.dK acc) := R.hh _ _ hP2
            have gnew : ∀ (b : Addr) (u : HO), H2 b = some u → G2 b = none → G3 b = none := fun b u hb gb => by
              cases z : G3 b with
              | none => rfl
              | some u' => have := R.new b u' z gb; rw [hb] at this; cases this
            have gP3 : G3 P = none := gnew _ _ hP2 gP2
            have racc3 : RowsN X.kw H3 G3 acc dacc as := racc.move fun a _ vs h g => ⟨R.hh _ _ h, gnew _ _ h g⟩
            refine ⟨_, G3, env2, L2, ds[i], e3, S3.reg, rx, q3, fun σ4 H4 G4 L4 S4 s4 a4 => ⟨?_, ?_⟩⟩
            · refine wipe_eq (a4.1.trans (wipe_length σ vs)) fun j hj => ?_
              rw [a4.2 j fun z => hj (hw' j z), wipe_get hj]
            · refine ⟨_, G4, e3, L4, true, e3, S4, rfl, fun H5 G5 L5 S5 s5 => ?_⟩
              show (if (true : Bool) = true then _ else _)
              rw [if_pos rfl]
              cases q5 : fk e3 with
              | none => rw [q5] at e2; cases e2
              | some p5 =>
                rw [q5] at e2
                simp only [Option.bind_some] at e2
                cases q6 : fe p5.2 with
                | none => rw [q6] at e2; cases e2
                | some p6 =>
                  rw [q6] at e2
                  simp only [Option.bind_some] at e2
                  cases q7 : keyOf p5.1 with
                  | none => rw [q7] at e2; cases e2
                  | some kk =>
                    rw [q7] at e2
                    simp only [Option.bind_some] at e2
                    obtain ⟨zd, env6⟩ := p6
                    simp only at e2
                    split at e2
                    · rename_i wz
                      split at e2
                      · rename_i hsc
                        refine ⟨_, G5, e3, L5, p5.1, p5.2, S5, q5, fun v H6 G6 L6 S6 s6 v6 => ⟨_, G6, p5.2, L6, _, env6, S6, q6, fun v' H7 G7' L7' S7' s7' v7 => ?_⟩⟩
                        obtain ⟨gg, S7, vw⟩ := S7'.weak hl1
                        obtain ⟨z1, z2, z3⟩ := S3.aside S7 hP3 gP3 nP2
                        have S8 := S3.unreg S7
                        obtain ⟨M, om, nd, ow, dj⟩ := vw _ _ _ v7
                        obtain ⟨a, vs7, rfl, hM, ha, ga, ra⟩ := own1 om
                        rw [hM] at nd ow dj
                        have ow7 := ow a List.mem_cons_self
                        have ne : ∀ (b : Addr) (u : HO), H3 b = some u → (∀ i m, At Γ i m → b ∉ L2 i) → HK b (some u) → b ≠ a := fun b u hb hl hk z => S3.at_no hb hl hk (z ▸ ow7)
                        have keepA : ∀ b ∈ as, ∀ vs, H3 b = some (.lst vs) → G3 b = none → H7 b = some (.lst vs) ∧ (shw G7' H7 (wkL Γ1 Γ L7')) b = none := fun b mb vs hb gb => by
                          obtain ⟨y1, y2, _⟩ := S3.aside S7 hb gb (oas b mb).2
                          exact ⟨y1, y2⟩
                        have offA : ∀ b ∈ as, ∀ i m, At Γ i m → b ∉ wkLs Γ L7' i := fun b mb => by
                          obtain ⟨vs, hb, gb⟩ := racc3.at_ b mb
                          exact (S3.aside S7 hb gb (oas b mb).2).2.2
                        have neA : ∀ b ∈ as, b ≠ a := fun b mb => by
                          obtain ⟨vs, hb, gb⟩ := racc3.at_ b mb
                          exact ne b _ hb (oas b mb).2 .lst
                        have neP : P ≠ a := ne P _ hP3 nP2 .dK
                        obtain ⟨ndP, ndA⟩ := List.nodup_cons.mp nda
                        have r7 : RowsN X.kw H7 (shw G7' H7 (wkL Γ1 Γ L7')) (acc ++ [(kk, .ref a)]) (dacc ++ [(kD kk, .list wz)]) (as ++ [a]) := .snoc (racc3.move keepA) ha ga ra hsc.1
                        have hput : putK acc kk (V.ref a) = acc ++ [(kk, V.ref a)] := by
                          unfold putK
                          rw [racc.any, hsc.2]; rfl
                        have alen' := million_ok (show acc.length < 1000000 by omega)
                        refine ⟨acc, kk, rep_key v6.rep q7, z1, alen', shw G7' H7 (wkL Γ1 Γ L7'), env6, wkLs Γ L7', putK acc kk (V.ref a), dacc ++ [(kD kk, .list wz)], as ++ [a], ?_, ?_, upd_same, z2, z3, ?_, ?_, ?_, Nat.le_trans (putK_len _ _ _) (by omega), e2⟩
                        · have hws : wipe σ4 vs = wipe σ vs := wipe_eq (a4.1.trans (wipe_length σ vs)) fun j hj => by rw [a4.2 j fun z => hj (hw' j z), wipe_get hj]
                          have S9 := S8.wiped hu'
                          rw [hws] at S9
                          exact S9.put z2 z3 ownP
                        · exact (s2.trans ((R.gg.trans s4).trans s5)).trans ((s6.trans s7').trans gg)
                        · rw [hput]
                          refine r7.move fun b mb vs hb gb => ⟨?_, gb⟩
                          rw [upd_ne]
                          · exact hb
                          · rcases List.mem_append.mp mb with mb | mb
                            · exact fun z => ndP (z ▸ mb)
                            · rw [List.mem_singleton.mp mb]; exact fun z => neP z.symm
                        · rw [List.nodup_cons]
                          refine ⟨fun mb => ?_, List.nodup_append.mpr ⟨ndA, by simp, fun b hb c hc z => ?_⟩⟩
                          · rcases List.mem_append.mp mb with mb | mb
                            · exact ndP mb
                            · exact neP (List.mem_singleton.mp mb)
                          · rw [List.mem_singleton.mp hc] at z
                            exact neA b hb z
                        · intro b mb
                          rcases List.mem_append.mp mb with mb | mb
                          · exact ⟨(oas b mb).1, offA b mb⟩
                          · rw [List.mem_singleton.mp mb]
                            exact ⟨S3.own_of ow7, fun i m hi => dj i m hi a List.mem_cons_self⟩
                      · cases e2
                    · cases e2
        · have ei : i = ds.length := by omega
          rw [ei, List.drop_length] at e2
          simp only [dcLN, Option.some.injEq, Prod.mk.injEq] at e2
          obtain ⟨ea, eE⟩ := e2
          refine .inl ⟨w.stop i H2 (s2.sh S2.gh) ei, ?_⟩
          subst ea eE
          exact k P acc as H2 G2 L2 (S2.unwiped hu') (s1.trans s2) hP2 gP2 ownP nP2 racc nda oas
      · cases e
theorem m_dcN {scope : Scope} {own : List (Str × Nat)} (hc : X.calm = true) (hN : X.N.Nodup) (hi : PI X tg iter (tI X.kw wk Γ fi)) (ok : BlkOk X.N X.env.scope scope own)
    (hg : ∀ (s : Shared) (H : Hp) (C : Addr) (cl : List (Str × Addr)) (fp : List Addr), PG (X.blk s H scope (compEnvC scope cl C X.env) fp) tg (tG X.kw wk Γ Γ1 gt ws)) (ht : ∀ (s : Shared) (H : Hp) (C : Addr) (cl : List (Str × Addr)) (fp : List Addr), PTs (X.blk s H scope (compEnvC scope cl C X.env) fp) ifs (tMT X.kw Γ1 bYes))
    (hk : ∀ (s : Shared) (H : Hp) (C : Addr) (cl : List (Str × Addr)) (fp : List Addr), PE (X.blk s H scope (compEnvC scope cl C X.env) fp) kx (tM X.kw Γ1 fk 0))
    (he : ∀ (s : Shared) (H : Hp) (C : Addr) (cl : List (Str × Addr)) (fp : List Addr), PE (X.blk s H scope (compEnvC scope cl C X.env) fp) vx (tM X.kw Γ1 fe 1)) (hu : unAll Γ (own.map (·.2)) = true := by rfl) (hw : ws.all (fun j => decide (j ∈ own.map (·.2))) = true := by rfl) (hl1 : wkB Γ1 Γ = true := by rfl)
    (hs : ∀ x, foldedSetIterable iter X.env x = pure x := by intro _; rfl) : PE X (.DictComp kx vx [⟨tg, iter, ifs, 0⟩] scope pos) (tDN X.kw Γ (dcDN (own.map (·.2)) fi gt fk fe)) :=
  (pe_dc hc hN hi ok hg ht hk he hs).imp fun σ H Q h => tDcN_of hu hw hl1 h
end
end VL
set_option Elab.async false
set_option linter.all false
set_option maxRecDepth 100000
set_option maxHeartbeats 4000000
/-! VTR: {k: list(v) for ..} of tracked things: the new lists and the new dict are tracked. -/
namespace VL
open PySem PyProof.Rows L2
def numK : Nat → List (D × D) → List (D × D)
  | _, [] => []
  | n, p :: r => (p.1, rfD n) :: numK (n + 1) r
theorem numK_app : ∀ (r : List (D × D)) (n : Nat) (p : D × D), numK n (r ++ [p]) = numK n r ++ [(p.1, rfD (n + r.length))]
  | [], n, p => by simp [numK]
  | q :: r, n, p => by
    simp only [List.cons_append, numK, numK_app r (n + 1) p, List.length_cons]
    rw [show n + 1 + r.length = n + (r.length + 1) by omega]
theorem repK_app {K : KW} {G : Gp} : ∀ {kvs : List (Key × V)} {ds : List (D × D)} {k : Key} {v : V} {d : D}, RepK K G kvs ds → Rep K G v d → RepK K G (kvs ++ [(k, v)]) (ds ++ [(kD k, d)])
  | _, _, _, _, _, .nil, r => .cons r .nil
  | _, _, _, _, _, .cons h t, r => .cons h (repK_app t r)
section
variable {K : KW} {O : Gh} {Γ : Ctx} {H : Hp} {G : Gp} {σ : L2.St} {g : Nat} {env : List D} {L : Nat → List Addr} {objs : List D}
theorem track_rows {kvs : List (Key × V)} {ds : List (D × D)} {as : List Addr} (S : StR K O Γ H G σ env L) (hg : Γ[g]? = some (.io 200)) (hu : stU Γ g = true) (he : env[g]? = some (stD objs)) (r : RowsN K H G kvs ds as) : as.Nodup → (∀ a ∈ as, O.own a ∧ ∀ i m, At Γ i m → a ∉ L i) →
    ∃ G' L', SameG G G' ∧ StR K O Γ H G' σ (env.set g (stD (objs ++ ds.map (·.2)))) L' ∧ RepK K G' kvs (numK objs.length ds) ∧ (∀ p : Addr, G (.inl p) = none → G' (.inl p) = none) ∧ ∀ p : Addr, p ∉ as → (∀ i m, At Γ i m → p ∉ L i) → ∀ i m, At Γ i m → p ∉ L' i := by
  have li : g < env.length := (List.getElem?_eq_some_iff.mp he).1
  induction r with
  | nil =>
    intro _ _
    refine ⟨G, L, fun _ _ e => e, ?_, .nil, fun _ e => e, fun _ _ h => h⟩
    have : env.set g (stD (objs ++ ([] : List (D × D)).map (·.2))) = env := by
      rw [List.map_nil, List.append_nil]
      exact List.ext_getElem? fun j => by
        by_cases q : g = j
        · subst q; rw [List.getElem?_set_self li, he]
        · rw [List.getElem?_set_ne q]
    rw [this]; exact S
  | @snoc kvs ds as k a vs ws r h gn rl sc ih =>
    intro nd ho
    obtain ⟨nd1, _, nd2⟩ := List.nodup_append.mp nd
    obtain ⟨G1, L1, s1, S1, rk, gk, lk⟩ := ih nd1 fun b m => ho b (List.mem_append_left _ m)
    have na : a ∉ as := fun m => nd2 a m a (by simp) rfl
    obtain ⟨oa, la⟩ := ho a (by simp)
    have he1 : (env.set g (stD (objs ++ ds.map (·.2))))[g]? = some (stD (objs ++ ds.map (·.2))) := List.getElem?_set_self li
    have hr : ObjR K H G1 [a] a (.list ws) := .lst h (rl.mono s1)
    have ob : ∀ b ∈ [a], G1 b = none ∧ ObK b (H b) := fun b m => by
      rw [List.mem_singleton.mp m]
      exact ⟨gk a gn, hr.obK⟩
    obtain ⟨ss, S2⟩ := S1.track hg hu he1 (by simp) (fun b m => by rw [List.mem_singleton.mp m]; exact oa) ob (fun i m hi b hb => by rw [List.mem_singleton.mp hb]; exact lk a na la i m hi) List.mem_cons_self hr
    refine ⟨_, fun i => if i = g then L1 g ++ [a] else L1 i, s1.trans ss, ?_, ?_, fun p e => (tagG_inl).trans (gk p e), fun p hp hl i m hi => ?_⟩
    · rw [List.set_set] at S2
      have e9 : objs ++ (ds ++ [(kD k, (PyData.list ws : D))]).map (fun x => x.2) = objs ++ ds.map (fun x => x.2) ++ [PyData.list ws] := by simp
      rw [e9]
      exact S2
    · rw [numK_app]
      refine repK_app (rk.mono ss) ?_
      have e8 : (objs ++ ds.map (·.2)).length = objs.length + ds.length := by simp
      rw [← e8]
      exact .rf tagG_at
    · have h1 := lk p (fun z => hp (List.mem_append_left _ z)) hl i m hi
      have h2 : p ≠ a := fun z => hp (z ▸ by simp)
      show p ∉ (if i = g then L1 g ++ [a] else L1 i)
      by_cases q : i = g
      · subst q
        rw [if_pos rfl]
        exact fun z => (List.mem_append.mp z).elim h1 fun z => h2 (List.mem_singleton.mp z)
      · rw [if_neg q]; exact h1
end
section
variable {X : Cx} {Γ Δ : Ctx} {a : Expr} {f : List D → Option (List (D × D) × List D)}
def eCopyD (g : Nat) (f : List D → Option (List (D × D) × List D)) : Ex := fun env => match env[g]? with
  | some (.dict [(.tuple [.list [.bool true]], .list objs)]) => (f env).bind fun p => some (rfD (objs.length + p.1.length), env.set g (stD (objs ++ p.1.map (·.2) ++ [.dict (numK objs.length p.1)])))
  | _ => none
theorem m_copyD (g : Nat) (Δ : Ctx) (h : PE X a (tDN X.kw Δ f)) (hg : Γ[g]? = some (.io 200) := by rfl) (hu : stU Γ g = true := by rfl) (hb : ldB Γ Δ g = true := by rfl) : PE X a (tM X.kw Γ (eCopyD g f) 0) := ⟨fun pins s σ H Q I ⟨O, G, env, L, r, env2, S, e, k⟩ => by
  unfold eCopyD at e
  split at e
  · rename_i objs he
    simp only [Option.bind_eq_some_iff, Option.some.injEq, Prod.mk.injEq] at e
    obtain ⟨⟨dr, env1⟩, e1, rfl, rfl⟩ := e
    simp only at k
    obtain ⟨as, hv, A⟩ := S.store hg he
    have hl : ∀ a ∈ dcs as objs, ∃ u, H a = some u ∧ Mut (some u) := fun a m => by
      obtain ⟨u, ds, _, h1, h2⟩ := A.dc m
      exact ⟨u, h1, h2.mut⟩
    obtain ⟨od, I1⟩ := lock_all I (dcs as objs) hl
    have := h.run pins s σ _ (fun v H' => (∀ a ∈ dcs as objs, ∃ u, H a = some u ∧ Mut (some u) ∧ H' a = some (.frz (od a) u)) ∧ Q v (thwH H H' (dcs as objs))) I1 ⟨_, _, env, _, dr, env1, S.lendS hb he A hv, e1, fun P kvs ps H1 G1 L1 S1 s1 hP gP oP lP rows nd oR => by
      obtain ⟨q1, G2, gg, S2, _, _, gk⟩ := S.backS (n := 0) (v := .non) (d := .none) hb A S1 s1 (.of_rep .non) rfl (by decide)
      have notD : ∀ (b : Addr) (u : HO), H1 b = some u → (∀ o u', u ≠ .frz o u') → thwH H H1 (dcs as objs) b = some u := fun b u e ne => by
        rw [thwH_out]
        · exact e
        · intro hm
          obtain ⟨u0, _, _, z⟩ := q1 b hm
          rw [e] at z; cases z
          exact ne _ _ rfl
      have rows2 : RowsN X.kw (thwH H H1 (dcs as objs)) G2 kvs dr ps := rows.move fun b _ vs hb gb => ⟨notD b _ hb (fun _ _ z => by cases z), gk b gb⟩
      have hP2 : thwH H H1 (dcs as objs) P = some (.dK kvs) := notD P _ hP (fun _ _ z => by cases z)
      obtain ⟨ndP, ndR⟩ := List.nodup_cons.mp nd
      have newH : ∀ (b : Addr), nt X.kw (frzH H od (dcs as objs)) b = none → HK b (H1 b) → H b = none := fun b z hk => by
        rcases nt_none z with z | ⟨p, m, e⟩
        · exact frzH_none.mp z
        · exact absurd e (S1.pres.off hk m)
      have fresh : ∀ (b : Addr), nt X.kw (frzH H od (dcs as objs)) b = none ∨ b ∈ ([] : List Addr) → HK b (H1 b) → O.own b ∧ ∀ i m, At Γ i m → b ∉ L i := fun b hb hk => by
        have hn : H b = none := by
          rcases hb with z | z
          · exact newH b z hk
          · cases z
        refine ⟨S.own_none hn, fun i m hi ha => ?_⟩
        obtain ⟨_, _, _, _, o⟩ := S.slot i m hi
        have := (o.objs b ha).2.1
        rw [hn] at this; cases this
      have fR : ∀ b ∈ ps, O.own b ∧ ∀ i m, At Γ i m → b ∉ L i := fun b mb => by
        obtain ⟨vs, hb, _⟩ := rows.at_ b mb
        exact fresh b (oR b mb).1 (by rw [hb]; exact .lst)
      obtain ⟨oP2, lP2⟩ := fresh P oP (by rw [hP]; exact .dK)
      obtain ⟨G3, L3, s3, S3, rk, gk3, lk3⟩ := track_rows S2 hg hu he rows2 ndR fR
      have li : g < env.length := (List.getElem?_eq_some_iff.mp he).1
      have he3 : (env.set g (stD (objs ++ dr.map (·.2))))[g]? = some (stD (objs ++ dr.map (·.2))) := List.getElem?_set_self li
      have hr : ObjR X.kw (thwH H H1 (dcs as objs)) G3 [P] P (.dict (numK objs.length dr)) := .dct hP2 (.k rk)
      have ob : ∀ b ∈ [P], G3 b = none ∧ ObK b (thwH H H1 (dcs as objs) b) := fun b m => by
        rw [List.mem_singleton.mp m]
        exact ⟨gk3 P (gk P gP), hr.obK⟩
      obtain ⟨s4, S4⟩ := S3.track hg hu he3 (by simp) (fun b m => by rw [List.mem_singleton.mp m]; exact oP2) ob (fun i m hi b hb => by rw [List.mem_singleton.mp hb]; exact lk3 P ndP lP2 i m hi) List.mem_cons_self hr
      rw [List.set_set] at S4
      have e8 : (objs ++ dr.map (·.2)).length = objs.length + dr.length := by simp
      refine ⟨q1, k (.ref P) _ _ _ S4 (gg.trans (s3.trans s4)) (.of_rep ?_)⟩
      rw [← e8]
      exact .rf tagG_at⟩
    exact thn this fun u s1 ⟨v, H1, I2, rv, q1, q2⟩ => ⟨v, _, unlock_all od _ I2 fun a m => by
      obtain ⟨w, y1, y2, y3⟩ := q1 a m
      exact ⟨w, y1, I.nofrz y1 y2, y3⟩, rv, q2⟩
  · cases e⟩
end
end VL
namespace VL
open PySem PySem.Spec PyProof.Rows L2
section
variable {X : Cx} {Γ Δ : Ctx} {f C : Addr} {x : Str} {ps : List Str} {F : List D → Option (D × List D)} {np pos : Pos} {j k : Nat}
/-- C() -/
theorem m_new0 (g : Nat) (h : PFA X.prog X.w X.K X.mg X.base f j ps Δ 0 F) (M : Mk X.K C f) (hm : X.mg x = some (.ref C)) (hgd : X.A.guards = some []) (hr : Room k X.A) (hj : j + 1 ≤ k) (hg : Gl X x)
    (hgg : Γ[g]? = some (.io 200) := by rfl) (hu : stU Γ g = true := by rfl) (ok : ∀ f, okA Γ (.v f :: (([] : List Arg) ++ [.io g])) Δ = true := by intro f; rfl) (os : ∀ f, okSt Γ (.v f :: (([] : List Arg) ++ [.io g])) Δ = true := by intro f; rfl)
    (hdb : (x == ("__debug__" : Str)) = false := by decide) : PE X (.Call (.Name x np) [] [] pos) (tM X.kw Γ (eNew x (stF F) [] g) 0) := by
  obtain ⟨fd, hF, hb⟩ := h
  refine (pe_makeG0 M hF hgd (hr.mono hj) hg hm hb (E := E0) pass0 hdb).imp fun σ H Q h => ?_
  obtain ⟨O, G, env, L, ds, env', S, e, q⟩ := new_imp hgg hu hm ok os h
  simp only [evArgs, Option.some.injEq, Prod.mk.injEq] at e
  obtain ⟨rfl, rfl⟩ := e
  exact q [] H G L S (fun _ _ e => e) .nil
end
end VL
set_option Elab.async false
set_option linter.all false
set_option maxRecDepth 100000
set_option maxHeartbeats 4000000
/-! VTS: comprehensions whose items are owned themselves. -/
namespace VL
open PySem L2
section
variable {K : KW} {O : Gh} {Γ Δ : Ctx} {H H' : Hp} {G G' : Gp} {σ : St} {env : List D} {L : Nat → List Addr} {n m i : Nat} {v w : V} {d e : D} {M N : List Addr} {P : Addr} {acc : List V} {dacc : List D}
/-- the items so far, their own objects named -/
structure OwM (K : KW) (O : Gh) (Γ : Ctx) (H : Hp) (G : Gp) (L : Nat → List Addr) (P : Addr) (n : Nat) (acc : List V) (dacc : List D) (M : List Addr) : Prop where
  own : OwnL K H G n acc dacc M
  nd : M.Nodup
  nP : P ∉ M
  new : ∀ a ∈ M, O.own a
  dj : ∀ i m, At Γ i m → ∀ a ∈ M, a ∉ L i
theorem OwM.nil : OwM K O Γ H G L P n [] [] [] := ⟨.nil, List.nodup_nil, by simp, fun a m => by (cases m), fun _ _ _ a m => by (cases m)⟩
theorem OwnL.len : ∀ {n : Nat} {vs : List V} {ds : List D} {M : List Addr}, OwnL K H G n vs ds M → vs.length = ds.length
  | _, _, _, _, .nil => rfl
  | _, _, _, _, .cons _ t => by simp [OwnL.len t]
theorem OwnL.snoc : ∀ {n : Nat} {vs : List V} {ds : List D} {M N : List Addr} {v : V} {d : D}, OwnL K H G n vs ds M → Own K H G n v d N → OwnL K H G n (vs ++ [v]) (ds ++ [d]) (M ++ N)
  | _, _, _, _, N, _, _, .nil, h => by
    have := OwnL.cons h .nil
    simpa using this
  | _, _, _, _, _, _, _, .cons h t, h' => by
    have := OwnL.cons h (OwnL.snoc t h')
    simpa using this
theorem OwM.ext (h : OwM K O Γ H G L P n acc dacc M) (hn : n < 100) (R : Ext G H G' H') : OwM K O Γ H' G' L P n acc dacc M := by
  refine ⟨h.own.mono R.gg (.inl (by omega)) fun a ha => ?_, h.nd, h.nP, h.new, h.dj⟩
  obtain ⟨g, hs, _⟩ := h.own.objs a ha
  cases q : H a with
  | none => rw [q] at hs; cases hs
  | some o =>
    refine ⟨R.hh _ _ q, ?_⟩
    cases z : G' a with
    | none => rfl
    | some u => have := R.new a u z g; rw [q] at this; cases this
theorem OwM.through {σ' : St} {env' : List D} {L' : Nat → List Addr} {Γ' : Ctx} (h : OwM K O Γ H G L P n acc dacc M) (hn : n < 100) (S : StR K O Γ H G σ env L) (S' : StR K (O.at K Γ H G L) Γ' H' G' σ' env' L') (s : SameG G G') : OwM K O Γ' H' G' L' P n acc dacc M := by
  have key : ∀ a ∈ M, H' a = H a ∧ G' a = none ∧ ∀ i m, At Γ' i m → a ∉ L' i := fun a ha => by
    obtain ⟨g, hs, _⟩ := h.own.objs a ha
    have hk := h.own.hk a ha
    cases q : H a with
    | none => rw [q] at hs; cases hs
    | some o =>
      rw [q] at hk
      exact S.aside S' q g (fun i m hi ha' => h.dj i m hi a ha ha') hk
  exact ⟨h.own.mono s (.inl (by omega)) fun a ha => ⟨(key a ha).1, (key a ha).2.1⟩, h.nd, h.nP, h.new, fun i m hi a ha => (key a ha).2.2 i m hi⟩
theorem OwM.no (h : OwM K O Γ H G L P n acc dacc M) (S : StR K O Γ H G σ env L) : ∀ a ∈ M, ¬ (O.at K Γ H G L).own a := fun a ha => by
  obtain ⟨g, hs, _⟩ := h.own.objs a ha
  have hk := h.own.hk a ha
  cases q : H a with
  | none => rw [q] at hs; cases hs
  | some o =>
    rw [q] at hk
    exact S.at_no q (fun i m hi ha' => h.dj i m hi a ha ha') hk
theorem StR.no_P (S : StR K O Γ H G σ env L) (hp : H P = some (.lst acc)) (hl : ∀ i m, At Γ i m → P ∉ L i) : ¬ (O.at K Γ H G L).own P := S.at_no hp hl .lst
theorem OwM.snoc {own' : Addr → Prop} (h : OwM K O Γ H G L P n acc dacc M) (no : ∀ a ∈ M, ¬ own' a) (of : ∀ a, own' a → O.own a) (noP : ¬ own' P) (hv : ∃ M', Own K H G n v d M' ∧ M'.Nodup ∧ (∀ a ∈ M', own' a) ∧ ∀ i m, At Γ i m → ∀ a ∈ M', a ∉ L i) : ∃ M', OwM K O Γ H G L P n (acc ++ [v]) (dacc ++ [d]) M' := by
  obtain ⟨M', o, nd, ow, dj⟩ := hv
  refine ⟨M ++ M', h.own.snoc o, ?_, ?_, ?_, ?_⟩
  · rw [List.nodup_append]
    exact ⟨h.nd, nd, fun a ha b hb e => no a ha (e ▸ ow b hb)⟩
  · intro z
    rcases List.mem_append.mp z with z | z
    · exact h.nP z
    · exact noP (ow _ z)
  · intro a ha
    rcases List.mem_append.mp ha with z | z
    · exact h.new a z
    · exact of a (ow a z)
  · intro i m hi a ha
    rcases List.mem_append.mp ha with z | z
    · exact h.dj i m hi a z
    · exact dj i m hi a z
theorem OwM.put {o : HO} (h : OwM K O Γ H G L P n acc dacc M) (hn : n < 100) : OwM K O Γ (upd H P o) G L P n acc dacc M :=
  ⟨h.own.mono (fun _ _ e => e) (.inl (by omega)) fun a ha => ⟨upd_ne fun z => h.nP (z ▸ ha), (h.own.objs a ha).1⟩, h.nd, h.nP, h.new, h.dj⟩
end
section
variable {X : Cx} {Γ Γ1 : Ctx} {T : Tg} {tg iter elt : Expr} {ifs : List Expr} {pos : Pos} {fi : Ix} {gt : Gx} {tt : Bx} {fe : Ex} {ws : List Nat} {wk : Bool}
theorem tLc_ofN {n : Nat} (hn : n < 100) {vs : List Nat} {σ : St} {H : Hp} {Q : VK} (hu : unAll Γ vs = true) (hw : ws.all (fun j => decide (j ∈ vs)) = true) (hl1 : wkB Γ1 Γ = true) (h : tM X.kw Γ (lcD vs fi gt tt fe) (n + 1) σ H Q) :
    tLc (tI X.kw wk Γ fi) (tG X.kw wk Γ Γ1 gt ws) (tMT X.kw Γ1 tt) (tM X.kw Γ1 fe n) vs σ H Q := by
  obtain ⟨O, G, env, L, r, env2, S, e, k⟩ := h
  have hu' := unAll_get hu
  have hw' : ∀ j, j ∈ ws → j ∈ vs := fun j hj => of_decide_eq_true (List.all_eq_true.mp hw j hj)
  unfold lcD at e
  cases q : fi env with
  | none => rw [q] at e; cases e
  | some p =>
    rw [q] at e
    simp only [Option.bind_some] at e
    obtain ⟨ds, env1⟩ := p
    simp only at e
    cases q2 : lcL gt tt fe ds env1 with
    | none => rw [q2] at e; cases e
    | some p2 =>
      rw [q2] at e
      simp only [Option.bind_some] at e
      split at e
      · rename_i hmil
        simp only [Option.some.injEq, Prod.mk.injEq] at e
        obtain ⟨rfl, rfl⟩ := e
        refine ⟨O, G, env, L, ds, env1, S, q, fun J H1 G1 L1 S1 s1 w P hP => ?_⟩
        have hg1 : G1 P = none := S1.gh.free hP
        have ownP : O.own P := by
          cases r : O.H0 P with
          | none => exact .inl r
          | some u =>
            by_cases hA : P ∈ O.A
            · exact .inr hA
            · rw [S1.pres P u r hA] at hP; cases hP
        have nP : ∀ i m, At Γ i m → P ∉ L1 i := fun i m hi ha => by
          obtain ⟨_, _, _, _, o⟩ := S1.slot i m hi
          have := (o.objs P ha).2.1
          rw [hP] at this; cases this
        -- the invariant
        refine ⟨fun i m H => m = ds.length - i ∧ i ≤ ds.length ∧ ∃ G2 env2 L2 acc dacc rest envE M, StR X.kw O Γ H G2 (wipe σ vs) env2 L2 ∧ SameG G1 G2 ∧ H P = some (.lst acc) ∧ G2 P = none ∧ (∀ i m, At Γ i m → P ∉ L2 i) ∧ OwM X.kw O Γ H G2 L2 P n acc dacc M ∧ lcL gt tt fe (ds.drop i) env2 = some (rest, envE) ∧ dacc ++ rest = p2.1 ∧ envE = p2.2,
          ⟨ds.length, rfl, Nat.zero_le _, G1, env1, L1, [], [], p2.1, p2.2, [], (S1.put hg1 nP ownP).wiped hu', (fun _ _ e => e), upd_same, hg1, nP, .nil, q2, rfl, rfl⟩, ?_⟩
        rintro i m H2 ⟨rfl, hle, G2, env2, L2, acc, dacc, rest, envE, M, S2, s2, hP2, gP2, nP2, racc, e2, eacc, eE⟩
        by_cases hlt : i < ds.length
        · rw [List.drop_eq_getElem_cons hlt] at e2
          simp only [lcL] at e2
          cases q3 : gt ds[i] env2 with
          | none => rw [q3] at e2; cases e2
          | some e3 =>
            rw [q3] at e2
            simp only [Option.bind_some] at e2
            cases q4 : tt e3 with
            | none => rw [q4] at e2; cases e2
            | some b4 =>
              rw [q4] at e2
              simp only [Option.bind_some] at e2
              refine .inr ⟨w.go i H2 (s2.sh S2.gh) hlt, fun H' => ∃ G2 env2 L2 acc dacc rest envE M, StR X.kw O Γ H' G2 (wipe σ vs) env2 L2 ∧ SameG G1 G2 ∧ H' P = some (.lst acc) ∧ G2 P = none ∧ (∀ i m, At Γ i m → P ∉ L2 i) ∧ OwM X.kw O Γ H' G2 L2 P n acc dacc M ∧ lcL gt tt fe (ds.drop (i + 1)) env2 = some (rest, envE) ∧ dacc ++ rest = p2.1 ∧ envE = p2.2,
                fun H' h' => ⟨ds.length - (i + 1), by omega, rfl, hlt, h'⟩, fun x H3 y => ?_⟩
              obtain ⟨d, G3, hd, R, rx⟩ := w.yld i H2 x H3 G2 s2 S2.gh y hlt
              rw [List.getElem?_eq_getElem hlt] at hd
              cases hd
              have S3 := S2.ext R
              have hP3 : H3 P = some (.lst acc) := R.hh _ _ hP2
              have gP3 : G3 P = none := by
                cases z : G3 P with
                | none => rfl
                | some u => have := R.new P u z gP2; rw [hP2] at this; cases this
              have racc3 := racc.ext hn R
              -- from here on the state is an entry
              refine ⟨_, G3, env2, L2, ds[i], e3, S3.reg, rx, q3, fun σ4 H4 G4 L4 S4 s4 a4 => ⟨?_, ?_⟩⟩
              · refine wipe_eq (a4.1.trans (wipe_length σ vs)) fun j hj => ?_
                rw [a4.2 j fun z => hj (hw' j z), wipe_get hj]
              · refine ⟨_, G4, e3, L4, b4.1, b4.2, S4, q4, fun H5 G5 L5 S5 s5 => ?_⟩
                have fin : ∀ {H6 : Hp} {G6 : Gp} {L6 : Nat → List Addr} {env6 : List D}, StR X.kw (O.at X.kw Γ H3 G3 L2) Γ1 H6 G6 σ4 env6 L6 → SameG G5 G6 → ∃ G7 L7, SameG G6 G7 ∧ StR X.kw O Γ H6 G7 (wipe σ vs) env6 L7 ∧ H6 P = some (.lst acc) ∧ G7 P = none ∧ (∀ i m, At Γ i m → P ∉ L7 i) ∧ OwM X.kw O Γ H6 G7 L7 P n acc dacc M ∧ SameG G1 G7 ∧ ∀ n v d, VR X.kw (O.at X.kw Γ H3 G3 L2) Γ1 H6 G6 L6 n v d → VR X.kw (O.at X.kw Γ H3 G3 L2) Γ H6 G7 L7 n v d := by
                  intro H6 G6 L6 env6 S6 s6
                  obtain ⟨gg, S7, vv⟩ := S6.weak hl1
                  obtain ⟨z1, z2, z3⟩ := S3.aside S7 hP3 gP3 nP2
                  have S8 := S3.unreg S7
                  refine ⟨_, _, gg, ?_, z1, z2, z3, racc3.through hn S3 S7 ((s4.trans s5).trans (s6.trans gg)), (s2.trans ((R.gg.trans s4).trans s5)).trans (s6.trans gg), vv⟩
                  have : wipe σ4 vs = wipe σ vs := wipe_eq (a4.1.trans (wipe_length σ vs)) fun j hj => by rw [a4.2 j fun z => hj (hw' j z), wipe_get hj]
                  rw [← this]
                  exact S8.wiped hu'
                by_cases hb : b4.1 = true
                · rw [if_pos hb] at e2
                  show (if _ then _ else _)
                  rw [if_pos hb]
                  cases q5 : fe b4.2 with
                  | none => rw [q5] at e2; cases e2
                  | some p5 =>
                    rw [q5] at e2
                    simp only [Option.bind_some] at e2
                    cases q6 : lcL gt tt fe (ds.drop (i + 1)) p5.2 with
                    | none => rw [q6] at e2; cases e2
                    | some p6 =>
                      rw [q6] at e2
                      simp only [Option.map_some, Option.some.injEq, Prod.mk.injEq] at e2
                      obtain ⟨rfl, rfl⟩ := e2
                      refine ⟨_, G5, b4.2, L5, p5.1, p5.2, S5, q5, fun v H6 G6 L6 S6 s6 v6 => ?_⟩
                      obtain ⟨G7, L7, g67, S7, z1, z2, z3, r7, s7, vv⟩ := fin S6 s6
                      obtain ⟨M', r8⟩ := r7.snoc (racc3.no S3) (fun _ h => S3.own_of h) (S3.no_P hP3 nP2) (vv _ _ _ v6)
                      have hlen : acc.length < 1000000 := by
                        have h1 : acc.length = dacc.length := r7.own.len
                        have h2 := congrArg List.length eacc
                        simp at h2
                        omega
                      refine ⟨acc, z1, million_ok hlen, G7, p5.2, L7, acc ++ [v], dacc ++ [p5.1], p6.1, p6.2, M', S7.put z2 z3 ownP, s7, upd_same, z2, z3, r8.put hn, q6, by rw [List.append_assoc]; exact eacc, eE⟩
                · rw [if_neg hb] at e2
                  show (if _ then _ else _)
                  rw [if_neg hb]
                  obtain ⟨G7, L7, g67, S7, z1, z2, z3, r7, s7, _⟩ := fin S5 (fun _ _ e => e)
                  exact ⟨G7, b4.2, L7, acc, dacc, rest, envE, M, S7, s7, z1, z2, z3, r7, e2, eacc, eE⟩
        · have ei : i = ds.length := by omega
          rw [ei, List.drop_length] at e2
          simp only [lcL, Option.some.injEq, Prod.mk.injEq] at e2
          obtain ⟨rfl, rfl⟩ := e2
          refine .inl ⟨w.stop i H2 (s2.sh S2.gh) ei, ?_⟩
          rw [List.append_nil] at eacc
          subst eacc eE
          refine k (.ref P) H2 G2 L2 (S2.unwiped hu') (s1.trans s2) ⟨P :: M, .lst hP2 gP2 racc.own, List.nodup_cons.mpr ⟨racc.nP, racc.nd⟩, fun a ha => by
            rcases List.mem_cons.mp ha with rfl | ha
            · exact ownP
            · exact racc.new a ha, fun i m hi a ha hl => ?_⟩
          rcases List.mem_cons.mp ha with rfl | ha
          · exact nP2 i m hi hl
          · exact racc.dj i m hi a ha hl
      · cases e
theorem m_lcN (n : Nat) {scope : Scope} {own : List (Str × Nat)} (hc : X.calm = true) (hN : X.N.Nodup) (hi : PI X tg iter (tI X.kw wk Γ fi)) (ok : BlkOk X.N X.env.scope scope own)
    (hg : ∀ (s : Shared) (H : Hp) (C : Addr) (cl : List (Str × Addr)) (fp : List Addr), PG (X.blk s H scope (compEnvC scope cl C X.env) fp) tg (tG X.kw wk Γ Γ1 gt ws)) (ht : ∀ (s : Shared) (H : Hp) (C : Addr) (cl : List (Str × Addr)) (fp : List Addr), PTs (X.blk s H scope (compEnvC scope cl C X.env) fp) ifs (tMT X.kw Γ1 tt))
    (he : ∀ (s : Shared) (H : Hp) (C : Addr) (cl : List (Str × Addr)) (fp : List Addr), PE (X.blk s H scope (compEnvC scope cl C X.env) fp) elt (tM X.kw Γ1 fe n)) (hn : n < 100 := by decide) (hu : unAll Γ (own.map (·.2)) = true := by rfl) (hw : ws.all (fun j => decide (j ∈ own.map (·.2))) = true := by rfl) (hl1 : wkB Γ1 Γ = true := by rfl)
    (hs : ∀ x, foldedSetIterable iter X.env x = pure x := by intro _; rfl) : PE X (.ListComp elt [⟨tg, iter, ifs, 0⟩] scope pos) (tM X.kw Γ (lcD (own.map (·.2)) fi gt tt fe) (n + 1)) :=
  (pe_lc hc hN hi ok hg ht he hs).imp fun σ H Q h => tLc_ofN hn hu hw hl1 h
/-- list(..) of a list of the module -/
theorem m_listG {x : Str} {p px pos : Pos} {ad : Addr} {vs : List V} {ds : List D} (hmx : X.mg x = some (.ref ad)) (hq : ∀ H, SqL X.K H ad vs) (hr : ∀ G, RepL X.kw G vs ds) (hgx : Gl X x) (hg : Gl X "list") (hm : X.mg "list" = none) (hd : (x == ("__debug__" : Str)) = false := by decide)
    (h1 : starEach [.Name x px] X.env = (false, eval (.Name x px) X.env) :: starEach [] X.env := by rfl) (hpl : (backTo pos (starEach [] X.env)).any (·.1) = false := by rfl) :
    PE X (.Call (.Name "list" p) [.Name x px] [] pos) (tM X.kw Γ (eC (.list ds)) 1) :=
  (pe_callTy call_list_of hg hm bt_list (pa_cons (pe_glob (v := .ref ad) hgx hmx rfl hd) pa_nil h1) (by decide) (by decide) h1 hpl).imp fun σ H Q ⟨O, G, env, L, r, env2, S, e, k⟩ => by
    simp only [eC, Option.some.injEq, Prod.mk.injEq] at e
    obtain ⟨rfl, rfl⟩ := e
    refine ⟨ad, vs, rfl, .inl (hq H), fun q hp => ?_⟩
    have R := Res.newL S.gh hp (hr G)
    exact k _ _ _ L (S.res R).1 R.gg (S.res R).2
end
end VL
set_option Elab.async false
set_option linter.all false
set_option maxRecDepth 100000
set_option maxHeartbeats 4000000
/-! VTU: methods that change a tracked list. -/
namespace VL
open PySem L2
def isLs (g : Nat) (e : List D) (b : D) : Bool := match b, e[g]? with
  | .dict [(.tuple [.list []], .int (.ofNat x))], some (.dict [(.tuple [.list [.bool true]], .list objs)]) => match objs[x]? with
    | some (.list _) => true
    | _ => false
  | _, _ => false
theorem isLs_is {g : Nat} {e : List D} {b : D} (h : isLs g e b = true) : ∃ x objs ds, b = rfD x ∧ e[g]? = some (stD objs) ∧ objs[x]? = some (.list ds) := by
  unfold isLs at h
  split at h
  · rename_i x objs he
    split at h
    · rename_i ds ho
      exact ⟨x, objs, ds, rfl, he, ho⟩
    · cases h
  · cases h
def mutS2 (g : Nat) (U : List D → List D → Option (D × List D)) (b : D) (p : List D × List D) : Option (D × List D) := match b, p.2[g]? with
  | .dict [(.tuple [.list []], .int (.ofNat x))], some (.dict [(.tuple [.list [.bool true]], .list objs)]) => match objs[x]? with
    | some (.list ds) => (U ds p.1).map fun q => (q.1, p.2.set g (stD (objs.set x (.list q.2))))
    | _ => none
  | _, _ => none
theorem mutS2_is {g : Nat} {U : List D → List D → Option (D × List D)} {b r : D} {p : List D × List D} {e : List D} (h : mutS2 g U b p = some (r, e)) : ∃ x objs ds ds', b = rfD x ∧ p.2[g]? = some (stD objs) ∧ objs[x]? = some (.list ds) ∧ U ds p.1 = some (r, ds') ∧ e = p.2.set g (stD (objs.set x (.list ds'))) := by
  unfold mutS2 at h
  split at h
  · rename_i x objs he
    split at h
    · rename_i ds ho
      cases h3 : U ds p.1 with
      | none => rw [h3] at h; cases h
      | some q =>
        rw [h3] at h
        simp only [Option.map_some, Option.some.injEq, Prod.mk.injEq] at h
        obtain ⟨rfl, rfl⟩ := h
        exact ⟨x, objs, ds, q.2, rfl, he, ho, h3, rfl⟩
    · cases h
  · cases h
def eMutS (g : Nat) (U : List D → List D → Option (D × List D)) (fb : Ex) (fs : List Ex) : Ex := fun env => (fb env).bind fun b => if isLs g b.2 b.1 = true then (evs fs b.2).bind (mutS2 g U b.1) else none
section
variable {X : Cx} {Γ : Ctx} {T : Tg} {a o : Expr} {es : List Expr} {pos apos px : Pos} {fs : List Ex} {f fb : Ex} {U : List D → List D → Option (D × List D)} {id : String} {m : Str} {r : V → List V → Hp → VK → Prop}
theorem eMutS_some {g : Nat} {env env2 : List D} {z : D} (e : eMutS g U fb fs env = some (z, env2)) : ∃ b env1 xs env3, fb env = some (b, env1) ∧ isLs g env1 b = true ∧ evs fs env1 = some (xs, env3) ∧ mutS2 g U b (xs, env3) = some (z, env2) := by
  unfold eMutS at e
  cases h1 : fb env with
  | none => rw [h1] at e; cases e
  | some b =>
    rw [h1] at e
    simp only [Option.bind_some] at e
    split at e
    · rename_i hb
      cases h2 : evs fs b.2 with
      | none => rw [h2] at e; cases e
      | some p =>
        rw [h2] at e
        simp only [Option.bind_some] at e
        exact ⟨b.1, b.2, p.1, p.2, rfl, hb, h2, e⟩
    · cases e
theorem m_mutS (g : Nat) (slot : Slot "list" m id) (hty : typeOf (.builtin id) = pure (.type "method_descriptor")) (hm : MtR X id r) (hu : MuD X.kw r U) (ho : PE X o (tM X.kw Γ fb 0)) (ha : PA X (a :: es) (tMA X.kw Γ fs)) (hg : Γ[g]? = some (.io 200) := by rfl)
    (hbase : attributeBase o m X.env (eval o X.env) = eval o X.env := by rfl)
    (hfew : ((backTo pos (starEach (a :: es) X.env)).all (fun x => !x.1) && (backToKw pos (keywordEach [] X.env)).all (fun x => x.1.isSome) && decide ((a :: es).length + ([] : List Keyword).length + (if ([] : List Keyword).isEmpty then 0 else 1) < 30)) = true := by rfl)
    (hline : (apos.endLine == pos.line) = true := by rfl) (hs : starEach (a :: es) X.env = (false, eval a X.env) :: starEach es X.env := by rfl) (hplain : (backTo pos (starEach es X.env)).any (·.1) = false := by rfl) : PE X (.Call (.Attribute o m apos) (a :: es) [] pos) (tM X.kw Γ (eMutS g U fb fs) 0) :=
  (pe_bm PySem.F.plainAttrs_list slot hty hm ho ha hbase hfew hline hs hplain).imp fun σ H Q ⟨O, G, env, L, z, env2, S, e, k⟩ => by
    obtain ⟨b, env1, xs, env3, e0, e1, e2, e3⟩ := eMutS_some e
    refine ⟨O, G, env, L, b, env1, S, e0, fun w H1 G1 L1 S1 s1 v1 => ?_⟩
    obtain ⟨x, objs, ds, rfl, he, ho1⟩ := isLs_is e1
    obtain ⟨p, rfl, ht⟩ := rep_rf (x := x) v1.rep
    obtain ⟨as, hv, A⟩ := S1.store hg he
    obtain ⟨hL, ro⟩ := A.at_ x p _ ((A.tag x p).mpr ht) ho1
    cases ro with
    | lst h0 r0 =>
      refine .inl ⟨rfl, _, SqL.of h0⟩ |> fun q => ⟨q, O, G1, env1, L1, xs, env3, S1, e2, fun ys H2 G2 L2 S2 s2 r2 => ?_⟩
      obtain ⟨x', objs2, ds2, ds', hx, he2, ho2, hU, rfl⟩ := mutS2_is e3
      cases hx
      obtain ⟨as2, hv2, A2⟩ := S2.store hg he2
      have hp2 := (A2.tag x p).mpr (s2 _ _ ht)
      obtain ⟨hL2, ro2⟩ := A2.at_ x p _ hp2 ho2
      cases ro2 with
      | lst h2 r3 =>
        exact hu _ _ _ _ _ _ _ G2 H2 Q S2.gh h2 (A2.ob p hL2).1 r3 r2 hU fun v vs' r' rz => k v _ G2 L2 (S2.stput hg he2 A2 hv2 hp2 ho2 (.lst upd_same r')) (s1.trans s2) (.of_rep rz)
end
end VL
set_option Elab.async false
set_option linter.all false
set_option maxRecDepth 100000
set_option maxHeartbeats 1000000
/-! VX3: is True, is not True. -/
namespace VL
open PySem PySem.Spec L2
def notBD : D → D → Option D
  | .bool a, .bool b => some (.bool (!decide (a = b)))
  | _, _ => none
theorem o_notB {X : Cx} : OpR X (compareOp .IsNot) (rD X.kw 0 notBD) := fun pins s σ H x y v u Q I rx ry ⟨d, e, z, G, sg, rd, re, hz, q⟩ => by
  unfold notBD at hz
  split at hz
  · cases hz
    cases rd
    cases re
    exact op_isnot_bl pins s σ H _ _ v u Q I rx ry ⟨_, _, rfl, rfl, q _ _ _ (Res.of_rep sg (.bl _))⟩
  · cases hz
end VL
set_option Elab.async false
set_option linter.all false
set_option maxRecDepth 100000
set_option maxHeartbeats 1000000
/-! VX4: tuple(range(a, b)). -/
namespace VL
open PySem PySem.Spec L2 PyProof.Rows
end VL
set_option Elab.async false
set_option linter.all false
set_option maxRecDepth 100000
set_option maxHeartbeats 1000000
/-! VX5: list(d.items()). -/
namespace VL
open PySem PySem.Spec L2 PyProof.Rows PySem.W
end VL
set_option Elab.async false
set_option linter.all false
set_option maxRecDepth 100000
set_option maxHeartbeats 4000000
namespace W_k30
open PySem PySem.Spec PyProof.Rows L2 VL
def topS (i : Nat) : Stmt := PySem.Challenge.pw_belowall_k30_stores.main.body.getD i (.Pass ⟨0, 0, 0, 0⟩)
def topM (i j : Nat) : Stmt := (clsBody (topS i)).getD j (.Pass ⟨0, 0, 0, 0⟩)
variable {P : Program} {w : World} {K : PySem.W.Frag} {mg : Str → Option Value} {base : Heap}
abbrev s_Store___init__ : Stmt := topM 2 1
theorem sc_Store___init__ : FnScope ["self", "$"] ["self"] (defScope s_Store___init__) := ⟨rfl, rfl, rfl, by decide +kernel, rfl, by decide +kernel, by decide +kernel⟩
def g_Store___init__ : Sx := (asgG (eTrkD 1 (eC (.dict []))) (gtFld 1 "Store" 0 (eVar 0)))
def F_Store___init__ : List D → Option (D × List D) := runD [.ow 0, .io 200] g_Store___init__ 2
theorem ok_Store___init__ {f_Store___init__ : Addr} (d : DA K "__init__" "Store.__init__" s_Store___init__ ["self"] f_Store___init__) {C_Store : Addr} (mg_Store : mg "Store" = some (.ref C_Store)) (cl_Store : SlX.SCls K C_Store) {q_Store_its_rows : Addr} (sl_Store_its_rows : SlX.Slot1 K C_Store "its_rows" q_Store_its_rows 0) : PFA P w K mg base f_Store___init__ 1 ["self"] [.ow 0, .io 200] 0 F_Store___init__ :=
  have nd := sc_Store___init__.nd
  def_okA (k := 0) (Γ' := [.ow 0, .io 200]) (g := g_Store___init__) d sc_Store___init__ (fun f cdv A outer s H E hgd hr =>
    (s_one (s_asg (m_trkD 1 m_dnew) (t_fld 1 mg_Store cl_Store sl_Store_its_rows (m_var 0))))) (.inl rfl)
abbrev s_Store_row : Stmt := topM 2 3
theorem sc_Store_row : FnScope ["self", "number", "$"] ["self", "number"] (defScope s_Store_row) := ⟨rfl, rfl, rfl, by decide +kernel, rfl, by decide +kernel, by decide +kernel⟩
def g_Store_row : Sx := (sq (sIf (bLend 2 (asB (eBin notInA (eVar 1) (eDrf 2 (eFld 2 "Store" 0 (eVar 0)))))) (asgG (eTrkL 2 (eLstB (lCons (eC (.int 0)) (lStar (eC (.list [.int 0, .int 0])) lNil)))) (gtSix 2 (eLend 2 0 (eFld 2 "Store" 0 (eVar 0))) (eVar 1))) sNil)
  (retE (eLend 2 0 (eBin ixA (eDrf 2 (eFld 2 "Store" 0 (eVar 0))) (eVar 1)))))
def F_Store_row : List D → Option (D × List D) := runD [.ow 0, .ow 0, .io 200] g_Store_row 3
theorem ok_Store_row {f_Store_row : Addr} (d : DA K "row" "Store.row" s_Store_row ["self", "number"] f_Store_row) {C_Store : Addr} (mg_Store : mg "Store" = some (.ref C_Store)) (cl_Store : SlX.SCls K C_Store) {q_Store_its_rows : Addr} (sl_Store_its_rows : SlX.Slot1 K C_Store "its_rows" q_Store_its_rows 0) {a_EMPTY : Addr} (c_EMPTY : mg "EMPTY" = some (.ref a_EMPTY)) (r_EMPTY : ∀ H, SqL K H a_EMPTY [.int 0, .int 0]) : PFA P w K mg base f_Store_row 1 ["self", "number"] [.ow 0, .ow 0, .io 200] 0 F_Store_row :=
  have nd := sc_Store_row.nd
  def_okA (k := 0) (Γ' := [.un, .un, .io 200]) (g := g_Store_row) d sc_Store_row (fun f cdv A outer s H E hgd hr =>
    (s_cons (s_if (b_lend 2 [.ow 0, .ow 0, .ow 0] (b_notInA (u66 hr) (m_var 1) (m_drf 2 (m_fld 2 mg_Store cl_Store sl_Store_its_rows (m_var 0))) (by rfl))) (s_one (s_asg (m_trkL 2 (m_lstB (l_cons m_int (l_starG c_EMPTY r_EMPTY (fun _ => (.cons (.int _) (.cons (.int _) .nil))) (by rfl) l_nil)))) (t_six 2 (u66 hr) (m_lend 2 [.ow 0, .un, .ow 0] (m_fld 2 mg_Store cl_Store sl_Store_its_rows (m_var 0))) (m_var 1)))) s_nil)
    (s_one (s_ret (m_lend 2 [.ow 0, .ow 0, .ow 0] (m_ixA (u66 hr) (m_drf 2 (m_fld 2 mg_Store cl_Store sl_Store_its_rows (m_var 0))) (m_var 1) (fun _ _ => rfl))))))) (.inl rfl)
abbrev s_Store_count_of : Stmt := topM 2 5
theorem sc_Store_count_of : FnScope ["self", "number", "$"] ["self", "number"] (defScope s_Store_count_of) := ⟨rfl, rfl, rfl, by decide +kernel, rfl, by decide +kernel, by decide +kernel⟩
def g_Store_count_of : Sx := (retE (eIf (asB (eBin inA (eVar 1) (eDrf2 2 (eFld 2 "Store" 0 (eVar 0))))) (eBin ixA (eBin ixA (eDrf2 2 (eFld 2 "Store" 0 (eVar 0))) (eVar 1)) (eC (.int 0))) (eC (.int 0))))
def F_Store_count_of : List D → Option (D × List D) := runD [.ow 0, .ow 0, .ow 0] g_Store_count_of 3
theorem ok_Store_count_of {f_Store_count_of : Addr} (d : DA K "count_of" "Store.count_of" s_Store_count_of ["self", "number"] f_Store_count_of) {C_Store : Addr} (mg_Store : mg "Store" = some (.ref C_Store)) (cl_Store : SlX.SCls K C_Store) {q_Store_its_rows : Addr} (sl_Store_its_rows : SlX.Slot1 K C_Store "its_rows" q_Store_its_rows 0) : PFA P w K mg base f_Store_count_of 1 ["self", "number"] [.ow 0, .ow 0, .ow 0] 0 F_Store_count_of :=
  have nd := sc_Store_count_of.nd
  def_okA (k := 0) (Γ' := [.un, .un, .un]) (g := g_Store_count_of) d sc_Store_count_of (fun f cdv A outer s H E hgd hr =>
    (s_one (s_ret (m_if (b_inA (u66 hr) (m_var 1) (m_drf2 2 (m_fld 2 mg_Store cl_Store sl_Store_its_rows (m_var 0))) (by rfl)) (m_ixA (u66 hr) (m_ixA (u66 hr) (m_drf2 2 (m_fld 2 mg_Store cl_Store sl_Store_its_rows (m_var 0))) (m_var 1) (fun _ _ => rfl)) m_int (fun _ _ => rfl)) m_int)))) (.inl rfl)
abbrev s_Store_values_of : Stmt := topM 2 6
theorem sc_Store_values_of : FnScope ["self", "number", "$"] ["self", "number"] (defScope s_Store_values_of) := ⟨rfl, rfl, rfl, by decide +kernel, rfl, by decide +kernel, by decide +kernel⟩
def g_Store_values_of : Sx := (retE (eIf (asB (eBin inA (eVar 1) (eDrf2 2 (eFld 2 "Store" 0 (eVar 0))))) (eSl slcL (eBin ixA (eDrf2 2 (eFld 2 "Store" 0 (eVar 0))) (eVar 1)) (pIs (eC (.int 1))) pNo) (eC (.list [.int 0, .int 0]))))
def F_Store_values_of : List D → Option (D × List D) := runD [.ow 0, .ow 0, .ow 0] g_Store_values_of 3
theorem ok_Store_values_of {f_Store_values_of : Addr} (d : DA K "values_of" "Store.values_of" s_Store_values_of ["self", "number"] f_Store_values_of) {C_Store : Addr} (mg_Store : mg "Store" = some (.ref C_Store)) (cl_Store : SlX.SCls K C_Store) {q_Store_its_rows : Addr} (sl_Store_its_rows : SlX.Slot1 K C_Store "its_rows" q_Store_its_rows 0) (nb_list : mg "list" = none) {a_EMPTY : Addr} (c_EMPTY : mg "EMPTY" = some (.ref a_EMPTY)) (r_EMPTY : ∀ H, SqL K H a_EMPTY [.int 0, .int 0]) : PFA P w K mg base f_Store_values_of 1 ["self", "number"] [.ow 0, .ow 0, .ow 0] 1 F_Store_values_of :=
  have nd := sc_Store_values_of.nd
  def_okA (k := 0) (Γ' := [.un, .un, .un]) (g := g_Store_values_of) d sc_Store_values_of (fun f cdv A outer s H E hgd hr =>
    (s_one (s_ret (m_if (b_inA (u66 hr) (m_var 1) (m_drf2 2 (m_fld 2 mg_Store cl_Store sl_Store_its_rows (m_var 0))) (by rfl)) (m_sl sl_L (m_ixA (u66 hr) (m_drf2 2 (m_fld 2 mg_Store cl_Store sl_Store_its_rows (m_var 0))) (m_var 1) (fun _ _ => rfl)) (o_some m_int) o_none) (m_listG c_EMPTY r_EMPTY (fun _ => (.cons (.int _) (.cons (.int _) .nil))) (by rfl) (by rfl) nb_list))))) (.inr stops_ret)
abbrev s_Store_taken : Stmt := topM 2 11
theorem sc_Store_taken : FnScope ["self", "$", "number", "row"] ["self"] (defScope s_Store_taken) := ⟨rfl, rfl, rfl, by decide +kernel, rfl, by decide +kernel, by decide +kernel⟩
def g_Store_taken : Sx := (retE (eNs sortedA [(lcD [2, 3] (iItm (eDrf2 1 (eFld 1 "Store" 0 (eVar 0)))) (gtTup 2 (gtCons (gtName 2) (gtCons (gtName 3) gtNil))) (asB (eBin gtD (eBin ixA (eVar 3) (eC (.int 0))) (eC (.int 0)))) (eVar 2))]))
def F_Store_taken : List D → Option (D × List D) := runD [.ow 0, .ow 0] g_Store_taken 4
theorem ok_Store_taken {f_Store_taken : Addr} (d : DA K "taken" "Store.taken" s_Store_taken ["self"] f_Store_taken) {C_Store : Addr} (mg_Store : mg "Store" = some (.ref C_Store)) (cl_Store : SlX.SCls K C_Store) {q_Store_its_rows : Addr} (sl_Store_its_rows : SlX.Slot1 K C_Store "its_rows" q_Store_its_rows 0) (nb_sorted : mg "sorted" = none) : PFA P w K mg base f_Store_taken 1 ["self"] [.ow 0, .ow 0] 1 F_Store_taken :=
  have nd := sc_Store_taken.nd
  def_okA (k := 0) (Γ' := [.un, .un, .un, .un]) (g := g_Store_taken) d sc_Store_taken (fun f cdv A outer s H E hgd hr =>
    (s_one (s_ret (m_callB (c_sortedA (u80 hr)) (by rfl) nb_sorted bt_sorted (a_cons (m_weak (m_lc (own := [("number", 2), ("row", 3)]) rfl nd (i_items (m_drf2 1 (m_fld 1 mg_Store cl_Store sl_Store_its_rows (m_var 0)))) (blkOk_by (by kernel_rfl)) (fun _ _ _ _ _ => (t_tup 2 rfl (ts_cons (t_name 2 nd) (ts_cons (t_name 3 nd) ts_nil)))) (fun _ _ _ _ _ => (b_one (b_cmp o_gt (m_ixA (u66 hr) (m_var 3) m_int (fun _ _ => rfl)) m_int (by rfl)))) (fun _ _ _ _ _ => (m_var 2)))) a_nil))))) (.inr stops_ret)
abbrev s_Store_standing : Stmt := topM 2 13
theorem sc_Store_standing : FnScope ["self", "$", "rows", "number", "row"] ["self"] (defScope s_Store_standing) := ⟨rfl, rfl, rfl, by decide +kernel, rfl, by decide +kernel, by decide +kernel⟩
def g_Store_standing : Sx := (sq (asg 2 (eUn sortItemsD (eDrf2 1 (eFld 1 "Store" 0 (eVar 0)))))
  (retE (eNs tupD [(lcD [3, 4] (iSqA (eVar 2)) (gtTup 2 (gtCons (gtName 3) (gtCons (gtName 4) gtNil))) (asB (eBin neD (eVar 4) (eLstB (lCons (eC (.int 0)) (lStar (eC (.list [.int 0, .int 0])) lNil))))) (eTupB (lCons (eVar 3) (lStar (eVar 4) lNil))))])))
def F_Store_standing : List D → Option (D × List D) := runD [.ow 0, .ow 0] g_Store_standing 5
theorem ok_Store_standing {f_Store_standing : Addr} (d : DA K "standing" "Store.standing" s_Store_standing ["self"] f_Store_standing) {C_Store : Addr} (mg_Store : mg "Store" = some (.ref C_Store)) (cl_Store : SlX.SCls K C_Store) {q_Store_its_rows : Addr} (sl_Store_its_rows : SlX.Slot1 K C_Store "its_rows" q_Store_its_rows 0) (nb_sorted : mg "sorted" = none) (nb_tuple : mg "tuple" = none) {a_EMPTY : Addr} (c_EMPTY : mg "EMPTY" = some (.ref a_EMPTY)) (r_EMPTY : ∀ H, SqL K H a_EMPTY [.int 0, .int 0]) : PFA P w K mg base f_Store_standing 1 ["self"] [.ow 0, .ow 0] 0 F_Store_standing :=
  have nd := sc_Store_standing.nd
  def_okA (k := 0) (Γ' := [.un, .un, .un, .un, .un]) (g := g_Store_standing) d sc_Store_standing (fun f cdv A outer s H E hgd hr =>
    (s_cons (s_set 2 nd (m_weak (m_sortItems (u80 hr) rfl (by rfl) nb_sorted (m_drf2 1 (m_fld 1 mg_Store cl_Store sl_Store_its_rows (m_var 0))))))
    (s_one (s_ret (m_callTy c_tuple (by rfl) nb_tuple bt_tuple (a_cons (m_weak (m_lc (own := [("number", 3), ("row", 4)]) rfl nd (i_seqA (wk := false) (m_var 2)) (blkOk_by (by kernel_rfl)) (fun _ _ _ _ _ => (t_tup 2 rfl (ts_cons (t_name 3 nd) (ts_cons (t_name 4 nd) ts_nil)))) (fun _ _ _ _ _ => (b_one (b_cmp (op_neD (u66 hr)) (m_var 4) (m_weak (m_lstB (l_cons m_int (l_starG c_EMPTY r_EMPTY (fun _ => (.cons (.int _) (.cons (.int _) .nil))) (by rfl) l_nil)))) (by rfl)))) (fun _ _ _ _ _ => (m_tupB (l_cons (m_var 3) (l_star (m_var 4) l_nil)))))) a_nil)))))) (.inl rfl)
abbrev s__law_take : Stmt := topS 5
theorem sc__law_take : FnScope ["_law_bag_here", "_law_many", "_law_begin", "_law_second", "_law_cell", "_law_mixed", "_law_drawn"] ["_law_bag_here", "_law_many"] (defScope s__law_take) := ⟨rfl, rfl, rfl, by decide +kernel, rfl, by decide +kernel, by decide +kernel⟩
def g__law_take : Sx := (sq (sIf (bBor (asB (eBin eqD (eBin ixA (eVar 0) (eC (.int 0))) (eC (.int 0))))) (sq (asg 4 (eC (.int 0)))
  (sq (sIf (bBor (asB (eBin ltD (eBin ixA (eVar 0) (eC (.int 2))) (eNs lenD [(eBin ixA (eVar 0) (eC (.int 3)))])))) (asg 4 (eBor 0 (eBin ixA (eBin ixA (eVar 0) (eC (.int 3))) (eBin ixA (eVar 0) (eC (.int 2)))))) sNil)
  (sq (augIx 0 (· + ·) (eC (.int 2)) (eC (.int 1)))
  (sq (sIf (asB (eBin geD (eVar 4) (eBin powD (eC (.int 10)) (eC (.int 18))))) (asgG (eVar 4) (gtIx 0 (eC (.int 0)))) sNil)
  (sq (asg 5 (eBor 0 (eBin addD (eBin addD (eBin mulD (eBin ixA (eVar 0) (eC (.int 1))) (eC (.int 48271))) (eBin modD (eNs intD [(eVar 4)]) (eC (.int 2147483647)))) (eBin mulD (eC (.int 7919)) (eBin ixA (eVar 0) (eC (.int 2)))))))
  (asgG (eBin modD (eNs intD [(eVar 5)]) (eC (.int 2147483647))) (gtIx 0 (eC (.int 1))))))))) sNil)
  (sq (sIf (bBor (asB (eBin gtD (eBin ixA (eVar 0) (eC (.int 0))) (eC (.int 0))))) (sq (asg 6 (eBor 0 (eBin modD (eNs intD [(eBin ixA (eVar 0) (eC (.int 0)))]) (eVar 1))))
  (sq (asgG (eBor 0 (eBin fdivD (eBin ixA (eVar 0) (eC (.int 0))) (eVar 1))) (gtIx 0 (eC (.int 0))))
  (retE (eVar 6)))) sNil)
  (sq (asg 2 (eBor 0 (eBin modD (eNs intD [(eBin mulD (eBin addD (eBin ixA (eVar 0) (eC (.int 1))) (eC (.int 1))) (eC (.int 39373)))]) (eC (.int 1000000007)))))
  (sq (asg 3 (eBin modD (eNs intD [(eBin mulD (eBin modD (eNs intD [(eBin mulD (eVar 2) (eVar 2))]) (eC (.int 998244353))) (eC (.int 30011)))]) (eC (.int 998244353))))
  (retE (eBin modD (eNs intD [(eBin fdivD (eVar 3) (eC (.int 7)))]) (eVar 1)))))))
def F__law_take : List D → Option (D × List D) := runD [.io 1, .ow 0] g__law_take 7
theorem ok__law_take (d : DP K mg "_law_take" s__law_take ["_law_bag_here", "_law_many"]) (nb_len : mg "len" = none) (nb_int : mg "int" = none) : PF P w K mg base "_law_take" 1 ["_law_bag_here", "_law_many"] [.io 1, .ow 0] 0 F__law_take :=
  have nd := sc__law_take.nd
  def_okP (k := 0) (Γ' := [.io 1, .un, .un, .un, .un, .un, .un]) (g := g__law_take) d sc__law_take (fun f cdv A outer s H E hgd hr =>
    (s_cons (s_if (b_bor [.ow 0, .un, .un, .un, .un, .un, .un] (b_cmp (op_eqD (u66 hr)) (m_ixA (u66 hr) (m_var 0) m_int (fun _ _ => rfl)) m_int (by rfl))) (s_post (Δ := [.io 1, .ow 0, .un, .un, .un, .un, .un]) [.io 1, .ow 0, .un, .un, .ow 0, .ow 0, .un] (s_cons (s_set 4 nd m_int)
    (s_cons (s_if (b_bor [.ow 0, .un, .un, .un, .un, .un, .un] (b_cmp o_lt (m_ixA (u66 hr) (m_var 0) m_int (fun _ _ => rfl)) (m_callB c_len (by rfl) nb_len bt_len (a_cons (m_ixA (u66 hr) (m_var 0) m_int (fun _ _ => rfl)) a_nil)) (by rfl))) (s_one (s_set 4 nd (m_bor [.ow 0, .un, .un, .un, .un, .un, .un] (m_ixA (u66 hr) (m_ixA (u66 hr) (m_var 0) m_int (fun _ _ => rfl)) (m_ixA (u66 hr) (m_var 0) m_int (fun _ _ => rfl)) (fun _ _ => rfl))))) s_nil)
    (s_cons (s_aug 0 m_int m_int ip_add)
    (s_cons (s_if (b_cmp o_ge (m_var 4) (m_bin o_pow m_int m_int) (by rfl)) (s_one (s_asg (m_var 4) (t_ix 0 m_int))) s_nil)
    (s_cons (s_set 5 nd (m_bor [.ow 0, .un, .un, .un, .ow 0, .un, .un] (m_bin o_add (m_bin o_add (m_bin o_mul (m_ixA (u66 hr) (m_var 0) m_int (fun _ _ => rfl)) m_int) (m_bin o_mod (m_callTy c_int (by rfl) nb_int bt_int (a_cons (m_var 4) a_nil)) m_int)) (m_bin o_mul m_int (m_ixA (u66 hr) (m_var 0) m_int (fun _ _ => rfl))))))
    (s_one (s_asg (m_bin o_mod (m_callTy c_int (by rfl) nb_int bt_int (a_cons (m_var 5) a_nil)) m_int) (t_ix 0 m_int))))))))) s_nil)
    (s_cons (s_if (b_bor [.ow 0, .un, .un, .un, .un, .un, .un] (b_cmp o_gt (m_ixA (u66 hr) (m_var 0) m_int (fun _ _ => rfl)) m_int (by rfl))) (s_cons (s_set 6 nd (m_bor [.ow 0, .ow 0, .un, .un, .un, .un, .un] (m_bin o_mod (m_callTy c_int (by rfl) nb_int bt_int (a_cons (m_ixA (u66 hr) (m_var 0) m_int (fun _ _ => rfl)) a_nil)) (m_var 1))))
    (s_cons (s_asg (m_bor [.ow 0, .ow 0, .un, .un, .un, .un, .un] (m_bin o_fdiv (m_ixA (u66 hr) (m_var 0) m_int (fun _ _ => rfl)) (m_var 1))) (t_ix 0 m_int))
    (s_one (s_ret (m_var 6))))) s_nil)
    (s_cons (s_set 2 nd (m_bor [.ow 0, .un, .un, .un, .un, .un, .un] (m_bin o_mod (m_callTy c_int (by rfl) nb_int bt_int (a_cons (m_bin o_mul (m_bin o_add (m_ixA (u66 hr) (m_var 0) m_int (fun _ _ => rfl)) m_int) m_int) a_nil)) m_int)))
    (s_cons (s_set 3 nd (m_bin o_mod (m_callTy c_int (by rfl) nb_int bt_int (a_cons (m_bin o_mul (m_bin o_mod (m_callTy c_int (by rfl) nb_int bt_int (a_cons (m_bin o_mul (m_var 2) (m_var 2)) a_nil)) m_int) m_int) a_nil)) m_int))
    (s_one (s_ret (m_bin o_mod (m_callTy c_int (by rfl) nb_int bt_int (a_cons (m_bin o_fdiv (m_var 3) m_int) a_nil)) (m_var 1))))))))) (.inl rfl)
abbrev s__law_alike : Stmt := topS 7
theorem sc__law_alike : FnScope ["_law_found", "_law_due"] ["_law_found", "_law_due"] (defScope s__law_alike) := ⟨rfl, rfl, rfl, by decide +kernel, rfl, by decide +kernel, by decide +kernel⟩
def g__law_alike : Sx := (retE (eAnd (eBin eqD (eVar 0) (eVar 1)) (eBin eqD (eNs reprD [(eVar 0)]) (eNs reprD [(eVar 1)]))))
def F__law_alike : List D → Option (D × List D) := runD [.ow 0, .ow 0] g__law_alike 2
theorem ok__law_alike (d : DP K mg "_law_alike" s__law_alike ["_law_found", "_law_due"]) (nb_repr : mg "repr" = none) : PF P w K mg base "_law_alike" 1 ["_law_found", "_law_due"] [.ow 0, .ow 0] 0 F__law_alike :=
  have nd := sc__law_alike.nd
  def_okP (k := 0) (Γ' := [.un, .un]) (g := g__law_alike) d sc__law_alike (fun f cdv A outer s H E hgd hr =>
    (s_one (s_ret (m_and (m_cmp (op_eqD (u66 hr)) (m_var 0) (m_var 1) (by rfl)) (m_one (m_cmp (op_eqD (u66 hr)) (m_callB (call_reprD (u80 hr) hgd) (by rfl) nb_repr bt_repr (a_cons (m_var 0) a_nil)) (m_callB (call_reprD (u80 hr) hgd) (by rfl) nb_repr bt_repr (a_cons (m_var 1) a_nil)) (by rfl))))))) (.inl rfl)
abbrev s__law_row : Stmt := topS 8
theorem sc__law_row : FnScope ["_law_rows", "_law_number", "$"] ["_law_rows", "_law_number"] (defScope s__law_row) := ⟨rfl, rfl, rfl, by decide +kernel, rfl, by decide +kernel, by decide +kernel⟩
def g__law_row : Sx := (retE (eTri getD2 (eDrf 2 (eVar 0)) (eVar 1) (eLst [(eC (.int 0)), (eC (.int 0)), (eC (.int 0))])))
def F__law_row : List D → Option (D × List D) := runD [.ow 0, .ow 0, .ow 0] g__law_row 3
theorem ok__law_row (d : DP K mg "_law_row" s__law_row ["_law_rows", "_law_number"]) : PFS P w K mg base "_law_row" 1 ["_law_rows", "_law_number"] [.ow 0, .ow 0, .ow 0] 0 F__law_row :=
  have nd := sc__law_row.nd
  def_okPS (k := 0) (Γ' := [.un, .un, .un]) (g := g__law_row) d sc__law_row (fun f cdv A outer s H E hgd hr =>
    (s_one (s_ret (m_get2 (u66 hr) (m_drf 2 (m_var 0)) (m_var 1) (m_weak (m_lst (a_cons m_int (a_cons m_int (a_cons m_int a_nil))))) ⟨rfl, rfl, rfl, rfl⟩)))) (.inl rfl)
abbrev s__law_shown : Stmt := topS 11
theorem sc__law_shown : FnScope ["_law_rows", "$", "_law_number"] ["_law_rows"] (defScope s__law_shown) := ⟨rfl, rfl, rfl, by decide +kernel, rfl, by decide +kernel, by decide +kernel⟩
def g__law_shown : Sx := (retE (eNs sortedA [(lcD [2] (iSqA (eDrf 1 (eVar 0))) (gtName 2) (asB (eBin neD (eBin ixA (eDrf 1 (eVar 0)) (eVar 2)) (eLst [(eC (.int 0)), (eC (.int 0)), (eC (.int 0))]))) (eTup [(eVar 2), (eBin ixA (eDrf 1 (eVar 0)) (eVar 2))]))]))
def F__law_shown : List D → Option (D × List D) := runD [.ow 0, .ow 0] g__law_shown 3
theorem ok__law_shown (d : DP K mg "_law_shown" s__law_shown ["_law_rows"]) (nb_sorted : mg "sorted" = none) : PFS P w K mg base "_law_shown" 1 ["_law_rows"] [.ow 0, .ow 0] 1 F__law_shown :=
  have nd := sc__law_shown.nd
  def_okPS (k := 0) (Γ' := [.un, .un, .un]) (g := g__law_shown) d sc__law_shown (fun f cdv A outer s H E hgd hr =>
    (s_one (s_ret (m_callB (c_sortedA (u80 hr)) (by rfl) nb_sorted bt_sorted (a_cons (m_weak (m_lc (own := [("_law_number", 2)]) rfl nd (i_seqA (m_drf 1 (m_var 0))) (blkOk_by (by kernel_rfl)) (fun _ _ _ _ _ => (t_name 2 nd)) (fun _ _ _ _ _ => (b_one (b_cmp (op_neD (u66 hr)) (m_ixA (u66 hr) (m_drf 1 (m_var 0)) (m_var 2) (fun _ _ => rfl)) (m_weak (m_lst (a_cons m_int (a_cons m_int (a_cons m_int a_nil))))) (by rfl)))) (fun _ _ _ _ _ => (m_tup (a_cons (m_var 2) (a_cons (m_ixA (u66 hr) (m_drf 1 (m_var 0)) (m_var 2) (fun _ _ => rfl)) a_nil)))))) a_nil))))) (.inr stops_ret)
abbrev s_Store___eq__ : Stmt := topM 2 2
theorem sc_Store___eq__ : FnScope ["self", "other", "$"] ["self", "other"] (defScope s_Store___eq__) := ⟨rfl, rfl, rfl, by decide +kernel, rfl, by decide +kernel, by decide +kernel⟩
def g_Store___eq__ : Sx := (retE (eAnd (eIsI 2 "Store" (eVar 1)) (eBin eqD (eCall (stF F_Store_standing) [.v (eIns 2 "Store" (eVar 0)), .v (eVar 2)]) (eCall (stF F_Store_standing) [.v (eIns 2 "Store" (eVar 1)), .v (eVar 2)]))))
def F_Store___eq__ : List D → Option (D × List D) := runD [.ow 0, .ow 0, .ow 0] g_Store___eq__ 3
theorem ok_Store___eq__ {f_Store___eq__ : Addr} (d : DA K "__eq__" "Store.__eq__" s_Store___eq__ ["self", "other"] f_Store___eq__) {f_Store_standing : Addr} (h_Store_standing : PFA P w K mg base f_Store_standing 1 ["self"] [.ow 0, .ow 0] 0 F_Store_standing) {C_Store : Addr} (is_Store : PySem.W.isIn K (.ref C_Store) C_Store = true) (mg_Store : mg "Store" = some (.ref C_Store)) (cl_Store : SlX.SCls K C_Store) (me_Store_standing : Meth K C_Store "standing" f_Store_standing) (nb_isinstance : mg "isinstance" = none) : PFA P w K mg base f_Store___eq__ 2 ["self", "other"] [.ow 0, .ow 0, .ow 0] 0 F_Store___eq__ :=
  have nd := sc_Store___eq__.nd
  def_okA (k := 1) (Γ' := [.un, .un, .un]) (g := g_Store___eq__) d sc_Store___eq__ (fun f cdv A outer s H E hgd hr =>
    (s_one (s_ret (m_and (m_isiI 2 (.v (eVar 2)) (.inr ⟨rfl, rfl⟩) is_Store mg_Store (by rfl) nb_isinstance (by rfl) (m_var 1)) (m_one (m_cmp (op_eqD (u66 hr)) (m_methS0 2 (.v (eVar 2)) h_Store_standing (.inr ⟨rfl, rfl⟩) cl_Store me_Store_standing mg_Store hgd hr (by decide) (m_var 0)) (m_methS0 2 (.v (eVar 2)) h_Store_standing (.inr ⟨rfl, rfl⟩) cl_Store me_Store_standing mg_Store hgd hr (by decide) (m_var 1)) (by rfl))))))) (.inl rfl)
abbrev s_Store_take : Stmt := topM 2 4
theorem sc_Store_take : FnScope ["self", "$", "number"] ["self"] (defScope s_Store_take) := ⟨rfl, rfl, rfl, by decide +kernel, rfl, by decide +kernel, by decide +kernel⟩
def g_Store_take : Sx := (sq (asg 2 (eC (.int 0)))
  (sq (fun env => whileF (bLend 1 (asB (eBin gtD (eCall (stF F_Store_count_of) (.v (eIns 1 "Store" (eVar 0)) :: ([.v (eVar 2)] ++ [.v (eVar 1)]))) (eC (.int 0))))) (augN 2 yes2 (· + ·) (eC (.int 1))) 1000000 env)
  (sq (asgG (eC (.int 1)) (gtSix 1 (eCall (stF F_Store_row) (.v (eIns 1 "Store" (eVar 0)) :: ([.v (eVar 2)] ++ [.io 1]))) (eC (.int 0))))
  (retE (eVar 2)))))
def F_Store_take : List D → Option (D × List D) := runD [.ow 0, .io 200] g_Store_take 3
theorem ok_Store_take {f_Store_take : Addr} (d : DA K "take" "Store.take" s_Store_take ["self"] f_Store_take) {f_Store_count_of : Addr} (h_Store_count_of : PFA P w K mg base f_Store_count_of 1 ["self", "number"] [.ow 0, .ow 0, .ow 0] 0 F_Store_count_of) {f_Store_row : Addr} (h_Store_row : PFA P w K mg base f_Store_row 1 ["self", "number"] [.ow 0, .ow 0, .io 200] 0 F_Store_row) {C_Store : Addr} (cl_Store : SlX.SCls K C_Store) (me_Store_count_of : Meth K C_Store "count_of" f_Store_count_of) (mg_Store : mg "Store" = some (.ref C_Store)) (me_Store_row : Meth K C_Store "row" f_Store_row) : PFA P w K mg base f_Store_take 2 ["self"] [.ow 0, .io 200] 0 F_Store_take :=
  have nd := sc_Store_take.nd
  def_okA (k := 1) (Γ' := [.un, .io 200, .un]) (g := g_Store_take) d sc_Store_take (fun f cdv A outer s H E hgd hr =>
    (s_cons (s_set 2 nd m_int)
    (s_cons (s_while (fun _ => 1000000) (b_lend 1 [.ow 0, .ow 0, .ow 0] (b_cmp o_gt (m_methS 1 (.v (eVar 1)) h_Store_count_of (.inr ⟨rfl, rfl⟩) cl_Store me_Store_count_of mg_Store hgd hr (by decide) (m_var 0) (g_v (m_var 2) g_nil)) m_int (by rfl))) (s_one (s_augN 2 nd m_int ip_addC)) PassesOwn.never)
    (s_cons (s_asg m_int (t_six 1 (u66 hr) (m_methS 1 (.io 1) h_Store_row (.inl ⟨rfl, rfl⟩) cl_Store me_Store_row mg_Store hgd hr (by decide) (m_var 0) (g_v (m_var 2) g_nil)) m_int))
    (s_one (s_ret (m_var 2))))))) (.inl rfl)
abbrev s_Store_change : Stmt := topM 2 7
theorem sc_Store_change : FnScope ["self", "number", "cell", "value", "$"] ["self", "number", "cell", "value"] (defScope s_Store_change) := ⟨rfl, rfl, rfl, by decide +kernel, rfl, by decide +kernel, by decide +kernel⟩
def g_Store_change : Sx := (asgG (eVar 3) (gtSix 4 (eCall (stF F_Store_row) (.v (eIns 4 "Store" (eVar 0)) :: ([.v (eVar 1)] ++ [.io 4]))) (eBin addD (eC (.int 1)) (eVar 2))))
def F_Store_change : List D → Option (D × List D) := runD [.ow 0, .ow 0, .ow 0, .ow 0, .io 200] g_Store_change 5
theorem ok_Store_change {f_Store_change : Addr} (d : DA K "change" "Store.change" s_Store_change ["self", "number", "cell", "value"] f_Store_change) {f_Store_row : Addr} (h_Store_row : PFA P w K mg base f_Store_row 1 ["self", "number"] [.ow 0, .ow 0, .io 200] 0 F_Store_row) {C_Store : Addr} (cl_Store : SlX.SCls K C_Store) (me_Store_row : Meth K C_Store "row" f_Store_row) (mg_Store : mg "Store" = some (.ref C_Store)) : PFA P w K mg base f_Store_change 2 ["self", "number", "cell", "value"] [.ow 0, .ow 0, .ow 0, .ow 0, .io 200] 0 F_Store_change :=
  have nd := sc_Store_change.nd
  def_okA (k := 1) (Γ' := [.ow 0, .ow 0, .ow 0, .ow 0, .io 200]) (g := g_Store_change) d sc_Store_change (fun f cdv A outer s H E hgd hr =>
    (s_one (s_asg (m_var 3) (t_six 4 (u66 hr) (m_methS 4 (.io 4) h_Store_row (.inl ⟨rfl, rfl⟩) cl_Store me_Store_row mg_Store hgd hr (by decide) (m_var 0) (g_v (m_var 1) g_nil)) (m_bin o_add m_int (m_var 2)))))) (.inl rfl)
abbrev s_Store_fill : Stmt := topM 2 8
theorem sc_Store_fill : FnScope ["self", "number", "values", "$", "row"] ["self", "number", "values"] (defScope s_Store_fill) := ⟨rfl, rfl, rfl, by decide +kernel, rfl, by decide +kernel, by decide +kernel⟩
def g_Store_fill : Sx := (sq (asg 4 (eCall (stF F_Store_row) (.v (eIns 3 "Store" (eVar 0)) :: ([.v (eVar 1)] ++ [.io 3]))))
  (asgG (eLend 3 0 (eTup [(eBin ixA (eDrf 3 (eVar 2)) (eC (.int 0))), (eBin ixA (eDrf 3 (eVar 2)) (eC (.int 1)))])) (gtTup 2 (gtCons (gtSix 3 (eVar 4) (eC (.int 1))) (gtCons (gtSix 3 (eVar 4) (eC (.int 2))) gtNil)))))
def F_Store_fill : List D → Option (D × List D) := runD [.ow 0, .ow 0, .ow 0, .io 200] g_Store_fill 5
theorem ok_Store_fill {f_Store_fill : Addr} (d : DA K "fill" "Store.fill" s_Store_fill ["self", "number", "values"] f_Store_fill) {f_Store_row : Addr} (h_Store_row : PFA P w K mg base f_Store_row 1 ["self", "number"] [.ow 0, .ow 0, .io 200] 0 F_Store_row) {C_Store : Addr} (cl_Store : SlX.SCls K C_Store) (me_Store_row : Meth K C_Store "row" f_Store_row) (mg_Store : mg "Store" = some (.ref C_Store)) : PFA P w K mg base f_Store_fill 2 ["self", "number", "values"] [.ow 0, .ow 0, .ow 0, .io 200] 0 F_Store_fill :=
  have nd := sc_Store_fill.nd
  def_okA (k := 1) (Γ' := [.ow 0, .ow 0, .ow 0, .io 200, .ow 0]) (g := g_Store_fill) d sc_Store_fill (fun f cdv A outer s H E hgd hr =>
    (s_cons (s_set 4 nd (m_methS 3 (.io 3) h_Store_row (.inl ⟨rfl, rfl⟩) cl_Store me_Store_row mg_Store hgd hr (by decide) (m_var 0) (g_v (m_var 1) g_nil)))
    (s_one (s_asg (m_lend 3 [.un, .un, .ow 0, .ow 0, .un] (m_tup (a_cons (m_ixA (u66 hr) (m_drf 3 (m_var 2)) m_int (fun _ _ => rfl)) (a_cons (m_ixA (u66 hr) (m_drf 3 (m_var 2)) m_int (fun _ _ => rfl)) a_nil)))) (t_tup 2 rfl (ts_cons (t_six 3 (u66 hr) (m_var 4) m_int) (ts_cons (t_six 3 (u66 hr) (m_var 4) m_int) ts_nil))))))) (.inl rfl)
abbrev s_Store_raise_one : Stmt := topM 2 9
theorem sc_Store_raise_one : FnScope ["self", "number", "$"] ["self", "number"] (defScope s_Store_raise_one) := ⟨rfl, rfl, rfl, by decide +kernel, rfl, by decide +kernel, by decide +kernel⟩
def g_Store_raise_one : Sx := (augSix 2 (· + ·) (eCall (stF F_Store_row) (.v (eIns 2 "Store" (eVar 0)) :: ([.v (eVar 1)] ++ [.io 2]))) (eC (.int 0)) (eC (.int 1)))
def F_Store_raise_one : List D → Option (D × List D) := runD [.ow 0, .ow 0, .io 200] g_Store_raise_one 3
theorem ok_Store_raise_one {f_Store_raise_one : Addr} (d : DA K "raise_one" "Store.raise_one" s_Store_raise_one ["self", "number"] f_Store_raise_one) {f_Store_row : Addr} (h_Store_row : PFA P w K mg base f_Store_row 1 ["self", "number"] [.ow 0, .ow 0, .io 200] 0 F_Store_row) {C_Store : Addr} (cl_Store : SlX.SCls K C_Store) (me_Store_row : Meth K C_Store "row" f_Store_row) (mg_Store : mg "Store" = some (.ref C_Store)) : PFA P w K mg base f_Store_raise_one 2 ["self", "number"] [.ow 0, .ow 0, .io 200] 0 F_Store_raise_one :=
  have nd := sc_Store_raise_one.nd
  def_okA (k := 1) (Γ' := [.ow 0, .ow 0, .io 200]) (g := g_Store_raise_one) d sc_Store_raise_one (fun f cdv A outer s H E hgd hr =>
    (s_one (s_augSix 2 (m_methS 2 (.io 2) h_Store_row (.inl ⟨rfl, rfl⟩) cl_Store me_Store_row mg_Store hgd hr (by decide) (m_var 0) (g_v (m_var 1) g_nil)) m_int m_int ip_add))) (.inl rfl)
abbrev s_Store_lower_one : Stmt := topM 2 10
theorem sc_Store_lower_one : FnScope ["self", "number", "$", "row"] ["self", "number"] (defScope s_Store_lower_one) := ⟨rfl, rfl, rfl, by decide +kernel, rfl, by decide +kernel, by decide +kernel⟩
def g_Store_lower_one : Sx := (sq (asg 3 (eCall (stF F_Store_row) (.v (eIns 2 "Store" (eVar 0)) :: ([.v (eVar 1)] ++ [.io 2]))))
  (asgG (eLend 2 0 (eNs maxB [(eC (.int 0)), (eBin subD (eBin ixA (eDrf 2 (eVar 3)) (eC (.int 0))) (eC (.int 1)))])) (gtSix 2 (eVar 3) (eC (.int 0)))))
def F_Store_lower_one : List D → Option (D × List D) := runD [.ow 0, .ow 0, .io 200] g_Store_lower_one 4
theorem ok_Store_lower_one {f_Store_lower_one : Addr} (d : DA K "lower_one" "Store.lower_one" s_Store_lower_one ["self", "number"] f_Store_lower_one) {f_Store_row : Addr} (h_Store_row : PFA P w K mg base f_Store_row 1 ["self", "number"] [.ow 0, .ow 0, .io 200] 0 F_Store_row) {C_Store : Addr} (cl_Store : SlX.SCls K C_Store) (me_Store_row : Meth K C_Store "row" f_Store_row) (mg_Store : mg "Store" = some (.ref C_Store)) (nb_max : mg "max" = none) : PFA P w K mg base f_Store_lower_one 2 ["self", "number"] [.ow 0, .ow 0, .io 200] 0 F_Store_lower_one :=
  have nd := sc_Store_lower_one.nd
  def_okA (k := 1) (Γ' := [.ow 0, .ow 0, .io 200, .ow 0]) (g := g_Store_lower_one) d sc_Store_lower_one (fun f cdv A outer s H E hgd hr =>
    (s_cons (s_set 3 nd (m_methS 2 (.io 2) h_Store_row (.inl ⟨rfl, rfl⟩) cl_Store me_Store_row mg_Store hgd hr (by decide) (m_var 0) (g_v (m_var 1) g_nil)))
    (s_one (s_asg (m_lend 2 [.un, .un, .ow 0, .ow 0] (m_callB (c_maxB rfl) (by rfl) nb_max bt_max (a_cons m_int (a_cons (m_bin o_sub (m_ixA (u66 hr) (m_drf 2 (m_var 3)) m_int (fun _ _ => rfl)) m_int) a_nil)))) (t_six 2 (u66 hr) (m_var 3) m_int))))) (.inl rfl)
abbrev s__law_one : Stmt := topS 6
theorem sc__law_one : FnScope ["_law_bag_here", "_law_things"] ["_law_bag_here", "_law_things"] (defScope s__law_one) := ⟨rfl, rfl, rfl, by decide +kernel, rfl, by decide +kernel, by decide +kernel⟩
def g__law_one : Sx := (retE (eBin ixA (eVar 1) (eCall F__law_take [.io 0, .v (eNs lenD [(eVar 1)])])))
def F__law_one : List D → Option (D × List D) := runD [.io 1, .ow 0] g__law_one 2
theorem ok__law_one (d : DP K mg "_law_one" s__law_one ["_law_bag_here", "_law_things"]) (h__law_take : PF P w K mg base "_law_take" 1 ["_law_bag_here", "_law_many"] [.io 1, .ow 0] 0 F__law_take) (nb_len : mg "len" = none) : PF P w K mg base "_law_one" 2 ["_law_bag_here", "_law_things"] [.io 1, .ow 0] 0 F__law_one :=
  have nd := sc__law_one.nd
  def_okP (k := 1) (Γ' := [.io 1, .un]) (g := g__law_one) d sc__law_one (fun f cdv A outer s H E hgd hr =>
    (s_one (s_ret (m_ixA (u66 hr) (m_var 1) (m_callP h__law_take hgd hr (by decide) (by rfl) (g_io 0 (g_v (m_callB c_len (by rfl) nb_len bt_len (a_cons (m_var 1) a_nil)) g_nil))) (fun _ _ => rfl))))) (.inl rfl)
abbrev s__law_looks_right : Stmt := topS 10
theorem sc__law_looks_right : FnScope ["_law_store", "_law_rows", "$", "_law_number", "_law_heard", "_law_row_here"] ["_law_store", "_law_rows"] (defScope s__law_looks_right) := ⟨rfl, rfl, rfl, by decide +kernel, rfl, by decide +kernel, by decide +kernel⟩
def g__law_looks_right : Sx := (sq (forD (iSqA (eTup [(eC (.int 0)), (eC (.int 1)), (eC (.int 2)), (eC (.int 3)), (eC (.int 7)), (eC (.int 40)), (eC (.int 41)), (eC (.int 1000))])) (gtName 3) (sq (asg2 5 4 (eCall (stF F__law_row) ([.v (eVar 1), .v (eVar 3)] ++ [.v (eVar 2)])) (eCall (stF F_Store_values_of) (.v (eIns 2 "Store" (eVar 0)) :: ([.v (eVar 3)] ++ [.v (eVar 2)]))))
  (sq (sIf (bBor (bNot (asB (eCall F__law_alike [.v (eLst [(eCall (stF F_Store_count_of) (.v (eIns 2 "Store" (eVar 0)) :: ([.v (eVar 3)] ++ [.v (eVar 2)]))), (eVar 4)]), .v (eLst [(eBin ixA (eVar 5) (eC (.int 0))), (eSl slcD (eVar 5) (pIs (eC (.int 1))) pNo)])])))) (retE (eC (.bool false))) sNil)
  (sExp (eMut 4 uAppend [(eC .none)])))))
  (sq (asg 4 (eCall (stF F_Store_taken) [.v (eIns 2 "Store" (eVar 0)), .v (eVar 2)]))
  (sq (sIf (bBor (bNot (asB (eCall F__law_alike [.v (eVar 4), .v (eNs sortedA [(lcD [3] (iSqA (eDrf 2 (eVar 1))) (gtName 3) (asB (eBin gtD (eBin ixA (eBin ixA (eDrf 2 (eVar 1)) (eVar 3)) (eC (.int 0))) (eC (.int 0)))) (eVar 3))])])))) (retE (eC (.bool false))) sNil)
  (sq (sExp (eMut 4 uAppend [(eC .none)]))
  (retE (eC (.bool true)))))))
def F__law_looks_right : List D → Option (D × List D) := runD [.ow 0, .ow 0, .ow 0] g__law_looks_right 6
theorem ok__law_looks_right (d : DP K mg "_law_looks_right" s__law_looks_right ["_law_store", "_law_rows"]) (h__law_row : PFS P w K mg base "_law_row" 1 ["_law_rows", "_law_number"] [.ow 0, .ow 0, .ow 0] 0 F__law_row) {f_Store_values_of : Addr} (h_Store_values_of : PFA P w K mg base f_Store_values_of 1 ["self", "number"] [.ow 0, .ow 0, .ow 0] 1 F_Store_values_of) {f_Store_count_of : Addr} (h_Store_count_of : PFA P w K mg base f_Store_count_of 1 ["self", "number"] [.ow 0, .ow 0, .ow 0] 0 F_Store_count_of) (h__law_alike : PF P w K mg base "_law_alike" 1 ["_law_found", "_law_due"] [.ow 0, .ow 0] 0 F__law_alike) {f_Store_taken : Addr} (h_Store_taken : PFA P w K mg base f_Store_taken 1 ["self"] [.ow 0, .ow 0] 1 F_Store_taken) {C_Store : Addr} (cl_Store : SlX.SCls K C_Store) (me_Store_values_of : Meth K C_Store "values_of" f_Store_values_of) (mg_Store : mg "Store" = some (.ref C_Store)) (me_Store_count_of : Meth K C_Store "count_of" f_Store_count_of) (me_Store_taken : Meth K C_Store "taken" f_Store_taken) (nb_sorted : mg "sorted" = none) : PFS P w K mg base "_law_looks_right" 2 ["_law_store", "_law_rows"] [.ow 0, .ow 0, .ow 0] 0 F__law_looks_right :=
  have nd := sc__law_looks_right.nd
  def_okPS (k := 1) (Γ' := [.un, .un, .un, .un, .un, .un]) (g := g__law_looks_right) d sc__law_looks_right (fun f cdv A outer s H E hgd hr =>
    (s_cons (s_for rfl (i_seqA (m_tup (a_cons m_int (a_cons m_int (a_cons m_int (a_cons m_int (a_cons m_int (a_cons m_int (a_cons m_int (a_cons m_int a_nil)))))))))) (t_name 3 nd) (s_post (Δ := [.ow 0, .ow 0, .ow 0, .un, .un, .un]) [.ow 0, .ow 0, .ow 0, .ow 0, .ow 1, .ow 0] (s_cons (s_par 5 4 rfl nd (m_callS 2 (.v (eVar 2)) h__law_row (.inr ⟨rfl, rfl⟩) hgd hr (by decide) (by rfl) (g_v (m_var 1) (g_v (m_var 3) g_nil))) (m_methS 2 (.v (eVar 2)) h_Store_values_of (.inr ⟨rfl, rfl⟩) cl_Store me_Store_values_of mg_Store hgd hr (by decide) (m_var 0) (g_v (m_var 3) g_nil)))
    (s_cons (s_if (b_bor [.ow 0, .un, .ow 0, .ow 0, .ow 0, .ow 0] (b_not (b_val (m_callP h__law_alike hgd hr (by decide) (by rfl) (g_v (m_weak (m_lst (a_cons (m_methS 2 (.v (eVar 2)) h_Store_count_of (.inr ⟨rfl, rfl⟩) cl_Store me_Store_count_of mg_Store hgd hr (by decide) (m_var 0) (g_v (m_var 3) g_nil)) (a_cons (m_var 4) a_nil)))) (g_v (m_weak (m_lst (a_cons (m_ixA (u66 hr) (m_var 5) m_int (fun _ _ => rfl)) (a_cons (m_sl sl_D (m_var 5) (o_some m_int) o_none) a_nil)))) g_nil)))))) (s_one (p_pre [.ow 0, .ow 0, .ow 0, .ow 0, .ow 0, .ow 0] (s_ret m_bl))) s_nil)
    (s_one (s_exp (m_mut 4 PySem.F.slot_list_append PySem.F.type_list_append mt_append mu_append (a_cons m_non a_nil))))))) PassesOwn.never)
    (s_cons (s_set 4 nd (m_methS0 2 (.v (eVar 2)) h_Store_taken (.inr ⟨rfl, rfl⟩) cl_Store me_Store_taken mg_Store hgd hr (by decide) (m_var 0)))
    (s_cons (s_if (b_bor [.un, .ow 0, .ow 0, .un, .ow 0, .un] (b_not (b_val (m_callP h__law_alike hgd hr (by decide) (by rfl) (g_v (m_var 4) (g_v (m_weak (m_callB (c_sortedA (u80 hr)) (by rfl) nb_sorted bt_sorted (a_cons (m_weak (m_lc (own := [("_law_number", 3)]) rfl nd (i_seqA (m_drf 2 (m_var 1))) (blkOk_by (by kernel_rfl)) (fun _ _ _ _ _ => (t_name 3 nd)) (fun _ _ _ _ _ => (b_one (b_cmp o_gt (m_ixA (u66 hr) (m_ixA (u66 hr) (m_drf 2 (m_var 1)) (m_var 3) (fun _ _ => rfl)) m_int (fun _ _ => rfl)) m_int (by rfl)))) (fun _ _ _ _ _ => (m_var 3)))) a_nil))) g_nil)))))) (s_one (p_pre [.ow 0, .ow 0, .ow 0, .un, .ow 0, .un] (s_ret m_bl))) s_nil)
    (s_cons (s_exp (m_mut 4 PySem.F.slot_list_append PySem.F.type_list_append mt_append mu_append (a_cons m_non a_nil)))
    (s_one (p_pre [.ow 0, .ow 0, .ow 0, .un, .ow 0, .un] (s_ret m_bl)))))))) (.inl rfl)
abbrev s_Store_copied : Stmt := topM 2 12
theorem sc_Store_copied : FnScope ["self", "$", "found", "number", "row"] ["self"] (defScope s_Store_copied) := ⟨rfl, rfl, rfl, by decide +kernel, rfl, by decide +kernel, by decide +kernel⟩
def g_Store_copied : Sx := (sq (asg 2 (eNew "Store" (stF F_Store___init__) [] 1))
  (sq (asgG (eCopyD 1 (dcDN [3, 4] (iItm (eDrf2 1 (eFld 1 "Store" 0 (eVar 0)))) (gtTup 2 (gtCons (gtName 3) (gtCons (gtName 4) gtNil))) (eVar 3) (eNs listD [(eVar 4)]))) (gtFld 1 "Store" 0 (eVar 2)))
  (retE (eVar 2))))
def F_Store_copied : List D → Option (D × List D) := runD [.ow 0, .io 200] g_Store_copied 5
theorem ok_Store_copied {f_Store_copied : Addr} (d : DA K "copied" "Store.copied" s_Store_copied ["self"] f_Store_copied) {f_Store___init__ : Addr} (h_Store___init__ : PFA P w K mg base f_Store___init__ 1 ["self"] [.ow 0, .io 200] 0 F_Store___init__) {C_Store : Addr} (mk_Store : Mk K C_Store f_Store___init__) (mg_Store : mg "Store" = some (.ref C_Store)) (cl_Store : SlX.SCls K C_Store) {q_Store_its_rows : Addr} (sl_Store_its_rows : SlX.Slot1 K C_Store "its_rows" q_Store_its_rows 0) (nb_list : mg "list" = none) : PFA P w K mg base f_Store_copied 3 ["self"] [.ow 0, .io 200] 0 F_Store_copied :=
  have nd := sc_Store_copied.nd
  def_okA (k := 2) (Γ' := [.un, .io 200, .un, .un, .un]) (g := g_Store_copied) d sc_Store_copied (fun f cdv A outer s H E hgd hr =>
    (s_cons (s_set 2 nd (m_new0 1 h_Store___init__ mk_Store mg_Store hgd hr (by decide) (by rfl)))
    (s_cons (s_asg (m_copyD 1 [.ow 0, .ow 0, .un, .un, .un] (m_dcN (own := [("number", 3), ("row", 4)]) rfl nd (i_items (m_drf2 1 (m_fld 1 mg_Store cl_Store sl_Store_its_rows (m_var 0)))) (blkOk_by (by kernel_rfl)) (fun _ _ _ _ _ => (t_tup 2 rfl (ts_cons (t_name 3 nd) (ts_cons (t_name 4 nd) ts_nil)))) (fun _ _ _ _ _ => pts_yes) (fun _ _ _ _ _ => (m_var 3)) (fun _ _ _ _ _ => (m_callTy c_list (by rfl) nb_list bt_list (a_cons (m_var 4) a_nil))))) (t_fld 1 mg_Store cl_Store sl_Store_its_rows (m_var 2)))
    (s_one (s_ret (m_var 2)))))) (.inl rfl)
abbrev s__law_done : Stmt := topS 9
theorem sc__law_done : FnScope ["_law_bag_here", "_law_store", "_law_rows", "$", "_law_number", "_law_way_here", "_law_value", "_law_row_here", "_law_least", "_law_heard", "_law_cell", "_law_given"] ["_law_bag_here", "_law_store", "_law_rows"] (defScope s__law_done) := ⟨rfl, rfl, rfl, by decide +kernel, rfl, by decide +kernel, by decide +kernel⟩
def g__law_done : Sx := (sq (asg3 4 5 6 (eCall F__law_one [.io 0, .v (eLst [(eC (.int 0)), (eC (.int 0)), (eC (.int 1)), (eC (.int 1)), (eC (.int 2)), (eC (.int 3)), (eC (.int 7)), (eC (.int 40))])]) (eCall F__law_take [.io 0, .v (eC (.int 7))]) (eCall F__law_take [.io 0, .v (eC (.int 9))]))
  (sq (sIf (asB (eBin ltD (eVar 5) (eC (.int 2)))) (sq (asg 8 (eC (.int 0)))
  (sq (fun env => whileF (bLend 3 (asB (eBin gtD (eBin ixA (eCall (stF F__law_row) ([.v (eVar 2), .v (eVar 8)] ++ [.v (eVar 3)])) (eC (.int 0))) (eC (.int 0))))) (augN 8 yes2 (· + ·) (eC (.int 1))) 1000000 env)
  (sq (asgG (eLend 3 1 (eBin catL (eLst [(eC (.int 1))]) (eSl slcD (eCall (stF F__law_row) ([.v (eVar 2), .v (eVar 8)] ++ [.v (eVar 3)])) (pIs (eC (.int 1))) pNo))) (gtSix 3 (eVar 2) (eVar 8)))
  (retE (eCall F__law_alike [.v (eCall (stF F_Store_take) [.v (eIns 3 "Store" (eVar 1)), .io 3]), .v (eVar 8)]))))) sNil)
  (sq (asg 7 (eLend 3 1 (eNs listD [(eCall (stF F__law_row) ([.v (eVar 2), .v (eVar 4)] ++ [.v (eVar 3)]))])))
  (sq (sIf (asB (eBin eqD (eVar 5) (eC (.int 2)))) (sq (augIx 7 (· + ·) (eC (.int 0)) (eC (.int 1)))
  (asg 9 (eCall (stF F_Store_raise_one) (.v (eIns 3 "Store" (eVar 1)) :: ([.v (eVar 4)] ++ [.io 3]))))) (sIf (asB (eBin inA (eVar 5) (eTup [(eC (.int 3)), (eC (.int 4))]))) (sq (asgG (eBor 0 (eNs maxB [(eC (.int 0)), (eBin subD (eBin ixA (eVar 7) (eC (.int 0))) (eC (.int 1)))])) (gtIx 7 (eC (.int 0))))
  (asg 9 (eCall (stF F_Store_lower_one) (.v (eIns 3 "Store" (eVar 1)) :: ([.v (eVar 4)] ++ [.io 3]))))) (sIf (asB (eBin eqD (eVar 5) (eC (.int 5)))) (sq (asg 10 (eCall F__law_take [.io 0, .v (eC (.int 2))]))
  (sq (asgG (eVar 6) (gtIx 7 (eBin addD (eC (.int 1)) (eVar 10))))
  (asg 9 (eCall (stF F_Store_change) (.v (eIns 3 "Store" (eVar 1)) :: ([.v (eVar 4), .v (eVar 10), .v (eVar 6)] ++ [.io 3])))))) (sq (asg2 7 11 (eBin catL (eSl slcD (eVar 7) pNo (pIs (eC (.int 1)))) (eLst [(eVar 6), (eVar 4)])) (eTrkL 3 (eLst [(eVar 6), (eVar 4)])))
  (sq (asg 9 (eCall (stF F_Store_fill) (.v (eIns 3 "Store" (eVar 1)) :: ([.v (eVar 4), .v (eVar 11)] ++ [.io 3]))))
  (sq (sIf (bLend 3 (asB (eBin neD (eDrf 3 (eVar 11)) (eLst [(eVar 6), (eVar 4)])))) (retE (eC (.bool false))) sNil)
  (sq (asgG (eC (.int 77)) (gtSix 3 (eVar 11) (eC (.int 0))))
  (sExp (eMutS 3 uAppend (eVar 11) [(eC .none)])))))))))
  (sq (asgG (eVar 7) (gtSix 3 (eVar 2) (eVar 4)))
  (retE (eBin isND (eVar 9) (eC .none))))))))
def F__law_done : List D → Option (D × List D) := runD [.io 1, .ow 0, .ow 0, .io 200] g__law_done 12
theorem ok__law_done (d : DP K mg "_law_done" s__law_done ["_law_bag_here", "_law_store", "_law_rows"]) (h__law_one : PF P w K mg base "_law_one" 2 ["_law_bag_here", "_law_things"] [.io 1, .ow 0] 0 F__law_one) (h__law_take : PF P w K mg base "_law_take" 1 ["_law_bag_here", "_law_many"] [.io 1, .ow 0] 0 F__law_take) (h__law_row : PFS P w K mg base "_law_row" 1 ["_law_rows", "_law_number"] [.ow 0, .ow 0, .ow 0] 0 F__law_row) {f_Store_take : Addr} (h_Store_take : PFA P w K mg base f_Store_take 2 ["self"] [.ow 0, .io 200] 0 F_Store_take) (h__law_alike : PF P w K mg base "_law_alike" 1 ["_law_found", "_law_due"] [.ow 0, .ow 0] 0 F__law_alike) {f_Store_raise_one : Addr} (h_Store_raise_one : PFA P w K mg base f_Store_raise_one 2 ["self", "number"] [.ow 0, .ow 0, .io 200] 0 F_Store_raise_one) {f_Store_lower_one : Addr} (h_Store_lower_one : PFA P w K mg base f_Store_lower_one 2 ["self", "number"] [.ow 0, .ow 0, .io 200] 0 F_Store_lower_one) {f_Store_change : Addr} (h_Store_change : PFA P w K mg base f_Store_change 2 ["self", "number", "cell", "value"] [.ow 0, .ow 0, .ow 0, .ow 0, .io 200] 0 F_Store_change) {f_Store_fill : Addr} (h_Store_fill : PFA P w K mg base f_Store_fill 2 ["self", "number", "values"] [.ow 0, .ow 0, .ow 0, .io 200] 0 F_Store_fill) {C_Store : Addr} (cl_Store : SlX.SCls K C_Store) (me_Store_take : Meth K C_Store "take" f_Store_take) (mg_Store : mg "Store" = some (.ref C_Store)) (me_Store_raise_one : Meth K C_Store "raise_one" f_Store_raise_one) (me_Store_lower_one : Meth K C_Store "lower_one" f_Store_lower_one) (me_Store_change : Meth K C_Store "change" f_Store_change) (me_Store_fill : Meth K C_Store "fill" f_Store_fill) (nb_list : mg "list" = none) (nb_max : mg "max" = none) : PFS P w K mg base "_law_done" 3 ["_law_bag_here", "_law_store", "_law_rows"] [.io 1, .ow 0, .ow 0, .io 200] 0 F__law_done :=
  have nd := sc__law_done.nd
  def_okPS (k := 2) (Γ' := [.io 1, .un, .un, .io 200, .un, .un, .un, .un, .un, .un, .un, .un]) (g := g__law_done) d sc__law_done (fun f cdv A outer s H E hgd hr =>
    (s_cons (s_par3 4 5 6 rfl nd (m_callP h__law_one hgd hr (by decide) (by rfl) (g_io 0 (g_v (m_weak (m_lst (a_cons m_int (a_cons m_int (a_cons m_int (a_cons m_int (a_cons m_int (a_cons m_int (a_cons m_int (a_cons m_int a_nil)))))))))) g_nil))) (m_callP h__law_take hgd hr (by decide) (by rfl) (g_io 0 (g_v m_int g_nil))) (m_callP h__law_take hgd hr (by decide) (by rfl) (g_io 0 (g_v m_int g_nil))))
    (s_cons (s_if (b_cmp o_lt (m_var 5) m_int (by rfl)) (s_cons (s_set 8 nd m_int)
    (s_cons (s_while (fun _ => 1000000) (b_lend 3 [.un, .un, .ow 0, .ow 0, .un, .un, .un, .un, .ow 0, .un, .un, .un] (b_cmp o_gt (m_ixA (u66 hr) (m_callS 3 (.v (eVar 3)) h__law_row (.inr ⟨rfl, rfl⟩) hgd hr (by decide) (by rfl) (g_v (m_var 2) (g_v (m_var 8) g_nil))) m_int (fun _ _ => rfl)) m_int (by rfl))) (s_one (s_augN 8 nd m_int ip_addC)) PassesOwn.never)
    (s_cons (s_asg (m_weak (m_lend 3 [.un, .un, .ow 0, .ow 0, .un, .un, .un, .un, .ow 0, .un, .un, .un] (m_bin o_catL (m_weak (m_lst (a_cons m_int a_nil))) (m_sl sl_D (m_callS 3 (.v (eVar 3)) h__law_row (.inr ⟨rfl, rfl⟩) hgd hr (by decide) (by rfl) (g_v (m_var 2) (g_v (m_var 8) g_nil))) (o_some m_int) o_none)))) (t_six 3 (u66 hr) (m_var 2) (m_var 8)))
    (s_one (s_ret (m_callP h__law_alike hgd hr (by decide) (by rfl) (g_v (m_methS0 3 (.io 3) h_Store_take (.inl ⟨rfl, rfl⟩) cl_Store me_Store_take mg_Store hgd hr (by decide) (m_var 1)) (g_v (m_var 8) g_nil)))))))) s_nil)
    (s_cons (s_set 7 nd (m_lend 3 [.un, .un, .ow 0, .ow 0, .ow 0, .un, .un, .un, .un, .un, .un, .un] (m_callTy c_list (by rfl) nb_list bt_list (a_cons (m_callS 3 (.v (eVar 3)) h__law_row (.inr ⟨rfl, rfl⟩) hgd hr (by decide) (by rfl) (g_v (m_var 2) (g_v (m_var 4) g_nil))) a_nil))))
    (s_cons (s_if (b_cmp (op_eqD (u66 hr)) (m_var 5) m_int (by rfl)) (s_cons (s_aug 7 m_int m_int ip_add)
    (s_one (p_pre [.io 1, .ow 0, .ow 0, .io 200, .ow 0, .ow 0, .ow 0, .ow 0, .un, .un, .un, .un] (s_set 9 nd (m_methS 3 (.io 3) h_Store_raise_one (.inl ⟨rfl, rfl⟩) cl_Store me_Store_raise_one mg_Store hgd hr (by decide) (m_var 1) (g_v (m_var 4) g_nil)))))) (s_one (s_if (b_inA (u66 hr) (m_var 5) (m_tup (a_cons m_int (a_cons m_int a_nil))) (by rfl)) (s_cons (s_asg (m_bor [.un, .un, .un, .un, .un, .un, .un, .ow 0, .un, .un, .un, .un] (m_callB (c_maxB rfl) (by rfl) nb_max bt_max (a_cons m_int (a_cons (m_bin o_sub (m_ixA (u66 hr) (m_var 7) m_int (fun _ _ => rfl)) m_int) a_nil)))) (t_ix 7 m_int))
    (s_one (p_pre [.io 1, .ow 0, .ow 0, .io 200, .ow 0, .ow 0, .ow 0, .ow 0, .un, .un, .un, .un] (s_set 9 nd (m_methS 3 (.io 3) h_Store_lower_one (.inl ⟨rfl, rfl⟩) cl_Store me_Store_lower_one mg_Store hgd hr (by decide) (m_var 1) (g_v (m_var 4) g_nil)))))) (s_one (s_if (b_cmp (op_eqD (u66 hr)) (m_var 5) m_int (by rfl)) (s_post (Δ := [.io 1, .ow 0, .ow 0, .io 200, .ow 0, .ow 0, .ow 0, .ow 0, .un, .ow 0, .un, .un]) [.io 1, .ow 0, .ow 0, .io 200, .ow 0, .ow 0, .ow 0, .ow 0, .un, .ow 0, .ow 0, .un] (s_cons (s_set 10 nd (m_callP h__law_take hgd hr (by decide) (by rfl) (g_io 0 (g_v m_int g_nil))))
    (s_cons (s_asg (m_var 6) (t_ix 7 (m_bin o_add m_int (m_var 10))))
    (s_one (p_pre [.io 1, .ow 0, .ow 0, .io 200, .ow 0, .ow 0, .ow 0, .ow 0, .un, .un, .ow 0, .un] (s_set 9 nd (m_methS 3 (.io 3) h_Store_change (.inl ⟨rfl, rfl⟩) cl_Store me_Store_change mg_Store hgd hr (by decide) (m_var 1) (g_v (m_var 4) (g_v (m_var 10) (g_v (m_var 6) g_nil)))))))))) (s_post (Δ := [.io 1, .ow 0, .ow 0, .io 200, .ow 0, .ow 0, .ow 0, .ow 0, .un, .ow 0, .un, .un]) [.io 1, .ow 0, .ow 0, .io 200, .ow 0, .ow 0, .ow 0, .ow 0, .un, .ow 0, .un, .ow 0] (s_cons (p_pre [.io 1, .ow 0, .ow 0, .io 200, .ow 0, .ow 0, .ow 0, .ow 0, .un, .un, .un, .un] (s_par 7 11 rfl nd (m_weak (m_bin o_catL (m_sl sl_D (m_var 7) o_none (o_some m_int)) (m_weak (m_lst (a_cons (m_var 6) (a_cons (m_var 4) a_nil)))))) (m_trkL 3 (m_lst (a_cons (m_var 6) (a_cons (m_var 4) a_nil))))))
    (s_cons (s_set 9 nd (m_methS 3 (.io 3) h_Store_fill (.inl ⟨rfl, rfl⟩) cl_Store me_Store_fill mg_Store hgd hr (by decide) (m_var 1) (g_v (m_var 4) (g_v (m_var 11) g_nil))))
    (s_cons (s_if (b_lend 3 [.un, .un, .un, .ow 0, .ow 0, .un, .ow 0, .un, .un, .un, .un, .ow 0] (b_cmp (op_neD (u66 hr)) (m_drf 3 (m_var 11)) (m_weak (m_lst (a_cons (m_var 6) (a_cons (m_var 4) a_nil)))) (by rfl))) (s_one (s_ret m_bl)) s_nil)
    (s_cons (s_asg m_int (t_six 3 (u66 hr) (m_var 11) m_int))
    (s_one (s_exp (m_mutS 3 PySem.F.slot_list_append PySem.F.type_list_append mt_append mu_append (m_var 11) (a_cons m_non a_nil))))))))))))))
    (s_cons (s_asg (m_var 7) (t_six 3 (u66 hr) (m_var 2) (m_var 4)))
    (s_one (s_ret (m_cmp o_isN (m_var 9) m_non (by rfl)))))))))) (.inl rfl)
abbrev s_law : Stmt := topS 12
theorem sc_law : FnScope ["_law_script", "_law_bag_here", "_law_store", "_law_rows", "_law_other", "_law_kept", "_law_k", "_law_many", "_law_fresh", "_law_held", "_law_shown_here", "_law_number", "$"] ["_law_script"] (defScope s_law) := ⟨rfl, rfl, rfl, by decide +kernel, rfl, by decide +kernel, by decide +kernel⟩
def g_law : Sx := (sq (asgG (eTup [(eNew "Store" (stF F_Store___init__) [] 12), (eTrkD 12 (eC (.dict []))), (eNew "Store" (stF F_Store___init__) [] 12), (eTrkD 12 (eC (.dict [])))]) (gtTup 4 (gtCons (gtName 2) (gtCons (gtName 3) (gtCons (gtName 4) (gtCons (gtName 5) gtNil))))))
  (sq (forD (iRg1 (eBin addD (eC (.int 10)) (eCall F__law_take [.io 1, .v (eC (.int 30))]))) (gtName 6) (sq (asg 9 (eLend 12 2 (eLst [(eCall (stF F_Store_taken) [.v (eIns 12 "Store" (eVar 2)), .v (eVar 12)]), (eCall (stF F_Store_values_of) (.v (eIns 12 "Store" (eVar 2)) :: ([.v (eC (.int 0))] ++ [.v (eVar 12)]))), (eCall (stF F_Store_values_of) (.v (eIns 12 "Store" (eVar 2)) :: ([.v (eC (.int 1))] ++ [.v (eVar 12)])))])))
  (sq (asg 10 (eNs reprD [(eVar 9)]))
  (sq (sIf (bOr (bNot (asB (eCall (stF F__law_done) ([.io 1, .v (eVar 2), .v (eVar 3)] ++ [.io 12])))) (asB (eBin neD (eNs reprD [(eVar 9)]) (eVar 10)))) (retE (eC (.bool false))) sNil)
  (sq (sIf (asB (eBin eqD (eCall F__law_take [.io 1, .v (eC (.int 5))]) (eC (.int 0)))) (sq (asg2 4 5 (eCall (stF F_Store_copied) [.v (eIns 12 "Store" (eVar 2)), .io 12]) (eTrkD 12 (eNs dictX [(eLend 12 2 (lcD [11] (iSqA (eDrf 12 (eVar 3))) (gtName 11) bYes (eTup [(eImm (eVar 11)), (eNs listD [(eBin ixA (eDrf 12 (eVar 3)) (eVar 11))])])))])))
  (sIf (bLend 12 (asB (eBin notBD (eEqI 12 "Store" F_Store___eq__ (eVar 2) (eVar 4)) (eC (.bool true))))) (retE (eC (.bool false))) sNil)) sNil)
  (sq (sIf (bAnd (asB (eBin eqD (eCall F__law_take [.io 1, .v (eC (.int 6))]) (eC (.int 0)))) (bNot (asB (eCall (stF F__law_done) ([.io 1, .v (eVar 4), .v (eVar 5)] ++ [.io 12]))))) (retE (eC (.bool false))) sNil)
  (sq (sIf (bLend 12 (bNot (asB (eCall F__law_alike [.v (eEqI 12 "Store" F_Store___eq__ (eVar 2) (eVar 4)), .v (eBin eqD (eCall (stF F__law_shown) ([.v (eVar 3)] ++ [.v (eVar 12)])) (eCall (stF F__law_shown) ([.v (eVar 5)] ++ [.v (eVar 12)])))])))) (retE (eC (.bool false))) sNil)
  (sIf (bAnd (asB (eBin eqD (eCall F__law_take [.io 1, .v (eC (.int 4))]) (eC (.int 0)))) (bLend 12 (bNot (asB (eCall (stF F__law_looks_right) ([.v (eVar 2), .v (eVar 3)] ++ [.v (eVar 12)])))))) (retE (eC (.bool false))) sNil))))))))
  (sq (sIf (bLend 12 (bOr (bNot (asB (eCall (stF F__law_looks_right) ([.v (eVar 2), .v (eVar 3)] ++ [.v (eVar 12)])))) (bNot (asB (eCall (stF F__law_looks_right) ([.v (eVar 4), .v (eVar 5)] ++ [.v (eVar 12)])))))) (retE (eC (.bool false))) sNil)
  (sq (asg2 7 8 (eBin addD (eC (.int 30)) (eCall F__law_take [.io 1, .v (eC (.int 40))])) (eNew "Store" (stF F_Store___init__) [] 12))
  (sq (sIf (bOr (asB (eBin neD (lcD [6] (iRg1 (eVar 7)) (gtName 6) bYes (eCall (stF F_Store_take) [.v (eIns 12 "Store" (eVar 8)), .io 12])) (eLR1 (eVar 7)))) (bLend 12 (asB (eBin neD (eNs lenD [(eCall (stF F_Store_taken) [.v (eIns 12 "Store" (eVar 8)), .v (eVar 12)])]) (eVar 7))))) (retE (eC (.bool false))) sNil)
  (sq (sExp (eCall (stF F_Store_lower_one) (.v (eIns 12 "Store" (eVar 8)) :: ([.v (eBin subD (eVar 7) (eC (.int 2)))] ++ [.io 12]))))
  (retE (eCall F__law_alike [.v (eLst [(eCall (stF F_Store_take) [.v (eIns 12 "Store" (eVar 8)), .io 12]), (eCall (stF F_Store_take) [.v (eIns 12 "Store" (eVar 8)), .io 12]), (eLend 12 0 (eCall (stF F_Store_count_of) (.v (eIns 12 "Store" (eVar 8)) :: ([.v (eBin addD (eVar 7) (eC (.int 1)))] ++ [.v (eVar 12)]))))]), .v (eLst [(eBin subD (eVar 7) (eC (.int 2))), (eVar 7), (eC (.int 0))])]))))))))
theorem ok_law {f_Store___init__ : Addr} (h_Store___init__ : PFA P w K mg base f_Store___init__ 1 ["self"] [.ow 0, .io 200] 0 F_Store___init__) (h__law_take : PF P w K mg base "_law_take" 1 ["_law_bag_here", "_law_many"] [.io 1, .ow 0] 0 F__law_take) {f_Store_taken : Addr} (h_Store_taken : PFA P w K mg base f_Store_taken 1 ["self"] [.ow 0, .ow 0] 1 F_Store_taken) {f_Store_values_of : Addr} (h_Store_values_of : PFA P w K mg base f_Store_values_of 1 ["self", "number"] [.ow 0, .ow 0, .ow 0] 1 F_Store_values_of) (h__law_done : PFS P w K mg base "_law_done" 3 ["_law_bag_here", "_law_store", "_law_rows"] [.io 1, .ow 0, .ow 0, .io 200] 0 F__law_done) {f_Store_copied : Addr} (h_Store_copied : PFA P w K mg base f_Store_copied 3 ["self"] [.ow 0, .io 200] 0 F_Store_copied) {f_Store___eq__ : Addr} (h_Store___eq__ : PFA P w K mg base f_Store___eq__ 2 ["self", "other"] [.ow 0, .ow 0, .ow 0] 0 F_Store___eq__) (h__law_shown : PFS P w K mg base "_law_shown" 1 ["_law_rows"] [.ow 0, .ow 0] 1 F__law_shown) (h__law_alike : PF P w K mg base "_law_alike" 1 ["_law_found", "_law_due"] [.ow 0, .ow 0] 0 F__law_alike) (h__law_looks_right : PFS P w K mg base "_law_looks_right" 2 ["_law_store", "_law_rows"] [.ow 0, .ow 0, .ow 0] 0 F__law_looks_right) {f_Store_take : Addr} (h_Store_take : PFA P w K mg base f_Store_take 2 ["self"] [.ow 0, .io 200] 0 F_Store_take) {f_Store_lower_one : Addr} (h_Store_lower_one : PFA P w K mg base f_Store_lower_one 2 ["self", "number"] [.ow 0, .ow 0, .io 200] 0 F_Store_lower_one) {f_Store_count_of : Addr} (h_Store_count_of : PFA P w K mg base f_Store_count_of 1 ["self", "number"] [.ow 0, .ow 0, .ow 0] 0 F_Store_count_of) {C_Store : Addr} (mk_Store : Mk K C_Store f_Store___init__) (mg_Store : mg "Store" = some (.ref C_Store)) (cl_Store : SlX.SCls K C_Store) (me_Store_taken : Meth K C_Store "taken" f_Store_taken) (me_Store_values_of : Meth K C_Store "values_of" f_Store_values_of) (me_Store_copied : Meth K C_Store "copied" f_Store_copied) (me_Store___eq__ : Meth K C_Store "__eq__" f_Store___eq__) (me_Store_take : Meth K C_Store "take" f_Store_take) (me_Store_lower_one : Meth K C_Store "lower_one" f_Store_lower_one) (me_Store_count_of : Meth K C_Store "count_of" f_Store_count_of) (nb_range : mg "range" = none) (nb_repr : mg "repr" = none) (nb_list : mg "list" = none) (nb_dict : mg "dict" = none) (nb_len : mg "len" = none) (f : Addr) (cdv : Value) (A : Around) (outer : List Env) (s : Shared) (H : Hp) (E : XK) (hgd : (A.deeper (envOfC "law" (defScope s_law) s.heap.objs.size f cdv)).guards = some []) (hr : Room 3 (A.deeper (envOfC "law" (defScope s_law) s.heap.objs.size f cdv))) :
    PSs (cxOf CX0 P w K mg base ["_law_script", "_law_bag_here", "_law_store", "_law_rows", "_law_other", "_law_kept", "_law_k", "_law_many", "_law_fresh", "_law_held", "_law_shown_here", "_law_number", "$"] "law" (defScope s_law) f cdv A outer s H E).nox ((defBody s_law).drop 1) (tS ⟨K, w, mg⟩ ⟨[.un, .un, .un, .un, .un, .un, .un, .un, .un, .un, .un, .un, .un], 0, [], []⟩ [.un, .ow 1, .un, .un, .un, .un, .un, .un, .un, .un, .un, .un, .io 200] [.un, .un, .un, .un, .un, .un, .un, .un, .un, .un, .un, .un, .un] g_law) :=
  have nd := sc_law.nd
  (s_cons (s_asg (m_tup (a_cons (m_new0 12 h_Store___init__ mk_Store mg_Store hgd hr (by decide) (by rfl)) (a_cons (m_trkD 12 m_dnew) (a_cons (m_new0 12 h_Store___init__ mk_Store mg_Store hgd hr (by decide) (by rfl)) (a_cons (m_trkD 12 m_dnew) a_nil))))) (t_tup 4 rfl (ts_cons (t_name 2 nd) (ts_cons (t_name 3 nd) (ts_cons (t_name 4 nd) (ts_cons (t_name 5 nd) ts_nil))))))
    (s_cons (s_for rfl (i_range1 (by rfl) nb_range (m_bin o_add m_int (m_callP h__law_take hgd hr (by decide) (by rfl) (g_io 1 (g_v m_int g_nil))))) (t_name 6 nd) (s_post (Δ := [.un, .ow 1, .ow 0, .ow 0, .ow 0, .ow 0, .un, .un, .un, .un, .un, .un, .io 200]) [.un, .ow 1, .ow 0, .ow 0, .ow 0, .ow 0, .ow 0, .un, .un, .ow 0, .ow 0, .un, .io 200] (s_cons (s_set 9 nd (m_weak (m_lend 12 [.un, .un, .ow 0, .un, .un, .un, .un, .un, .un, .un, .un, .un, .ow 0] (m_lstN (a_consN (m_methS0 12 (.v (eVar 12)) h_Store_taken (.inr ⟨rfl, rfl⟩) cl_Store me_Store_taken mg_Store hgd hr (by decide) (m_var 2)) (a_consN (m_methS 12 (.v (eVar 12)) h_Store_values_of (.inr ⟨rfl, rfl⟩) cl_Store me_Store_values_of mg_Store hgd hr (by decide) (m_var 2) (g_v m_int g_nil)) (a_consN (m_methS 12 (.v (eVar 12)) h_Store_values_of (.inr ⟨rfl, rfl⟩) cl_Store me_Store_values_of mg_Store hgd hr (by decide) (m_var 2) (g_v m_int g_nil)) a_nilN)))))))
    (s_cons (s_set 10 nd (m_callB (call_reprD (u80 hr) hgd) (by rfl) nb_repr bt_repr (a_cons (m_var 9) a_nil)))
    (s_cons (s_if (PW.pt (b_or (b_not (b_val (m_callS 12 (.io 12) h__law_done (.inl ⟨rfl, rfl⟩) hgd hr (by decide) (by rfl) (g_io 1 (g_v (m_var 2) (g_v (m_var 3) g_nil)))))) (b_or1 (b_cmp (op_neD (u66 hr)) (m_callB (call_reprD (u80 hr) hgd) (by rfl) nb_repr bt_repr (a_cons (m_var 9) a_nil)) (m_var 10) (by rfl))))) (s_one (p_pre [.un, .ow 0, .ow 0, .ow 0, .ow 0, .ow 0, .ow 0, .un, .un, .ow 0, .ow 0, .un, .io 200] (s_ret m_bl))) s_nil)
    (s_cons (s_if (b_cmp (op_eqD (u66 hr)) (m_callP h__law_take hgd hr (by decide) (by rfl) (g_io 1 (g_v m_int g_nil))) m_int (by rfl)) (s_cons (s_par 4 5 rfl nd (m_methS0 12 (.io 12) h_Store_copied (.inl ⟨rfl, rfl⟩) cl_Store me_Store_copied mg_Store hgd hr (by decide) (m_var 2)) (m_trkD 12 (m_callTy (c_dictX (u80 hr) rfl) (by rfl) nb_dict bt_dict (a_cons (m_weak (m_lend 12 [.un, .un, .un, .ow 0, .un, .un, .un, .un, .un, .un, .un, .un, .ow 0] (m_lcN 1 (own := [("_law_number", 11)]) rfl nd (i_seqA (m_drf 12 (m_var 3))) (blkOk_by (by kernel_rfl)) (fun _ _ _ _ _ => (t_name 11 nd)) (fun _ _ _ _ _ => pts_yes) (fun _ _ _ _ _ => (m_tupN (a_consN (m_own (m_var 11)) (a_consN (m_callTy c_list (by rfl) nb_list bt_list (a_cons (m_ixA (u66 hr) (m_drf 12 (m_var 3)) (m_var 11) (fun _ _ => rfl)) a_nil)) a_nilN))))))) a_nil))))
    (s_one (s_if (b_lend 12 [.un, .un, .ow 0, .un, .ow 0, .un, .un, .un, .un, .un, .un, .un, .ow 0] (b_cmp o_notB (m_eqI 12 h_Store___eq__ me_Store___eq__ mg_Store hgd hr (by decide) (m_var 2) (m_var 4)) m_bl (by rfl))) (s_one (p_pre [.un, .ow 0, .ow 0, .ow 0, .ow 0, .ow 0, .ow 0, .un, .un, .ow 0, .ow 0, .un, .io 200] (s_ret m_bl))) s_nil))) s_nil)
    (s_cons (s_if (PW.pt (b_and (b_cmp (op_eqD (u66 hr)) (m_callP h__law_take hgd hr (by decide) (by rfl) (g_io 1 (g_v m_int g_nil))) m_int (by rfl)) (b_and1 (b_not (b_val (m_callS 12 (.io 12) h__law_done (.inl ⟨rfl, rfl⟩) hgd hr (by decide) (by rfl) (g_io 1 (g_v (m_var 4) (g_v (m_var 5) g_nil))))))))) (s_one (p_pre [.un, .ow 0, .ow 0, .ow 0, .ow 0, .ow 0, .ow 0, .un, .un, .ow 0, .ow 0, .un, .io 200] (s_ret m_bl))) s_nil)
    (s_cons (s_if (b_lend 12 [.un, .un, .ow 0, .ow 0, .ow 0, .ow 0, .un, .un, .un, .un, .un, .un, .ow 0] (b_not (b_val (m_callP h__law_alike hgd hr (by decide) (by rfl) (g_v (m_eqI 12 h_Store___eq__ me_Store___eq__ mg_Store hgd hr (by decide) (m_var 2) (m_var 4)) (g_v (m_cmp (op_eqD (u66 hr)) (m_weak (m_callS 12 (.v (eVar 12)) h__law_shown (.inr ⟨rfl, rfl⟩) hgd hr (by decide) (by rfl) (g_v (m_var 3) g_nil))) (m_weak (m_callS 12 (.v (eVar 12)) h__law_shown (.inr ⟨rfl, rfl⟩) hgd hr (by decide) (by rfl) (g_v (m_var 5) g_nil))) (by rfl)) g_nil)))))) (s_one (p_pre [.un, .ow 0, .ow 0, .ow 0, .ow 0, .ow 0, .ow 0, .un, .un, .ow 0, .ow 0, .un, .io 200] (s_ret m_bl))) s_nil)
    (s_one (s_if (PW.pt (b_and (b_cmp (op_eqD (u66 hr)) (m_callP h__law_take hgd hr (by decide) (by rfl) (g_io 1 (g_v m_int g_nil))) m_int (by rfl)) (b_and1 (b_lend 12 [.un, .un, .ow 0, .ow 0, .un, .un, .un, .un, .un, .un, .un, .un, .ow 0] (b_not (b_val (m_callS 12 (.v (eVar 12)) h__law_looks_right (.inr ⟨rfl, rfl⟩) hgd hr (by decide) (by rfl) (g_v (m_var 2) (g_v (m_var 3) g_nil))))))))) (s_one (p_pre [.un, .ow 0, .ow 0, .ow 0, .ow 0, .ow 0, .ow 0, .un, .un, .ow 0, .ow 0, .un, .io 200] (s_ret m_bl))) s_nil))))))))) PassesOwn.never)
    (s_cons (s_if (b_lend 12 [.un, .un, .ow 0, .ow 0, .ow 0, .ow 0, .un, .un, .un, .un, .un, .un, .ow 0] (PW.pt (b_or (b_not (b_val (m_callS 12 (.v (eVar 12)) h__law_looks_right (.inr ⟨rfl, rfl⟩) hgd hr (by decide) (by rfl) (g_v (m_var 2) (g_v (m_var 3) g_nil))))) (b_or1 (b_not (b_val (m_callS 12 (.v (eVar 12)) h__law_looks_right (.inr ⟨rfl, rfl⟩) hgd hr (by decide) (by rfl) (g_v (m_var 4) (g_v (m_var 5) g_nil))))))))) (s_one (p_pre [.un, .ow 0, .ow 0, .ow 0, .ow 0, .ow 0, .un, .un, .un, .un, .un, .un, .io 200] (s_ret m_bl))) s_nil)
    (s_cons (s_parG 7 8 rfl nd (m_bin o_add m_int (m_callP h__law_take hgd hr (by decide) (by rfl) (g_io 1 (g_v m_int g_nil)))) (m_new0 12 h_Store___init__ mk_Store mg_Store hgd hr (by decide) (by rfl)))
    (s_cons (p_pre [.un, .ow 0, .ow 0, .ow 0, .ow 0, .ow 0, .un, .ow 0, .ow 0, .un, .un, .un, .io 200] (s_if (PW.pt (b_or (b_cmp (op_neD (u66 hr)) (m_weak (m_lc (own := [("_law_k", 6)]) rfl nd (i_range1 (by rfl) nb_range (m_var 7)) (blkOk_by (by kernel_rfl)) (fun _ _ _ _ _ => (t_name 6 nd)) (fun _ _ _ _ _ => pts_yes) (fun _ _ _ _ _ => (m_methS0 12 (.io 12) h_Store_take (.inl ⟨rfl, rfl⟩) cl_Store me_Store_take mg_Store hgd hr (by decide) (m_var 8))))) (m_weak (m_listR1 rfl (by rfl) nb_list (by rfl) nb_range (m_var 7))) (by rfl)) (b_or1 (b_lend 12 [.un, .un, .un, .un, .un, .un, .un, .ow 0, .ow 0, .un, .un, .un, .ow 0] (b_cmp (op_neD (u66 hr)) (m_callB c_len (by rfl) nb_len bt_len (a_cons (m_weak (m_methS0 12 (.v (eVar 12)) h_Store_taken (.inr ⟨rfl, rfl⟩) cl_Store me_Store_taken mg_Store hgd hr (by decide) (m_var 8))) a_nil)) (m_var 7) (by rfl)))))) (s_one (s_ret m_bl)) s_nil))
    (s_cons (s_exp (m_methS 12 (.io 12) h_Store_lower_one (.inl ⟨rfl, rfl⟩) cl_Store me_Store_lower_one mg_Store hgd hr (by decide) (m_var 8) (g_v (m_bin o_sub (m_var 7) m_int) g_nil)))
    (s_one (s_ret (m_callP h__law_alike hgd hr (by decide) (by rfl) (g_v (m_weak (m_lst (a_cons (m_methS0 12 (.io 12) h_Store_take (.inl ⟨rfl, rfl⟩) cl_Store me_Store_take mg_Store hgd hr (by decide) (m_var 8)) (a_cons (m_methS0 12 (.io 12) h_Store_take (.inl ⟨rfl, rfl⟩) cl_Store me_Store_take mg_Store hgd hr (by decide) (m_var 8)) (a_cons (m_lend 12 [.un, .un, .un, .un, .un, .un, .un, .ow 0, .ow 0, .un, .un, .un, .ow 0] (m_methS 12 (.v (eVar 12)) h_Store_count_of (.inr ⟨rfl, rfl⟩) cl_Store me_Store_count_of mg_Store hgd hr (by decide) (m_var 8) (g_v (m_bin o_add (m_var 7) m_int) g_nil))) a_nil))))) (g_v (m_weak (m_lst (a_cons (m_bin o_sub (m_var 7) m_int) (a_cons (m_var 7) (a_cons m_int a_nil))))) g_nil)))))))))))
abbrev s__law_bag : Stmt := topS 4
theorem sc__law_bag : FnScope ["_law_script", "_law_cell"] ["_law_script"] (defScope s__law_bag) := ⟨rfl, rfl, rfl, by decide +kernel, rfl, by decide +kernel, by decide +kernel⟩
theorem ok__law_bag {f : Addr} {fd : FuncData} (F : Fun K "_law_bag" "_law_bag" s__law_bag f fd) (nb_abs : mg "abs" = none) : FnG P w K mg base CX0 1 f fd ["_law_script"] (spBag K) := by
  refine FnG.of F sc__law_bag (fun vs H Q E h => ?_) (fun cdv A outer s H vs Q E _ hgd hr h => ?_)
  · obtain ⟨a, ns, rfl, _⟩ := h; rfl
  · obtain ⟨a, ns, rfl, hS, hlen, q⟩ := h
    exact ⟨tBag K, (pss_one (ps_ret (pe_lst (pa_cons pe_int (pa_cons pe_int (pa_cons pe_int (pa_cons (pe_lc (own := [("_law_cell", 1)]) (g := gName 1) (tt := tYes) rfl sc__law_bag.nd (pi_list (pe_slice sl_list (pv 0) po_none (po_some pe_int))) (blkOk_by (by kernel_rfl))
      (fun _ _ _ _ _ => pg_name (i := 1) sc__law_bag.nd rfl (Or.inl rfl)) (fun _ _ _ _ _ => pts_nil) (fun _ _ _ _ _ => pe_callB call_abs (by rfl) nb_abs bt_abs (pa_cons (pv 1) pa_nil))) pa_nil)))))) : PSs (cxOf CX0 P w K mg base ["_law_script", "_law_cell"] "_law_bag" (defScope s__law_bag) f cdv A outer s H E).nox (defBody s__law_bag) (tBag K)).nox, bag_read (N := fun _ => True) hS hlen q⟩
theorem okLaw {f : Addr} {fd : FuncData} (F : Fun K "law" "law" s_law f fd) (dbag : DP K mg "_law_bag" s__law_bag ["_law_script"]) (nb_abs : mg "abs" = none) {f_Store___init__ : Addr} (h_Store___init__ : PFA P w K mg base f_Store___init__ 1 ["self"] [.ow 0, .io 200] 0 F_Store___init__) (h__law_take : PF P w K mg base "_law_take" 1 ["_law_bag_here", "_law_many"] [.io 1, .ow 0] 0 F__law_take) {f_Store_taken : Addr} (h_Store_taken : PFA P w K mg base f_Store_taken 1 ["self"] [.ow 0, .ow 0] 1 F_Store_taken) {f_Store_values_of : Addr} (h_Store_values_of : PFA P w K mg base f_Store_values_of 1 ["self", "number"] [.ow 0, .ow 0, .ow 0] 1 F_Store_values_of) (h__law_done : PFS P w K mg base "_law_done" 3 ["_law_bag_here", "_law_store", "_law_rows"] [.io 1, .ow 0, .ow 0, .io 200] 0 F__law_done) {f_Store_copied : Addr} (h_Store_copied : PFA P w K mg base f_Store_copied 3 ["self"] [.ow 0, .io 200] 0 F_Store_copied) {f_Store___eq__ : Addr} (h_Store___eq__ : PFA P w K mg base f_Store___eq__ 2 ["self", "other"] [.ow 0, .ow 0, .ow 0] 0 F_Store___eq__) (h__law_shown : PFS P w K mg base "_law_shown" 1 ["_law_rows"] [.ow 0, .ow 0] 1 F__law_shown) (h__law_alike : PF P w K mg base "_law_alike" 1 ["_law_found", "_law_due"] [.ow 0, .ow 0] 0 F__law_alike) (h__law_looks_right : PFS P w K mg base "_law_looks_right" 2 ["_law_store", "_law_rows"] [.ow 0, .ow 0, .ow 0] 0 F__law_looks_right) {f_Store_take : Addr} (h_Store_take : PFA P w K mg base f_Store_take 2 ["self"] [.ow 0, .io 200] 0 F_Store_take) {f_Store_lower_one : Addr} (h_Store_lower_one : PFA P w K mg base f_Store_lower_one 2 ["self", "number"] [.ow 0, .ow 0, .io 200] 0 F_Store_lower_one) {f_Store_count_of : Addr} (h_Store_count_of : PFA P w K mg base f_Store_count_of 1 ["self", "number"] [.ow 0, .ow 0, .ow 0] 0 F_Store_count_of) {C_Store : Addr} (mk_Store : Mk K C_Store f_Store___init__) (mg_Store : mg "Store" = some (.ref C_Store)) (cl_Store : SlX.SCls K C_Store) (me_Store_taken : Meth K C_Store "taken" f_Store_taken) (me_Store_values_of : Meth K C_Store "values_of" f_Store_values_of) (me_Store_copied : Meth K C_Store "copied" f_Store_copied) (me_Store___eq__ : Meth K C_Store "__eq__" f_Store___eq__) (me_Store_take : Meth K C_Store "take" f_Store_take) (me_Store_lower_one : Meth K C_Store "lower_one" f_Store_lower_one) (me_Store_count_of : Meth K C_Store "count_of" f_Store_count_of) (nb_range : mg "range" = none) (nb_repr : mg "repr" = none) (nb_list : mg "list" = none) (nb_dict : mg "dict" = none) (nb_len : mg "len" = none) (hmath : ∀ ns : List Int, ns.length ≤ 63 → ∃ e, g_law (env0S 13 ns) = some (.rt (.bool true) e)) : FnG P w K mg base CX0 4 f fd ["_law_script"] (spLaw K) := by
  obtain ⟨fb, fdb, Fb, gb, bb⟩ := dbag
  have Gb := ok__law_bag (P := P) (w := w) (base := base) (mg := mg) Fb nb_abs
  refine FnG.of F sc_law (fun vs H Q E h => ?_) (fun cdv A outer s H vs Q E _ hgd hr h => ?_)
  · obtain ⟨a, ns, rfl, _⟩ := h; rfl
  · obtain ⟨a, ns, rfl, hT, hS, hlen, q⟩ := h
    obtain ⟨e, he⟩ := hmath ns hlen
    exact ⟨_, pss_ghost (p := 12) (x := "$") (.int 0) (pss_cons (ps_set (i := 1) sc_law.nd rfl (by first | exact Or.inl rfl | exact Or.inr rfl) (pe_callG Gb hgd (hr.mono (by decide)) (by rfl) gb Fb.kp bb pass0 (pa_cons (pv 0) pa_nil))) (ok_law h_Store___init__ h__law_take h_Store_taken h_Store_values_of h__law_done h_Store_copied h_Store___eq__ h__law_shown h__law_alike h__law_looks_right h_Store_take h_Store_lower_one h_Store_count_of mk_Store mg_Store cl_Store me_Store_taken me_Store_values_of me_Store_copied me_Store___eq__ me_Store_take me_Store_lower_one me_Store_count_of nb_range nb_repr nb_list nb_dict nb_len f cdv A outer s H E hgd hr) : PSs (cxOf CX0 P w K mg base ["_law_script", "_law_bag_here", "_law_store", "_law_rows", "_law_other", "_law_kept", "_law_k", "_law_many", "_law_fresh", "_law_held", "_law_shown_here", "_law_number", "$"] "law" (defScope s_law) f cdv A outer s H E).nox (defBody s_law) _).nox rfl (show ¬ Vis (defScope s_law) "$" by unfold Vis; decide +kernel), law_readS (K := ⟨K, w, mg⟩) (m := 13) (by decide) rfl hT hS hlen q he⟩
theorem all_mk {l : PySem.W.OpenLaw} {h : Heap} {fa : Addr} (X : K.In h) (G : h.Ns mainGlobals mg) (hfa : mg "law" = some (.ref fa)) (hmath : ∀ ns : List Int, ns.length ≤ 63 → ∃ e, g_law (env0S 13 ns) = some (.rt (.bool true) e)) {C_Store : Addr} {q_Store_its_rows : Addr} {f0 : Addr} {od0 an0 : Option Addr} {sl0 : Array (Option Value)} {oc0 kV0 dc0 pm0 ct0 cd0 : Value} {f1 : Addr} {od1 an1 : Option Addr} {sl1 : Array (Option Value)} {oc1 kV1 dc1 pm1 ct1 cd1 : Value} {f2 : Addr} {od2 an2 : Option Addr} {sl2 : Array (Option Value)} {oc2 kV2 dc2 pm2 ct2 cd2 : Value} {f3 : Addr} {od3 an3 : Option Addr} {sl3 : Array (Option Value)} {oc3 kV3 dc3 pm3 ct3 cd3 : Value} {f4 : Addr} {od4 an4 : Option Addr} {sl4 : Array (Option Value)} {oc4 kV4 dc4 pm4 ct4 cd4 : Value} {f5 : Addr} {od5 an5 : Option Addr} {sl5 : Array (Option Value)} {oc5 kV5 dc5 pm5 ct5 cd5 : Value} {f6 : Addr} {od6 an6 : Option Addr} {sl6 : Array (Option Value)} {oc6 kV6 dc6 pm6 ct6 cd6 : Value} {f7 : Addr} {od7 an7 : Option Addr} {sl7 : Array (Option Value)} {oc7 kV7 dc7 pm7 ct7 cd7 : Value} {f8 : Addr} {od8 an8 : Option Addr} {sl8 : Array (Option Value)} {oc8 kV8 dc8 pm8 ct8 cd8 : Value} {f9 : Addr} {od9 an9 : Option Addr} {sl9 : Array (Option Value)} {oc9 kV9 dc9 pm9 ct9 cd9 : Value} {f10 : Addr} {od10 an10 : Option Addr} {sl10 : Array (Option Value)} {oc10 kV10 dc10 pm10 ct10 cd10 : Value} {f11 : Addr} {od11 an11 : Option Addr} {sl11 : Array (Option Value)} {oc11 kV11 dc11 pm11 ct11 cd11 : Value} {f12 : Addr} {od12 an12 : Option Addr} {sl12 : Array (Option Value)} {oc12 kV12 dc12 pm12 ct12 cd12 : Value} {f13 : Addr} {od13 an13 : Option Addr} {sl13 : Array (Option Value)} {oc13 kV13 dc13 pm13 ct13 cd13 : Value} {f14 : Addr} {od14 an14 : Option Addr} {sl14 : Array (Option Value)} {oc14 kV14 dc14 pm14 ct14 cd14 : Value} {f15 : Addr} {od15 an15 : Option Addr} {sl15 : Array (Option Value)} {oc15 kV15 dc15 pm15 ct15 cd15 : Value} {f16 : Addr} {od16 an16 : Option Addr} {sl16 : Array (Option Value)} {oc16 kV16 dc16 pm16 ct16 cd16 : Value} {f17 : Addr} {od17 an17 : Option Addr} {sl17 : Array (Option Value)} {oc17 kV17 dc17 pm17 ct17 cd17 : Value} {f18 : Addr} {od18 an18 : Option Addr} {sl18 : Array (Option Value)} {oc18 kV18 dc18 pm18 ct18 cd18 : Value} {f19 : Addr} {od19 an19 : Option Addr} {sl19 : Array (Option Value)} {oc19 kV19 dc19 pm19 ct19 cd19 : Value} {f20 : Addr} {od20 an20 : Option Addr} {sl20 : Array (Option Value)} {oc20 kV20 dc20 pm20 ct20 cd20 : Value} {f21 : Addr} {od21 an21 : Option Addr} {sl21 : Array (Option Value)} {oc21 kV21 dc21 pm21 ct21 cd21 : Value} {a_EMPTY : Addr} {n_EMPTY : Nat} {s_EMPTY : Array (Option Value)} {t_EMPTY_0 : Tok} {t_EMPTY_1 : Tok}
    (v_Store : PySem.W.nsIn K mainGlobals "Store" = some (some (.ref C_Store))) (x_1_Store : PySem.W.plainGet K C_Store Str.empty = true) (x_2_Store : PySem.W.isClsIn K C_Store = true) (x_3_Store : PySem.W.plainOver K C_Store = true) (x_4_Store : PySem.W.findIn K (.ref C_Store) "__setattr__" = some (some (.builtin "object.__setattr__")))
    (x_5_Store_its_rows : PySem.W.findIn K (.ref C_Store) "its_rows" = some (some (.ref q_Store_its_rows))) (x_6_Store_its_rows : PySem.W.specialIn K (.ref q_Store_its_rows) "__get__" = some (some (.builtin "member_descriptor.__get__"))) (x_7_Store_its_rows : PySem.W.takesIn K (.ref q_Store_its_rows) = some true) (x_8_Store_its_rows : PySem.W.typeIn K (.ref q_Store_its_rows) = some (.type "member_descriptor")) (x_9_Store_its_rows : PySem.W.slotIn K q_Store_its_rows C_Store = some 0)
    (x_i_Store : PySem.W.isIn K (.ref C_Store) C_Store = true)
    (x_b_0 : PySem.W.findIn K (.ref C_Store) "__init__" = some (some (.ref f0))) (x_c_0 : PySem.W.isFn K (.ref f0) = true) (x_d_0 : PySem.W.makesIn K C_Store = true) (x_e_0 : PySem.W.keepIn K (.ref C_Store) = true) (l0 : K.lookup f0 = some ⟨oc0, od0, .func (PySem.W.fnOf "__init__" "Store.__init__" (defArgs s_Store___init__) (defBody s_Store___init__) (defScope s_Store___init__) .none kV0 dc0 pm0 an0 cd0 ct0), sl0⟩) (c0 : PySem.W.codeIn K cd0 "Store.__init__" = true) (k0 : PySem.W.keepIn K (.ref f0) = true)
    (x_b_1 : PySem.W.findIn K (.ref C_Store) "row" = some (some (.ref f1))) (x_c_1 : PySem.W.isFn K (.ref f1) = true) (l1 : K.lookup f1 = some ⟨oc1, od1, .func (PySem.W.fnOf "row" "Store.row" (defArgs s_Store_row) (defBody s_Store_row) (defScope s_Store_row) .none kV1 dc1 pm1 an1 cd1 ct1), sl1⟩) (c1 : PySem.W.codeIn K cd1 "Store.row" = true) (k1 : PySem.W.keepIn K (.ref f1) = true)
    (x_b_2 : PySem.W.findIn K (.ref C_Store) "count_of" = some (some (.ref f2))) (x_c_2 : PySem.W.isFn K (.ref f2) = true) (l2 : K.lookup f2 = some ⟨oc2, od2, .func (PySem.W.fnOf "count_of" "Store.count_of" (defArgs s_Store_count_of) (defBody s_Store_count_of) (defScope s_Store_count_of) .none kV2 dc2 pm2 an2 cd2 ct2), sl2⟩) (c2 : PySem.W.codeIn K cd2 "Store.count_of" = true) (k2 : PySem.W.keepIn K (.ref f2) = true)
    (x_b_3 : PySem.W.findIn K (.ref C_Store) "values_of" = some (some (.ref f3))) (x_c_3 : PySem.W.isFn K (.ref f3) = true) (l3 : K.lookup f3 = some ⟨oc3, od3, .func (PySem.W.fnOf "values_of" "Store.values_of" (defArgs s_Store_values_of) (defBody s_Store_values_of) (defScope s_Store_values_of) .none kV3 dc3 pm3 an3 cd3 ct3), sl3⟩) (c3 : PySem.W.codeIn K cd3 "Store.values_of" = true) (k3 : PySem.W.keepIn K (.ref f3) = true)
    (x_b_4 : PySem.W.findIn K (.ref C_Store) "taken" = some (some (.ref f4))) (x_c_4 : PySem.W.isFn K (.ref f4) = true) (l4 : K.lookup f4 = some ⟨oc4, od4, .func (PySem.W.fnOf "taken" "Store.taken" (defArgs s_Store_taken) (defBody s_Store_taken) (defScope s_Store_taken) .none kV4 dc4 pm4 an4 cd4 ct4), sl4⟩) (c4 : PySem.W.codeIn K cd4 "Store.taken" = true) (k4 : PySem.W.keepIn K (.ref f4) = true)
    (x_b_5 : PySem.W.findIn K (.ref C_Store) "standing" = some (some (.ref f5))) (x_c_5 : PySem.W.isFn K (.ref f5) = true) (l5 : K.lookup f5 = some ⟨oc5, od5, .func (PySem.W.fnOf "standing" "Store.standing" (defArgs s_Store_standing) (defBody s_Store_standing) (defScope s_Store_standing) .none kV5 dc5 pm5 an5 cd5 ct5), sl5⟩) (c5 : PySem.W.codeIn K cd5 "Store.standing" = true) (k5 : PySem.W.keepIn K (.ref f5) = true)
    (a6 : PySem.W.nsIn K mainGlobals "_law_bag" = some (some (.ref f6))) (l6 : K.lookup f6 = some ⟨oc6, od6, .func (PySem.W.fnOf "_law_bag" "_law_bag" (defArgs s__law_bag) (defBody s__law_bag) (defScope s__law_bag) .none kV6 dc6 pm6 an6 cd6 ct6), sl6⟩) (c6 : PySem.W.codeIn K cd6 "_law_bag" = true) (k6 : PySem.W.keepIn K (.ref f6) = true)
    (a7 : PySem.W.nsIn K mainGlobals "_law_take" = some (some (.ref f7))) (l7 : K.lookup f7 = some ⟨oc7, od7, .func (PySem.W.fnOf "_law_take" "_law_take" (defArgs s__law_take) (defBody s__law_take) (defScope s__law_take) .none kV7 dc7 pm7 an7 cd7 ct7), sl7⟩) (c7 : PySem.W.codeIn K cd7 "_law_take" = true) (k7 : PySem.W.keepIn K (.ref f7) = true)
    (a8 : PySem.W.nsIn K mainGlobals "_law_alike" = some (some (.ref f8))) (l8 : K.lookup f8 = some ⟨oc8, od8, .func (PySem.W.fnOf "_law_alike" "_law_alike" (defArgs s__law_alike) (defBody s__law_alike) (defScope s__law_alike) .none kV8 dc8 pm8 an8 cd8 ct8), sl8⟩) (c8 : PySem.W.codeIn K cd8 "_law_alike" = true) (k8 : PySem.W.keepIn K (.ref f8) = true)
    (a9 : PySem.W.nsIn K mainGlobals "_law_row" = some (some (.ref f9))) (l9 : K.lookup f9 = some ⟨oc9, od9, .func (PySem.W.fnOf "_law_row" "_law_row" (defArgs s__law_row) (defBody s__law_row) (defScope s__law_row) .none kV9 dc9 pm9 an9 cd9 ct9), sl9⟩) (c9 : PySem.W.codeIn K cd9 "_law_row" = true) (k9 : PySem.W.keepIn K (.ref f9) = true)
    (a10 : PySem.W.nsIn K mainGlobals "_law_shown" = some (some (.ref f10))) (l10 : K.lookup f10 = some ⟨oc10, od10, .func (PySem.W.fnOf "_law_shown" "_law_shown" (defArgs s__law_shown) (defBody s__law_shown) (defScope s__law_shown) .none kV10 dc10 pm10 an10 cd10 ct10), sl10⟩) (c10 : PySem.W.codeIn K cd10 "_law_shown" = true) (k10 : PySem.W.keepIn K (.ref f10) = true)
    (x_b_11 : PySem.W.findIn K (.ref C_Store) "__eq__" = some (some (.ref f11))) (x_c_11 : PySem.W.isFn K (.ref f11) = true) (l11 : K.lookup f11 = some ⟨oc11, od11, .func (PySem.W.fnOf "__eq__" "Store.__eq__" (defArgs s_Store___eq__) (defBody s_Store___eq__) (defScope s_Store___eq__) .none kV11 dc11 pm11 an11 cd11 ct11), sl11⟩) (c11 : PySem.W.codeIn K cd11 "Store.__eq__" = true) (k11 : PySem.W.keepIn K (.ref f11) = true)
    (x_b_12 : PySem.W.findIn K (.ref C_Store) "take" = some (some (.ref f12))) (x_c_12 : PySem.W.isFn K (.ref f12) = true) (l12 : K.lookup f12 = some ⟨oc12, od12, .func (PySem.W.fnOf "take" "Store.take" (defArgs s_Store_take) (defBody s_Store_take) (defScope s_Store_take) .none kV12 dc12 pm12 an12 cd12 ct12), sl12⟩) (c12 : PySem.W.codeIn K cd12 "Store.take" = true) (k12 : PySem.W.keepIn K (.ref f12) = true)
    (x_b_13 : PySem.W.findIn K (.ref C_Store) "change" = some (some (.ref f13))) (x_c_13 : PySem.W.isFn K (.ref f13) = true) (l13 : K.lookup f13 = some ⟨oc13, od13, .func (PySem.W.fnOf "change" "Store.change" (defArgs s_Store_change) (defBody s_Store_change) (defScope s_Store_change) .none kV13 dc13 pm13 an13 cd13 ct13), sl13⟩) (c13 : PySem.W.codeIn K cd13 "Store.change" = true) (k13 : PySem.W.keepIn K (.ref f13) = true)
    (x_b_14 : PySem.W.findIn K (.ref C_Store) "fill" = some (some (.ref f14))) (x_c_14 : PySem.W.isFn K (.ref f14) = true) (l14 : K.lookup f14 = some ⟨oc14, od14, .func (PySem.W.fnOf "fill" "Store.fill" (defArgs s_Store_fill) (defBody s_Store_fill) (defScope s_Store_fill) .none kV14 dc14 pm14 an14 cd14 ct14), sl14⟩) (c14 : PySem.W.codeIn K cd14 "Store.fill" = true) (k14 : PySem.W.keepIn K (.ref f14) = true)
    (x_b_15 : PySem.W.findIn K (.ref C_Store) "raise_one" = some (some (.ref f15))) (x_c_15 : PySem.W.isFn K (.ref f15) = true) (l15 : K.lookup f15 = some ⟨oc15, od15, .func (PySem.W.fnOf "raise_one" "Store.raise_one" (defArgs s_Store_raise_one) (defBody s_Store_raise_one) (defScope s_Store_raise_one) .none kV15 dc15 pm15 an15 cd15 ct15), sl15⟩) (c15 : PySem.W.codeIn K cd15 "Store.raise_one" = true) (k15 : PySem.W.keepIn K (.ref f15) = true)
    (x_b_16 : PySem.W.findIn K (.ref C_Store) "lower_one" = some (some (.ref f16))) (x_c_16 : PySem.W.isFn K (.ref f16) = true) (l16 : K.lookup f16 = some ⟨oc16, od16, .func (PySem.W.fnOf "lower_one" "Store.lower_one" (defArgs s_Store_lower_one) (defBody s_Store_lower_one) (defScope s_Store_lower_one) .none kV16 dc16 pm16 an16 cd16 ct16), sl16⟩) (c16 : PySem.W.codeIn K cd16 "Store.lower_one" = true) (k16 : PySem.W.keepIn K (.ref f16) = true)
    (a17 : PySem.W.nsIn K mainGlobals "_law_one" = some (some (.ref f17))) (l17 : K.lookup f17 = some ⟨oc17, od17, .func (PySem.W.fnOf "_law_one" "_law_one" (defArgs s__law_one) (defBody s__law_one) (defScope s__law_one) .none kV17 dc17 pm17 an17 cd17 ct17), sl17⟩) (c17 : PySem.W.codeIn K cd17 "_law_one" = true) (k17 : PySem.W.keepIn K (.ref f17) = true)
    (a18 : PySem.W.nsIn K mainGlobals "_law_looks_right" = some (some (.ref f18))) (l18 : K.lookup f18 = some ⟨oc18, od18, .func (PySem.W.fnOf "_law_looks_right" "_law_looks_right" (defArgs s__law_looks_right) (defBody s__law_looks_right) (defScope s__law_looks_right) .none kV18 dc18 pm18 an18 cd18 ct18), sl18⟩) (c18 : PySem.W.codeIn K cd18 "_law_looks_right" = true) (k18 : PySem.W.keepIn K (.ref f18) = true)
    (x_b_19 : PySem.W.findIn K (.ref C_Store) "copied" = some (some (.ref f19))) (x_c_19 : PySem.W.isFn K (.ref f19) = true) (l19 : K.lookup f19 = some ⟨oc19, od19, .func (PySem.W.fnOf "copied" "Store.copied" (defArgs s_Store_copied) (defBody s_Store_copied) (defScope s_Store_copied) .none kV19 dc19 pm19 an19 cd19 ct19), sl19⟩) (c19 : PySem.W.codeIn K cd19 "Store.copied" = true) (k19 : PySem.W.keepIn K (.ref f19) = true)
    (a20 : PySem.W.nsIn K mainGlobals "_law_done" = some (some (.ref f20))) (l20 : K.lookup f20 = some ⟨oc20, od20, .func (PySem.W.fnOf "_law_done" "_law_done" (defArgs s__law_done) (defBody s__law_done) (defScope s__law_done) .none kV20 dc20 pm20 an20 cd20 ct20), sl20⟩) (c20 : PySem.W.codeIn K cd20 "_law_done" = true) (k20 : PySem.W.keepIn K (.ref f20) = true)
    (a21 : PySem.W.nsIn K mainGlobals "law" = some (some (.ref f21))) (l21 : K.lookup f21 = some ⟨oc21, od21, .func (PySem.W.fnOf "law" "law" (defArgs s_law) (defBody s_law) (defScope s_law) .none kV21 dc21 pm21 an21 cd21 ct21), sl21⟩) (c21 : PySem.W.codeIn K cd21 "law" = true) (k21 : PySem.W.keepIn K (.ref f21) = true)
    (z0 : PySem.W.nsIn K mainGlobals "abs" = some none)
    (z1 : PySem.W.nsIn K mainGlobals "list" = some none)
    (z2 : PySem.W.nsIn K mainGlobals "sorted" = some none)
    (z3 : PySem.W.nsIn K mainGlobals "tuple" = some none)
    (z4 : PySem.W.nsIn K mainGlobals "len" = some none)
    (z5 : PySem.W.nsIn K mainGlobals "int" = some none)
    (z6 : PySem.W.nsIn K mainGlobals "repr" = some none)
    (z7 : PySem.W.nsIn K mainGlobals "isinstance" = some none)
    (z8 : PySem.W.nsIn K mainGlobals "max" = some none)
    (z9 : PySem.W.nsIn K mainGlobals "range" = some none)
    (z10 : PySem.W.nsIn K mainGlobals "dict" = some none)
    (g0 : PySem.W.nsIn K mainGlobals "EMPTY" = some (some (.ref a_EMPTY))) (m_EMPTY : K.lookup a_EMPTY = some ⟨.type "list", none, .seq #[.int 0 t_EMPTY_0, .int 0 t_EMPTY_1] n_EMPTY, s_EMPTY⟩) :
    ∃ fd : FuncData, (∀ (s : Shared) (v : Value), BindsTo s fd ⟨[v], []⟩ [("_law_script", v)]) ∧ ∀ base : Heap, K.In base → base.Ns mainGlobals mg → TBs K mg base → FnG l.prog w K mg base CX0 4 fa fd ["_law_script"] (spLaw K) := by
  have e := hfa.symm.trans (PySem.W.mg_of X G a21)
  cases e
  have mg_Store := PySem.W.mg_of X G v_Store
  have cl_Store : SlX.SCls K C_Store := ⟨x_1_Store, x_2_Store, x_3_Store, x_4_Store⟩
  have sl_Store_its_rows : SlX.Slot1 K C_Store "its_rows" q_Store_its_rows 0 := ⟨x_5_Store_its_rows, x_6_Store_its_rows, x_7_Store_its_rows, x_8_Store_its_rows, x_9_Store_its_rows, by decide⟩
  have is_Store := x_i_Store
  have D_Store___init__ : DA K "__init__" "Store.__init__" s_Store___init__ ["self"] f0 := ⟨_, fun_mk (st := s_Store___init__) l0 c0 k0, (fun_mk (st := s_Store___init__) l0 c0 k0).binds (fun _ _ _ _ _ _ us hl => match us, hl with | [_], _ => rfl)⟩
  have mk_Store : Mk K C_Store f0 := ⟨x_d_0, x_b_0, x_c_0, x_e_0⟩
  have D_Store_row : DA K "row" "Store.row" s_Store_row ["self", "number"] f1 := ⟨_, fun_mk (st := s_Store_row) l1 c1 k1, (fun_mk (st := s_Store_row) l1 c1 k1).binds (fun _ _ _ _ _ _ us hl => match us, hl with | [_, _], _ => rfl)⟩
  have me_Store_row : Meth K C_Store "row" f1 := ⟨x_b_1, x_c_1, k1⟩
  have D_Store_count_of : DA K "count_of" "Store.count_of" s_Store_count_of ["self", "number"] f2 := ⟨_, fun_mk (st := s_Store_count_of) l2 c2 k2, (fun_mk (st := s_Store_count_of) l2 c2 k2).binds (fun _ _ _ _ _ _ us hl => match us, hl with | [_, _], _ => rfl)⟩
  have me_Store_count_of : Meth K C_Store "count_of" f2 := ⟨x_b_2, x_c_2, k2⟩
  have D_Store_values_of : DA K "values_of" "Store.values_of" s_Store_values_of ["self", "number"] f3 := ⟨_, fun_mk (st := s_Store_values_of) l3 c3 k3, (fun_mk (st := s_Store_values_of) l3 c3 k3).binds (fun _ _ _ _ _ _ us hl => match us, hl with | [_, _], _ => rfl)⟩
  have me_Store_values_of : Meth K C_Store "values_of" f3 := ⟨x_b_3, x_c_3, k3⟩
  have D_Store_taken : DA K "taken" "Store.taken" s_Store_taken ["self"] f4 := ⟨_, fun_mk (st := s_Store_taken) l4 c4 k4, (fun_mk (st := s_Store_taken) l4 c4 k4).binds (fun _ _ _ _ _ _ us hl => match us, hl with | [_], _ => rfl)⟩
  have me_Store_taken : Meth K C_Store "taken" f4 := ⟨x_b_4, x_c_4, k4⟩
  have D_Store_standing : DA K "standing" "Store.standing" s_Store_standing ["self"] f5 := ⟨_, fun_mk (st := s_Store_standing) l5 c5 k5, (fun_mk (st := s_Store_standing) l5 c5 k5).binds (fun _ _ _ _ _ _ us hl => match us, hl with | [_], _ => rfl)⟩
  have me_Store_standing : Meth K C_Store "standing" f5 := ⟨x_b_5, x_c_5, k5⟩
  have D__law_bag : DP K mg "_law_bag" s__law_bag ["_law_script"] := ⟨_, _, fun_mk (st := s__law_bag) l6 c6 k6, PySem.W.mg_of X G a6, (fun_mk (st := s__law_bag) l6 c6 k6).binds (fun _ _ _ _ _ _ us hl => match us, hl with | [_], _ => rfl)⟩
  have D__law_take : DP K mg "_law_take" s__law_take ["_law_bag_here", "_law_many"] := ⟨_, _, fun_mk (st := s__law_take) l7 c7 k7, PySem.W.mg_of X G a7, (fun_mk (st := s__law_take) l7 c7 k7).binds (fun _ _ _ _ _ _ us hl => match us, hl with | [_, _], _ => rfl)⟩
  have D__law_alike : DP K mg "_law_alike" s__law_alike ["_law_found", "_law_due"] := ⟨_, _, fun_mk (st := s__law_alike) l8 c8 k8, PySem.W.mg_of X G a8, (fun_mk (st := s__law_alike) l8 c8 k8).binds (fun _ _ _ _ _ _ us hl => match us, hl with | [_, _], _ => rfl)⟩
  have D__law_row : DP K mg "_law_row" s__law_row ["_law_rows", "_law_number"] := ⟨_, _, fun_mk (st := s__law_row) l9 c9 k9, PySem.W.mg_of X G a9, (fun_mk (st := s__law_row) l9 c9 k9).binds (fun _ _ _ _ _ _ us hl => match us, hl with | [_, _], _ => rfl)⟩
  have D__law_shown : DP K mg "_law_shown" s__law_shown ["_law_rows"] := ⟨_, _, fun_mk (st := s__law_shown) l10 c10 k10, PySem.W.mg_of X G a10, (fun_mk (st := s__law_shown) l10 c10 k10).binds (fun _ _ _ _ _ _ us hl => match us, hl with | [_], _ => rfl)⟩
  have D_Store___eq__ : DA K "__eq__" "Store.__eq__" s_Store___eq__ ["self", "other"] f11 := ⟨_, fun_mk (st := s_Store___eq__) l11 c11 k11, (fun_mk (st := s_Store___eq__) l11 c11 k11).binds (fun _ _ _ _ _ _ us hl => match us, hl with | [_, _], _ => rfl)⟩
  have me_Store___eq__ : Meth K C_Store "__eq__" f11 := ⟨x_b_11, x_c_11, k11⟩
  have D_Store_take : DA K "take" "Store.take" s_Store_take ["self"] f12 := ⟨_, fun_mk (st := s_Store_take) l12 c12 k12, (fun_mk (st := s_Store_take) l12 c12 k12).binds (fun _ _ _ _ _ _ us hl => match us, hl with | [_], _ => rfl)⟩
  have me_Store_take : Meth K C_Store "take" f12 := ⟨x_b_12, x_c_12, k12⟩
  have D_Store_change : DA K "change" "Store.change" s_Store_change ["self", "number", "cell", "value"] f13 := ⟨_, fun_mk (st := s_Store_change) l13 c13 k13, (fun_mk (st := s_Store_change) l13 c13 k13).binds (fun _ _ _ _ _ _ us hl => match us, hl with | [_, _, _, _], _ => rfl)⟩
  have me_Store_change : Meth K C_Store "change" f13 := ⟨x_b_13, x_c_13, k13⟩
  have D_Store_fill : DA K "fill" "Store.fill" s_Store_fill ["self", "number", "values"] f14 := ⟨_, fun_mk (st := s_Store_fill) l14 c14 k14, (fun_mk (st := s_Store_fill) l14 c14 k14).binds (fun _ _ _ _ _ _ us hl => match us, hl with | [_, _, _], _ => rfl)⟩
  have me_Store_fill : Meth K C_Store "fill" f14 := ⟨x_b_14, x_c_14, k14⟩
  have D_Store_raise_one : DA K "raise_one" "Store.raise_one" s_Store_raise_one ["self", "number"] f15 := ⟨_, fun_mk (st := s_Store_raise_one) l15 c15 k15, (fun_mk (st := s_Store_raise_one) l15 c15 k15).binds (fun _ _ _ _ _ _ us hl => match us, hl with | [_, _], _ => rfl)⟩
  have me_Store_raise_one : Meth K C_Store "raise_one" f15 := ⟨x_b_15, x_c_15, k15⟩
  have D_Store_lower_one : DA K "lower_one" "Store.lower_one" s_Store_lower_one ["self", "number"] f16 := ⟨_, fun_mk (st := s_Store_lower_one) l16 c16 k16, (fun_mk (st := s_Store_lower_one) l16 c16 k16).binds (fun _ _ _ _ _ _ us hl => match us, hl with | [_, _], _ => rfl)⟩
  have me_Store_lower_one : Meth K C_Store "lower_one" f16 := ⟨x_b_16, x_c_16, k16⟩
  have D__law_one : DP K mg "_law_one" s__law_one ["_law_bag_here", "_law_things"] := ⟨_, _, fun_mk (st := s__law_one) l17 c17 k17, PySem.W.mg_of X G a17, (fun_mk (st := s__law_one) l17 c17 k17).binds (fun _ _ _ _ _ _ us hl => match us, hl with | [_, _], _ => rfl)⟩
  have D__law_looks_right : DP K mg "_law_looks_right" s__law_looks_right ["_law_store", "_law_rows"] := ⟨_, _, fun_mk (st := s__law_looks_right) l18 c18 k18, PySem.W.mg_of X G a18, (fun_mk (st := s__law_looks_right) l18 c18 k18).binds (fun _ _ _ _ _ _ us hl => match us, hl with | [_, _], _ => rfl)⟩
  have D_Store_copied : DA K "copied" "Store.copied" s_Store_copied ["self"] f19 := ⟨_, fun_mk (st := s_Store_copied) l19 c19 k19, (fun_mk (st := s_Store_copied) l19 c19 k19).binds (fun _ _ _ _ _ _ us hl => match us, hl with | [_], _ => rfl)⟩
  have me_Store_copied : Meth K C_Store "copied" f19 := ⟨x_b_19, x_c_19, k19⟩
  have D__law_done : DP K mg "_law_done" s__law_done ["_law_bag_here", "_law_store", "_law_rows"] := ⟨_, _, fun_mk (st := s__law_done) l20 c20 k20, PySem.W.mg_of X G a20, (fun_mk (st := s__law_done) l20 c20 k20).binds (fun _ _ _ _ _ _ us hl => match us, hl with | [_, _, _], _ => rfl)⟩
  have nb_abs := PySem.W.mg_none_of X G z0
  have nb_list := PySem.W.mg_none_of X G z1
  have nb_sorted := PySem.W.mg_none_of X G z2
  have nb_tuple := PySem.W.mg_none_of X G z3
  have nb_len := PySem.W.mg_none_of X G z4
  have nb_int := PySem.W.mg_none_of X G z5
  have nb_repr := PySem.W.mg_none_of X G z6
  have nb_isinstance := PySem.W.mg_none_of X G z7
  have nb_max := PySem.W.mg_none_of X G z8
  have nb_range := PySem.W.mg_none_of X G z9
  have nb_dict := PySem.W.mg_none_of X G z10
  have c_EMPTY := PySem.W.mg_of X G g0
  have r_EMPTY : ∀ H, SqL K H a_EMPTY [.int 0, .int 0] := fun H => .inr ⟨_, _, _, m_EMPTY, rfl, rfl, rfl, by show 2 ≤ sizeLine; decide, (.cons ⟨_, rfl⟩ (.cons ⟨_, rfl⟩ .nil))⟩
  refine ⟨PySem.W.fnOf "law" "law" (defArgs s_law) (defBody s_law) (defScope s_law) .none kV21 dc21 pm21 an21 cd21 ct21, fun s v => .of_eq rfl, fun base _ _ tbs => ?_⟩
  have h_Store___init__ := ok_Store___init__ (P := l.prog) (w := w) (base := base) D_Store___init__ mg_Store cl_Store sl_Store_its_rows
  have h_Store_row := ok_Store_row (P := l.prog) (w := w) (base := base) D_Store_row mg_Store cl_Store sl_Store_its_rows c_EMPTY r_EMPTY
  have h_Store_count_of := ok_Store_count_of (P := l.prog) (w := w) (base := base) D_Store_count_of mg_Store cl_Store sl_Store_its_rows
  have h_Store_values_of := ok_Store_values_of (P := l.prog) (w := w) (base := base) D_Store_values_of mg_Store cl_Store sl_Store_its_rows nb_list c_EMPTY r_EMPTY
  have h_Store_taken := ok_Store_taken (P := l.prog) (w := w) (base := base) D_Store_taken mg_Store cl_Store sl_Store_its_rows nb_sorted
  have h_Store_standing := ok_Store_standing (P := l.prog) (w := w) (base := base) D_Store_standing mg_Store cl_Store sl_Store_its_rows nb_sorted nb_tuple c_EMPTY r_EMPTY
  have h__law_take := ok__law_take (P := l.prog) (w := w) (base := base) D__law_take nb_len nb_int
  have h__law_alike := ok__law_alike (P := l.prog) (w := w) (base := base) D__law_alike nb_repr
  have h__law_row := ok__law_row (P := l.prog) (w := w) (base := base) D__law_row 
  have h__law_shown := ok__law_shown (P := l.prog) (w := w) (base := base) D__law_shown nb_sorted
  have h_Store___eq__ := ok_Store___eq__ (P := l.prog) (w := w) (base := base) D_Store___eq__ h_Store_standing is_Store mg_Store cl_Store me_Store_standing nb_isinstance
  have h_Store_take := ok_Store_take (P := l.prog) (w := w) (base := base) D_Store_take h_Store_count_of h_Store_row cl_Store me_Store_count_of mg_Store me_Store_row
  have h_Store_change := ok_Store_change (P := l.prog) (w := w) (base := base) D_Store_change h_Store_row cl_Store me_Store_row mg_Store
  have h_Store_fill := ok_Store_fill (P := l.prog) (w := w) (base := base) D_Store_fill h_Store_row cl_Store me_Store_row mg_Store
  have h_Store_raise_one := ok_Store_raise_one (P := l.prog) (w := w) (base := base) D_Store_raise_one h_Store_row cl_Store me_Store_row mg_Store
  have h_Store_lower_one := ok_Store_lower_one (P := l.prog) (w := w) (base := base) D_Store_lower_one h_Store_row cl_Store me_Store_row mg_Store nb_max
  have h__law_one := ok__law_one (P := l.prog) (w := w) (base := base) D__law_one h__law_take nb_len
  have h__law_looks_right := ok__law_looks_right (P := l.prog) (w := w) (base := base) D__law_looks_right h__law_row h_Store_values_of h_Store_count_of h__law_alike h_Store_taken cl_Store me_Store_values_of mg_Store me_Store_count_of me_Store_taken nb_sorted
  have h_Store_copied := ok_Store_copied (P := l.prog) (w := w) (base := base) D_Store_copied h_Store___init__ mk_Store mg_Store cl_Store sl_Store_its_rows nb_list
  have h__law_done := ok__law_done (P := l.prog) (w := w) (base := base) D__law_done h__law_one h__law_take h__law_row h_Store_take h__law_alike h_Store_raise_one h_Store_lower_one h_Store_change h_Store_fill cl_Store me_Store_take mg_Store me_Store_raise_one me_Store_lower_one me_Store_change me_Store_fill nb_list nb_max
  exact okLaw (fun_mk (st := s_law) l21 c21 k21) D__law_bag nb_abs h_Store___init__ h__law_take h_Store_taken h_Store_values_of h__law_done h_Store_copied h_Store___eq__ h__law_shown h__law_alike h__law_looks_right h_Store_take h_Store_lower_one h_Store_count_of mk_Store mg_Store cl_Store me_Store_taken me_Store_values_of me_Store_copied me_Store___eq__ me_Store_take me_Store_lower_one me_Store_count_of nb_range nb_repr nb_list nb_dict nb_len hmath
end W_k30
set_option Elab.async false
set_option linter.all false
/-! MT: tapes, in plain lists: stretches, parts, crashes. -/
namespace VT
open VC
/-! tapes: true is a write, false a sink -/
/-- how many sinks stand ahead of i -/
def str (t : List Bool) (i : Nat) : Nat := ((t.take i).filter (!·)).length
end VT
set_option Elab.async false
set_option linter.all false
set_option maxRecDepth 100000
set_option maxHeartbeats 1000000
/-! MD: dicts with text keys by a list of keys and a function; the store, evaluated. -/
namespace VL
open PySem L2
/-! ### the store -/
def sixJ (g : Nat) (e2 : List D) (d : D) (x : Nat) (objs ds : List D) : D → Option (List D)
  | .int j => (ixN ds.length j).map fun i => e2.set g (stD (objs.set x (.list (ds.set i d))))
  | _ => none
def sixF (g : Nat) (e2 : List D) (kd d : D) (x : Nat) (objs : List D) : Option D → Option (List D)
  | some (.dict ds) => if ds.length < lim then (dPutA ds kd d).map fun es => e2.set g (stD (objs.set x (.dict es))) else none
  | some (.list ds) => sixJ g e2 d x objs ds kd
  | _ => none
end VL
set_option Elab.async false
set_option linter.all false
set_option maxRecDepth 100000
set_option maxHeartbeats 2000000
/-! ME: what is done with the store, evaluated by simp: every look goes through objs[x]?. -/
namespace VL
open PySem L2
/-! ### is it a store -/
@[simp] theorem isSt_st (objs : List D) : isSt (some (stD objs)) = true := rflN rfl
@[simp] theorem isSt_last1 (objs : List D) : isSt (List.getLast? [stD objs]) = true := rflN rfl
@[simp] theorem isSt_last (a b : D) (l : List D) : isSt (List.getLast? (a :: b :: l)) = isSt (List.getLast? (b :: l)) := rflN rfl
theorem zz_stF (F : List D → Option (D × List D)) (ds : List D) : stF F ds = if isSt ds.getLast? = true then F ds else none := rflN rfl
@[simp] theorem zz_eLend (g n : Nat) (f : Ex) (env : List D) : eLend g n f env = if isSt env[g]? = true then ob (f env) fun p => if imR n p.1 = true then some (p.1, env) else none else none := by
  by_cases h : isSt env[g]? = true
  · rw [if_pos h]
    obtain ⟨objs, e⟩ := isSt_is h
    unfold eLend ob
    rw [e]
    rfl
  · rw [if_neg h]
    unfold eLend
    split
    · rename_i objs e
      exact absurd (by rw [e]; rfl) h
    · rfl
@[simp] theorem zz_bLend (g : Nat) (f : Bx) (env : List D) : bLend g f env = if isSt env[g]? = true then om (f env) fun p => (p.1, env) else none := by
  by_cases h : isSt env[g]? = true
  · rw [if_pos h]
    obtain ⟨objs, e⟩ := isSt_is h
    unfold bLend om
    rw [e]
    rfl
  · rw [if_neg h]
    unfold bLend
    split
    · rename_i objs e
      exact absurd (by rw [e]; rfl) h
    · rfl
/-! ### what may come out -/
@[simp] theorem immutR_rf (x : Nat) : immutR (rfD x) = true := rflN rfl
@[simp] theorem immutR_non : immutR .none = true := rflN rfl
@[simp] theorem immutR_bool (b : Bool) : immutR (.bool b) = true := rflN rfl
@[simp] theorem immutR_int (i : Int) : immutR (.int i) = true := rflN rfl
@[simp] theorem immutR_str (s : Str) : immutR (.str s) = true := rflN rfl
@[simp] theorem immutR_tup (xs : List D) : immutR (.tuple xs) = immutRL xs := rflN rfl
@[simp] theorem immutRL_nil : immutRL [] = true := rflN rfl
@[simp] theorem immutRL_cons (x : D) (xs : List D) : immutRL (x :: xs) = (immutR x && immutRL xs) := rflN rfl
@[simp] theorem imR_0 (d : D) : imR 0 d = immutR d := rflN (by unfold imR; rfl)
@[simp] theorem imR_lst (n : Nat) (xs : List D) : imR (n + 1) (.list xs) = imRL n xs := rflN (by rw [imR])
@[simp] theorem imR_1 (xs : List D) : imR 1 (.list xs) = imRL 0 xs := rflN (by rw [imR])
theorem imRL_all : ∀ (n : Nat) (xs : List D), imRL n xs = xs.all (imR n)
  | _, [] => by rw [imRL]; rfl
  | n, x :: xs => by rw [List.all_cons, ← imRL_all n xs, imRL]
@[simp] theorem imRL_nil (n : Nat) : imRL n [] = true := rflN (by rw [imRL])
@[simp] theorem imRL_cons (n : Nat) (x : D) (xs : List D) : imRL n (x :: xs) = (imR n x && imRL n xs) := rflN (by rw [imRL])
/-! ### looks -/
def drfO : Option D → Option D
  | some (.list ds) => some (.list ds)
  | some (.dict ds) => some (.dict ds)
  | _ => none
@[simp] theorem drfO_l (ds : List D) : drfO (some (.list ds)) = some (.list ds) := rflN rfl
@[simp] theorem drfO_d (ds : List (D × D)) : drfO (some (.dict ds)) = some (.dict ds) := rflN rfl
@[simp] theorem drf_st (objs : List D) (x : Nat) : drf (stD objs) (rfD x) = drfO objs[x]? := rflN (by
  show (match objs[x]? with | some (PyData.list ds) => some (PyData.list ds) | some (PyData.dict ds) => some (PyData.dict ds) | _ => none) = _
  cases objs[x]? with
  | none => rfl
  | some o => cases o <;> rfl)
@[simp] theorem drf_l (st : D) (ds : List D) : drf st (.list ds) = some (.list ds) := rflN rfl
@[simp] theorem drf_t (st : D) (ds : List D) : drf st (.tuple ds) = some (.tuple ds) := rflN rfl
@[simp] theorem drf_n (st : D) : drf st .none = some .none := rflN rfl
@[simp] theorem drf_b (st : D) (b : Bool) : drf st (.bool b) = some (.bool b) := rflN rfl
@[simp] theorem drf_i (st : D) (i : Int) : drf st (.int i) = some (.int i) := rflN rfl
@[simp] theorem drf_s (st : D) (s : Str) : drf st (.str s) = some (.str s) := rflN rfl
def fldU (d : D) : Option D := if isUn d = true then none else some d
@[simp] theorem fldU_rf (x : Nat) : fldU (rfD x) = some (rfD x) := rflN rfl
@[simp] theorem fldU_n : fldU .none = some .none := rflN rfl
@[simp] theorem fldU_b (b : Bool) : fldU (.bool b) = some (.bool b) := rflN rfl
@[simp] theorem fldU_i (i : Int) : fldU (.int i) = some (.int i) := rflN rfl
@[simp] theorem fldU_s (s : Str) : fldU (.str s) = some (.str s) := rflN rfl
@[simp] theorem fldU_t (xs : List D) : fldU (.tuple xs) = some (.tuple xs) := rflN rfl
@[simp] theorem fldU_l (xs : List D) : fldU (.list xs) = some (.list xs) := rflN rfl
def fldO (c : Str) (i : Nat) : Option D → Option D
  | some (.tuple (.str c' :: ds)) => if c' = c then (ds[i]?).bind fldU else none
  | _ => none
@[simp] theorem fldO_t (c c' : Str) (i : Nat) (ds : List D) : fldO c i (some (.tuple (.str c' :: ds))) = if c' = c then ob ds[i]? fldU else none := rflN rfl
@[simp] theorem fld_st (c : Str) (i : Nat) (objs : List D) (x : Nat) : fldD c i (stD objs) (rfD x) = fldO c i objs[x]? := rflN (by
  show (match objs[x]? with | some (PyData.tuple (.str c' :: ds)) => if c' = c then (ds[i]?).bind fun d => if isUn d = true then none else some d else none | _ => none) = _
  unfold fldO fldU
  rfl)
def insO (c : Str) : Option D → Bool
  | some (.tuple (.str c' :: _)) => decide (c' = c)
  | _ => false
@[simp] theorem insO_t (c c' : Str) (ds : List D) : insO c (some (.tuple (.str c' :: ds))) = decide (c' = c) := rflN rfl
@[simp] theorem ins_st (c : Str) (objs : List D) (x : Nat) : insB c (some (stD objs)) (rfD x) = insO c objs[x]? := rflN (by
  show (match objs[x]? with | some (PyData.tuple (.str c' :: _)) => decide (c' = c) | _ => false) = _
  unfold insO
  rfl)
section
variable {env : List D} {a b f fa fb fc fk fi fe : Ex} {x y : Sx}
@[simp] theorem zz_eDrf (g : Nat) : eDrf g f env = ob (f env) fun p => ob (p.2[g]?) fun st => om (drf st p.1) fun z => (z, p.2) := rflN rfl
@[simp] theorem zz_eDrf2 (g : Nat) : eDrf2 g f env = ob (f env) fun p => ob (p.2[g]?) fun st => om (drf2 st p.1) fun z => (z, p.2) := rflN rfl
@[simp] theorem zz_eFld (g : Nat) (c : Str) (i : Nat) : eFld g c i f env = ob (f env) fun p => ob (p.2[g]?) fun st => om (fldD c i st p.1) fun z => (z, p.2) := rflN rfl
@[simp] theorem zz_eIns (g : Nat) (c : Str) : eIns g c f env = ob (f env) fun p => if insB c p.2[g]? p.1 = true then some p else none := rflN rfl
@[simp] theorem zz_eIsI (g : Nat) (c : Str) : eIsI g c f env = ob (f env) fun p => if insB c p.2[g]? p.1 = true then some (.bool true, p.2) else none := rflN rfl
/-! ### new tracked things -/
def trkD2 (g : Nat) (d : D) (e : List D) : Option D → Option (D × List D)
  | some (.dict [(.tuple [.list [.bool true]], .list objs)]) => match d with
    | .dict ds => some (rfD objs.length, e.set g (stD (objs ++ [.dict ds])))
    | _ => none
  | _ => none
def trkL2 (g : Nat) (d : D) (e : List D) : Option D → Option (D × List D)
  | some (.dict [(.tuple [.list [.bool true]], .list objs)]) => match d with
    | .list ds => some (rfD objs.length, e.set g (stD (objs ++ [.list ds])))
    | _ => none
  | _ => none
@[simp] theorem trkD2_st (g : Nat) (ds : List (D × D)) (e objs : List D) : trkD2 g (.dict ds) e (some (stD objs)) = some (rfD objs.length, e.set g (stD (objs ++ [.dict ds]))) := rflN rfl
@[simp] theorem trkL2_st (g : Nat) (ds : List D) (e objs : List D) : trkL2 g (.list ds) e (some (stD objs)) = some (rfD objs.length, e.set g (stD (objs ++ [.list ds]))) := rflN rfl
@[simp] theorem zz_eTrkD (g : Nat) : eTrkD g f env = ob (f env) fun p => trkD2 g p.1 p.2 p.2[g]? := rflN (by
  unfold eTrkD ob
  congr 1
  funext p
  obtain ⟨d, e⟩ := p
  simp only
  unfold trkD2
  cases d <;> (split <;> first | (simp_all; done) | (split <;> simp_all)))
@[simp] theorem zz_eTrkL (g : Nat) : eTrkL g f env = ob (f env) fun p => trkL2 g p.1 p.2 p.2[g]? := rflN (by
  unfold eTrkL ob
  congr 1
  funext p
  obtain ⟨d, e⟩ := p
  simp only
  unfold trkL2
  cases d <;> (split <;> first | (simp_all; done) | (split <;> simp_all)))
def trkS (i g : Nat) (d : Option D) (s : Sx) (e : List D) : Option D → Option Out
  | some (.dict [(.tuple [.list [.bool true]], .list objs)]) => match d with
    | some (.dict ds) => s ((e.set g (stD (objs ++ [.dict ds]))).set i (rfD objs.length))
    | _ => none
  | _ => none
@[simp] theorem trkS_st (i g : Nat) (ds : List (D × D)) (s : Sx) (e objs : List D) : trkS i g (some (.dict ds)) s e (some (stD objs)) = s ((e.set g (stD (objs ++ [.dict ds]))).set i (rfD objs.length)) := rflN rfl
@[simp] theorem zz_sTrk (i g : Nat) (s : Sx) : sTrk i g s env = trkS i g env[i]? s env env[g]? := rflN (by
  unfold sTrk trkS
  split <;> split <;> simp_all)
/-! ### targets -/
def six2 (g : Nat) (e2 : List D) (kd d b : D) : Option D → Option (List D)
  | some (.dict [(.tuple [.list [.bool true]], .list objs)]) => match b with
    | .dict [(.tuple [.list []], .int (.ofNat x))] => sixF g e2 kd d x objs objs[x]?
    | _ => none
  | _ => none
@[simp] theorem six2_st (g : Nat) (e2 : List D) (kd d : D) (x : Nat) (objs : List D) : six2 g e2 kd d (rfD x) (some (stD objs)) = sixF g e2 kd d x objs objs[x]? := rflN rfl
@[simp] theorem sixF_d (g : Nat) (e2 : List D) (kd d : D) (x : Nat) (objs : List D) (ds : List (D × D)) : sixF g e2 kd d x objs (some (.dict ds)) = if ds.length < lim then om (dPutA ds kd d) fun es => e2.set g (stD (objs.set x (.dict es))) else none := rflN rfl
@[simp] theorem sixF_l (g : Nat) (e2 : List D) (j : Int) (d : D) (x : Nat) (objs : List D) (ds : List D) : sixF g e2 (.int j) d x objs (some (.list ds)) = om (ixN ds.length j) fun i => e2.set g (stD (objs.set x (.list (ds.set i d)))) := rflN rfl
theorem zz_gtSix0 (g : Nat) (d : D) : gtSix g fb fk d env = ob (fb env) fun b => ob (fk b.2) fun k => six2 g k.2 k.1 d b.1 k.2[g]? := by
  unfold gtSix ob
  congr 1
  funext b
  congr 1
  funext k
  obtain ⟨b1, b2⟩ := b
  obtain ⟨k1, k2⟩ := k
  simp only
  unfold six2
  split
  · rename_i h1 h2
    rw [h2]
    simp only
    unfold sixF sixJ
    split <;> first | (simp_all; done) | (simp_all; cases k1 <;> rfl)
  · rename_i h
    split
    · split
      · exact (h _ _ rfl ‹_›).elim
      · rfl
    · rfl
@[simp] theorem zz_gtSix (g : Nat) (d : D) : gtSix g fb fk d env = ob (fb env) fun b => ob (fk b.2) fun k => six2 g k.2 k.1 d b.1 k.2[g]? := rflN (zz_gtSix0 g d)
def fldS (g : Nat) (c : Str) (i : Nat) (d : D) (e : List D) (x : Nat) (objs : List D) : Option D → Option (List D)
  | some (.tuple (.str c' :: ds)) => if c' = c then some (e.set g (stD (objs.set x (.tuple (.str c' :: fldP i d ds))))) else none
  | _ => none
@[simp] theorem fldS_t (g : Nat) (c c' : Str) (i : Nat) (d : D) (e : List D) (x : Nat) (objs ds : List D) : fldS g c i d e x objs (some (.tuple (.str c' :: ds))) = if c' = c then some (e.set g (stD (objs.set x (.tuple (.str c' :: fldP i d ds))))) else none := rflN rfl
@[simp] theorem fldS_n (g : Nat) (c c' : Str) (i : Nat) (d : D) (e : List D) (x : Nat) (objs : List D) : fldS g c i d e x objs (some (newD c')) = if c' = c then some (e.set g (stD (objs.set x (.tuple (.str c' :: fldP i d []))))) else none := rflN rfl
@[simp] theorem insO_n (c c' : Str) : insO c (some (newD c')) = decide (c' = c) := rflN rfl
def fld2 (g : Nat) (c : Str) (i : Nat) (d : D) (e : List D) (b : D) : Option D → Option (List D)
  | some (.dict [(.tuple [.list [.bool true]], .list objs)]) => match b with
    | .dict [(.tuple [.list []], .int (.ofNat x))] => fldS g c i d e x objs objs[x]?
    | _ => none
  | _ => none
@[simp] theorem fld2_st (g : Nat) (c : Str) (i : Nat) (d : D) (e : List D) (x : Nat) (objs : List D) : fld2 g c i d e (rfD x) (some (stD objs)) = fldS g c i d e x objs objs[x]? := rflN rfl
theorem zz_gtFld0 (g : Nat) (c : Str) (i : Nat) (d : D) : gtFld g c i f d env = ob (f env) fun b => fld2 g c i d b.2 b.1 b.2[g]? := by
  unfold gtFld ob
  congr 1
  funext b
  obtain ⟨b1, b2⟩ := b
  simp only
  unfold fld2
  split
  · rename_i h1 h2
    rw [h2]
    simp only
    unfold fldS
    rfl
  · rename_i h
    split
    · split
      · exact (h _ _ rfl ‹_›).elim
      · rfl
    · rfl
@[simp] theorem zz_gtFld (g : Nat) (c : Str) (i : Nat) (d : D) : gtFld g c i f d env = ob (f env) fun b => fld2 g c i d b.2 b.1 b.2[g]? := rflN (zz_gtFld0 g c i d)
/-! ### a new instance -/
def newK (as : List Arg) (g : Nat) (e : List D) (objs : List D) (c : Str) : D × List D → Option (D × List D) := fun q => match q.1 with
  | .none => some (rfD objs.length, wb (.v (eC .none) :: (as ++ [.io g])) q.2 (e.set g (stD (objs ++ [newD c]))))
  | _ => none
@[simp] theorem newK_n (as : List Arg) (g : Nat) (e : List D) (objs : List D) (c : Str) (q : List D) : newK as g e objs c (.none, q) = some (rfD objs.length, wb (.v (eC .none) :: (as ++ [.io g])) q (e.set g (stD (objs ++ [newD c])))) := rflN rfl
def new2 (c : Str) (F : List D → Option (D × List D)) (as : List Arg) (g : Nat) (p : List D × List D) : Option D → Option (D × List D)
  | some (.dict [(.tuple [.list [.bool true]], .list objs)]) => ob (F (rfD objs.length :: (p.1 ++ [stD (objs ++ [newD c])]))) (newK as g p.2 objs c)
  | _ => none
@[simp] theorem new2_st (c : Str) (F : List D → Option (D × List D)) (as : List Arg) (g : Nat) (p : List D × List D) (objs : List D) : new2 c F as g p (some (stD objs)) = ob (F (rfD objs.length :: (p.1 ++ [stD (objs ++ [newD c])]))) (newK as g p.2 objs c) := rflN rfl
@[simp] theorem zz_eNew (c : Str) (F : List D → Option (D × List D)) (as : List Arg) (g : Nat) : eNew c F as g env = ob (evArgs as env) fun p => new2 c F as g p p.2[g]? := rflN (by
  unfold eNew ob new2 ob newK
  rfl)
/-! ### e[k] op= v -/
def augW (g : Nat) (op : Int → Int → Int) (x : Nat) (k : Int) (old y : Int) (e objs : List D) : Option D → Option Out
  | some (.list ds2) => if k.toNat < ds2.length then some (.nx (e.set g (stD (objs.set x (.list (ds2.set k.toNat (.int (op old y)))))))) else none
  | _ => none
@[simp] theorem augW_l (g : Nat) (op : Int → Int → Int) (x : Nat) (k old y : Int) (e objs ds2 : List D) : augW g op x k old y e objs (some (.list ds2)) = if k.toNat < ds2.length then some (.nx (e.set g (stD (objs.set x (.list (ds2.set k.toNat (.int (op old y)))))))) else none := rflN rfl
def augV (g : Nat) (op : Int → Int → Int) (x : Nat) (k : Int) (old : Int) (e : List D) (yd : D) : Option D → Option Out
  | some (.dict [(.tuple [.list [.bool true]], .list objs2)]) => match yd with
    | .int y => augW g op x k old y e objs2 objs2[x]?
    | _ => none
  | _ => none
@[simp] theorem augV_st (g : Nat) (op : Int → Int → Int) (x : Nat) (k old y : Int) (e objs : List D) : augV g op x k old e (.int y) (some (stD objs)) = augW g op x k old y e objs objs[x]? := rflN rfl
def augO (g : Nat) (op : Int → Int → Int) (fe : Ex) (x : Nat) (k : Int) (e : List D) : Option D → Option Out
  | some (.int old) => ob (fe e) fun r => augV g op x k old r.2 r.1 r.2[g]?
  | _ => none
@[simp] theorem augO_i (g : Nat) (op : Int → Int → Int) (fe : Ex) (x : Nat) (k : Int) (e : List D) (old : Int) : augO g op fe x k e (some (.int old)) = ob (fe e) fun r => augV g op x k old r.2 r.1 r.2[g]? := rflN rfl
def augL (g : Nat) (op : Int → Int → Int) (fe : Ex) (x : Nat) (k : Int) (e : List D) : Option D → Option Out
  | some (.list ds) => if 0 ≤ k then augO g op fe x k e ds[k.toNat]? else none
  | _ => none
@[simp] theorem augL_l (g : Nat) (op : Int → Int → Int) (fe : Ex) (x : Nat) (k : Int) (e ds : List D) : augL g op fe x k e (some (.list ds)) = if 0 ≤ k then augO g op fe x k e ds[k.toNat]? else none := rflN rfl
def aug2 (g : Nat) (op : Int → Int → Int) (fe : Ex) (b q : D) (e : List D) : Option D → Option Out
  | some (.dict [(.tuple [.list [.bool true]], .list objs)]) => match b, q with
    | .dict [(.tuple [.list []], .int (.ofNat x))], .int k => augL g op fe x k e objs[x]?
    | _, _ => none
  | _ => none
@[simp] theorem aug2_st (g : Nat) (op : Int → Int → Int) (fe : Ex) (x : Nat) (k : Int) (e objs : List D) : aug2 g op fe (rfD x) (.int k) e (some (stD objs)) = augL g op fe x k e objs[x]? := rflN rfl
theorem zz_augSix0 (g : Nat) (op : Int → Int → Int) : augSix g op fb fi fe env = ob (fb env) fun b => ob (fi b.2) fun q => aug2 g op fe b.1 q.1 q.2 q.2[g]? := by
  unfold augSix ob
  congr 1
  funext b
  congr 1
  funext q
  obtain ⟨b1, b2⟩ := b
  obtain ⟨q1, q2⟩ := q
  simp only
  unfold aug2
  split
  · rename_i h
    rw [h]
    simp only
    unfold augL
    split
    · rename_i ds q
      rw [q]
      simp only
      split
      · unfold augO
        split
        · rename_i old q2
          rw [q2]
          simp only
          unfold ob
          congr 1
          funext r
          obtain ⟨r1, r2⟩ := r
          simp only
          unfold augV
          split
          · rename_i y objs2 q3
            rw [q3]
            simp only
            unfold augW
            rfl
          · rename_i q3
            split
            · split
              · exact (q3 _ _ rfl ‹_›).elim
              · rfl
            · rfl
        · rename_i q2
          split
          · exact (q2 _ ‹_›).elim
          · rfl
      · rfl
    · rename_i q
      split
      · exact (q _ ‹_›).elim
      · rfl
  · rename_i h
    split
    · split
      · exact (h _ _ _ rfl rfl ‹_›).elim
      · rfl
    · rfl
@[simp] theorem zz_augSix (g : Nat) (op : Int → Int → Int) : augSix g op fb fi fe env = ob (fb env) fun b => ob (fi b.2) fun q => aug2 g op fe b.1 q.1 q.2 q.2[g]? := rflN (zz_augSix0 g op)
end
/-! ### displays with stars -/
@[simp] theorem zz_lNil (env : List D) : lNil env = some ([], env) := rflN rfl
@[simp] theorem zz_lCons (f : Ex) (F : Lx) (env : List D) : lCons f F env = ob (f env) fun p => om (F p.2) fun q => (p.1 :: q.1, q.2) := rflN rfl
@[simp] theorem zz_lStar (f : Ex) (F : Lx) (env : List D) : lStar f F env = ob (f env) fun p => ob (itemsD p.1) fun ds => om (F p.2) fun q => (ds ++ q.1, q.2) := rflN rfl
@[simp] theorem zz_eTupB (F : Lx) (env : List D) : eTupB F env = ob (F env) fun p => if p.1.length ≤ lim then some (.tuple p.1, p.2) else none := rflN rfl
@[simp] theorem zz_eLstB (F : Lx) (env : List D) : eLstB F env = ob (F env) fun p => if p.1.length ≤ lim then some (.list p.1, p.2) else none := rflN rfl
@[simp] theorem itemsD_l (ds : List D) : itemsD (.list ds) = some ds := rflN rfl
@[simp] theorem itemsD_t (ds : List D) : itemsD (.tuple ds) = some ds := rflN rfl
theorem nodup_inj {α β : Type} {f : α → β} : ∀ {l : List α} {a b : α}, (l.map f).Nodup → a ∈ l → b ∈ l → f a = f b → a = b
  | [], _, _, _, h, _, _ => by cases h
  | x :: l, a, b, nd, ha, hb, e => by
    rw [List.map_cons, List.nodup_cons] at nd
    rcases List.mem_cons.mp ha with rfl | ha' <;> rcases List.mem_cons.mp hb with rfl | hb'
    · rfl
    · exact absurd (List.mem_map.mpr ⟨b, hb', e.symm⟩) nd.1
    · exact absurd (List.mem_map.mpr ⟨a, ha', e⟩) nd.1
    · exact nodup_inj nd.2 ha' hb' e
theorem pairsOf_dI (m : List (Int × D)) : pairsOf (dI m) = m.map fun p => .tuple [.int p.1, p.2] := by simp [pairsOf, dI]
theorem okSort_items {m : List (Int × D)} (hl : m.length ≤ 1000) (ha : ∀ p ∈ m, ∀ q ∈ m, PySem.W.alike p.2 q.2 = true) (hd : ∀ p ∈ m, p.2.depth ≤ 60) (hp : ∀ p ∈ m, p.2.plain = true) : okSort (pairsOf (dI m)) = true := by
  rw [pairsOf_dI]
  have h1 : ((m.map fun p => (PyData.tuple [.int p.1, p.2] : D)).all fun d => (m.map fun p => (PyData.tuple [.int p.1, p.2] : D)).all fun e => PySem.W.alike d e) = true := by
    rw [List.all_eq_true]
    intro d md
    obtain ⟨p, mp, rfl⟩ := List.mem_map.mp md
    rw [List.all_eq_true]
    intro e me
    obtain ⟨q, mq, rfl⟩ := List.mem_map.mp me
    simp [PySem.W.alike, PySem.W.alikeAll, ha p mp q mq]
  have h2 : (m.map fun p => (PyData.tuple [.int p.1, p.2] : D)).all tupNB = true := by simp [tupNB]
  have h3 : ((m.map fun p => (PyData.tuple [.int p.1, p.2] : D)).all fun d => decide (d.depth ≤ 64)) = true := by
    rw [List.all_eq_true]
    intro d md
    obtain ⟨p, mp, rfl⟩ := List.mem_map.mp md
    have := hd p mp
    simp [PyData.depth, PyData.depthAll]
    omega
  have h4 : (m.map fun p => (PyData.tuple [.int p.1, p.2] : D)).length ≤ lim := by simp; exact Nat.le_trans hl (by decide)
  have h5 : PyData.plainAll (m.map fun p => (PyData.tuple [.int p.1, p.2] : D)) = true := by
    clear h1 h2 h3 h4 hl ha hd
    induction m with
    | nil => rfl
    | cons p m ih =>
      rw [List.map_cons]
      simp only [PyData.plainAll, PyData.plain, hp p List.mem_cons_self, Bool.true_and, Bool.and_true]
      exact ih fun q mq => hp q (List.mem_cons_of_mem _ mq)
  unfold okSort
  rw [h1, h2, h3, decide_eq_true h4, h5]
  simp
def itmK : D × List D → Option (List D × List D) := fun p => match p.1 with
  | .dict ds => if isRf ds = true then none else some (pairsOf ds, p.2)
  | _ => none
@[simp] theorem itmK_d (ds : List (D × D)) (e : List D) : itmK (.dict ds, e) = if isRf ds = true then none else some (pairsOf ds, e) := rflN rfl
@[simp] theorem zz_iItm (f : Ex) (env : List D) : iItm f env = ob (f env) itmK := rflN rfl
@[simp] theorem isRf_dI (m : List (Int × D)) : isRf (dI m) = false := by cases m <;> rfl
@[simp] theorem listD_l (xs : List D) : listD [.list xs] = some (.list xs) := rflN rfl
@[simp] theorem listD_t (xs : List D) : listD [.tuple xs] = some (.list xs) := rflN rfl
@[simp] theorem tupD_l (xs : List D) : tupD [.list xs] = some (.tuple xs) := rflN rfl
@[simp] theorem tupD_t (xs : List D) : tupD [.tuple xs] = some (.tuple xs) := rflN rfl
def copyK (g : Nat) (env objs : List D) : List (D × D) × List D → Option (D × List D) := fun p => some (rfD (objs.length + p.1.length), env.set g (stD (objs ++ p.1.map (·.2) ++ [.dict (numK objs.length p.1)])))
@[simp] theorem copyK_eq (g : Nat) (env objs : List D) (r : List (D × D)) (e : List D) : copyK g env objs (r, e) = some (rfD (objs.length + r.length), env.set g (stD (objs ++ r.map (·.2) ++ [.dict (numK objs.length r)]))) := rflN rfl
def copy2 (g : Nat) (f : List D → Option (List (D × D) × List D)) (env : List D) : Option D → Option (D × List D)
  | some (.dict [(.tuple [.list [.bool true]], .list objs)]) => ob (f env) (copyK g env objs)
  | _ => none
@[simp] theorem copy2_st (g : Nat) (f : List D → Option (List (D × D) × List D)) (env objs : List D) : copy2 g f env (some (stD objs)) = ob (f env) (copyK g env objs) := rflN rfl
@[simp] theorem zz_eCopyD (g : Nat) (f : List D → Option (List (D × D) × List D)) (env : List D) : eCopyD g f env = copy2 g f env env[g]? := rflN (by
  unfold eCopyD copy2 ob copyK
  rfl)
@[simp] theorem zz_dcDN (vs : List Nat) (fi : Ix) (gt : Gx) (fk fe : Ex) (env : List D) : dcDN vs fi gt fk fe env = ob (fi env) fun p => ob (dcLN gt fk fe p.1 p.2 []) fun q => if p.1.length ≤ 1000000 then some (q.1, restore vs env q.2) else none := rflN rfl
theorem dcLN_map {α : Type} {gt : Gx} {fk fe : Ex} (P : List D → Prop) (en : α → D) (k : α → Key) (v : α → List D) : ∀ (as : List α) (e : List D) (acc : List (D × D)), (∀ a ∈ as, ∀ e, P e → ∃ e1 e2 e3, gt (en a) e = some e1 ∧ fk e1 = some (kD (k a), e2) ∧ fe e2 = some (.list (v a), e3) ∧ P e3) → P e → (∀ a ∈ as, (v a).all scal = true) →
    (∀ a ∈ as, acc.any (isK (k a)) = false) → (as.map k).Nodup → ∃ e', dcLN gt fk fe (as.map en) e acc = some (acc ++ as.map (fun a => (kD (k a), .list (v a))), e') ∧ P e'
  | [], e, acc, _, p, _, _, _ => ⟨e, by simp [dcLN], p⟩
  | a :: as, e, acc, h, p, hs, hn, nd => by
    obtain ⟨e1, e2, e3, h1, h2, h3, p3⟩ := h a List.mem_cons_self e p
    rw [List.map_cons, List.nodup_cons] at nd
    have ke : keyOf (kD (k a)) = some (k a) := by cases k a <;> rfl
    have kk : ∀ b ∈ as, isK (k b) (kD (k a), PyData.list (v a)) = false := fun b mb => by
      unfold isK
      simp only [ke, Option.some.injEq, decide_eq_false_iff_not]
      exact fun z => nd.1 (z ▸ List.mem_map.mpr ⟨b, mb, rfl⟩)
    obtain ⟨e', h4, p'⟩ := dcLN_map P en k v as e3 (acc ++ [(kD (k a), .list (v a))]) (fun b mb => h b (List.mem_cons_of_mem _ mb)) p3 (fun b mb => hs b (List.mem_cons_of_mem _ mb)) (fun b mb => by
      rw [List.any_append, hn b (List.mem_cons_of_mem _ mb)]
      simp [kk b mb]) nd.2
    refine ⟨e', ?_, p'⟩
    rw [List.map_cons]
    unfold dcLN
    rw [h1, Option.bind_some, h2, Option.bind_some, h3, Option.bind_some]
    simp only [ke, Option.bind_some]
    rw [if_pos ⟨hs a List.mem_cons_self, hn a List.mem_cons_self⟩, h4]
    simp
def isDc : Option D → Bool
  | some (.dict _) => true
  | _ => false
@[simp] theorem isDc_d (ds : List (D × D)) : isDc (some (.dict ds)) = true := rflN rfl
theorem isDc_is {o : Option D} (h : isDc o = true) : ∃ ds, o = some (.dict ds) := by
  unfold isDc at h
  split at h
  · exact ⟨_, rfl⟩
  · cases h
theorem zz_bThw0 (i : Nat) (f : Bx) (env : List D) : bThw i f env = if isDc env[i]? = true then om (f env) fun p => (p.1, env) else none := by
  by_cases h : isDc env[i]? = true
  · rw [if_pos h]
    obtain ⟨ds, e⟩ := isDc_is h
    unfold bThw om
    rw [e]
  · rw [if_neg h]
    unfold bThw
    split
    · rename_i ds e
      exact absurd (by rw [e]; rfl) h
    · rfl
@[simp] theorem zz_bThw (i : Nat) (f : Bx) (env : List D) : bThw i f env = if isDc env[i]? = true then om (f env) fun p => (p.1, env) else none := rflN (zz_bThw0 i f env)
theorem zz_sFrz0 (i : Nat) (g : Sx) (env : List D) : sFrz i g env = if isDc env[i]? = true then g env else none := by
  by_cases h : isDc env[i]? = true
  · rw [if_pos h]
    obtain ⟨ds, e⟩ := isDc_is h
    unfold sFrz
    rw [e]
  · rw [if_neg h]
    unfold sFrz
    split
    · rename_i ds e
      exact absurd (by rw [e]; rfl) h
    · rfl
@[simp] theorem zz_sFrz (i : Nat) (g : Sx) (env : List D) : sFrz i g env = if isDc env[i]? = true then g env else none := rflN (zz_sFrz0 i g env)
theorem zz_eThw0 (i : Nat) (f : Ex) (env : List D) : eThw i f env = if isDc env[i]? = true then ob (f env) fun p => if VL.scal p.1 = true then some (p.1, env) else none else none := by
  by_cases h : isDc env[i]? = true
  · rw [if_pos h]
    obtain ⟨ds, e⟩ := isDc_is h
    unfold eThw ob
    rw [e]
  · rw [if_neg h]
    unfold eThw
    split
    · rename_i ds e
      exact absurd (by rw [e]; rfl) h
    · rfl
@[simp] theorem zz_eThw (i : Nat) (f : Ex) (env : List D) : eThw i f env = if isDc env[i]? = true then ob (f env) fun p => if VL.scal p.1 = true then some (p.1, env) else none else none := rflN (zz_eThw0 i f env)
def dx2 (i : Nat) (e : List D) (kd d : D) : Option D → Option (List D)
  | some (.dict ds) => if ds.length < lim then om (dPutA ds kd d) fun es => e.set i (.dict es) else none
  | _ => none
@[simp] theorem dx2_d (i : Nat) (e : List D) (kd d : D) (ds : List (D × D)) : dx2 i e kd d (some (.dict ds)) = if ds.length < lim then om (dPutA ds kd d) fun es => e.set i (.dict es) else none := rflN rfl
@[simp] theorem zz_gtDx (i : Nat) (fi : Ex) (d : D) (env : List D) : gtDx i fi d env = ob (fi env) fun q => dx2 i q.2 q.1 d q.2[i]? := rflN (by
  unfold gtDx ob dx2 om
  rfl)
/-! ### data with dicts, without lists, that can be shown -/
structure Rp (d : D) (dp bk : Nat) : Prop where
  sh : d.showable = true
  lv : d.leavesShort 101 = true
  dp : d.depth ≤ dp
  bk : d.bulk ≤ bk
  nl : hasL d = false
  nr : noRf d = true
theorem Rp.mono {d : D} {a b a' b' : Nat} (h : Rp d a b) (ha : a ≤ a') (hb : b ≤ b') : Rp d a' b' := ⟨h.sh, h.lv, Nat.le_trans h.dp ha, Nat.le_trans h.bk hb, h.nl, h.nr⟩
theorem Rp.repr {d : D} {a b : Nat} (h : Rp d a b) (ha : a ≤ 64) (hb : b ≤ 9000) : reprD [d] = some (.str d.shown) := by
  have q := PyData.shown_le_bulk 101 (by decide) d h.lv
  have hb' : d.bulk ≤ 9000 := Nat.le_trans h.bk hb
  have hl : d.shown.length ≤ lim := Nat.le_trans q (Nat.le_trans (Nat.add_le_add_right (Nat.mul_le_mul_left _ hb') _) (by decide))
  have hd : d.depth ≤ 64 := Nat.le_trans h.dp ha
  unfold reprD
  simp only [h.sh, hd, hl, h.nl, h.nr, decide_true, Bool.not_false, Bool.or_true, Bool.and_self, if_true]
def eqIK (e : List D) : D × List D → Option (D × List D) := fun r => match r.1 with
  | .bool t => some (.bool t, e)
  | _ => none
@[simp] theorem eqIK_b (e x : List D) (t : Bool) : eqIK e (.bool t, x) = some (.bool t, e) := rflN rfl
def eqI2 (c : Str) (F : List D → Option (D × List D)) (a b : D) (e : List D) : Option D → Option (D × List D)
  | some st => if (insB c (some st) a && insB c (some st) b) = true then ob (stF F [a, b, st]) (eqIK e) else none
  | none => none
@[simp] theorem eqI2_s (c : Str) (F : List D → Option (D × List D)) (a b : D) (e : List D) (st : D) : eqI2 c F a b e (some st) = if (insB c (some st) a && insB c (some st) b) = true then ob (stF F [a, b, st]) (eqIK e) else none := rflN rfl
@[simp] theorem zz_eEqI (g : Nat) (c : Str) (F : List D → Option (D × List D)) (fa fb : Ex) (env : List D) : eEqI g c F fa fb env = ob (fa env) fun p => ob (fb p.2) fun q => eqI2 c F p.1 q.1 q.2 q.2[g]? := rflN (by
  unfold eEqI ob eqI2 ob eqIK
  rfl)
@[simp] theorem zI_get (m : List (Int × D)) (k : Int) : dGet (dI m) (.inl k) = iGet m k := dGet_dI m k
/-- a while that counts up to L -/
theorem while_to {c : Bx} {g : Sx} (e : Nat → List D) {L : Nat} (hc : ∀ a, a < L → c (e a) = some (true, e a)) (hg : ∀ a, a < L → g (e a) = some (.nx (e (a + 1)))) (hl : c (e L) = some (false, e L)) : ∀ (k a fuel : Nat), a + k = L → k < fuel → whileF c g fuel (e a) = some (.nx (e L))
  | _, _, 0, _, h => absurd h (Nat.not_lt_zero _)
  | 0, a, fuel + 1, h, _ => by
    have : a = L := by omega
    subst this
    unfold whileF
    rw [hl]
    rfl
  | k + 1, a, fuel + 1, h, hf => by
    unfold whileF
    rw [hc a (by omega)]
    simp only [Option.bind_some, if_true]
    rw [hg a (by omega)]
    simp only [Option.bind_some]
    exact while_to e hc hg hl k (a + 1) fuel (by omega) (by omega)
@[simp] theorem itemsA_d (ds : List (D × D)) : itemsA (.dict ds) = if isRf ds = true then none else some (keysOf ds) := rflN rfl
theorem keysOf_dI (m : List (Int × D)) : keysOf (dI m) = m.map fun p => .int p.1 := by simp [keysOf, dI]
/-- lists that ascend strictly, with the same members, are the same -/
theorem asc_ext {α : Type} (f : α → Int) : ∀ (a b : List α), a.Pairwise (fun x y => f x < f y) → b.Pairwise (fun x y => f x < f y) → (∀ x, x ∈ a ↔ x ∈ b) → a = b
  | [], b, _, _, h => by
    cases b with
    | nil => rfl
    | cons y b => exact absurd ((h y).mpr List.mem_cons_self) (by simp)
  | x :: a, b, ha, hb, h => by
    cases b with
    | nil => exact absurd ((h x).mp List.mem_cons_self) (by simp)
    | cons y b =>
      have hx : x ∈ y :: b := (h x).mp List.mem_cons_self
      have hy : y ∈ x :: a := (h y).mpr List.mem_cons_self
      have e : x = y := by
        rcases List.mem_cons.mp hx with z | z
        · exact z
        · rcases List.mem_cons.mp hy with w | w
          · exact w.symm
          · have h1 := List.rel_of_pairwise_cons ha w
            have h2 := List.rel_of_pairwise_cons hb z
            omega
      subst e
      rw [asc_ext f a b (List.Pairwise.of_cons ha) (List.Pairwise.of_cons hb) fun z => ?_]
      have hz := h z
      have n1 : ∀ w ∈ a, w ≠ x := fun w hw e => by
        have := List.rel_of_pairwise_cons ha hw
        rw [e] at this
        omega
      have n2 : ∀ w ∈ b, w ≠ x := fun w hw e => by
        have := List.rel_of_pairwise_cons hb hw
        rw [e] at this
        omega
      constructor
      · intro hm
        rcases List.mem_cons.mp (hz.mp (List.mem_cons_of_mem _ hm)) with q | q
        · exact absurd q (n1 z hm)
        · exact q
      · intro hm
        rcases List.mem_cons.mp (hz.mpr (List.mem_cons_of_mem _ hm)) with q | q
        · exact absurd q (n2 z hm)
        · exact q
theorem iSort_asc {m : List (Int × D)} (nd : (m.map (·.1)).Nodup) : (iSort m).Pairwise fun a b => a.1 < b.1 := by
  have n := iSort_nodup nd
  rw [List.Nodup, List.pairwise_map] at n
  exact ((iSort_pw m).and n).imp fun ⟨h, n⟩ => by omega
theorem iSort_ext {m m' : List (Int × D)} (nd : (m.map (·.1)).Nodup) (nd' : (m'.map (·.1)).Nodup) (h : ∀ x, x ∈ m ↔ x ∈ m') : iSort m = iSort m' :=
  asc_ext (·.1) _ _ (iSort_asc nd) (iSort_asc nd') fun x => by rw [(iSort_perm m).mem_iff, (iSort_perm m').mem_iff]; exact h x
/-- integers, ascending -/
theorem srt_ints (ks : List Int) (nd : ks.Nodup) : srt (ks.map .int) = (iSort (ks.map fun k => (k, PyData.none))).map fun p => .int p.1 := by
  have := srt_keys (m := ks.map fun k => (k, PyData.none)) (by simpa [Function.comp_def] using nd)
  rw [← this]
  simp [dI, Function.comp_def]
theorem srt_ints_ext {ks js : List Int} (nd : ks.Nodup) (nd' : js.Nodup) (h : ∀ k, k ∈ ks ↔ k ∈ js) : srt (ks.map .int) = srt (js.map .int) := by
  rw [srt_ints ks nd, srt_ints js nd']
  rw [iSort_ext (m := ks.map fun k => (k, PyData.none)) (m' := js.map fun k => (k, PyData.none)) (by simpa [Function.comp_def] using nd) (by simpa [Function.comp_def] using nd') fun x => ?_]
  simp only [List.mem_map]
  constructor
  · rintro ⟨k, hk, rfl⟩; exact ⟨k, (h k).mp hk, rfl⟩
  · rintro ⟨k, hk, rfl⟩; exact ⟨k, (h k).mpr hk, rfl⟩
theorem okSort_intL (ks : List Int) (hl : ks.length ≤ 1000) : okSort (ks.map .int) = true := by
  have := okSort_keys (m := ks.map fun k => (k, PyData.none)) (by simpa using hl)
  simpa [dI, Function.comp_def] using this
def lsO : Option D → Bool
  | some (.list _) => true
  | _ => false
@[simp] theorem lsO_l (ds : List D) : lsO (some (.list ds)) = true := rflN rfl
def isLs2 (b : D) : Option D → Bool
  | some (.dict [(.tuple [.list [.bool true]], .list objs)]) => match b with
    | .dict [(.tuple [.list []], .int (.ofNat x))] => lsO objs[x]?
    | _ => false
  | _ => false
@[simp] theorem isLs2_st (x : Nat) (objs : List D) : isLs2 (rfD x) (some (stD objs)) = lsO objs[x]? := rflN rfl
theorem isLs_0 (g : Nat) (e : List D) (b : D) : isLs g e b = isLs2 b e[g]? := by
  unfold isLs
  split
  · rename_i x objs he
    rw [he]
    show _ = lsO objs[x]?
    unfold lsO
    rfl
  · rename_i h
    unfold isLs2
    split
    · split
      · exact (h _ _ rfl ‹_›).elim
      · rfl
    · rfl
@[simp] theorem zz_isLs (g : Nat) (e : List D) (b : D) : isLs g e b = isLs2 b e[g]? := rflN (isLs_0 g e b)
def mutO (g : Nat) (U : List D → List D → Option (D × List D)) (x : Nat) (xs e objs : List D) : Option D → Option (D × List D)
  | some (.list ds) => om (U ds xs) fun q => (q.1, e.set g (stD (objs.set x (.list q.2))))
  | _ => none
@[simp] theorem mutO_l (g : Nat) (U : List D → List D → Option (D × List D)) (x : Nat) (xs e objs ds : List D) : mutO g U x xs e objs (some (.list ds)) = om (U ds xs) fun q => (q.1, e.set g (stD (objs.set x (.list q.2)))) := rflN rfl
def mut3 (g : Nat) (U : List D → List D → Option (D × List D)) (b : D) (xs e : List D) : Option D → Option (D × List D)
  | some (.dict [(.tuple [.list [.bool true]], .list objs)]) => match b with
    | .dict [(.tuple [.list []], .int (.ofNat x))] => mutO g U x xs e objs objs[x]?
    | _ => none
  | _ => none
@[simp] theorem mut3_st (g : Nat) (U : List D → List D → Option (D × List D)) (x : Nat) (xs e objs : List D) : mut3 g U (rfD x) xs e (some (stD objs)) = mutO g U x xs e objs objs[x]? := rflN rfl
theorem mutS2_0 (g : Nat) (U : List D → List D → Option (D × List D)) (b : D) (p : List D × List D) : mutS2 g U b p = mut3 g U b p.1 p.2 p.2[g]? := by
  obtain ⟨xs, e⟩ := p
  unfold mutS2
  simp only
  split
  · rename_i x objs he
    rw [he]
    show _ = mutO g U x xs e objs objs[x]?
    unfold mutO om
    rfl
  · rename_i h
    unfold mut3
    split
    · split
      · exact (h _ _ rfl ‹_›).elim
      · rfl
    · rfl
@[simp] theorem zz_mutS2 (g : Nat) (U : List D → List D → Option (D × List D)) (b : D) (p : List D × List D) : mutS2 g U b p = mut3 g U b p.1 p.2 p.2[g]? := rflN (mutS2_0 g U b p)
@[simp] theorem zz_eMutS (g : Nat) (U : List D → List D → Option (D × List D)) (fb : Ex) (fs : List Ex) (env : List D) : eMutS g U fb fs env = ob (fb env) fun b => if isLs g b.2 b.1 = true then ob (evs fs b.2) (mutS2 g U b.1) else none := rflN rfl
theorem sm_ne {d : D} (h : Sm d) : neD d d = some (.bool false) := by
  have e := h.eq
  unfold eqD at e
  split at e
  · rename_i q
    unfold neD
    rw [if_pos q]
    simp only [Option.some.injEq, PyData.bool.injEq] at e
    rw [e]; rfl
  · cases e
@[simp] theorem imR_t1 (n : Nat) (xs : List D) : imR (n + 1) (.tuple xs) = imRL (n + 1) xs := rflN (by rw [imR])
@[simp] theorem imR_n (n : Nat) : imR (n + 1) .none = true := rflN (by rw [imR] <;> intros <;> contradiction)
@[simp] theorem imR_b (n : Nat) (b : Bool) : imR (n + 1) (.bool b) = true := rflN (by rw [imR] <;> intros <;> contradiction)
@[simp] theorem imR_i (n : Nat) (i : Int) : imR (n + 1) (.int i) = true := rflN (by rw [imR] <;> intros <;> contradiction)
@[simp] theorem imR_s (n : Nat) (s : Str) : imR (n + 1) (.str s) = true := rflN (by rw [imR] <;> intros <;> contradiction)
@[simp] theorem imR_1t (xs : List D) : imR 1 (.tuple xs) = imRL 1 xs := imR_t1 0 xs
@[simp] theorem imR_1n : imR 1 .none = true := imR_n 0
@[simp] theorem imR_1b (b : Bool) : imR 1 (.bool b) = true := imR_b 0 b
@[simp] theorem imR_1i (i : Int) : imR 1 (.int i) = true := imR_i 0 i
@[simp] theorem imR_1s (s : Str) : imR 1 (.str s) = true := imR_s 0 s
@[simp] theorem imR_2l (xs : List D) : imR 2 (.list xs) = imRL 1 xs := imR_lst 1 xs
@[simp] theorem imR_2t (xs : List D) : imR 2 (.tuple xs) = imRL 2 xs := imR_t1 1 xs
@[simp] theorem imR_2i (i : Int) : imR 2 (.int i) = true := imR_i 1 i
theorem dictX_I : ∀ ps : List (Int × D), dictX [.list (ps.map fun p => .tuple [.int p.1, p.2])] = some (.dict (dI (iMake ps)))
  | [] => rfl
  | p :: ps => by
    have h := dictD_I (p :: ps)
    rw [← h]
    unfold dictX
    rw [List.map_cons]
    have : pairsN (PyData.tuple [.int p.1, p.2] :: ps.map fun p => .tuple [.int p.1, p.2]) = none := rfl
    simp only [this]
end VL
set_option Elab.async false
set_option linter.all false
set_option maxRecDepth 100000
set_option maxHeartbeats 2000000
namespace W_k30
open PySem VL L2
def bagL (x y z : Int) (cs : List D) : D := .list [.int x, .int y, .int z, .list cs]
/-- what is drawn of a bag whose number is not used up -/
theorem take_pos {x y : Int} {z : Nat} {cs : List D} {n : Int} (hx : 0 < x) (hn : 0 < n) (hn2 : n < 1073741824) : F__law_take [bagL x y z cs, .int n] = some (.int (x % n), [bagL (x / n) y z cs, .int n]) := by
  have h0 : x ≠ 0 := by omega
  simp [F__law_take, runD_eq, g__law_take, bagL, atI, ixN, h0, ii, yes2, hx, modD, okMod, hn, fdivD, okDiv, hn2, gtTup, gtCons, gtIx, gtNil, immutFL]
theorem take_in {y : Int} {z : Nat} {cs : List D} {n c : Int} (hc : cs[z]? = some (.int c)) (hl : cs.length ≤ 63) (hn : 0 < n) (hn2 : n < 1073741824) : ∃ r x' y', F__law_take [bagL 0 y z cs, .int n] = some (.int r, [bagL x' y' (z + 1 : Nat) cs, .int n]) ∧ 0 ≤ r ∧ r < n ∧ (0 ≤ c → 0 ≤ x') := by
  obtain ⟨hz, ez⟩ := List.getElem?_eq_some_iff.mp hc
  have hz1 : z < cs.length := hz
  have hat : atI cs (z : Int) = some (.int c) := by unfold atI; simp [ixN, hz1, ez]
  by_cases hb : 1000000000000000000 ≤ c
  · have hc0 : c ≠ 0 := by omega
    have hc1 : 0 < c := by omega
    simp [F__law_take, runD_eq, g__law_take, bagL, atI, ixN, ii, yes2, modD, okMod, hn, fdivD, okDiv, hn2, gtTup, gtCons, gtIx, gtNil, immutFL, lim, augIx, mulD, okMul, powD, okPow, hz1, ez, hb, hc0, hc1]
    exact ⟨_, _, ⟨rfl, rfl⟩, Int.emod_nonneg _ (by omega), Int.emod_lt_of_pos _ hn, fun _ => Int.ediv_nonneg (by omega) (by omega)⟩
  · have m1 : ∀ a : Int, -18446744073709551616 < a % 1000000007 := fun a => by omega
    have m2 : ∀ a : Int, a % 1000000007 < 18446744073709551616 := fun a => by omega
    simp [F__law_take, runD_eq, g__law_take, bagL, atI, ixN, ii, yes2, modD, okMod, hn, fdivD, okDiv, hn2, gtTup, gtCons, gtIx, gtNil, immutFL, lim, augIx, mulD, okMul, powD, okPow, hz1, ez, hb, m1, m2]
    exact ⟨_, _, ⟨rfl, rfl⟩, Int.emod_nonneg _ (by omega), Int.emod_lt_of_pos _ hn, fun _ => Int.le_refl 0⟩
theorem take_out {y : Int} {z : Nat} {cs : List D} {n : Int} (hc : cs.length ≤ z) (hn : 0 < n) (hn2 : n < 1073741824) : ∃ r x' y', F__law_take [bagL 0 y z cs, .int n] = some (.int r, [bagL x' y' (z + 1 : Nat) cs, .int n]) ∧ 0 ≤ r ∧ r < n ∧ 0 ≤ x' := by
  have hz1 : ¬ z < cs.length := by omega
  have m1 : ∀ a : Int, -18446744073709551616 < a % 1000000007 := fun a => by omega
  have m2 : ∀ a : Int, a % 1000000007 < 18446744073709551616 := fun a => by omega
  simp [F__law_take, runD_eq, g__law_take, bagL, atI, ixN, ii, yes2, modD, okMod, hn, fdivD, okDiv, hn2, gtTup, gtCons, gtIx, gtNil, immutFL, lim, augIx, mulD, okMul, powD, okPow, hz1, m1, m2]
  exact ⟨_, _, ⟨rfl, rfl⟩, Int.emod_nonneg _ (by omega), Int.emod_lt_of_pos _ hn, Int.le_refl 0⟩
/-- a bag, as the laws lead it on -/
def Bag (b : D) : Prop := ∃ (x y : Int) (z : Nat) (cs : List Int), b = bagL x y z (cs.map .int) ∧ 0 ≤ x ∧ (∀ c ∈ cs, 0 ≤ c) ∧ cs.length ≤ 63
theorem take_ok {b : D} {n : Int} (hb : Bag b) (hn : 0 < n) (hn2 : n < 1073741824) : ∃ r b', F__law_take [b, .int n] = some (.int r, [b', .int n]) ∧ 0 ≤ r ∧ r < n ∧ Bag b' := by
  obtain ⟨x, y, z, cs, rfl, hx, hc, hl⟩ := hb
  by_cases h : x = 0
  · subst h
    by_cases hz : z < cs.length
    · obtain ⟨r, x', y', e, r0, r1, hx'⟩ := take_in (y := y) (z := z) (cs := cs.map .int) (n := n) (c := cs[z]) (by simp [hz]) (by simpa using hl) hn hn2
      exact ⟨r, _, e, r0, r1, x', y', z + 1, cs, rfl, hx' (hc _ (List.getElem_mem hz)), hc, hl⟩
    · obtain ⟨r, x', y', e, r0, r1, hx'⟩ := take_out (y := y) (z := z) (cs := cs.map .int) (n := n) (by simpa using hz) hn hn2
      exact ⟨r, _, e, r0, r1, x', y', z + 1, cs, rfl, hx', hc, hl⟩
  · have hp : 0 < x := by omega
    exact ⟨_, _, take_pos hp hn hn2, Int.emod_nonneg _ (by omega), Int.emod_lt_of_pos _ hn, x / n, y, z, cs, rfl, Int.ediv_nonneg hx (by omega), hc, hl⟩
theorem one_ok {b : D} {xs : List D} (hb : Bag b) (h0 : 0 < xs.length) (h1 : xs.length < 1073741824) : ∃ d b', d ∈ xs ∧ F__law_one [b, .list xs] = some (d, [b', .list xs]) ∧ Bag b' := by
  obtain ⟨r, b', e, r0, r1, hb'⟩ := take_ok hb (n := (xs.length : Int)) (by omega) (by omega)
  have hr : r.toNat < xs.length := by omega
  have hr2 : r < (xs.length : Int) := r1
  refine ⟨xs[r.toNat], b', List.getElem_mem hr, ?_, hb'⟩
  simp [F__law_one, runD_eq, g__law_one, e, atI, ixN, r0, hr2]
/-- data that can be compared and shown -/
theorem alike_sm {d : D} (h : Sm d) : F__law_alike [d, d] = some (.bool true, [d, d]) := by
  have h2 := h.eq
  have h3 := h.repr
  simp [F__law_alike, runD_eq, g__law_alike, h2, h3]
end W_k30
set_option Elab.async false
set_option linter.all false
set_option maxRecDepth 100000
set_option maxHeartbeats 2000000
namespace W_k30
open PySem VL L2
abbrev R3 := Int × Int × Int
def rowD (r : R3) : D := .list [.int r.1, .int r.2.1, .int r.2.2]
abbrev Rows := List (Int × Nat × R3)
abbrev LRows := List (Int × R3)
def rowsK (m : Rows) : List (Int × D) := m.map fun p => (p.1, rfD p.2.1)
def proj (m : Rows) : LRows := m.map fun p => (p.1, p.2.2)
def lK (l : LRows) : List (Int × D) := l.map fun p => (p.1, rowD p.2)
def lGet (l : LRows) (j : Int) : R3 := ((l.find? fun p => decide (p.1 = j)).map (·.2)).getD (0, 0, 0)
def Bnd (l : LRows) (k : Nat) : Prop := l.length ≤ k ∧ ∀ p ∈ l, 0 ≤ p.1 ∧ p.1 ≤ 41 + k ∧ 0 ≤ p.2.1 ∧ p.2.1 ≤ k ∧ 0 ≤ p.2.2.1 ∧ p.2.2.1 ≤ 100 ∧ 0 ≤ p.2.2.2 ∧ p.2.2.2 ≤ 100
def fp (n r : Nat) (m : Rows) : List Nat := n :: r :: m.map (·.2.1)
structure StoR (objs : List D) (n r : Nat) (m : Rows) : Prop where
  i1 : objs[n]? = some (.tuple [.str "Store", rfD r])
  i2 : objs[r]? = some (.dict (dI (rowsK m)))
  rows : ∀ p ∈ m, objs[p.2.1]? = some (rowD p.2.2)
  nk : (m.map (·.1)).Nodup
  nn : (m.map (·.2.1)).Nodup
theorem StoR.mono {objs objs' : List D} {n r : Nat} {m : Rows} (S : StoR objs n r m) (h : ∀ i o, i ∈ fp n r m → objs[i]? = some o → objs'[i]? = some o) : StoR objs' n r m :=
  ⟨h _ _ (by simp [fp]) S.i1, h _ _ (by simp [fp]) S.i2, fun p hp => h _ _ (by
    simp only [fp, List.mem_cons]
    exact .inr (.inr (List.mem_map.mpr ⟨p, hp, rfl⟩))) (S.rows p hp), S.nk, S.nn⟩
theorem StoR.lt {objs : List D} {n r : Nat} {m : Rows} (S : StoR objs n r m) : ∀ i ∈ fp n r m, i < objs.length := fun i hi => by
  simp only [fp, List.mem_cons] at hi
  rcases hi with rfl | rfl | hi
  · exact (List.getElem?_eq_some_iff.mp S.i1).1
  · exact (List.getElem?_eq_some_iff.mp S.i2).1
  · obtain ⟨p, hp, rfl⟩ := List.mem_map.mp hi
    exact (List.getElem?_eq_some_iff.mp (S.rows p hp)).1
theorem ext_app {objs : List D} (xs : List D) : ∀ (i : Nat) o, objs[i]? = some o → (objs ++ xs)[i]? = some o := fun i o h => by
  obtain ⟨hi, _⟩ := List.getElem?_eq_some_iff.mp h
  rw [List.getElem?_append_left hi]; exact h
/-- what stands at no place of F is kept; the new places are new -/
structure Fr (F F' : List Nat) (objs objs' : List D) : Prop where
  keep : ∀ (i : Nat) o, i ∉ F → objs[i]? = some o → objs'[i]? = some o
  new : ∀ i ∈ F', i ∈ F ∨ objs.length ≤ i
  len : objs.length ≤ objs'.length
theorem Fr.refl (F : List Nat) (objs : List D) : Fr F F objs objs := ⟨fun _ _ _ h => h, fun _ h => .inl h, Nat.le_refl _⟩
theorem Fr.trans {F F' F'' : List Nat} {a b c : List D} (h : Fr F F' a b) (h' : Fr F' F'' b c) (hF : ∀ i ∈ F, i < a.length) : Fr F F'' a c := by
  refine ⟨fun i o hi e => ?_, fun i hi => ?_, Nat.le_trans h.len h'.len⟩
  · have lt := (List.getElem?_eq_some_iff.mp e).1
    refine h'.keep i o (fun hm => ?_) (h.keep i o hi e)
    rcases h.new i hm with z | z
    · exact hi z
    · omega
  · rcases h'.new i hi with z | z
    · exact h.new i z
    · exact .inr (Nat.le_trans h.len z)
theorem init_eq {objs : List D} : stF F_Store___init__ [rfD objs.length, stD (objs ++ [newD "Store"])] = some (.none, [rfD objs.length, stD (objs ++ [.tuple [.str "Store", rfD (objs.length + 1)], .dict []])]) := by
  rw [zz_stF]
  simp [F_Store___init__, runD_eq, g_Store___init__, fldP, List.set_append]
theorem new_eq {objs : List D} : StoR (objs ++ [.tuple [.str "Store", rfD (objs.length + 1)], .dict []]) objs.length (objs.length + 1) [] :=
  ⟨by simp, by simp [rowsK, dI], (fun p hp => by cases hp), by simp, by simp⟩
theorem iGet_put_self (m : List (Int × D)) (k : Int) (v : D) : iGet (iPut m k v) k = some v := by
  unfold iPut
  split
  · rename_i h
    unfold iGet
    rw [List.find?_map]
    rw [List.any_eq_true] at h
    obtain ⟨p, hp, e⟩ := h
    have : ((fun p : Int × D => decide (p.1 = k)) ∘ fun p : Int × D => if p.1 = k then (p.1, v) else p) = fun p : Int × D => decide (p.1 = k) := by
      funext p; simp only [Function.comp]; split <;> rfl
    rw [this]
    cases q : m.find? fun p => decide (p.1 = k) with
    | none => rw [List.find?_eq_none] at q; exact absurd e (q p hp)
    | some p => have := List.find?_some q; simp at this; simp [this]
  · rename_i h
    unfold iGet
    rw [List.find?_append]
    have : m.find? (fun p => decide (p.1 = k)) = none := by
      rw [List.find?_eq_none]
      intro p hp e
      exact h (List.any_eq_true.mpr ⟨p, hp, e⟩)
    rw [this]
    simp
/-! ### looks at rows -/
theorem lGet_in {l : LRows} {j : Int} {v : R3} (nk : (l.map (·.1)).Nodup) (h : (j, v) ∈ l) : lGet l j = v := by
  unfold lGet
  cases q : l.find? fun p => decide (p.1 = j) with
  | none => rw [List.find?_eq_none] at q; exact absurd (by simp) (q _ h)
  | some p =>
    have h1 := List.find?_some q
    have h2 := List.mem_of_find?_eq_some q
    simp at h1
    have := nodup_inj nk h2 h h1
    rw [this]; rfl
theorem lGet_out {l : LRows} {j : Int} (h : j ∉ l.map (·.1)) : lGet l j = (0, 0, 0) := by
  unfold lGet
  have : l.find? (fun p => decide (p.1 = j)) = none := by
    rw [List.find?_eq_none]
    intro p hp e
    exact h (List.mem_map.mpr ⟨p, hp, by simpa using e⟩)
  rw [this]; rfl
theorem lGet_mem {l : LRows} {j : Int} (h : lGet l j ≠ (0, 0, 0)) : (j, lGet l j) ∈ l := by
  unfold lGet at h ⊢
  cases q : l.find? fun p => decide (p.1 = j) with
  | none => rw [q] at h; exact absurd rfl h
  | some p =>
    have h1 := List.find?_some q
    have h2 := List.mem_of_find?_eq_some q
    simp at h1
    subst h1
    exact h2
theorem lK_get {l : LRows} {j : Int} : iGet (lK l) j = (l.find? fun p => decide (p.1 = j)).map fun p => rowD p.2 := by
  unfold iGet lK
  rw [List.find?_map]
  have : ((fun p : Int × D => decide (p.1 = j)) ∘ fun p : Int × R3 => (p.1, rowD p.2)) = fun p : Int × R3 => decide (p.1 = j) := rfl
  rw [this]
  cases l.find? fun p => decide (p.1 = j) <;> rfl
theorem lK_some {l : LRows} {j : Int} {v : D} (h : iGet (lK l) j = some v) : v = rowD (lGet l j) := by
  rw [lK_get] at h
  unfold lGet
  cases q : l.find? fun p => decide (p.1 = j) with
  | none => rw [q] at h; cases h
  | some p => rw [q] at h; simpa using h.symm
theorem lK_none {l : LRows} {j : Int} (h : iGet (lK l) j = none) : lGet l j = (0, 0, 0) := by
  rw [lK_get] at h
  unfold lGet
  cases q : l.find? fun p => decide (p.1 = j) with
  | none => rfl
  | some p => rw [q] at h; cases h
theorem proj_k (m : Rows) : (proj m).map (·.1) = m.map (·.1) := by simp [proj, Function.comp_def]
theorem rows_none {m : Rows} {j : Int} (h : iGet (rowsK m) j = none) : j ∉ m.map (·.1) := by
  unfold iGet rowsK at h
  simp only [Option.map_eq_none_iff, List.find?_eq_none, List.mem_map] at h
  intro hm
  obtain ⟨p, hp, e⟩ := List.mem_map.mp hm
  exact h _ ⟨p, hp, rfl⟩ (by simpa using e)
theorem rows_some {m : Rows} {j : Int} {v : D} (h : iGet (rowsK m) j = some v) : ∃ x c, v = rfD x ∧ (j, x, c) ∈ m := by
  have := iGet_some h
  unfold rowsK at this
  obtain ⟨p, hp, e⟩ := List.mem_map.mp this
  cases e
  exact ⟨p.2.1, p.2.2, rfl, hp⟩
theorem Bnd.mono {l : LRows} {k k' : Nat} (h : Bnd l k) (hk : k ≤ k') : Bnd l k' := ⟨Nat.le_trans h.1 hk, fun p hp => by
  have := h.2 p hp
  omega⟩
theorem Bnd.app {l : LRows} {k : Nat} {j : Int} {v : R3} (h : Bnd l k) (hj : 0 ≤ j) (hj2 : j ≤ 42 + k) (hv : 0 ≤ v.1 ∧ v.1 ≤ k + 1 ∧ 0 ≤ v.2.1 ∧ v.2.1 ≤ 100 ∧ 0 ≤ v.2.2 ∧ v.2.2 ≤ 100) : Bnd (l ++ [(j, v)]) (k + 1) := by
  refine ⟨by have := h.1; simp; omega, fun p hp => ?_⟩
  rcases List.mem_append.mp hp with hp | hp
  · have := h.2 p hp; omega
  · cases List.mem_singleton.mp hp
    simp only
    omega
def setL (l : LRows) (j : Int) (v : R3) : LRows := if j ∈ l.map (·.1) then l.map (fun p => if p.1 = j then (p.1, v) else p) else l ++ [(j, v)]
theorem setL_put (l : LRows) (j : Int) (v : R3) : iPut (lK l) j (rowD v) = lK (setL l j v) := by
  have ha : ((lK l).any fun p => decide (p.1 = j)) = decide (j ∈ l.map (·.1)) := by
    unfold lK
    rw [List.any_map]
    rw [Bool.eq_iff_iff]
    simp [List.any_eq_true]
  unfold iPut setL
  rw [ha]
  by_cases h : j ∈ l.map (·.1)
  · rw [if_pos (by simpa using h), if_pos h]
    unfold lK
    rw [List.map_map, List.map_map]
    refine List.map_congr_left fun p _ => ?_
    simp only [Function.comp]
    split <;> rfl
  · rw [if_neg (by simpa using h), if_neg h]
    simp [lK]
theorem setL_keys (l : LRows) (j : Int) (v : R3) : (setL l j v).map (·.1) = if j ∈ l.map (·.1) then l.map (·.1) else l.map (·.1) ++ [j] := by
  unfold setL
  split
  · rw [List.map_map]
    refine List.map_congr_left fun p _ => ?_
    simp only [Function.comp]
    split <;> rfl
  · simp
theorem setL_nk {l : LRows} {j : Int} {v : R3} (h : (l.map (·.1)).Nodup) : ((setL l j v).map (·.1)).Nodup := by
  rw [setL_keys]
  split
  · exact h
  · rename_i hk
    rw [List.nodup_append]
    exact ⟨h, by simp, fun a ha b hb => by rw [List.mem_singleton.mp hb]; exact fun z => hk (z ▸ ha)⟩
theorem setL_get {l : LRows} (nk : (l.map (·.1)).Nodup) (j : Int) (v : R3) (i : Int) : lGet (setL l j v) i = if i = j then v else lGet l i := by
  by_cases h : j ∈ l.map (·.1)
  · have e : setL l j v = l.map (fun p => if p.1 = j then (p.1, v) else p) := by unfold setL; rw [if_pos h]
    rw [e]
    unfold lGet
    rw [List.find?_map]
    have : ((fun p : Int × R3 => decide (p.1 = i)) ∘ fun p : Int × R3 => if p.1 = j then (p.1, v) else p) = fun p : Int × R3 => decide (p.1 = i) := by
      funext p; simp only [Function.comp]; split <;> rfl
    rw [this]
    cases q : l.find? fun p => decide (p.1 = i) with
    | none =>
      by_cases hij : i = j
      · subst hij
        rw [List.find?_eq_none] at q
        obtain ⟨p, hp, e⟩ := List.mem_map.mp h
        exact absurd (by simpa using e) (q p hp)
      · simp [hij]
    | some p =>
      have h1 := List.find?_some q
      simp at h1
      by_cases hij : i = j
      · simp [h1, hij]
      · simp [h1, hij]
  · have e : setL l j v = l ++ [(j, v)] := by unfold setL; rw [if_neg h]
    rw [e]
    by_cases hij : i = j
    · subst hij
      rw [if_pos rfl]
      refine lGet_in ?_ (by simp)
      rw [← e]
      exact setL_nk nk
    · rw [if_neg hij]
      unfold lGet
      rw [List.find?_append]
      cases q : l.find? fun p => decide (p.1 = i) with
      | none => simp [Ne.symm hij]
      | some p => rfl
theorem setL_bnd {l : LRows} {k : Nat} {j : Int} {v : R3} (h : Bnd l k) (hj : 0 ≤ j) (hj2 : j ≤ 42 + k) (hv : 0 ≤ v.1 ∧ v.1 ≤ k + 1 ∧ 0 ≤ v.2.1 ∧ v.2.1 ≤ 100 ∧ 0 ≤ v.2.2 ∧ v.2.2 ≤ 100) : Bnd (setL l j v) (k + 1) := by
  unfold setL
  split
  · refine ⟨by rw [List.length_map]; exact Nat.le_succ_of_le h.1, fun p hp => ?_⟩
    obtain ⟨q, hq, rfl⟩ := List.mem_map.mp hp
    have := h.2 q hq
    split
    · simp only; omega
    · omega
  · exact h.app hj hj2 hv
end W_k30
set_option Elab.async false
set_option linter.all false
set_option maxRecDepth 100000
set_option maxHeartbeats 2000000
namespace W_k30
open PySem VL L2
def setC (m : Rows) (x : Nat) (d : R3) : Rows := m.map fun p => if p.2.1 = x then (p.1, p.2.1, d) else p
theorem setC_k (m : Rows) (x : Nat) (d : R3) : (setC m x d).map (·.1) = m.map (·.1) := by
  unfold setC
  rw [List.map_map]
  refine List.map_congr_left fun p _ => ?_
  simp only [Function.comp]
  split <;> rfl
theorem setC_n (m : Rows) (x : Nat) (d : R3) : (setC m x d).map (·.2.1) = m.map (·.2.1) := by
  unfold setC
  rw [List.map_map]
  refine List.map_congr_left fun p _ => ?_
  simp only [Function.comp]
  split <;> rfl
theorem setC_r (m : Rows) (x : Nat) (d : R3) : rowsK (setC m x d) = rowsK m := by
  unfold rowsK setC
  rw [List.map_map]
  refine List.map_congr_left fun p _ => ?_
  simp only [Function.comp]
  split <;> rfl
theorem StoR.set {objs : List D} {n r x : Nat} {m : Rows} {j : Int} {v : R3} (d : R3) (S : StoR objs n r m) (hm : (j, x, v) ∈ m) : StoR (objs.set x (rowD d)) n r (setC m x d) := by
  have hx := S.rows _ hm
  have nx : x ≠ n := fun e => by subst e; rw [S.i1] at hx; cases hx
  have rx : x ≠ r := fun e => by subst e; rw [S.i2] at hx; cases hx
  refine ⟨by rw [List.getElem?_set_ne nx]; exact S.i1, by rw [List.getElem?_set_ne rx, setC_r]; exact S.i2, fun p hp => ?_, by rw [setC_k]; exact S.nk, by rw [setC_n]; exact S.nn⟩
  obtain ⟨q, hq, rfl⟩ := List.mem_map.mp hp
  by_cases h : q.2.1 = x
  · rw [if_pos h]
    simp only
    rw [h]
    exact List.getElem?_set_self (List.getElem?_eq_some_iff.mp hx).1
  · rw [if_neg h, List.getElem?_set_ne (Ne.symm h)]; exact S.rows q hq
theorem proj_set {m : Rows} {j : Int} {x : Nat} {v d : R3} (nk : (m.map (·.1)).Nodup) (nn : (m.map (·.2.1)).Nodup) (hm : (j, x, v) ∈ m) : proj (setC m x d) = setL (proj m) j d := by
  unfold setL
  rw [if_pos (by rw [proj_k]; exact List.mem_map.mpr ⟨_, hm, rfl⟩)]
  unfold proj setC
  rw [List.map_map, List.map_map]
  refine List.map_congr_left fun p hp => ?_
  simp only [Function.comp]
  by_cases h : p.2.1 = x
  · have := nodup_inj nn hp hm h
    subst this
    simp
  · rw [if_neg h, if_neg]
    intro e
    have := nodup_inj nk hp hm e
    subst this
    exact h rfl
theorem row_eq {objs : List D} {n r : Nat} {m : Rows} {j : Int} (S : StoR objs n r m) (hl : m.length < 1000) : ∃ o1 x v, stF F_Store_row [rfD n, .int j, stD objs] = some (rfD x, [rfD n, .int j, stD o1]) ∧ o1[x]? = some (rowD v) ∧ v = lGet (proj m) j ∧ (x ∈ fp n r m ∨ objs.length ≤ x) ∧ (∀ (i : Nat) o, i ∉ fp n r m → objs[i]? = some o → o1[i]? = some o) ∧
    ∀ d, ∃ m', StoR (o1.set x (rowD d)) n r m' ∧ proj m' = setL (proj m) j d ∧ Fr (fp n r m) (fp n r m') objs (o1.set x (rowD d)) := by
  have h1 := S.i1
  have h2 := S.i2
  have len : (dI (rowsK m)).length < lim := by simp [dI, rowsK]; exact Nat.lt_trans hl (by decide)
  cases q : iGet (rowsK m) j with
  | some w =>
    obtain ⟨x, v, rfl, hm⟩ := rows_some q
    refine ⟨objs, x, v, ?_, S.rows _ hm, ?_, .inl (by
      simp only [fp, List.mem_cons]
      exact .inr (.inr (List.mem_map.mpr ⟨_, hm, rfl⟩))), fun _ _ _ h => h, fun d => ⟨setC m x d, S.set d hm, proj_set S.nk S.nn hm, ?_⟩⟩
    · rw [zz_stF]; simp [F_Store_row, runD_eq, g_Store_row, h1, h2, q]
    · have hp : (j, v) ∈ proj m := List.mem_map.mpr ⟨_, hm, rfl⟩
      rw [lGet_in (by rw [proj_k]; exact S.nk) hp]
    · refine ⟨fun i o hi e => ?_, fun i hi => .inl ?_, by simp⟩
      · rw [List.getElem?_set_ne fun z => hi (by
          subst z
          simp only [fp, List.mem_cons]
          exact .inr (.inr (List.mem_map.mpr ⟨_, hm, rfl⟩)))]
        exact e
      · unfold fp at hi ⊢
        rwa [setC_n] at hi
  | none =>
    have hn := rows_none q
    have g1 := ext_app [PyData.list [.int 0, .int 0, .int 0]] _ _ h1
    have g2 := ext_app [PyData.list [.int 0, .int 0, .int 0]] _ _ h2
    have nr : r ≠ n := fun e => by subst e; rw [h1] at h2; cases h2
    have lr : r < (objs ++ [rowD (0, 0, 0)]).length := (List.getElem?_eq_some_iff.mp g2).1
    have k1 : ∀ X : D, ((objs ++ [PyData.list [.int 0, .int 0, .int 0]]).set r X)[n]? = some (.tuple [.str "Store", rfD r]) := fun X => by rw [List.getElem?_set_ne nr]; exact g1
    have k2 : ∀ X : D, ((objs ++ [PyData.list [.int 0, .int 0, .int 0]]).set r X)[r]? = some X := fun X => List.getElem?_set_self lr
    have l3 : (3 : Nat) ≤ lim := by decide
    have e1 : iPut (rowsK m) j (rfD objs.length) = rowsK (m ++ [(j, objs.length, 0, 0, 0)]) := by
      rw [iPut_new (by simpa [rowsK, Function.comp_def] using hn)]
      simp [rowsK]
    have ltr := (List.getElem?_eq_some_iff.mp h2).1
    have dj : ∀ i o, objs[i]? = some o → i ≠ r → ((objs ++ [rowD (0, 0, 0)]).set r (.dict (dI (iPut (rowsK m) j (rfD objs.length)))))[i]? = some o := fun i o h hi => by
      rw [List.getElem?_set_ne (Ne.symm hi)]; exact ext_app _ _ _ h
    have S1 : StoR ((objs ++ [rowD (0, 0, 0)]).set r (.dict (dI (iPut (rowsK m) j (rfD objs.length))))) n r (m ++ [(j, objs.length, 0, 0, 0)]) := by
      refine ⟨dj _ _ h1 (Ne.symm nr), by rw [← e1]; exact k2 _, fun p hp => ?_, ?_, ?_⟩
      · rcases List.mem_append.mp hp with hp | hp
        · refine dj _ _ (S.rows p hp) fun e => ?_
          have := S.rows p hp
          rw [e, h2] at this; cases this
        · cases List.mem_singleton.mp hp
          show ((objs ++ [rowD (0, 0, 0)]).set r _)[objs.length]? = _
          rw [List.getElem?_set_ne (by omega)]
          simp
      · rw [List.map_append, List.nodup_append]
        exact ⟨S.nk, by simp, fun a ha b hb => (by
          have hb' : b = j := by simpa using hb
          rw [hb']
          exact fun z => hn (z ▸ ha))⟩
      · rw [List.map_append, List.nodup_append]
        refine ⟨S.nn, by simp, fun a ha b hb => ?_⟩
        have hb' : b = objs.length := by simpa using hb
        rw [hb']
        obtain ⟨p, hp, rfl⟩ := List.mem_map.mp ha
        have := (List.getElem?_eq_some_iff.mp (S.rows p hp)).1
        omega
    have hm : (j, objs.length, ((0, 0, 0) : R3)) ∈ m ++ [(j, objs.length, 0, 0, 0)] := by simp
    refine ⟨_, objs.length, (0, 0, 0), ?_, S1.rows _ hm, ?_, .inr (Nat.le_refl _), fun i o hi h => dj i o h fun z => hi (by subst z; simp [fp]), fun d => ⟨_, S1.set d hm, ?_, ?_⟩⟩
    · rw [zz_stF]; simp [F_Store_row, runD_eq, g_Store_row, h1, h2, q, l3, g1, g2, k1, k2, rowD, len, iGet_put_self]
    · rw [lGet_out (by rw [proj_k]; exact hn)]
    · rw [proj_set S1.nk S1.nn hm]
      unfold setL
      rw [if_pos (by rw [proj_k]; simp), if_neg (by rw [proj_k]; exact hn)]
      have : ∀ p ∈ m, p.1 ≠ j := fun p hp e => hn (List.mem_map.mpr ⟨p, hp, e⟩)
      simp only [proj, List.map_append, List.map_map, List.map_cons, List.map_nil, if_true]
      congr 1
      refine List.map_congr_left fun p hp => ?_
      simp only [Function.comp]
      rw [if_neg (this p hp)]
    · refine ⟨fun i o hi e => ?_, fun i hi => ?_, by simp⟩
      · have li := (List.getElem?_eq_some_iff.mp e).1
        rw [List.getElem?_set_ne (by omega)]
        exact dj i o e fun z => hi (by subst z; simp [fp])
      · unfold fp at hi ⊢
        rw [setC_n, List.map_append] at hi
        simp only [List.mem_cons, List.mem_append] at hi ⊢
        rcases hi with z | z | z | z
        · exact .inl (.inl z)
        · exact .inl (.inr (.inl z))
        · exact .inl (.inr (.inr z))
        · simp at z; omega
end W_k30
set_option Elab.async false
set_option linter.all false
set_option maxRecDepth 100000
set_option maxHeartbeats 2000000
namespace W_k30
open PySem VL L2
/-- what a deed of a Store leads to -/
def Led (objs : List D) (n r : Nat) (m : Rows) (l' : LRows) (objs' : List D) : Prop := ∃ m', StoR objs' n r m' ∧ proj m' = l' ∧ Fr (fp n r m) (fp n r m') objs objs'
section
variable {objs : List D} {n r : Nat} {m : Rows} {j : Int}
theorem raise_eq (S : StoR objs n r m) (hl : m.length < 1000) : ∃ objs', stF F_Store_raise_one [rfD n, .int j, stD objs] = some (.none, [rfD n, .int j, stD objs']) ∧ Led objs n r m (setL (proj m) j ((lGet (proj m) j).1 + 1, (lGet (proj m) j).2)) objs' := by
  obtain ⟨o1, x, v, e1, hx, hv, hxf, hkp, hd⟩ := row_eq (j := j) S hl
  refine ⟨o1.set x (rowD ((lGet (proj m) j).1 + 1, (lGet (proj m) j).2)), ?_, hd _⟩
  have h1 := S.i1
  subst hv
  rw [zz_stF]
  simp [F_Store_raise_one, runD_eq, g_Store_raise_one, h1, e1, hx, rowD]
theorem lower_eq (S : StoR objs n r m) (hl : m.length < 1000) : ∃ objs', stF F_Store_lower_one [rfD n, .int j, stD objs] = some (.none, [rfD n, .int j, stD objs']) ∧ Led objs n r m (setL (proj m) j (max 0 ((lGet (proj m) j).1 - 1), (lGet (proj m) j).2)) objs' := by
  obtain ⟨o1, x, v, e1, hx, hv, hxf, hkp, hd⟩ := row_eq (j := j) S hl
  refine ⟨o1.set x (rowD (max 0 ((lGet (proj m) j).1 - 1), (lGet (proj m) j).2)), ?_, hd _⟩
  have h1 := S.i1
  subst hv
  have hm : ∀ c : Int, maxB [.int 0, .int c] = some (.int (max 0 c)) := fun c => by
    simp [maxB, maxD]
    split <;> omega
  rw [zz_stF]
  simp [F_Store_lower_one, runD_eq, g_Store_lower_one, h1, e1, hx, rowD, atI, ixN, hm]
theorem change_eq {c : Int} {w : Int} (hc : c = 0 ∨ c = 1) (S : StoR objs n r m) (hl : m.length < 1000) : ∃ objs', stF F_Store_change [rfD n, .int j, .int c, .int w, stD objs] = some (.none, [rfD n, .int j, .int c, .int w, stD objs']) ∧ Led objs n r m (setL (proj m) j (if c = 0 then ((lGet (proj m) j).1, w, (lGet (proj m) j).2.2) else ((lGet (proj m) j).1, (lGet (proj m) j).2.1, w))) objs' := by
  obtain ⟨o1, x, v, e1, hx, hv, hxf, hkp, hd⟩ := row_eq (j := j) S hl
  refine ⟨_, ?_, hd _⟩
  have h1 := S.i1
  subst hv
  rw [zz_stF]
  rcases hc with rfl | rfl
  · simp [F_Store_change, runD_eq, g_Store_change, h1, e1, hx, rowD, atI, ixN]
  · simp [F_Store_change, runD_eq, g_Store_change, h1, e1, hx, rowD, atI, ixN]
theorem fill_eq {a b : Int} {x0 : Nat} (S : StoR objs n r m) (hl : m.length < 1000) (h0 : objs[x0]? = some (.list [.int a, .int b])) (hf : x0 ∉ fp n r m) : ∃ objs', stF F_Store_fill [rfD n, .int j, rfD x0, stD objs] = some (.none, [rfD n, .int j, rfD x0, stD objs']) ∧ Led objs n r m (setL (proj m) j ((lGet (proj m) j).1, a, b)) objs' := by
  obtain ⟨o1, x, v, e1, hx, hv, hxf, hkp, hd⟩ := row_eq (j := j) S hl
  refine ⟨_, ?_, hd _⟩
  have h1 := S.i1
  have lx : ∀ A : D, (o1.set x A)[x]? = some A := fun A => List.getElem?_set_self (List.getElem?_eq_some_iff.mp hx).1
  have ho := hkp _ _ hf h0
  subst hv
  rw [zz_stF]
  simp [F_Store_fill, runD_eq, g_Store_fill, h1, e1, hx, ho, rowD, atI, ixN, lx]
theorem drfV_rows : ∀ {m : Rows}, (∀ p ∈ m, objs[p.2.1]? = some (rowD p.2.2)) → drfV (stD objs) (dI (rowsK m)) = some (dI (lK (proj m)))
  | [], _ => rfl
  | p :: m, h => by
    have h1 := h p List.mem_cons_self
    have h2 := drfV_rows (m := m) fun q hq => h q (List.mem_cons_of_mem _ hq)
    show (drf (stD objs) (rfD p.2.1)).bind _ = _
    rw [drf_st, h1]
    show Option.bind (some (rowD p.2.2)) _ = _
    simp only [Option.bind_some]
    show ((drfV (stD objs) (dI (rowsK m))).map _) = _
    rw [h2]
    rfl
theorem drf2_rows (S : StoR objs n r m) : drf2 (stD objs) (rfD r) = some (.dict (dI (lK (proj m)))) := by
  unfold drf2
  rw [drf_st, S.i2, drfO_d]
  simp only [Option.bind_some]
  rw [tupK_dI, if_neg (by decide), drfV_rows S.rows]
  rfl
theorem count_eq (S : StoR objs n r m) (j : Int) : stF F_Store_count_of [rfD n, .int j, stD objs] = some (.int (lGet (proj m) j).1, [rfD n, .int j, stD objs]) := by
  have h1 := S.i1
  have h4 := drf2_rows S
  rw [zz_stF]
  cases q : iGet (lK (proj m)) j with
  | none =>
    have := lK_none q
    simp [F_Store_count_of, runD_eq, g_Store_count_of, h1, h4, q, this]
  | some v =>
    have := lK_some q
    subst this
    simp [F_Store_count_of, runD_eq, g_Store_count_of, h1, h4, q, rowD, atI, ixN]
theorem slc3 (a b c : D) : slcL (.list [a, b, c]) (some 1) none = some (.list [b, c]) := by
  unfold slcL
  simp only
  rw [if_pos (show [a, b, c].length ≤ lim from (by decide : (3 : Nat) ≤ lim))]
  rfl
theorem values_eq (S : StoR objs n r m) (j : Int) : stF F_Store_values_of [rfD n, .int j, stD objs] = some (.list [.int (lGet (proj m) j).2.1, .int (lGet (proj m) j).2.2], [rfD n, .int j, stD objs]) := by
  have h1 := S.i1
  have h4 := drf2_rows S
  rw [zz_stF]
  cases q : iGet (lK (proj m)) j with
  | none =>
    have := lK_none q
    simp [F_Store_values_of, runD_eq, g_Store_values_of, h1, h4, q, this]
  | some v =>
    have := lK_some q
    subst this
    simp [F_Store_values_of, runD_eq, g_Store_values_of, h1, h4, q, rowD, atI, ixN, slc3]
/-- the least number that is free -/
theorem least_ex (l : LRows) {k : Nat} (h : Bnd l k) : ∃ L : Nat, L ≤ 42 + k ∧ (lGet l L).1 ≤ 0 ∧ ∀ a : Nat, a < L → 0 < (lGet l a).1 := by
  have key : ∀ b : Nat, (∀ a : Nat, a < b → 0 < (lGet l a).1) ∨ ∃ L : Nat, L < b ∧ (lGet l L).1 ≤ 0 ∧ ∀ a : Nat, a < L → 0 < (lGet l a).1 := by
    intro b
    induction b with
    | zero => exact .inl fun a h => by omega
    | succ b ih =>
      rcases ih with h | ⟨L, h1, h2, h3⟩
      · by_cases z : 0 < (lGet l b).1
        · exact .inl fun a ha => by
            by_cases e : a = b
            · subst e; exact z
            · exact h a (by omega)
        · exact .inr ⟨b, by omega, by omega, h⟩
      · exact .inr ⟨L, by omega, h2, h3⟩
  rcases key (43 + k) with z | ⟨L, h1, h2, h3⟩
  · have := z (42 + k) (by omega)
    have hne : lGet l ((42 + k : Nat) : Int) ≠ (0, 0, 0) := fun e => by rw [e] at this; simp at this
    have hm := lGet_mem hne
    have := h.2 _ hm
    simp only at this
    omega
  · exact ⟨L, by omega, h2, h3⟩
def tkW : Sx := (fun env => whileF (bLend 1 (asB (eBin gtD (eCall (stF F_Store_count_of) (.v (eIns 1 "Store" (eVar 0)) :: ([.v (eVar 2)] ++ [.v (eVar 1)]))) (eC (.int 0))))) (augN 2 yes2 (· + ·) (eC (.int 1))) 1000000 env)
theorem take_eq {k : Nat} (S : StoR objs n r m) (hb : Bnd (proj m) k) (hk : k < 900) {L : Nat} (hL : L ≤ 42 + k) (h2 : (lGet (proj m) L).1 ≤ 0) (h3 : ∀ a : Nat, a < L → 0 < (lGet (proj m) a).1) : ∃ objs', stF F_Store_take [rfD n, stD objs] = some (.int L, [rfD n, stD objs']) ∧ Led objs n r m (setL (proj m) L (1, (lGet (proj m) L).2)) objs' := by
  have hl : m.length < 1000 := by
    have := hb.1
    simp [proj] at this
    omega
  obtain ⟨o1, x, v, e1, hx, hv, hxf, hkp, hd⟩ := row_eq (j := (L : Int)) S hl
  refine ⟨o1.set x (rowD (1, (lGet (proj m) L).2)), ?_, hd _⟩
  have h1 := S.i1
  subst hv
  have hw0 := while_to (c := bLend 1 (asB (eBin gtD (eCall (stF F_Store_count_of) (.v (eIns 1 "Store" (eVar 0)) :: ([.v (eVar 2)] ++ [.v (eVar 1)]))) (eC (.int 0))))) (g := augN 2 yes2 (· + ·) (eC (.int 1))) (fun a => [rfD n, stD objs, .int a]) (L := L) (fun a ha => by
      have := count_eq S (a : Int)
      have hp := h3 a ha
      simp [h1, this, hp]) (fun a ha => by
      simp [augN, yes2]) (by
      have := count_eq S (L : Int)
      simp [h1, this, h2]) L 0 1000000 (by omega) (by omega)
  have hw : tkW [rfD n, stD objs, .int 0] = some (.nx [rfD n, stD objs, .int L]) := by
    unfold tkW
    exact hw0
  clear hw0
  rw [zz_stF]
  have hs : g_Store_take = (sq (asg 2 (eC (.int 0))) (sq tkW (sq (asgG (eC (.int 1)) (gtSix 1 (eCall (stF F_Store_row) (.v (eIns 1 "Store" (eVar 0)) :: ([.v (eVar 2)] ++ [.io 1]))) (eC (.int 0)))) (retE (eVar 2))))) := rfl
  rw [F_Store_take, runD_eq, hs]
  generalize tkW = W at hw ⊢
  simp [hw, h1, e1, hx, rowD, ixN]
end
end W_k30
set_option Elab.async false
set_option linter.all false
set_option maxRecDepth 100000
set_option maxHeartbeats 2000000
namespace W_k30
open PySem VL L2
def LawR (objs : List D) (q : Nat) (l : LRows) : Prop := objs[q]? = some (.dict (dI (lK l))) ∧ (l.map (·.1)).Nodup
def nz (v : R3) : Bool := decide (v ≠ (0, 0, 0))
def tkK (l : LRows) : List Int := (l.filter fun p => decide (0 < p.2.1)).map (·.1)
def takenD (l : LRows) : D := .list (srt ((tkK l).map .int))
theorem tk_nd {l : LRows} (nk : (l.map (·.1)).Nodup) : (tkK l).Nodup := by
  unfold tkK
  exact List.Nodup.sublist (List.Sublist.map _ List.filter_sublist) nk
theorem tk_mem {l : LRows} (nk : (l.map (·.1)).Nodup) {j : Int} : j ∈ tkK l ↔ 0 < (lGet l j).1 := by
  unfold tkK
  simp only [List.mem_map, List.mem_filter, decide_eq_true_eq]
  constructor
  · rintro ⟨p, ⟨hp, h0⟩, rfl⟩
    rw [lGet_in (v := p.2) nk hp]
    exact h0
  · intro h
    have hm := lGet_mem (l := l) (j := j) fun e => by rw [e] at h; simp at h
    exact ⟨_, ⟨hm, h⟩, rfl⟩
theorem taken_ext {l l' : LRows} (nk : (l.map (·.1)).Nodup) (nk' : (l'.map (·.1)).Nodup) (h : ∀ j, lGet l j = lGet l' j) : takenD l = takenD l' := by
  unfold takenD
  rw [srt_ints_ext (tk_nd nk) (tk_nd nk') fun k => ?_]
  rw [tk_mem nk, tk_mem nk', h]
theorem tk_len {l : LRows} {k : Nat} (h : Bnd l k) : (tkK l).length ≤ k := by
  unfold tkK
  rw [List.length_map]
  exact Nat.le_trans (List.length_filter_le _ _) h.1
section
variable {objs : List D} {n r q k : Nat} {m : Rows} {l : LRows} {j : Int}
theorem tkn_eq (S : StoR objs n r m) (hb : Bnd (proj m) k) (hk : k < 900) : stF F_Store_taken [rfD n, stD objs] = some (takenD (proj m), [rfD n, stD objs]) := by
  have h1 := S.i1
  have h4 := drf2_rows S
  have hl := tk_len hb
  have hb1 := hb.1
  have hs := okSort_intL (tkK (proj m)) (by omega)
  obtain ⟨e', h6, a, b, rfl⟩ := lc_map (gt := gtTup 2 (gtCons (gtName 2) (gtCons (gtName 3) gtNil))) (tt := asB (eBin gtD (eBin ixA (eVar 3) (eC (.int 0))) (eC (.int 0)))) (fe := eVar 2)
    (fun e => ∃ a b, e = [rfD n, stD objs, a, b]) (fun p : Int × R3 => .tuple [.int p.1, rowD p.2]) (fun p => decide (0 < p.2.1)) (fun p => .int p.1) (proj m) [rfD n, stD objs, .none, .none] (fun p hp e he => by
      obtain ⟨a, b, rfl⟩ := he
      refine ⟨[rfD n, stD objs, .int p.1, rowD p.2], [rfD n, stD objs, .int p.1, rowD p.2], by simp, ?_, fun _ => ⟨_, _, rfl⟩, fun _ => ⟨[rfD n, stD objs, .int p.1, rowD p.2], by simp, _, _, rfl⟩⟩
      simp [rowD, atI, ixN]) ⟨_, _, rfl⟩
  have hp : pairsOf (dI (lK (proj m))) = (proj m).map fun p => .tuple [.int p.1, rowD p.2] := by simp [pairsOf, dI, lK, Function.comp_def]
  have ht : ((proj m).filter fun p => decide (0 < p.2.1)).map (fun p => (PyData.int p.1 : D)) = (tkK (proj m)).map .int := by simp [tkK, Function.comp_def]
  rw [ht] at h6
  have hl2 : (tkK (proj m)).length ≤ 1000000 := by omega
  rw [zz_stF]
  simp [F_Store_taken, runD_eq, g_Store_taken, h1, h4, hp, h6, hl2, hs]
  exact ⟨rfl, rfl⟩
/-! ### the law's rows -/
theorem lrow_eq (R : LawR objs q l) : stF F__law_row [rfD q, .int j, stD objs] = some (rowD (lGet l j), [rfD q, .int j, stD objs]) := by
  have h1 := R.1
  rw [zz_stF]
  cases z : iGet (lK l) j with
  | none =>
    have := lK_none z
    simp [F__law_row, runD_eq, g__law_row, h1, z, this, rowD]
  | some v =>
    have := lK_some z
    subst this
    simp [F__law_row, runD_eq, g__law_row, h1, z]
/-- the rows that are not as at the beginning, ascending -/
def NZ (l : LRows) : List (Int × D) := iSort (lK (l.filter fun p => nz p.2))
def stdT (l : LRows) : D := .tuple ((NZ l).map fun p => match p.2 with
  | .list xs => .tuple (.int p.1 :: xs)
  | _ => .none)
def shwD (l : LRows) : D := .list ((NZ l).map fun p => .tuple [.int p.1, p.2])
theorem lK_keys (l : LRows) : (lK l).map (·.1) = l.map (·.1) := by simp [lK, Function.comp_def]
theorem flt_nk {l : LRows} (nk : (l.map (·.1)).Nodup) (f : Int × R3 → Bool) : ((l.filter f).map (·.1)).Nodup := List.Nodup.sublist (List.Sublist.map _ List.filter_sublist) nk
theorem nz_mem {l : LRows} (nk : (l.map (·.1)).Nodup) {x : Int × D} : x ∈ lK (l.filter fun p => nz p.2) ↔ lGet l x.1 ≠ (0, 0, 0) ∧ x.2 = rowD (lGet l x.1) := by
  unfold lK
  simp only [List.mem_map, List.mem_filter, nz, decide_eq_true_eq]
  constructor
  · rintro ⟨p, ⟨hp, h0⟩, rfl⟩
    simp only
    rw [lGet_in (v := p.2) nk hp]
    exact ⟨h0, rfl⟩
  · rintro ⟨h0, e⟩
    exact ⟨_, ⟨lGet_mem h0, h0⟩, by rw [← e]⟩
theorem NZ_ext {l l' : LRows} (nk : (l.map (·.1)).Nodup) (nk' : (l'.map (·.1)).Nodup) (h : ∀ j, lGet l j = lGet l' j) : NZ l = NZ l' := by
  unfold NZ
  refine iSort_ext (by rw [lK_keys]; exact flt_nk nk _) (by rw [lK_keys]; exact flt_nk nk' _) fun x => ?_
  rw [nz_mem nk, nz_mem nk', h]
theorem NZ_row {l : LRows} {p : Int × D} (h : p ∈ NZ l) : ∃ v : R3, p.2 = rowD v ∧ (p.1, v) ∈ l := by
  have := (iSort_perm _).mem_iff.mp h
  unfold lK at this
  obtain ⟨q, hq, rfl⟩ := List.mem_map.mp this
  exact ⟨q.2, rfl, (List.mem_filter.mp hq).1⟩
theorem NZ_len {l : LRows} (h : Bnd l k) : (NZ l).length ≤ k := by
  unfold NZ
  rw [(iSort_perm _).length_eq]
  unfold lK
  rw [List.length_map]
  exact Nat.le_trans (List.length_filter_le _ _) h.1
theorem std_sm {l : LRows} (h : Bnd l k) (hk : k ≤ 150) : Sm (stdT l) := by
  refine Bd.sm (a := 2) (b := 5 * 150) (bd_tup (a := 1) (b := 4) (n := 150) (fun d hd => ?_) ?_) (by omega) (by omega)
  · obtain ⟨p, hp, rfl⟩ := List.mem_map.mp hd
    obtain ⟨v, e, hv⟩ := NZ_row hp
    have hb := h.2 _ hv
    simp only at hb
    rw [e]
    refine bd_tup (a := 0) (b := 0) (n := 4) (fun d hd => ?_) (by simp [rowD])
    simp [rowD] at hd
    rcases hd with rfl | rfl | rfl | rfl <;> exact bd_int (by omega)
  · rw [List.length_map]
    exact Nat.le_trans (NZ_len h) hk
theorem shw_sm {l : LRows} (h : Bnd l k) (hk : k ≤ 150) : Sm (shwD l) := by
  refine Bd.sm (a := 3) (b := 9 * 150) (bd_list (a := 2) (b := 8) (n := 150) (fun d hd => ?_) ?_) (by omega) (by omega)
  · obtain ⟨p, hp, rfl⟩ := List.mem_map.mp hd
    obtain ⟨v, e, hv⟩ := NZ_row hp
    have hb := h.2 _ hv
    simp only at hb
    rw [e]
    refine (bd_tup (a := 1) (b := 3) (n := 2) (fun d hd => ?_) (by simp)).mono (by omega) (by omega)
    simp at hd
    rcases hd with rfl | rfl
    · exact (bd_int (by omega)).mono (by omega) (by omega)
    · refine (bd_list (a := 0) (b := 0) (n := 3) (fun d hd => ?_) (by simp)).mono (by omega) (by omega)
      simp at hd
      rcases hd with rfl | rfl | rfl <;> exact bd_int (by omega)
  · rw [List.length_map]
    exact Nat.le_trans (NZ_len h) hk
/-- both ways of telling rows agree in what is equal -/
theorem eqv_both {l l' : LRows} : PyData.eqv (stdT l) (stdT l') = PyData.eqv (shwD l) (shwD l') := by
  unfold stdT shwD
  simp only [PyData.eqv]
  have ha : ∀ p ∈ NZ l, ∃ v : R3, p.2 = rowD v := fun p hp => (NZ_row hp).elim fun v h => ⟨v, h.1⟩
  have hb : ∀ p ∈ NZ l', ∃ v : R3, p.2 = rowD v := fun p hp => (NZ_row hp).elim fun v h => ⟨v, h.1⟩
  generalize NZ l = A at ha
  generalize NZ l' = B at hb
  induction A generalizing B with
  | nil => cases B <;> rfl
  | cons a A ih =>
    cases B with
    | nil => rfl
    | cons b B =>
      obtain ⟨v, e⟩ := ha a List.mem_cons_self
      obtain ⟨w, e'⟩ := hb b List.mem_cons_self
      have := ih (fun p hp => ha p (List.mem_cons_of_mem _ hp)) B fun p hp => hb p (List.mem_cons_of_mem _ hp)
      simp only [List.map_cons, e, e', rowD, PyData.eqvAll, PyData.eqv, this, Bool.and_true]
end
end W_k30
set_option Elab.async false
set_option linter.all false
set_option maxRecDepth 100000
set_option maxHeartbeats 2000000
namespace W_k30
open PySem VL L2
def oddR (p : Int × D) : Bool := !PyData.eqv p.2 (.list [.int 0, .int 0, .int 0])
theorem odd_nz (v : R3) (j : Int) : oddR (j, rowD v) = nz v := by
  obtain ⟨a, b, c⟩ := v
  simp only [oddR, rowD, PyData.eqv, PyData.eqvAll, nz]
  by_cases h : a = 0 <;> by_cases h2 : b = 0 <;> by_cases h3 : c = 0 <;> simp [h, h2, h3]
theorem NZ_filter {l : LRows} (nk : (l.map (·.1)).Nodup) : (iSort (lK l)).filter oddR = NZ l := by
  refine asc_ext (·.1) _ _ ((iSort_asc (by rw [lK_keys]; exact nk)).sublist List.filter_sublist) (iSort_asc (by rw [lK_keys]; exact flt_nk nk _)) fun x => ?_
  rw [List.mem_filter, (iSort_perm _).mem_iff, NZ, (iSort_perm _).mem_iff]
  unfold lK
  simp only [List.mem_map, List.mem_filter]
  constructor
  · rintro ⟨⟨p, hp, rfl⟩, ho⟩
    rw [odd_nz] at ho
    exact ⟨p, ⟨hp, ho⟩, rfl⟩
  · rintro ⟨p, ⟨hp, ho⟩, rfl⟩
    exact ⟨⟨p, hp, rfl⟩, by rw [odd_nz]; exact ho⟩
theorem ok_rows {l : LRows} (hl : l.length ≤ 1000) : okSort (pairsOf (dI (lK l))) = true := by
  refine okSort_items (by simpa [lK] using hl) (fun p hp q hq => ?_) (fun p hp => ?_) fun p hp => ?_
  · obtain ⟨a, _, rfl⟩ := List.mem_map.mp hp
    obtain ⟨b, _, rfl⟩ := List.mem_map.mp hq
    simp [rowD, PySem.W.alike, PySem.W.alikeAll]
  · obtain ⟨a, _, rfl⟩ := List.mem_map.mp hp
    simp [rowD, PyData.depth, PyData.depthAll]
  · obtain ⟨a, _, rfl⟩ := List.mem_map.mp hp
    simp [rowD, PyData.plain, PyData.plainAll]
section
variable {objs : List D} {n r q k : Nat} {m : Rows} {l : LRows} {j : Int}
theorem standing_eq (S : StoR objs n r m) (hb : Bnd (proj m) k) (hk : k < 900) : stF F_Store_standing [rfD n, stD objs] = some (stdT (proj m), [rfD n, stD objs]) := by
  have h1 := S.i1
  have h4 := drf2_rows S
  have hb1 := hb.1
  have nk : ((proj m).map (·.1)).Nodup := by rw [proj_k]; exact S.nk
  have h5 : sortItemsD (.dict (dI (lK (proj m)))) = some (.list ((iSort (lK (proj m))).map fun p => .tuple [.int p.1, p.2])) := by
    simp [sortItemsD, ok_rows (l := proj m) (by omega), srt_pairs (m := lK (proj m)) (by rw [lK_keys]; exact nk)]
  have l3 : (3 : Nat) ≤ lim := by decide
  have l4 : (4 : Nat) ≤ lim := by decide
  obtain ⟨e', h6, a, b, rfl⟩ := lc_map (gt := gtTup 2 (gtCons (gtName 3) (gtCons (gtName 4) gtNil))) (tt := asB (eBin neD (eVar 4) (eLstB (lCons (eC (.int 0)) (lStar (eC (.list [.int 0, .int 0])) lNil))))) (fe := eTupB (lCons (eVar 3) (lStar (eVar 4) lNil)))
    (fun e => ∃ a b, e = [rfD n, stD objs, .list ((iSort (lK (proj m))).map fun p => .tuple [.int p.1, p.2]), a, b]) (fun p : Int × D => .tuple [.int p.1, p.2]) oddR (fun p => match p.2 with
      | .list xs => .tuple (.int p.1 :: xs)
      | _ => .none) (iSort (lK (proj m))) [rfD n, stD objs, .list ((iSort (lK (proj m))).map fun p => .tuple [.int p.1, p.2]), .none, .none] (fun p hp e he => by
      obtain ⟨a, b, rfl⟩ := he
      have hp' := (iSort_perm _).mem_iff.mp hp
      obtain ⟨z, hz, rfl⟩ := List.mem_map.mp hp'
      refine ⟨[rfD n, stD objs, .list ((iSort (lK (proj m))).map fun p => .tuple [.int p.1, p.2]), .int z.1, rowD z.2], [rfD n, stD objs, .list ((iSort (lK (proj m))).map fun p => .tuple [.int p.1, p.2]), .int z.1, rowD z.2], by simp, ?_, fun _ => ⟨_, _, rfl⟩, fun _ => ⟨[rfD n, stD objs, .list ((iSort (lK (proj m))).map fun p => .tuple [.int p.1, p.2]), .int z.1, rowD z.2], ?_, _, _, rfl⟩⟩
      · have ho : halfOk (rowD z.2) (.list [.int 0, .int 0, .int 0]) = true := by
          simp [halfOk, rowD, PyData.plain, PyData.plainAll, PyData.depth, PyData.depthAll]
        simp [oddR, neD, l3, ho]
      · simp [rowD, l4]) ⟨_, _, rfl⟩
  rw [NZ_filter nk] at h6
  have hl2 : (NZ (proj m)).length ≤ 1000000 := Nat.le_trans (NZ_len hb) (by omega)
  rw [zz_stF]
  simp [F_Store_standing, runD_eq, g_Store_standing, h1, h4, h5, h6, hl2]
  exact ⟨rfl, rfl⟩
theorem half_sm {a b : D} (ha : Sm a) (hb : Sm b) : halfOk a b = true := by
  have p := (okS_all ha.ok).1
  have p' := (okS_all hb.ok).1
  simp [halfOk, p, p', ha.dp]
theorem eqI_eq {n' r' : Nat} {m' : Rows} (S : StoR objs n r m) (S' : StoR objs n' r' m') (hb : Bnd (proj m) k) (hb' : Bnd (proj m') k) (hk : k ≤ 150) : stF F_Store___eq__ [rfD n, rfD n', stD objs] = some (.bool (PyData.eqv (stdT (proj m)) (stdT (proj m'))), [rfD n, rfD n', stD objs]) := by
  have h1 := standing_eq S hb (by omega)
  have h2 := standing_eq S' hb' (by omega)
  have h3 : eqD (stdT (proj m)) (stdT (proj m')) = some (.bool (PyData.eqv (stdT (proj m)) (stdT (proj m')))) := by
    unfold eqD
    rw [if_pos (half_sm (std_sm hb hk) (std_sm hb' hk))]
  have i1 := S.i1
  have i2 := S'.i1
  rw [zz_stF]
  simp [F_Store___eq__, runD_eq, g_Store___eq__, h1, h2, h3, i1, i2]
theorem shown_eq (R : LawR objs q l) (hb : Bnd l k) (hk : k < 900) : stF F__law_shown [rfD q, stD objs] = some (shwD l, [rfD q, stD objs]) := by
  obtain ⟨h1, nk⟩ := R
  have hb1 := hb.1
  have l3 : (3 : Nat) ≤ lim := by decide
  have hg : ∀ p ∈ l, iGet (lK l) p.1 = some (rowD p.2) := fun p hp => iGet_mem (by rw [lK_keys]; exact nk) (List.mem_map.mpr ⟨p, hp, rfl⟩)
  obtain ⟨e', h6, a, rfl⟩ := lc_map (gt := gtName 2) (tt := asB (eBin neD (eBin ixA (eDrf 1 (eVar 0)) (eVar 2)) (eLst [(eC (.int 0)), (eC (.int 0)), (eC (.int 0))]))) (fe := eTup [(eVar 2), (eBin ixA (eDrf 1 (eVar 0)) (eVar 2))])
    (fun e => ∃ a, e = [rfD q, stD objs, a]) (fun p : Int × R3 => .int p.1) (fun p => nz p.2) (fun p => .tuple [.int p.1, rowD p.2]) l [rfD q, stD objs, .none] (fun p hp e he => by
      obtain ⟨a, rfl⟩ := he
      refine ⟨[rfD q, stD objs, .int p.1], [rfD q, stD objs, .int p.1], by simp, ?_, fun _ => ⟨_, rfl⟩, fun _ => ⟨[rfD q, stD objs, .int p.1], ?_, _, rfl⟩⟩
      · have ho : halfOk (rowD p.2) (.list [.int 0, .int 0, .int 0]) = true := by
          simp [halfOk, rowD, PyData.plain, PyData.plainAll, PyData.depth, PyData.depthAll]
        have := odd_nz p.2 p.1
        unfold oddR at this
        simp only at this
        simp [h1, hg p hp, neD, ho, this]
      · simp [h1, hg p hp]) ⟨_, rfl⟩
  have hk2 : keysOf (dI (lK l)) = l.map fun p => .int p.1 := by rw [keysOf_dI]; simp [lK, Function.comp_def]
  have hp : ((l.filter fun p => nz p.2).map fun p => (PyData.tuple [.int p.1, rowD p.2] : D)) = pairsOf (dI (lK (l.filter fun p => nz p.2))) := by simp [pairsOf, dI, lK, Function.comp_def]
  rw [hp] at h6
  have fl : (l.filter fun p => nz p.2).length ≤ k := Nat.le_trans (List.length_filter_le _ _) hb1
  have hs := ok_rows (l := l.filter fun p => nz p.2) (by omega)
  have hs2 := srt_pairs (m := lK (l.filter fun p => nz p.2)) (by rw [lK_keys]; exact flt_nk nk _)
  have hl2 : (pairsOf (dI (lK (l.filter fun p => nz p.2)))).length ≤ 1000000 := by simp [pairsOf, dI, lK]; omega
  rw [zz_stF]
  simp [F__law_shown, runD_eq, g__law_shown, h1, hk2, h6, hl2, hs, hs2]
  exact ⟨rfl, rfl⟩
end
end W_k30
set_option Elab.async false
set_option linter.all false
set_option maxRecDepth 100000
set_option maxHeartbeats 2000000
namespace W_k30
open PySem VL L2
theorem numK_cnt : ∀ (m : Rows) (b : Nat), numK b (dI (lK (proj m))) = dI (rowsK ((m.zipIdx b).map fun q => (q.1.1, q.2, q.1.2.2)))
  | [], _ => rfl
  | p :: m, b => by
    have := numK_cnt m (b + 1)
    simp only [List.zipIdx_cons, List.map_cons]
    show (PyData.int p.1, rfD b) :: numK (b + 1) (dI (lK (proj m))) = _
    rw [this]
    rfl
theorem copied_eq {objs : List D} {n r k : Nat} {m : Rows} (S : StoR objs n r m) (hb : Bnd (proj m) k) (hk : k < 900) : ∃ objs' n' r' m', stF F_Store_copied [rfD n, stD objs] = some (rfD n', [rfD n, stD objs']) ∧ StoR objs' n' r' m' ∧ proj m' = proj m ∧ (∀ (i : Nat) o, objs[i]? = some o → objs'[i]? = some o) ∧ ∀ i ∈ fp n' r' m', objs.length ≤ i := by
  have i0 := init_eq (objs := objs)
  obtain ⟨o1, ho1⟩ : ∃ o1, o1 = objs ++ [PyData.tuple [.str "Store", rfD (objs.length + 1)], .dict []] := ⟨_, rfl⟩
  rw [← ho1] at i0
  have x1 : ∀ (i : Nat) o, objs[i]? = some o → o1[i]? = some o := by rw [ho1]; exact ext_app _
  have S1 := S.mono fun i o _ => x1 i o
  have g1 := S1.i1
  have d2 := drf2_rows S1
  have e : o1[objs.length]? = some (PyData.tuple [.str "Store", rfD (objs.length + 1)]) := by simp [ho1]
  have l1 : o1.length = objs.length + 2 := by simp [ho1]
  have hl : m.length ≤ 1000000 := by
    have := hb.1
    simp [proj] at this
    omega
  obtain ⟨e', h8, a, b, rfl⟩ := dcLN_map (gt := gtTup 2 (gtCons (gtName 3) (gtCons (gtName 4) gtNil))) (fk := eVar 3) (fe := eNs listD [eVar 4])
    (fun e => ∃ a b, e = [rfD n, stD o1, rfD objs.length, a, b]) (fun p : Int × Nat × R3 => .tuple [.int p.1, rowD p.2.2]) (fun p => .inl p.1) (fun p => [.int p.2.2.1, .int p.2.2.2.1, .int p.2.2.2.2]) m [rfD n, stD o1, rfD objs.length, .none, .none] [] (fun p hp e he => by
      obtain ⟨a, b, rfl⟩ := he
      exact ⟨[rfD n, stD o1, rfD objs.length, .int p.1, rowD p.2.2], _, [rfD n, stD o1, rfD objs.length, .int p.1, rowD p.2.2], by simp, rfl, by simp [rowD], _, _, rfl⟩) ⟨_, _, rfl⟩ (fun p hp => by simp [VL.scal]) (fun p hp => by simp) (by
      have h4 := S.nk
      rw [List.Nodup, List.pairwise_map] at h4 ⊢
      exact h4.imp fun h z => h (Sum.inl.inj z))
  have hit : pairsOf (dI (lK (proj m))) = m.map fun p => .tuple [.int p.1, rowD p.2.2] := by simp [pairsOf, dI, lK, proj, Function.comp_def]
  have hr : (m.map fun p => ((kD (.inl p.1), PyData.list [.int p.2.2.1, .int p.2.2.2.1, .int p.2.2.2.2]) : D × D)) = dI (lK (proj m)) := by simp [dI, lK, proj, rowD, kD, Function.comp_def]
  rw [List.nil_append, hr] at h8
  obtain ⟨m', hm'⟩ : ∃ m', m' = (m.zipIdx o1.length).map fun q => (q.1.1, q.2, q.1.2.2) := ⟨_, rfl⟩
  have nk := numK_cnt m o1.length
  rw [← hm'] at nk
  have lm : (dI (lK (proj m))).length = m.length := by simp [dI, lK, proj]
  obtain ⟨o2, ho2⟩ : ∃ o2, o2 = o1 ++ (dI (lK (proj m))).map (·.2) ++ [.dict (dI (rowsK m'))] := ⟨_, rfl⟩
  have e2 : o2[objs.length]? = some (PyData.tuple [.str "Store", rfD (objs.length + 1)]) := by rw [ho2]; exact ext_app _ _ _ (ext_app _ _ _ e)
  have x3 : ∀ (i : Nat) o, i ≠ objs.length → o2[i]? = some o → (o2.set objs.length (.tuple [.str "Store", rfD (o1.length + m.length)]))[i]? = some o := fun i o h h' => by
    rw [List.getElem?_set_ne (Ne.symm h)]; exact h'
  have x4 : ∀ (i : Nat) o, objs[i]? = some o → (o2.set objs.length (.tuple [.str "Store", rfD (o1.length + m.length)]))[i]? = some o := fun i o h => by
    have hi := (List.getElem?_eq_some_iff.mp h).1
    exact x3 _ _ (by omega) (by rw [ho2]; exact ext_app _ _ _ (ext_app _ _ _ (x1 _ _ h)))
  have gm : ∀ q ∈ m.zipIdx o1.length, o1.length ≤ q.2 ∧ m[q.2 - o1.length]? = some q.1 := fun q hq => List.mem_zipIdx_iff_le_and_getElem?_sub.mp hq
  refine ⟨_, objs.length, o1.length + m.length, m', ?_, ⟨List.getElem?_set_self (List.getElem?_eq_some_iff.mp e2).1, ?_, fun p hp => ?_, ?_, ?_⟩, ?_, x4, fun i hi => ?_⟩
  · have r5 : restore [3, 4] [rfD n, stD o1, rfD objs.length, .none, .none] [rfD n, stD o1, rfD objs.length, a, b] = [rfD n, stD o1, rfD objs.length, .none, .none] := rfl
    rw [zz_stF]
    have e2' : ((o1 ++ ((dI (lK (proj m))).map (·.2) ++ [.dict (dI (rowsK m'))])) : List D)[objs.length]? = some (PyData.tuple [.str "Store", rfD (objs.length + 1)]) := by rw [← List.append_assoc, ← ho2]; exact e2
    simp [F_Store_copied, runD_eq, g_Store_copied, i0, ← ho1, g1, d2, hit, h8, r5, hl, lm, nk, e2', fldP, ho2]
  · exact x3 _ _ (by omega) (by
      rw [ho2, show o1.length + m.length = (o1 ++ (dI (lK (proj m))).map (·.2)).length by simp [dI, lK, proj]]
      simp)
  · rw [hm'] at hp
    obtain ⟨q, hq, rfl⟩ := List.mem_map.mp hp
    obtain ⟨q1, q2⟩ := gm q hq
    refine x3 _ _ (by simp only; omega) ?_
    rw [ho2]
    refine ext_app _ _ _ ?_
    simp only
    rw [List.getElem?_append_right q1]
    simp [dI, lK, proj, q2]
  · rw [hm', List.map_map]
    have : (m.zipIdx o1.length).map ((fun x : Int × Nat × R3 => x.1) ∘ fun q => (q.1.1, q.2, q.1.2.2)) = ((m.zipIdx o1.length).map (·.1)).map (·.1) := by rw [List.map_map]; rfl
    rw [this, List.zipIdx_map_fst]
    exact S.nk
  · rw [hm', List.map_map]
    have : (m.zipIdx o1.length).map ((fun x : Int × Nat × R3 => x.2.1) ∘ fun q => (q.1.1, q.2, q.1.2.2)) = (m.zipIdx o1.length).map (·.2) := rfl
    rw [this, List.zipIdx_map_snd]
    exact List.nodup_range'
  · rw [hm']
    unfold proj
    rw [List.map_map]
    have : (m.zipIdx o1.length).map ((fun p : Int × Nat × R3 => (p.1, p.2.2)) ∘ fun q => (q.1.1, q.2, q.1.2.2)) = ((m.zipIdx o1.length).map (·.1)).map fun p => (p.1, p.2.2) := by rw [List.map_map]; rfl
    rw [this, List.zipIdx_map_fst]
  · simp only [fp, List.mem_cons] at hi
    rcases hi with rfl | rfl | hi
    · exact Nat.le_refl _
    · omega
    · obtain ⟨p, hp, rfl⟩ := List.mem_map.mp hi
      rw [hm'] at hp
      obtain ⟨q, hq, rfl⟩ := List.mem_map.mp hp
      obtain ⟨q1, q2⟩ := gm q hq
      simp only
      omega
/-! ### a deed of the law -/
theorem LawR.put {objs : List D} {q : Nat} {l : LRows} (R : LawR objs q l) (j : Int) (v : R3) : LawR (objs.set q (.dict (dI (lK (setL l j v))))) q (setL l j v) :=
  ⟨List.getElem?_set_self (List.getElem?_eq_some_iff.mp R.1).1, setL_nk R.2⟩
end W_k30
set_option Elab.async false
set_option linter.all false
set_option maxRecDepth 100000
set_option maxHeartbeats 2000000
namespace W_k30
open PySem VL L2
/-- a Store and the law's rows of it -/
structure Both (objs : List D) (n r : Nat) (m : Rows) (q : Nat) (l : LRows) (k : Nat) : Prop where
  S : StoR objs n r m
  R : LawR objs q l
  eq : ∀ j, lGet (proj m) j = lGet l j
  b1 : Bnd (proj m) k
  b2 : Bnd l k
  dj : q ∉ fp n r m
theorem Both.mono {objs : List D} {n r q k : Nat} {m : Rows} {l : LRows} (B : Both objs n r m q l k) {objs' : List D} (h : ∀ i o, i ∈ q :: fp n r m → objs[i]? = some o → objs'[i]? = some o) : Both objs' n r m q l k :=
  ⟨B.S.mono fun i o hi => h i o (List.mem_cons_of_mem _ hi), ⟨h _ _ List.mem_cons_self B.R.1, B.R.2⟩, B.eq, B.b1, B.b2, B.dj⟩
theorem Both.more {objs : List D} {n r q k k' : Nat} {m : Rows} {l : LRows} (B : Both objs n r m q l k) (h : k ≤ k') : Both objs n r m q l k' := ⟨B.S, B.R, B.eq, B.b1.mono h, B.b2.mono h, B.dj⟩
def okV (k : Nat) (v : R3) : Prop := 0 ≤ v.1 ∧ v.1 ≤ k + 1 ∧ 0 ≤ v.2.1 ∧ v.2.1 ≤ 100 ∧ 0 ≤ v.2.2 ∧ v.2.2 ≤ 100
theorem get_ok {l : LRows} {k : Nat} (h : Bnd l k) (j : Int) : 0 ≤ (lGet l j).1 ∧ (lGet l j).1 ≤ k ∧ 0 ≤ (lGet l j).2.1 ∧ (lGet l j).2.1 ≤ 100 ∧ 0 ≤ (lGet l j).2.2 ∧ (lGet l j).2.2 ≤ 100 := by
  by_cases z : lGet l j = (0, 0, 0)
  · rw [z]; simp only; omega
  · have := h.2 _ (lGet_mem z)
    simp only at this
    omega
section
variable {objs objs1 : List D} {n r q k : Nat} {m : Rows} {l : LRows} {j : Int} {v : R3}
/-- the Store's deed first, then the law's -/
theorem Both.step1 (B : Both objs n r m q l k) (L : Led objs n r m (setL (proj m) j v) objs1) (hj : 0 ≤ j) (hj2 : j ≤ 42 + k) (hv : okV k v) : objs1[q]? = some (.dict (dI (lK l))) ∧ ∃ m', Both (objs1.set q (.dict (dI (lK (setL l j v))))) n r m' q (setL l j v) (k + 1) ∧ Fr (q :: fp n r m) (q :: fp n r m') objs (objs1.set q (.dict (dI (lK (setL l j v))))) := by
  obtain ⟨m', S', e, F⟩ := L
  have hq := F.keep _ _ B.dj B.R.1
  have lq := (List.getElem?_eq_some_iff.mp B.R.1).1
  have dj' : q ∉ fp n r m' := fun z => by
    rcases F.new q z with w | w
    · exact B.dj w
    · omega
  have nk : ((proj m).map (·.1)).Nodup := by rw [proj_k]; exact B.S.nk
  refine ⟨hq, m', ⟨S'.mono fun i o hi h => ?_, LawR.put ⟨hq, B.R.2⟩ j v, fun i => ?_, ?_, setL_bnd B.b2 hj hj2 hv, dj'⟩, ⟨fun i o hi h => ?_, fun i hi => ?_, by simpa using F.len⟩⟩
  · rw [List.getElem?_set_ne fun z => dj' (by rw [z]; exact hi)]; exact h
  · rw [e, setL_get nk, setL_get B.R.2, B.eq]
  · rw [e]; exact setL_bnd B.b1 hj hj2 hv
  · simp only [List.mem_cons, not_or] at hi
    rw [List.getElem?_set_ne (Ne.symm hi.1)]
    exact F.keep i o hi.2 h
  · rcases List.mem_cons.mp hi with rfl | hi
    · exact .inl List.mem_cons_self
    · exact (F.new i hi).imp (List.mem_cons_of_mem _) id
/-- the law's first -/
theorem Both.step2 (B : Both objs n r m q l k) (L : Led (objs.set q (.dict (dI (lK (setL l j v))))) n r m (setL (proj m) j v) objs1) (hj : 0 ≤ j) (hj2 : j ≤ 42 + k) (hv : okV k v) : ∃ m', Both objs1 n r m' q (setL l j v) (k + 1) ∧ Fr (q :: fp n r m) (q :: fp n r m') objs objs1 := by
  obtain ⟨m', S', e, F⟩ := L
  have lq := (List.getElem?_eq_some_iff.mp B.R.1).1
  have R1 := LawR.put B.R j v
  have hq := F.keep _ _ B.dj R1.1
  have dj' : q ∉ fp n r m' := fun z => by
    rcases F.new q z with w | w
    · exact B.dj w
    · simp at w; omega
  have nk : ((proj m).map (·.1)).Nodup := by rw [proj_k]; exact B.S.nk
  refine ⟨m', ⟨S', ⟨hq, R1.2⟩, fun i => ?_, ?_, setL_bnd B.b2 hj hj2 hv, dj'⟩, ⟨fun i o hi h => ?_, fun i hi => ?_, by simpa using F.len⟩⟩
  · rw [e, setL_get nk, setL_get B.R.2, B.eq]
  · rw [e]; exact setL_bnd B.b1 hj hj2 hv
  · simp only [List.mem_cons, not_or] at hi
    refine F.keep i o hi.2 ?_
    rw [List.getElem?_set_ne (Ne.symm hi.1)]
    exact h
  · rcases List.mem_cons.mp hi with rfl | hi
    · exact .inl List.mem_cons_self
    · rcases F.new i hi with w | w
      · exact .inl (List.mem_cons_of_mem _ w)
      · exact .inr (by simpa using w)
theorem Both.at_law (B : Both objs n r m q l k) (hk : k < 900) : (dI (lK l)).length < lim := by
  have : (dI (lK l)).length = l.length := by simp [dI, lK]
  rw [this]
  exact Nat.lt_of_le_of_lt B.b2.1 (Nat.lt_trans hk (by decide))
theorem Both.led (B : Both objs n r m q l k) : StoR (objs.set q (.dict (dI (lK (setL l j v))))) n r m := B.S.mono fun i o hi h => by
  rw [List.getElem?_set_ne fun z => B.dj (by rw [z]; exact hi)]; exact h
def dw1 : Sx := asg3 4 5 6 (eCall F__law_one [.io 0, .v (eLst [(eC (.int 0)), (eC (.int 0)), (eC (.int 1)), (eC (.int 1)), (eC (.int 2)), (eC (.int 3)), (eC (.int 7)), (eC (.int 40))])]) (eCall F__law_take [.io 0, .v (eC (.int 7))]) (eCall F__law_take [.io 0, .v (eC (.int 9))])
def dwW : Sx := fun env => whileF (bLend 3 (asB (eBin gtD (eBin ixA (eCall (stF F__law_row) ([.v (eVar 2), .v (eVar 8)] ++ [.v (eVar 3)])) (eC (.int 0))) (eC (.int 0))))) (augN 8 yes2 (· + ·) (eC (.int 1))) 1000000 env
def dwT1 : Sx := asgG (eLend 3 1 (eBin catL (eLst [(eC (.int 1))]) (eSl slcD (eCall (stF F__law_row) ([.v (eVar 2), .v (eVar 8)] ++ [.v (eVar 3)])) (pIs (eC (.int 1))) pNo))) (gtSix 3 (eVar 2) (eVar 8))
def dwT2 : Sx := retE (eCall F__law_alike [.v (eCall (stF F_Store_take) [.v (eIns 3 "Store" (eVar 1)), .io 3]), .v (eVar 8)])
def dw2 : Sx := sIf (asB (eBin ltD (eVar 5) (eC (.int 2)))) (sq (asg 8 (eC (.int 0))) (sq dwW (sq dwT1 dwT2))) sNil
def dw3 : Sx := asg 7 (eLend 3 1 (eNs listD [(eCall (stF F__law_row) ([.v (eVar 2), .v (eVar 4)] ++ [.v (eVar 3)]))]))
def dwA : Sx := sq (augIx 7 (· + ·) (eC (.int 0)) (eC (.int 1))) (asg 9 (eCall (stF F_Store_raise_one) (.v (eIns 3 "Store" (eVar 1)) :: ([.v (eVar 4)] ++ [.io 3]))))
def dwB : Sx := sq (asgG (eBor 0 (eNs maxB [(eC (.int 0)), (eBin subD (eBin ixA (eVar 7) (eC (.int 0))) (eC (.int 1)))])) (gtIx 7 (eC (.int 0)))) (asg 9 (eCall (stF F_Store_lower_one) (.v (eIns 3 "Store" (eVar 1)) :: ([.v (eVar 4)] ++ [.io 3]))))
def dwC : Sx := sq (asg 10 (eCall F__law_take [.io 0, .v (eC (.int 2))])) (sq (asgG (eVar 6) (gtIx 7 (eBin addD (eC (.int 1)) (eVar 10)))) (asg 9 (eCall (stF F_Store_change) (.v (eIns 3 "Store" (eVar 1)) :: ([.v (eVar 4), .v (eVar 10), .v (eVar 6)] ++ [.io 3])))))
def dwD : Sx := sq (asg2 7 11 (eBin catL (eSl slcD (eVar 7) pNo (pIs (eC (.int 1)))) (eLst [(eVar 6), (eVar 4)])) (eTrkL 3 (eLst [(eVar 6), (eVar 4)])))
  (sq (asg 9 (eCall (stF F_Store_fill) (.v (eIns 3 "Store" (eVar 1)) :: ([.v (eVar 4), .v (eVar 11)] ++ [.io 3]))))
  (sq (sIf (bLend 3 (asB (eBin neD (eDrf 3 (eVar 11)) (eLst [(eVar 6), (eVar 4)])))) (retE (eC (.bool false))) sNil)
  (sq (asgG (eC (.int 77)) (gtSix 3 (eVar 11) (eC (.int 0)))) (sExp (eMutS 3 uAppend (eVar 11) [(eC .none)])))))
def dw4 : Sx := sIf (asB (eBin eqD (eVar 5) (eC (.int 2)))) dwA (sIf (asB (eBin inA (eVar 5) (eTup [(eC (.int 3)), (eC (.int 4))]))) dwB (sIf (asB (eBin eqD (eVar 5) (eC (.int 5)))) dwC dwD))
def dw5 : Sx := asgG (eVar 7) (gtSix 3 (eVar 2) (eVar 4))
def dw6 : Sx := retE (eBin isND (eVar 9) (eC .none))
theorem done_is : g__law_done = sq dw1 (sq dw2 (sq dw3 (sq dw4 (sq dw5 dw6)))) := rfl
end
end W_k30
set_option Elab.async false
set_option linter.all false
set_option maxRecDepth 100000
set_option maxHeartbeats 2000000
namespace W_k30
open PySem VL L2
section
variable {objs : List D} {n r q k : Nat} {m : Rows} {l : LRows} {j w u : Int} {bg x4 x5 x6 x7 x8 x9 x10 x11 : D}
theorem dw1_ok (hb : Bag bg) : ∃ (b' : D) (j w u : Int), dw1 [bg, rfD n, rfD q, stD objs, x4, x5, x6, x7, x8, x9, x10, x11] = some (.nx [b', rfD n, rfD q, stD objs, .int j, .int w, .int u, x7, x8, x9, x10, x11]) ∧ Bag b' ∧ 0 ≤ j ∧ j ≤ 40 ∧ 0 ≤ w ∧ w < 7 ∧ 0 ≤ u ∧ u < 9 := by
  obtain ⟨d, c1, hm, e1, hc1⟩ := one_ok hb (xs := [.int 0, .int 0, .int 1, .int 1, .int 2, .int 3, .int 7, .int 40]) (by simp) (by simp)
  obtain ⟨w, c2, e2, w0, w1, hc2⟩ := take_ok hc1 (n := 7) (by omega) (by omega)
  obtain ⟨u, c3, e3, u0, u1, hc3⟩ := take_ok hc2 (n := 9) (by omega) (by omega)
  obtain ⟨j, rfl, j0, j1⟩ : ∃ j : Int, d = .int j ∧ 0 ≤ j ∧ j ≤ 40 := by
    simp at hm
    rcases hm with rfl | rfl | rfl | rfl | rfl | rfl <;> exact ⟨_, rfl, by omega, by omega⟩
  refine ⟨c3, j, w, u, ?_, hc3, j0, j1, w0, w1, u0, u1⟩
  unfold dw1
  simp [e1, e2, e3]
theorem slc3D (a b c : D) : slcD (.list [a, b, c]) (some 1) none = some (.list [b, c]) := by
  unfold slcD
  simp only
  rw [if_pos (show [a, b, c].length ≤ lim from (by decide : (3 : Nat) ≤ lim))]
  rfl
theorem slc1D (a b c : D) : slcD (.list [a, b, c]) none (some 1) = some (.list [a]) := by
  unfold slcD
  simp only
  rw [if_pos (show [a, b, c].length ≤ lim from (by decide : (3 : Nat) ≤ lim))]
  rfl
theorem dwW_ok (R : LawR objs q l) {L : Nat} (hL : L ≤ 42 + k) (hk : k < 900) (h2 : (lGet l L).1 ≤ 0) (h3 : ∀ a : Nat, a < L → 0 < (lGet l a).1) : dwW [bg, rfD n, rfD q, stD objs, x4, x5, x6, x7, .int 0, x9, x10, x11] = some (.nx [bg, rfD n, rfD q, stD objs, x4, x5, x6, x7, .int L, x9, x10, x11]) := by
  have hw := while_to (c := bLend 3 (asB (eBin gtD (eBin ixA (eCall (stF F__law_row) ([.v (eVar 2), .v (eVar 8)] ++ [.v (eVar 3)])) (eC (.int 0))) (eC (.int 0))))) (g := augN 8 yes2 (· + ·) (eC (.int 1))) (fun a => [bg, rfD n, rfD q, stD objs, x4, x5, x6, x7, .int a, x9, x10, x11]) (L := L) (fun a ha => by
      have := lrow_eq (j := (a : Int)) R
      have hp := h3 a ha
      simp [this, rowD, atI, ixN, hp]) (fun a ha => by
      simp [augN, yes2]) (by
      have := lrow_eq (j := (L : Int)) R
      simp [this, rowD, atI, ixN, h2]) L 0 1000000 (by omega) (by omega)
  unfold dwW
  exact hw
theorem dw2_ok (hb : Bag bg) (B : Both objs n r m q l k) (hk : k < 149) (hw : w < 2) : ∃ O L m', dw2 [bg, rfD n, rfD q, stD objs, x4, .int w, x6, x7, x8, x9, x10, x11] = some (.rt (.bool true) [bg, rfD n, rfD q, stD O, x4, .int w, x6, x7, .int L, x9, x10, x11]) ∧ Both O n r m' q (setL l L (1, (lGet l L).2)) (k + 1) ∧ Fr (q :: fp n r m) (q :: fp n r m') objs O := by
  obtain ⟨L, hL, h2, h3⟩ := least_ex l B.b2
  have t1 := dwW_ok (bg := bg) (n := n) (x4 := x4) (x5 := .int w) (x6 := x6) (x7 := x7) (x9 := x9) (x10 := x10) (x11 := x11) B.R hL (by omega) h2 h3
  have hr := lrow_eq (j := (L : Int)) B.R
  have hlt := B.at_law (by omega)
  have h2l : (2 : Nat) ≤ lim := by decide
  have h3l : (3 : Nat) ≤ lim := by decide
  have hput := setL_put l L (1, (lGet l L).2)
  unfold rowD at hput
  have t2 : dwT1 [bg, rfD n, rfD q, stD objs, x4, .int w, x6, x7, .int L, x9, x10, x11] = some (.nx [bg, rfD n, rfD q, stD (objs.set q (.dict (dI (lK (setL l L (1, (lGet l L).2)))))), x4, .int w, x6, x7, .int L, x9, x10, x11]) := by
    unfold dwT1
    simp [hr, rowD, slc3D, catL, h3l, B.R.1, hlt, hput]
  have nk : ((proj m).map (·.1)).Nodup := by rw [proj_k]; exact B.S.nk
  obtain ⟨O, e3, L3⟩ := take_eq (B.led (j := (L : Int)) (v := (1, (lGet l L).2))) B.b1 (by omega) hL (by rw [B.eq]; exact h2) (fun a ha => by rw [B.eq]; exact h3 a ha)
  rw [B.eq] at L3
  have g := get_ok B.b2 (L : Int)
  obtain ⟨m', B', F'⟩ := B.step2 L3 (by omega) (by omega) ⟨by simp, by simp only; omega, g.2.2.1, g.2.2.2.1, g.2.2.2.2.1, g.2.2.2.2.2⟩
  have i1 := (B.led (j := (L : Int)) (v := (1, (lGet l L).2))).i1
  have sm : Sm (.int (L : Int)) := (bd_int (by omega)).sm (by omega) (by omega)
  have al := alike_sm sm
  have t3 : dwT2 [bg, rfD n, rfD q, stD (objs.set q (.dict (dI (lK (setL l L (1, (lGet l L).2)))))), x4, .int w, x6, x7, .int L, x9, x10, x11] = some (.rt (.bool true) [bg, rfD n, rfD q, stD O, x4, .int w, x6, x7, .int L, x9, x10, x11]) := by
    unfold dwT2
    simp [i1, e3, al]
  refine ⟨O, L, m', ?_, B', F'⟩
  have t0 : (asg 8 (eC (.int 0))) [bg, rfD n, rfD q, stD objs, x4, .int w, x6, x7, x8, x9, x10, x11] = some (.nx [bg, rfD n, rfD q, stD objs, x4, .int w, x6, x7, .int 0, x9, x10, x11]) := by simp
  have hc : (asB (eBin ltD (eVar 5) (eC (.int 2)))) [bg, rfD n, rfD q, stD objs, x4, .int w, x6, x7, x8, x9, x10, x11] = some (true, [bg, rfD n, rfD q, stD objs, x4, .int w, x6, x7, x8, x9, x10, x11]) := by simp [hw]
  unfold dw2
  rw [zz_sIf, hc, ob_some]
  simp only [if_true]
  exact (sq_nx t0).trans ((sq_nx t1).trans ((sq_nx t2).trans t3))
theorem dw2_no (hw : 2 ≤ w) : dw2 [bg, rfD n, rfD q, stD objs, x4, .int w, x6, x7, x8, x9, x10, x11] = some (.nx [bg, rfD n, rfD q, stD objs, x4, .int w, x6, x7, x8, x9, x10, x11]) := by
  have : ¬ w < 2 := by omega
  unfold dw2
  simp [this]
theorem dw3_ok (R : LawR objs q l) : dw3 [bg, rfD n, rfD q, stD objs, .int j, x5, x6, x7, x8, x9, x10, x11] = some (.nx [bg, rfD n, rfD q, stD objs, .int j, x5, x6, rowD (lGet l j), x8, x9, x10, x11]) := by
  have hr := lrow_eq (j := j) R
  unfold dw3
  simp [hr, rowD]
/-- behind the fourth statement -/
def Mid (objs : List D) (n r : Nat) (m : Rows) (l : LRows) (j : Int) (k : Nat) (O : List D) (v : R3) : Prop := Led objs n r m (setL (proj m) j v) O ∧ okV k v
theorem dwA_ok (B : Both objs n r m q l k) (hk : k < 149) : ∃ O v, dwA [bg, rfD n, rfD q, stD objs, .int j, x5, x6, rowD (lGet l j), x8, x9, x10, x11] = some (.nx [bg, rfD n, rfD q, stD O, .int j, x5, x6, rowD v, x8, .none, x10, x11]) ∧ Mid objs n r m l j k O v := by
  have hl : m.length < 1000 := by have := B.b1.1; simp [proj] at this; omega
  obtain ⟨O, e, L⟩ := raise_eq (j := j) B.S hl
  rw [B.eq] at L
  have g := get_ok B.b2 j
  refine ⟨O, _, ?_, L, by simp only [okV]; omega⟩
  have i1 := B.S.i1
  unfold dwA
  simp [augIx, rowD, i1, e]
theorem dwB_ok (B : Both objs n r m q l k) (hk : k < 149) : ∃ O v, dwB [bg, rfD n, rfD q, stD objs, .int j, x5, x6, rowD (lGet l j), x8, x9, x10, x11] = some (.nx [bg, rfD n, rfD q, stD O, .int j, x5, x6, rowD v, x8, .none, x10, x11]) ∧ Mid objs n r m l j k O v := by
  have hl : m.length < 1000 := by have := B.b1.1; simp [proj] at this; omega
  obtain ⟨O, e, L⟩ := lower_eq (j := j) B.S hl
  rw [B.eq] at L
  have g := get_ok B.b2 j
  refine ⟨O, _, ?_, L, by simp only [okV]; omega⟩
  have i1 := B.S.i1
  have hm : ∀ c : Int, maxB [.int 0, .int c] = some (.int (max 0 c)) := fun c => by
    simp [maxB, maxD]
    split <;> omega
  unfold dwB
  simp [rowD, i1, e, hm, atI, ixN, gtIx, imk, immut]
theorem dwC_ok (hb : Bag bg) (B : Both objs n r m q l k) (hk : k < 149) (u0 : 0 ≤ u) (u1 : u < 9) : ∃ b' O v y10, dwC [bg, rfD n, rfD q, stD objs, .int j, x5, .int u, rowD (lGet l j), x8, x9, x10, x11] = some (.nx [b', rfD n, rfD q, stD O, .int j, x5, .int u, rowD v, x8, .none, y10, x11]) ∧ Mid objs n r m l j k O v ∧ Bag b' := by
  have hl : m.length < 1000 := by have := B.b1.1; simp [proj] at this; omega
  obtain ⟨c, c1, e1, q0, q1, hc1⟩ := take_ok hb (n := 2) (by omega) (by omega)
  have hc : c = 0 ∨ c = 1 := by omega
  obtain ⟨O, e, L⟩ := change_eq (j := j) (w := u) hc B.S hl
  rw [B.eq] at L
  have g := get_ok B.b2 j
  have i1 := B.S.i1
  rcases hc with rfl | rfl
  · refine ⟨c1, O, _, .int 0, ?_, ⟨L, ?_⟩, hc1⟩
    · unfold dwC
      simp [e1, rowD, i1, e, atI, ixN, gtIx]
    · simp only [okV, if_true]; omega
  · refine ⟨c1, O, _, .int 1, ?_, ⟨L, ?_⟩, hc1⟩
    · unfold dwC
      simp [e1, rowD, i1, e, atI, ixN, gtIx]
    · simp [okV]; omega
end
end W_k30
set_option Elab.async false
set_option linter.all false
set_option maxRecDepth 100000
set_option maxHeartbeats 2000000
namespace W_k30
open PySem VL L2
section
variable {objs : List D} {n r q k : Nat} {m : Rows} {l : LRows} {j w u : Int} {bg x4 x5 x6 x7 x8 x9 x10 x11 : D}
theorem dwD_ok (B : Both objs n r m q l k) (hk : k < 149) (j0 : 0 ≤ j) (j1 : j ≤ 40) (u0 : 0 ≤ u) (u1 : u < 9) : ∃ O v y11, dwD [bg, rfD n, rfD q, stD objs, .int j, x5, .int u, rowD (lGet l j), x8, x9, x10, x11] = some (.nx [bg, rfD n, rfD q, stD O, .int j, x5, .int u, rowD v, x8, .none, x10, y11]) ∧ Mid objs n r m l j k O v := by
  have hl : m.length < 1000 := by have := B.b1.1; simp [proj] at this; omega
  have S0 : StoR (objs ++ [.list [.int u, .int j]]) n r m := B.S.mono fun i o _ h => ext_app _ _ _ h
  have h0 : (objs ++ [PyData.list [.int u, .int j]])[objs.length]? = some (.list [.int u, .int j]) := by simp
  have nf : objs.length ∉ fp n r m := fun z => by have := B.S.lt _ z; omega
  obtain ⟨O1, e, m', S1, e1, F1⟩ := fill_eq (j := j) S0 hl h0 nf
  rw [B.eq] at e1
  have g := get_ok B.b2 j
  have nf' : objs.length ∉ fp n r m' := fun z => by
    rcases F1.new _ z with y | y
    · exact nf y
    · have : (objs ++ [PyData.list [.int u, .int j]]).length = objs.length + 1 := by simp
      omega
  have hx := F1.keep _ _ nf h0
  have lx := (List.getElem?_eq_some_iff.mp hx).1
  have sm : Sm (.list [.int u, .int j]) := by
    refine Bd.sm (bd_list (a := 0) (b := 0) (n := 2) (fun d h => ?_) (by simp)) (by omega) (by omega)
    simp at h
    rcases h with rfl | rfl <;> exact bd_int (by omega)
  have hne := sm_ne sm
  have s1 : ∀ A : D, (O1.set objs.length A)[objs.length]? = some A := fun A => List.getElem?_set_self lx
  have l2 : (2 : Nat) < lim := by decide
  have l3 : (3 : Nat) ≤ lim := by decide
  have i1 := S0.i1
  refine ⟨O1.set objs.length (.list [.int 77, .int j, .none]), ((lGet l j).1, u, j), rfD objs.length, ?_, ⟨m', S1.mono fun i o hi h => ?_, ?_, fun i o hi h => ?_, fun i hi => ?_, ?_⟩, ?_⟩
  · unfold dwD
    simp [rowD, slc1D, catL, l3, i1, e, hx, hne, s1, ixN, l2]
  · rw [List.getElem?_set_ne fun z => nf' (by rw [z]; exact hi)]; exact h
  · rw [e1]
  · have li := (List.getElem?_eq_some_iff.mp h).1
    rw [List.getElem?_set_ne (by omega)]
    exact F1.keep _ _ hi (ext_app _ _ _ h)
  · refine (F1.new i hi).imp id fun z => ?_
    simp at z; omega
  · have := F1.len
    simp at this ⊢
    omega
  · simp only [okV]; omega
theorem dw4_ok (hb : Bag bg) (B : Both objs n r m q l k) (hk : k < 149) (j0 : 0 ≤ j) (j1 : j ≤ 40) (w0 : 2 ≤ w) (w1 : w < 7) (u0 : 0 ≤ u) (u1 : u < 9) : ∃ b' O v y10 y11, dw4 [bg, rfD n, rfD q, stD objs, .int j, .int w, .int u, rowD (lGet l j), x8, x9, x10, x11] = some (.nx [b', rfD n, rfD q, stD O, .int j, .int w, .int u, rowD v, x8, .none, y10, y11]) ∧ Mid objs n r m l j k O v ∧ Bag b' := by
  have hin : ∀ w : Int, inA (.int w) (.tuple [.int 3, .int 4]) = some (.bool (w == 3 || w == 4)) := fun w => by
    have : halfIn (.int w) [.int 3, .int 4] = true := by simp [halfIn, PyData.plain, PyData.depth, PyData.plainAll]
    simp [inA, inD, itemsD, this, PyData.eqv]
    rw [Bool.beq_comm (a := (3 : Int)), Bool.beq_comm (a := (4 : Int))]
  have c1 : ∀ w : Int, (asB (eBin eqD (eVar 5) (eC (.int 2)))) [bg, rfD n, rfD q, stD objs, .int j, .int w, .int u, rowD (lGet l j), x8, x9, x10, x11] = some ((w == 2), [bg, rfD n, rfD q, stD objs, .int j, .int w, .int u, rowD (lGet l j), x8, x9, x10, x11]) := fun w => by simp
  have c2 : ∀ w : Int, (asB (eBin inA (eVar 5) (eTup [(eC (.int 3)), (eC (.int 4))]))) [bg, rfD n, rfD q, stD objs, .int j, .int w, .int u, rowD (lGet l j), x8, x9, x10, x11] = some ((w == 3 || w == 4), [bg, rfD n, rfD q, stD objs, .int j, .int w, .int u, rowD (lGet l j), x8, x9, x10, x11]) := fun w => by simp [hin]
  have c3 : ∀ w : Int, (asB (eBin eqD (eVar 5) (eC (.int 5)))) [bg, rfD n, rfD q, stD objs, .int j, .int w, .int u, rowD (lGet l j), x8, x9, x10, x11] = some ((w == 5), [bg, rfD n, rfD q, stD objs, .int j, .int w, .int u, rowD (lGet l j), x8, x9, x10, x11]) := fun w => by simp
  unfold dw4
  by_cases h2 : (w == 2) = true
  · obtain ⟨O, v, e, M⟩ := dwA_ok (bg := bg) (x5 := .int w) (x6 := .int u) (x8 := x8) (x9 := x9) (x10 := x10) (x11 := x11) (j := j) B hk
    refine ⟨bg, O, v, x10, x11, ?_, M, hb⟩
    rw [zz_sIf, c1, ob_some]
    simp only [h2, if_true]
    exact e
  · have h2 : (w == 2) = false := Bool.eq_false_iff.mpr h2
    by_cases h3 : w = 3 ∨ w = 4
    · obtain ⟨O, v, e, M⟩ := dwB_ok (bg := bg) (x5 := .int w) (x6 := .int u) (x8 := x8) (x9 := x9) (x10 := x10) (x11 := x11) (j := j) B hk
      refine ⟨bg, O, v, x10, x11, ?_, M, hb⟩
      rw [zz_sIf, c1, ob_some]
      simp only [h2, if_false, Bool.false_eq_true]
      rw [zz_sIf, c2, ob_some]
      have : (w == 3 || w == 4) = true := by simpa using h3
      simp only [this, if_true]
      exact e
    · have n34 : (w == 3 || w == 4) = false := by
        rw [Bool.eq_false_iff]
        simpa using h3
      by_cases h5 : (w == 5) = true
      · obtain ⟨b', O, v, y10, e, M, hb'⟩ := dwC_ok (x5 := .int w) (x8 := x8) (x9 := x9) (x10 := x10) (x11 := x11) (j := j) hb B hk u0 u1
        refine ⟨b', O, v, y10, x11, ?_, M, hb'⟩
        rw [zz_sIf, c1, ob_some]
        simp only [h2, if_false, Bool.false_eq_true]
        rw [zz_sIf, c2, ob_some]
        simp only [n34, if_false, Bool.false_eq_true]
        rw [zz_sIf, c3, ob_some]
        simp only [h5, if_true]
        exact e
      · obtain ⟨O, v, y11, e, M⟩ := dwD_ok (bg := bg) (x5 := .int w) (x8 := x8) (x9 := x9) (x10 := x10) (x11 := x11) (j := j) (u := u) B hk j0 j1 u0 u1
        refine ⟨bg, O, v, x10, y11, ?_, M, hb⟩
        rw [zz_sIf, c1, ob_some]
        simp only [h2, if_false, Bool.false_eq_true]
        rw [zz_sIf, c2, ob_some]
        simp only [n34, if_false, Bool.false_eq_true]
        rw [zz_sIf, c3, ob_some]
        simp only [Bool.eq_false_iff.mpr h5, if_false, Bool.false_eq_true]
        exact e
theorem dw56_ok (B : Both objs n r m q l k) {O : List D} {v : R3} (M : Mid objs n r m l j k O v) (hk : k < 149) (j0 : 0 ≤ j) (j1 : j ≤ 40) : ∃ O' m', sq dw5 dw6 [bg, rfD n, rfD q, stD O, .int j, x5, x6, rowD v, x8, .none, x10, x11] = some (.rt (.bool true) [bg, rfD n, rfD q, stD O', .int j, x5, x6, rowD v, x8, .none, x10, x11]) ∧ Both O' n r m' q (setL l j v) (k + 1) ∧ Fr (q :: fp n r m) (q :: fp n r m') objs O' := by
  obtain ⟨L, hv⟩ := M
  obtain ⟨hq, m', B', F'⟩ := B.step1 L j0 (by omega) hv
  have hlt := B.at_law (by omega)
  refine ⟨_, m', ?_, B', F'⟩
  have t5 : dw5 [bg, rfD n, rfD q, stD O, .int j, x5, x6, rowD v, x8, .none, x10, x11] = some (.nx [bg, rfD n, rfD q, stD (O.set q (.dict (dI (lK (setL l j v))))), .int j, x5, x6, rowD v, x8, .none, x10, x11]) := by
    unfold dw5
    simp [hq, hlt, setL_put]
  have e : isND .none .none = some (.bool true) := rfl
  rw [sq_nx t5]
  unfold dw6
  simp [e]
theorem done_ok (hb : Bag bg) (B : Both objs n r m q l k) (hk : k < 149) : ∃ b' O m' l', stF F__law_done [bg, rfD n, rfD q, stD objs] = some (.bool true, [b', rfD n, rfD q, stD O]) ∧ Bag b' ∧ Both O n r m' q l' (k + 1) ∧ Fr (q :: fp n r m) (q :: fp n r m') objs O := by
  obtain ⟨c1, j, w, u, t1, hc1, j0, j1, w0, w1, u0, u1⟩ := dw1_ok (objs := objs) (n := n) (q := q) (x4 := .none) (x5 := .none) (x6 := .none) (x7 := .none) (x8 := .none) (x9 := .none) (x10 := .none) (x11 := .none) hb
  rw [zz_stF]
  by_cases h2 : w < 2
  · obtain ⟨O, L, m', t2, B', F'⟩ := dw2_ok (x4 := .int j) (x6 := .int u) (x7 := .none) (x8 := .none) (x9 := .none) (x10 := .none) (x11 := .none) hc1 B hk h2
    refine ⟨c1, O, m', _, ?_, hc1, B', F'⟩
    have : g__law_done [bg, rfD n, rfD q, stD objs, .none, .none, .none, .none, .none, .none, .none, .none] = some (.rt (.bool true) [c1, rfD n, rfD q, stD O, .int j, .int w, .int u, .none, .int L, .none, .none, .none]) := by
      rw [done_is, sq_nx t1, zz_sq, t2]
      rfl
    unfold F__law_done
    rw [runD_eq]
    show (if isSt _ = true then ob (g__law_done [bg, rfD n, rfD q, stD objs, .none, .none, .none, .none, .none, .none, .none, .none]) _ else _) = _
    rw [this]
    rfl
  · have t2 := dw2_no (bg := c1) (objs := objs) (n := n) (q := q) (x4 := .int j) (w := w) (x6 := .int u) (x7 := .none) (x8 := .none) (x9 := .none) (x10 := .none) (x11 := .none) (by omega)
    have t3 := dw3_ok (bg := c1) (n := n) (j := j) (x5 := .int w) (x6 := .int u) (x7 := .none) (x8 := .none) (x9 := .none) (x10 := .none) (x11 := .none) B.R
    obtain ⟨c4, O4, v, y10, y11, t4, M, hc4⟩ := dw4_ok (x8 := .none) (x9 := .none) (x10 := .none) (x11 := .none) (w := w) hc1 B hk j0 j1 (by omega) w1 u0 u1
    obtain ⟨O', m', t5, B', F'⟩ := dw56_ok (bg := c4) (x5 := .int w) (x6 := .int u) (x8 := .none) (x10 := y10) (x11 := y11) B M hk j0 j1
    refine ⟨c4, O', m', _, ?_, hc4, B', F'⟩
    have : g__law_done [bg, rfD n, rfD q, stD objs, .none, .none, .none, .none, .none, .none, .none, .none] = some (.rt (.bool true) [c4, rfD n, rfD q, stD O', .int j, .int w, .int u, rowD v, .none, .none, y10, y11]) := by
      rw [done_is, sq_nx t1, sq_nx t2, sq_nx t3, sq_nx t4]
      exact t5
    unfold F__law_done
    rw [runD_eq]
    show (if isSt _ = true then ob (g__law_done [bg, rfD n, rfD q, stD objs, .none, .none, .none, .none, .none, .none, .none, .none]) _ else _) = _
    rw [this]
    rfl
end
end W_k30
set_option Elab.async false
set_option linter.all false
set_option maxRecDepth 100000
set_option maxHeartbeats 2000000
namespace W_k30
open PySem VL L2
section
variable {objs : List D} {n r q k : Nat} {m : Rows} {l : LRows} {j : Int} {x3 x4 x5 : D}
def lkB : Sx := sq (asg2 5 4 (eCall (stF F__law_row) ([.v (eVar 1), .v (eVar 3)] ++ [.v (eVar 2)])) (eCall (stF F_Store_values_of) (.v (eIns 2 "Store" (eVar 0)) :: ([.v (eVar 3)] ++ [.v (eVar 2)]))))
  (sq (sIf (bBor (bNot (asB (eCall F__law_alike [.v (eLst [(eCall (stF F_Store_count_of) (.v (eIns 2 "Store" (eVar 0)) :: ([.v (eVar 3)] ++ [.v (eVar 2)]))), (eVar 4)]), .v (eLst [(eBin ixA (eVar 5) (eC (.int 0))), (eSl slcD (eVar 5) (pIs (eC (.int 1))) pNo)])])))) (retE (eC (.bool false))) sNil)
  (sExp (eMut 4 uAppend [(eC .none)])))
theorem lk_ok (B : Both objs n r m q l k) (hk : k ≤ 150) : ∃ y4 y5, lkB [rfD n, rfD q, stD objs, .int j, x4, x5] = some (.nx [rfD n, rfD q, stD objs, .int j, y4, y5]) := by
  have h1 := lrow_eq (j := j) B.R
  have h2 := values_eq B.S j
  have h3 := count_eq B.S j
  rw [B.eq] at h2 h3
  have g := get_ok B.b2 j
  have i1 := B.S.i1
  have sm : Sm (.list [.int (lGet l j).1, .list [.int (lGet l j).2.1, .int (lGet l j).2.2]]) := by
    refine Bd.sm (bd_list (a := 1) (b := 2) (n := 2) (fun d h => ?_) (by simp)) (by omega) (by omega)
    simp at h
    rcases h with rfl | rfl
    · exact (bd_int (by omega)).mono (by omega) (by omega)
    · refine (bd_list (a := 0) (b := 0) (n := 2) (fun d h => ?_) (by simp)).mono (by omega) (by omega)
      simp at h
      rcases h with rfl | rfl <;> exact bd_int (by omega)
  have al := alike_sm sm
  have l2 : (2 : Nat) < lim := by decide
  refine ⟨.list [.int (lGet l j).2.1, .int (lGet l j).2.2, .none], rowD (lGet l j), ?_⟩
  have t1 : asg2 5 4 (eCall (stF F__law_row) ([.v (eVar 1), .v (eVar 3)] ++ [.v (eVar 2)])) (eCall (stF F_Store_values_of) (.v (eIns 2 "Store" (eVar 0)) :: ([.v (eVar 3)] ++ [.v (eVar 2)]))) [rfD n, rfD q, stD objs, .int j, x4, x5] = some (.nx [rfD n, rfD q, stD objs, .int j, .list [.int (lGet l j).2.1, .int (lGet l j).2.2], rowD (lGet l j)]) := by
    simp [h1, h2, i1]
  unfold lkB
  rw [sq_nx t1]
  simp [h3, i1, rowD, atI, ixN, slc3D, al, eMut_l (ds := [.int (lGet l j).2.1, .int (lGet l j).2.2]), mutK_l (ds := [.int (lGet l j).2.1, .int (lGet l j).2.2]), l2]
theorem tk_sm {l : LRows} (h : Bnd l k) (hk : k ≤ 150) : Sm (takenD l) := by
  refine Bd.sm (bd_list (a := 0) (b := 0) (n := 150) (fun d hd => ?_) ?_) (by omega) (by omega)
  · have := (srt_perm _).mem_iff.mp hd
    obtain ⟨i, hi, rfl⟩ := List.mem_map.mp this
    unfold tkK at hi
    obtain ⟨p, hp, rfl⟩ := List.mem_map.mp hi
    have := h.2 _ (List.mem_filter.mp hp).1
    exact bd_int (by omega)
  · rw [(srt_perm _).length_eq, List.length_map]
    exact Nat.le_trans (tk_len h) hk
theorem ltk_eq (R : LawR objs q l) (hb : Bnd l k) (hk : k < 900) : (eNs sortedA [(lcD [3] (iSqA (eDrf 2 (eVar 1))) (gtName 3) (asB (eBin gtD (eBin ixA (eBin ixA (eDrf 2 (eVar 1)) (eVar 3)) (eC (.int 0))) (eC (.int 0)))) (eVar 3))]) [rfD n, rfD q, stD objs, x3, x4, x5] = some (takenD l, [rfD n, rfD q, stD objs, x3, x4, x5]) := by
  obtain ⟨h1, nk⟩ := R
  have hb1 := hb.1
  have hl := tk_len hb
  have hs := okSort_intL (tkK l) (by omega)
  have hg : ∀ p ∈ l, iGet (lK l) p.1 = some (rowD p.2) := fun p hp => iGet_mem (by rw [lK_keys]; exact nk) (List.mem_map.mpr ⟨p, hp, rfl⟩)
  obtain ⟨e', h6, a, rfl⟩ := lc_map (gt := gtName 3) (tt := asB (eBin gtD (eBin ixA (eBin ixA (eDrf 2 (eVar 1)) (eVar 3)) (eC (.int 0))) (eC (.int 0)))) (fe := eVar 3)
    (fun e => ∃ a, e = [rfD n, rfD q, stD objs, a, x4, x5]) (fun p : Int × R3 => .int p.1) (fun p => decide (0 < p.2.1)) (fun p => .int p.1) l [rfD n, rfD q, stD objs, x3, x4, x5] (fun p hp e he => by
      obtain ⟨a, rfl⟩ := he
      refine ⟨[rfD n, rfD q, stD objs, .int p.1, x4, x5], [rfD n, rfD q, stD objs, .int p.1, x4, x5], by simp, ?_, fun _ => ⟨_, rfl⟩, fun _ => ⟨[rfD n, rfD q, stD objs, .int p.1, x4, x5], by simp, _, rfl⟩⟩
      simp [h1, hg p hp, rowD, atI, ixN]) ⟨_, rfl⟩
  have hk2 : keysOf (dI (lK l)) = l.map fun p => .int p.1 := by rw [keysOf_dI]; simp [lK, Function.comp_def]
  have ht : (l.filter fun p => decide (0 < p.2.1)).map (fun p => (PyData.int p.1 : D)) = (tkK l).map .int := by simp [tkK, Function.comp_def]
  rw [ht] at h6
  have hl2 : (tkK l).length ≤ 1000000 := by omega
  simp [h1, hk2, h6, hl2, hs]
  exact ⟨rfl, rfl⟩
theorem looks_ok (B : Both objs n r m q l k) (hk : k ≤ 150) : stF F__law_looks_right [rfD n, rfD q, stD objs] = some (.bool true, [rfD n, rfD q, stD objs]) := by
  obtain ⟨e', h1, y3, y4, y5, rfl⟩ := for_gen (gt := gtName 3) (gb := lkB) (fun e => ∃ y3 y4 y5, e = [rfD n, rfD q, stD objs, y3, y4, y5]) (fun d => ∃ j : Int, d = .int j) (fun d e ⟨j, hd⟩ ⟨y3, y4, y5, he⟩ => by
    subst hd he
    obtain ⟨z4, z5, hz⟩ := lk_ok (j := j) (x4 := y4) (x5 := y5) B hk
    exact ⟨_, _, rfl, hz, _, z4, z5, rfl⟩) [.int 0, .int 1, .int 2, .int 3, .int 7, .int 40, .int 41, .int 1000] [rfD n, rfD q, stD objs, .none, .none, .none] (fun d hd => by
      simp at hd
      rcases hd with rfl | rfl | rfl | rfl | rfl | rfl | rfl | rfl <;> exact ⟨_, rfl⟩) ⟨_, _, _, rfl⟩
  have tk := tkn_eq B.S B.b1 (by omega)
  have nk : ((proj m).map (·.1)).Nodup := by rw [proj_k]; exact B.S.nk
  rw [taken_ext nk B.R.2 B.eq] at tk
  have al := alike_sm (tk_sm B.b2 hk)
  have i1 := B.S.i1
  have hle : (srt ((tkK l).map .int)).length < lim := by
    rw [(srt_perm _).length_eq, List.length_map]
    exact Nat.lt_of_le_of_lt (tk_len B.b2) (Nat.lt_of_le_of_lt hk (by decide))
  have t2 : asg 4 (eCall (stF F_Store_taken) [.v (eIns 2 "Store" (eVar 0)), .v (eVar 2)]) [rfD n, rfD q, stD objs, y3, y4, y5] = some (.nx [rfD n, rfD q, stD objs, y3, takenD l, y5]) := by
    simp [i1, tk]
  have lt := ltk_eq (n := n) (x3 := y3) (x4 := takenD l) (x5 := y5) B.R B.b2 (by omega)
  have t3 : sIf (bBor (bNot (asB (eCall F__law_alike [.v (eVar 4), .v (eNs sortedA [(lcD [3] (iSqA (eDrf 2 (eVar 1))) (gtName 3) (asB (eBin gtD (eBin ixA (eBin ixA (eDrf 2 (eVar 1)) (eVar 3)) (eC (.int 0))) (eC (.int 0)))) (eVar 3))])])))) (retE (eC (.bool false))) sNil [rfD n, rfD q, stD objs, y3, takenD l, y5] = some (.nx [rfD n, rfD q, stD objs, y3, takenD l, y5]) := by
    generalize (eNs sortedA [(lcD [3] (iSqA (eDrf 2 (eVar 1))) (gtName 3) (asB (eBin gtD (eBin ixA (eBin ixA (eDrf 2 (eVar 1)) (eVar 3)) (eC (.int 0))) (eC (.int 0)))) (eVar 3))]) = EE at lt
    simp [lt, al]
  have t4 : sExp (eMut 4 uAppend [(eC .none)]) [rfD n, rfD q, stD objs, y3, takenD l, y5] = some (.nx [rfD n, rfD q, stD objs, y3, .list (srt ((tkK l).map .int) ++ [.none]), y5]) := by
    unfold takenD
    simp [eMut_l (ds := srt ((tkK l).map .int)), mutK_l (ds := srt ((tkK l).map .int)), hle]
  have hs : g__law_looks_right = sq (forD (iSqA (eTup [(eC (.int 0)), (eC (.int 1)), (eC (.int 2)), (eC (.int 3)), (eC (.int 7)), (eC (.int 40)), (eC (.int 41)), (eC (.int 1000))])) (gtName 3) lkB) (sq (asg 4 (eCall (stF F_Store_taken) [.v (eIns 2 "Store" (eVar 0)), .v (eVar 2)])) (sq (sIf (bBor (bNot (asB (eCall F__law_alike [.v (eVar 4), .v (eNs sortedA [(lcD [3] (iSqA (eDrf 2 (eVar 1))) (gtName 3) (asB (eBin gtD (eBin ixA (eBin ixA (eDrf 2 (eVar 1)) (eVar 3)) (eC (.int 0))) (eC (.int 0)))) (eVar 3))])])))) (retE (eC (.bool false))) sNil) (sq (sExp (eMut 4 uAppend [(eC .none)])) (retE (eC (.bool true)))))) := rfl
  have t1 : forD (iSqA (eTup [(eC (.int 0)), (eC (.int 1)), (eC (.int 2)), (eC (.int 3)), (eC (.int 7)), (eC (.int 40)), (eC (.int 41)), (eC (.int 1000))])) (gtName 3) lkB [rfD n, rfD q, stD objs, .none, .none, .none] = some (.nx [rfD n, rfD q, stD objs, y3, y4, y5]) := by
    generalize lkB = gb at h1 ⊢
    simp
    exact h1
  rw [zz_stF]
  unfold F__law_looks_right
  rw [runD_eq]
  show (if isSt _ = true then ob (g__law_looks_right [rfD n, rfD q, stD objs, .none, .none, .none]) _ else _) = _
  rw [hs, sq_nx t1, sq_nx t2, sq_nx t3, sq_nx t4]
  rfl
end
end W_k30
set_option Elab.async false
set_option linter.all false
set_option maxRecDepth 100000
set_option maxHeartbeats 2000000
namespace W_k30
open PySem VL L2
def immK : D × List D → Option (D × List D) := fun p => if immut p.1 = true then some p else none
@[simp] theorem immK_i (i : Int) (e : List D) : immK (.int i, e) = some (.int i, e) := rflN rfl
@[simp] theorem zz_eImm (f : Ex) (env : List D) : eImm f env = ob (f env) immK := rflN rfl
theorem ne_str (s : Str) : neD (.str s) (.str s) = some (.bool false) := by
  simp [neD, halfOk, PyData.plain, PyData.depth, PyData.eqv]
def lw1 : Sx := asg 9 (eLend 12 2 (eLst [(eCall (stF F_Store_taken) [.v (eIns 12 "Store" (eVar 2)), .v (eVar 12)]), (eCall (stF F_Store_values_of) (.v (eIns 12 "Store" (eVar 2)) :: ([.v (eC (.int 0))] ++ [.v (eVar 12)]))), (eCall (stF F_Store_values_of) (.v (eIns 12 "Store" (eVar 2)) :: ([.v (eC (.int 1))] ++ [.v (eVar 12)])))]))
def lw2 : Sx := asg 10 (eNs reprD [(eVar 9)])
def lw3 : Sx := sIf (bOr (bNot (asB (eCall (stF F__law_done) ([.io 1, .v (eVar 2), .v (eVar 3)] ++ [.io 12])))) (asB (eBin neD (eNs reprD [(eVar 9)]) (eVar 10)))) (retE (eC (.bool false))) sNil
def kpE : Ex := eLend 12 2 (lcD [11] (iSqA (eDrf 12 (eVar 3))) (gtName 11) bYes (eTup [(eImm (eVar 11)), (eNs listD [(eBin ixA (eDrf 12 (eVar 3)) (eVar 11))])]))
def lw4a : Sx := asg2 4 5 (eCall (stF F_Store_copied) [.v (eIns 12 "Store" (eVar 2)), .io 12]) (eTrkD 12 (eNs dictX [kpE]))
def lw4b : Sx := sIf (bLend 12 (asB (eBin notBD (eEqI 12 "Store" F_Store___eq__ (eVar 2) (eVar 4)) (eC (.bool true))))) (retE (eC (.bool false))) sNil
def lw4 : Sx := sIf (asB (eBin eqD (eCall F__law_take [.io 1, .v (eC (.int 5))]) (eC (.int 0)))) (sq lw4a lw4b) sNil
def lw5 : Sx := sIf (bAnd (asB (eBin eqD (eCall F__law_take [.io 1, .v (eC (.int 6))]) (eC (.int 0)))) (bNot (asB (eCall (stF F__law_done) ([.io 1, .v (eVar 4), .v (eVar 5)] ++ [.io 12]))))) (retE (eC (.bool false))) sNil
def lw6 : Sx := sIf (bLend 12 (bNot (asB (eCall F__law_alike [.v (eEqI 12 "Store" F_Store___eq__ (eVar 2) (eVar 4)), .v (eBin eqD (eCall (stF F__law_shown) ([.v (eVar 3)] ++ [.v (eVar 12)])) (eCall (stF F__law_shown) ([.v (eVar 5)] ++ [.v (eVar 12)])))])))) (retE (eC (.bool false))) sNil
def lw7 : Sx := sIf (bAnd (asB (eBin eqD (eCall F__law_take [.io 1, .v (eC (.int 4))]) (eC (.int 0)))) (bLend 12 (bNot (asB (eCall (stF F__law_looks_right) ([.v (eVar 2), .v (eVar 3)] ++ [.v (eVar 12)])))))) (retE (eC (.bool false))) sNil
def turnB : Sx := sq lw1 (sq lw2 (sq lw3 (sq lw4 (sq lw5 (sq lw6 lw7)))))
def FP (n r : Nat) (m : Rows) (q : Nat) : List Nat := q :: fp n r m
/-- two Stores, each with the law's rows, apart -/
structure Two (objs : List D) (n q n' q' k : Nat) : Prop where
  ex : ∃ r m l r' m' l', Both objs n r m q l k ∧ Both objs n' r' m' q' l' k ∧ ∀ i ∈ FP n r m q, i ∉ FP n' r' m' q'
theorem Both.lt {objs : List D} {n r q k : Nat} {m : Rows} {l : LRows} (B : Both objs n r m q l k) : ∀ i ∈ FP n r m q, i < objs.length := fun i hi => by
  rcases List.mem_cons.mp hi with rfl | hi
  · exact (List.getElem?_eq_some_iff.mp B.R.1).1
  · exact B.S.lt i hi
section
variable {objs : List D} {n q n' q' k : Nat} {x0 bg x2 x3 x4 x5 x6 x7 x8 x9 x10 x11 : D}
theorem tk_bd {l : LRows} (h : Bnd l k) (hk : k ≤ 150) : Bd (takenD l) 1 150 := by
  refine (bd_list (a := 0) (b := 0) (n := 150) (fun d hd => ?_) ?_).mono (by omega) (by omega)
  · have := (srt_perm _).mem_iff.mp hd
    obtain ⟨i, hi, rfl⟩ := List.mem_map.mp this
    unfold tkK at hi
    obtain ⟨p, hp, rfl⟩ := List.mem_map.mp hi
    have := h.2 _ (List.mem_filter.mp hp).1
    exact bd_int (by omega)
  · rw [(srt_perm _).length_eq, List.length_map]
    exact Nat.le_trans (tk_len h) hk
theorem tk_im (l : LRows) : imR 1 (takenD l) = true := by
  unfold takenD
  rw [imR_1, imRL_all, List.all_eq_true]
  intro d hd
  have := (srt_perm _).mem_iff.mp hd
  obtain ⟨i, _, rfl⟩ := List.mem_map.mp this
  rfl
theorem lw12_ok (hb : Bag bg) (T : Two objs n q n' q' k) (hk : k ≤ 140) : ∃ y9 y10 b' O, (∀ Y, sq lw1 (sq lw2 (sq lw3 Y)) [x0, bg, rfD n, rfD q, rfD n', rfD q', x6, x7, x8, x9, x10, x11, stD objs] = Y [x0, b', rfD n, rfD q, rfD n', rfD q', x6, x7, x8, y9, y10, x11, stD O]) ∧ Bag b' ∧ Two O n q n' q' (k + 1) := by
  obtain ⟨r, m, l, r', m', l', B, B', dj⟩ := T
  have h1 := tkn_eq B.S B.b1 (by omega)
  have h2 := values_eq B.S 0
  have h3 := values_eq B.S 1
  have g2 := get_ok B.b1 0
  have g3 := get_ok B.b1 1
  have i1 := B.S.i1
  have it := tk_im (proj m)
  have il : ∀ a b : Int, imR 1 (.list [.int a, .int b]) = true := fun a b => rfl
  obtain ⟨hd, ehd⟩ : ∃ hd, hd = PyData.list [takenD (proj m), .list [.int (lGet (proj m) 0).2.1, .int (lGet (proj m) 0).2.2], .list [.int (lGet (proj m) 1).2.1, .int (lGet (proj m) 1).2.2]] := ⟨_, rfl⟩
  have sm : Sm hd := by
    rw [ehd]
    refine Bd.sm (bd_list (a := 1) (b := 150) (n := 3) (fun d h => ?_) (by simp)) (by omega) (by omega)
    simp at h
    rcases h with rfl | rfl | rfl
    · exact tk_bd B.b1 (by omega)
    · refine (bd_list (a := 0) (b := 0) (n := 2) (fun d h => ?_) (by simp)).mono (by omega) (by omega)
      simp at h
      rcases h with rfl | rfl <;> exact bd_int (by omega)
    · refine (bd_list (a := 0) (b := 0) (n := 2) (fun d h => ?_) (by simp)).mono (by omega) (by omega)
      simp at h
      rcases h with rfl | rfl <;> exact bd_int (by omega)
  have hr := sm.repr
  obtain ⟨b', O, m1, l1, e, hb', B1, F⟩ := done_ok hb B (by omega)
  have t1 : lw1 [x0, bg, rfD n, rfD q, rfD n', rfD q', x6, x7, x8, x9, x10, x11, stD objs] = some (.nx [x0, bg, rfD n, rfD q, rfD n', rfD q', x6, x7, x8, hd, x10, x11, stD objs]) := by
    unfold lw1
    simp [h1, h2, h3, i1, it, il, ehd]
  have t2 : lw2 [x0, bg, rfD n, rfD q, rfD n', rfD q', x6, x7, x8, hd, x10, x11, stD objs] = some (.nx [x0, bg, rfD n, rfD q, rfD n', rfD q', x6, x7, x8, hd, .str hd.shown, x11, stD objs]) := by
    unfold lw2
    simp [hr]
  have t3 : lw3 [x0, bg, rfD n, rfD q, rfD n', rfD q', x6, x7, x8, hd, .str hd.shown, x11, stD objs] = some (.nx [x0, b', rfD n, rfD q, rfD n', rfD q', x6, x7, x8, hd, .str hd.shown, x11, stD O]) := by
    unfold lw3
    simp [e, hr, ne_str]
  refine ⟨hd, .str hd.shown, b', O, fun Y => by rw [sq_nx t1, sq_nx t2, sq_nx t3], hb', ⟨_, _, _, _, _, _, B1, (B'.mono fun i o hi h => F.keep i o (fun z => dj i z hi) h).more (by omega), fun i hi z => ?_⟩⟩
  rcases F.new i hi with y | y
  · exact dj i y z
  · have := B'.lt i z; omega
end
end W_k30
set_option Elab.async false
set_option linter.all false
set_option maxRecDepth 100000
set_option maxHeartbeats 2000000
namespace W_k30
open PySem VL L2
section
variable {objs : List D} {n q n' q' k : Nat} {x0 bg x2 x3 x4 x5 x6 x7 x8 x9 x10 x11 : D}
theorem std_eq {l l' : LRows} (nk : (l.map (·.1)).Nodup) (nk' : (l'.map (·.1)).Nodup) (h : ∀ j, lGet l j = lGet l' j) : stdT l = stdT l' := by
  unfold stdT
  rw [NZ_ext nk nk' h]
theorem kp_ok {l : LRows} (R : LawR objs q l) (hl : l.length ≤ 1000) : kpE [x0, bg, rfD n, rfD q, x4, x5, x6, x7, x8, x9, x10, x11, stD objs] = some (.list ((lK l).map fun p => .tuple [.int p.1, p.2]), [x0, bg, rfD n, rfD q, x4, x5, x6, x7, x8, x9, x10, x11, stD objs]) := by
  obtain ⟨h1, nk⟩ := R
  have hg : ∀ p ∈ l, iGet (lK l) p.1 = some (rowD p.2) := fun p hp => iGet_mem (by rw [lK_keys]; exact nk) (List.mem_map.mpr ⟨p, hp, rfl⟩)
  obtain ⟨e', h6, a, rfl⟩ := lc_map (gt := gtName 11) (tt := bYes) (fe := eTup [(eImm (eVar 11)), (eNs listD [(eBin ixA (eDrf 12 (eVar 3)) (eVar 11))])])
    (fun e => ∃ a, e = [x0, bg, rfD n, rfD q, x4, x5, x6, x7, x8, x9, x10, a, stD objs]) (fun p : Int × R3 => .int p.1) (fun _ => true) (fun p => .tuple [.int p.1, rowD p.2]) l [x0, bg, rfD n, rfD q, x4, x5, x6, x7, x8, x9, x10, x11, stD objs] (fun p hp e he => by
      obtain ⟨a, rfl⟩ := he
      refine ⟨[x0, bg, rfD n, rfD q, x4, x5, x6, x7, x8, x9, x10, .int p.1, stD objs], [x0, bg, rfD n, rfD q, x4, x5, x6, x7, x8, x9, x10, .int p.1, stD objs], by simp, by simp [bYes], fun z => by simp at z, fun _ => ⟨[x0, bg, rfD n, rfD q, x4, x5, x6, x7, x8, x9, x10, .int p.1, stD objs], ?_, _, rfl⟩⟩
      have hp1 := hg p hp
      simp [h1, hp1]
      simp [rowD]) ⟨_, rfl⟩
  have hk2 : keysOf (dI (lK l)) = l.map fun p => .int p.1 := by rw [keysOf_dI]; simp [lK, Function.comp_def]
  have ht : ((l.filter fun _ => true).map fun p : Int × R3 => (PyData.tuple [.int p.1, rowD p.2] : D)) = (lK l).map fun p => .tuple [.int p.1, p.2] := by
    rw [List.filter_eq_self.mpr fun _ _ => rfl]
    simp [lK, Function.comp_def]
  rw [ht] at h6
  have hl2 : ((lK l).map fun p : Int × D => (PyData.tuple [.int p.1, p.2] : D)).length ≤ 1000000 := by simp [lK]; omega
  have im : imRL 1 ((lK l).map fun p : Int × D => (PyData.tuple [.int p.1, p.2] : D)) = true := by
    rw [imRL_all, List.all_eq_true]
    intro d hd
    obtain ⟨p, hp, rfl⟩ := List.mem_map.mp hd
    obtain ⟨z, _, rfl⟩ := List.mem_map.mp hp
    rfl
  have r5 : ∀ a : D, restore [11] [x0, bg, rfD n, rfD q, x4, x5, x6, x7, x8, x9, x10, x11, stD objs] [x0, bg, rfD n, rfD q, x4, x5, x6, x7, x8, x9, x10, a, stD objs] = [x0, bg, rfD n, rfD q, x4, x5, x6, x7, x8, x9, x10, x11, stD objs] := fun a => rfl
  unfold kpE
  generalize (eTup [(eImm (eVar 11)), (eNs listD [(eBin ixA (eDrf 12 (eVar 3)) (eVar 11))])]) = fe at h6 ⊢
  simp only [List.length_map] at hl2
  generalize hL : ((lK l).map fun p : Int × D => (PyData.tuple [.int p.1, p.2] : D)) = L at *
  have hl3 : L.length ≤ 1000000 := by rw [← hL]; simpa using hl2
  simp [h1, hk2, h6, hl3, r5, im]
theorem lw4_ok (hb : Bag bg) (T : Two objs n q n' q' k) (hk : k ≤ 150) : ∃ m1 q1 b' O, lw4 [x0, bg, rfD n, rfD q, rfD n', rfD q', x6, x7, x8, x9, x10, x11, stD objs] = some (.nx [x0, b', rfD n, rfD q, rfD m1, rfD q1, x6, x7, x8, x9, x10, x11, stD O]) ∧ Bag b' ∧ Two O n q m1 q1 k := by
  obtain ⟨w, b', ht, w0, w1, hb'⟩ := take_ok hb (n := 5) (by omega) (by omega)
  have c1 : (asB (eBin eqD (eCall F__law_take [.io 1, .v (eC (.int 5))]) (eC (.int 0)))) [x0, bg, rfD n, rfD q, rfD n', rfD q', x6, x7, x8, x9, x10, x11, stD objs] = some ((w == 0), [x0, b', rfD n, rfD q, rfD n', rfD q', x6, x7, x8, x9, x10, x11, stD objs]) := by simp [ht]
  unfold lw4
  by_cases h0 : (w == 0) = true
  · obtain ⟨r, m, l, r', m', l', B, B', dj⟩ := T
    obtain ⟨O1, n1, r1, m1, e, S1, ep, kp, nw⟩ := copied_eq B.S B.b1 (by omega)
    have R1 : LawR O1 q l := ⟨kp _ _ B.R.1, B.R.2⟩
    have lp := kp_ok (x0 := x0) (bg := b') (n := n) (x4 := rfD n') (x5 := rfD q') (x6 := x6) (x7 := x7) (x8 := x8) (x9 := x9) (x10 := x10) (x11 := x11) R1 (by have := B.b2.1; omega)
    have dx : dictX [.list ((lK l).map fun p => .tuple [.int p.1, p.2])] = some (.dict (dI (lK l))) := by
      rw [dictX_I, iMake_id (by rw [lK_keys]; exact B.R.2)]
    have i1 := B.S.i1
    have j1 : (O1 ++ [PyData.dict (dI (lK l))])[n]? = some (.tuple [.str "Store", rfD r]) := ext_app _ _ _ (kp _ _ i1)
    have j2 : (O1 ++ [PyData.dict (dI (lK l))])[n1]? = some (.tuple [.str "Store", rfD r1]) := ext_app _ _ _ S1.i1
    have eq := eqI_eq (B.S.mono fun i o _ h => ext_app [PyData.dict (dI (lK l))] _ _ (kp _ _ h)) (S1.mono fun i o _ h => ext_app [PyData.dict (dI (lK l))] _ _ h) B.b1 (by rw [ep]; exact B.b1) hk
    have tq : PyData.eqv (stdT (proj m)) (stdT (proj m1)) = true := by
      rw [ep]
      have := (std_sm B.b1 hk).ok
      exact PySem.SeqAt.eqv_refl_plain _ (okS_all this).1
    rw [tq] at eq
    have nb : notBD (.bool true) (.bool true) = some (.bool false) := rfl
    have t1 : lw4a [x0, b', rfD n, rfD q, rfD n', rfD q', x6, x7, x8, x9, x10, x11, stD objs] = some (.nx [x0, b', rfD n, rfD q, rfD n1, rfD O1.length, x6, x7, x8, x9, x10, x11, stD (O1 ++ [.dict (dI (lK l))])]) := by
      unfold lw4a
      generalize kpE = KE at lp ⊢
      simp [i1, e, lp, dx]
    have t2 : lw4b [x0, b', rfD n, rfD q, rfD n1, rfD O1.length, x6, x7, x8, x9, x10, x11, stD (O1 ++ [.dict (dI (lK l))])] = some (.nx [x0, b', rfD n, rfD q, rfD n1, rfD O1.length, x6, x7, x8, x9, x10, x11, stD (O1 ++ [.dict (dI (lK l))])]) := by
      unfold lw4b
      simp [j1, j2, eq, nb]
    refine ⟨n1, O1.length, b', O1 ++ [.dict (dI (lK l))], ?_, hb', ⟨r, m, l, r1, m1, l, B.mono fun i o _ h => ext_app _ _ _ (kp _ _ h), ⟨S1.mono fun i o _ h => ext_app _ _ _ h, ⟨by simp, B.R.2⟩, fun j => by rw [ep]; exact B.eq j, by rw [ep]; exact B.b1, B.b2, fun z => by have := S1.lt _ z; omega⟩, fun i hi z => ?_⟩⟩
    · rw [zz_sIf, c1, ob_some]
      simp only [h0, if_true]
      rw [sq_nx t1, t2]
    · have lt := B.lt i hi
      rcases List.mem_cons.mp z with rfl | z
      · have := (List.getElem?_eq_some_iff.mp (kp _ _ (List.getElem?_eq_getElem lt))).1
        omega
      · have := nw i z
        omega
  · refine ⟨n', q', b', objs, ?_, hb', T⟩
    rw [zz_sIf, c1, ob_some]
    simp only [Bool.eq_false_iff.mpr h0, if_false, Bool.false_eq_true]
    rfl
theorem lw5_ok (hb : Bag bg) (T : Two objs n q n' q' k) (hk : k ≤ 140) : ∃ b' O, lw5 [x0, bg, rfD n, rfD q, rfD n', rfD q', x6, x7, x8, x9, x10, x11, stD objs] = some (.nx [x0, b', rfD n, rfD q, rfD n', rfD q', x6, x7, x8, x9, x10, x11, stD O]) ∧ Bag b' ∧ Two O n q n' q' (k + 1) := by
  obtain ⟨w, b1, ht, w0, w1, hb1⟩ := take_ok hb (n := 6) (by omega) (by omega)
  obtain ⟨r, m, l, r', m', l', B, B', dj⟩ := T
  by_cases h0 : (w == 0) = true
  · obtain ⟨b', O, m1, l1, e, hb', B1, F⟩ := done_ok hb1 B' (by omega)
    have h0' : w = 0 := by simpa using h0
    subst h0'
    refine ⟨b', O, ?_, hb', ⟨_, _, _, _, _, _, (B.mono fun i o hi h => F.keep i o (dj i hi) h).more (by omega), B1, fun i hi z => ?_⟩⟩
    · unfold lw5
      simp [ht, e]
    · rcases F.new i z with y | y
      · exact dj i hi y
      · have := B.lt i hi; omega
  · have h0' : w ≠ 0 := by simpa using h0
    refine ⟨b1, objs, ?_, hb1, ⟨_, _, _, _, _, _, B.more (by omega), B'.more (by omega), dj⟩⟩
    unfold lw5
    simp [ht, h0']
theorem lw6_ok (T : Two objs n q n' q' k) (hk : k ≤ 150) : lw6 [x0, bg, rfD n, rfD q, rfD n', rfD q', x6, x7, x8, x9, x10, x11, stD objs] = some (.nx [x0, bg, rfD n, rfD q, rfD n', rfD q', x6, x7, x8, x9, x10, x11, stD objs]) := by
  obtain ⟨r, m, l, r', m', l', B, B', dj⟩ := T
  have eq := eqI_eq B.S B'.S B.b1 B'.b1 hk
  have nk : ((proj m).map (·.1)).Nodup := by rw [proj_k]; exact B.S.nk
  have nk' : ((proj m').map (·.1)).Nodup := by rw [proj_k]; exact B'.S.nk
  rw [std_eq nk B.R.2 B.eq, std_eq nk' B'.R.2 B'.eq] at eq
  have s1 := shown_eq B.R B.b2 (by omega)
  have s2 := shown_eq B'.R B'.b2 (by omega)
  have h3 : eqD (shwD l) (shwD l') = some (.bool (PyData.eqv (stdT l) (stdT l'))) := by
    unfold eqD
    rw [if_pos (half_sm (shw_sm B.b2 hk) (shw_sm B'.b2 hk)), eqv_both]
  have al := alike_sm ((bd_bool (PyData.eqv (stdT l) (stdT l'))).sm (by omega) (by omega))
  have i1 := B.S.i1
  have i2 := B'.S.i1
  unfold lw6
  simp [i1, i2, eq, s1, s2, h3, al]
theorem lw7_ok (hb : Bag bg) (T : Two objs n q n' q' k) (hk : k ≤ 150) : ∃ b', lw7 [x0, bg, rfD n, rfD q, rfD n', rfD q', x6, x7, x8, x9, x10, x11, stD objs] = some (.nx [x0, b', rfD n, rfD q, rfD n', rfD q', x6, x7, x8, x9, x10, x11, stD objs]) ∧ Bag b' := by
  obtain ⟨w, b1, ht, w0, w1, hb1⟩ := take_ok hb (n := 4) (by omega) (by omega)
  obtain ⟨r, m, l, r', m', l', B, B', dj⟩ := T
  have lk := looks_ok B hk
  refine ⟨b1, ?_, hb1⟩
  unfold lw7
  by_cases h0 : w = 0
  · subst h0
    simp [ht, lk]
  · simp [ht, lk, h0]
theorem turn_ok (hb : Bag bg) (T : Two objs n q n' q' k) (hk : k ≤ 130) : ∃ y9 y10 m1 q1 b' O, turnB [x0, bg, rfD n, rfD q, rfD n', rfD q', x6, x7, x8, x9, x10, x11, stD objs] = some (.nx [x0, b', rfD n, rfD q, rfD m1, rfD q1, x6, x7, x8, y9, y10, x11, stD O]) ∧ Bag b' ∧ Two O n q m1 q1 (k + 2) := by
  obtain ⟨y9, y10, b1, O1, t1, hb1, T1⟩ := lw12_ok (x0 := x0) (x6 := x6) (x7 := x7) (x8 := x8) (x9 := x9) (x10 := x10) (x11 := x11) hb T (by omega)
  obtain ⟨m1, q1, b2, O2, t2, hb2, T2⟩ := lw4_ok (x0 := x0) (x6 := x6) (x7 := x7) (x8 := x8) (x9 := y9) (x10 := y10) (x11 := x11) hb1 T1 (by omega)
  obtain ⟨b3, O3, t3, hb3, T3⟩ := lw5_ok (x0 := x0) (x6 := x6) (x7 := x7) (x8 := x8) (x9 := y9) (x10 := y10) (x11 := x11) hb2 T2 (by omega)
  have t4 := lw6_ok (x0 := x0) (bg := b3) (x6 := x6) (x7 := x7) (x8 := x8) (x9 := y9) (x10 := y10) (x11 := x11) T3 (by omega)
  obtain ⟨b5, t5, hb5⟩ := lw7_ok (x0 := x0) (x6 := x6) (x7 := x7) (x8 := x8) (x9 := y9) (x10 := y10) (x11 := x11) hb3 T3 (by omega)
  refine ⟨y9, y10, m1, q1, b5, O3, ?_, hb5, T3⟩
  unfold turnB
  rw [t1, sq_nx t2, sq_nx t3, sq_nx t4, t5]
end
end W_k30
set_option Elab.async false
set_option linter.all false
set_option maxRecDepth 100000
set_option maxHeartbeats 2000000
namespace W_k30
open PySem VL L2
theorem lc_cnt {gt : Gx} {tt : Bx} {fe : Ex} (P : Nat → List D → Prop) (f : Nat → D) : ∀ (ds : List D) (k : Nat) (e : List D), (∀ (j : Nat) d e, j < ds.length → P (k + j) e → ∃ e1 e2 e3, gt d e = some e1 ∧ tt e1 = some (true, e2) ∧ fe e2 = some (f (k + j), e3) ∧ P (k + j + 1) e3) → P k e → ∃ e', lcL gt tt fe ds e = some ((List.range' k ds.length).map f, e') ∧ P (k + ds.length) e'
  | [], k, e, _, p => ⟨e, by simp, p⟩
  | d :: ds, k, e, h, p => by
    obtain ⟨e1, e2, e3, h1, h2, h3, p3⟩ := h 0 d e (by simp) p
    obtain ⟨e', h4, p'⟩ := lc_cnt P f ds (k + 1) e3 (fun j x e hx q => by
      have := h (j + 1) x e (by simpa using hx) (by rw [show k + (j + 1) = k + 1 + j by omega]; exact q)
      rwa [show k + (j + 1) + 1 = k + 1 + j + 1 by omega, show k + (j + 1) = k + 1 + j by omega] at this) p3
    refine ⟨e', ?_, by rw [List.length_cons, show k + (ds.length + 1) = k + 1 + ds.length by omega]; exact p'⟩
    rw [lcL_cons, h1, ob_some, h2, ob_some]
    simp [h3, h4, List.range'_succ]
/-- the first j numbers taken -/
def FL (j : Nat) : LRows := (List.range j).map fun (i : Nat) => ((i : Int), ((1, 0, 0) : R3))
theorem FL_succ (j : Nat) : FL (j + 1) = FL j ++ [((j : Int), (1, 0, 0))] := by simp [FL, List.range_succ]
theorem FL_keys (j : Nat) : (FL j).map (·.1) = (List.range j).map fun (i : Nat) => (i : Int) := by simp [FL, Function.comp_def]
theorem FL_mem {j : Nat} {a : Int} : a ∈ (FL j).map (·.1) ↔ 0 ≤ a ∧ a < j := by
  rw [FL_keys]
  simp only [List.mem_map, List.mem_range]
  constructor
  · rintro ⟨i, hi, rfl⟩; omega
  · intro ⟨h0, h1⟩
    exact ⟨a.toNat, by omega, by omega⟩
theorem FL_nk : ∀ j : Nat, ((FL j).map (·.1)).Nodup
  | 0 => by simp [FL]
  | j + 1 => by
    rw [FL_succ, List.map_append, List.nodup_append]
    refine ⟨FL_nk j, by simp, fun a ha b hb => ?_⟩
    have := FL_mem.mp ha
    simp at hb
    omega
theorem FL_get (j : Nat) (a : Int) : lGet (FL j) a = if 0 ≤ a ∧ a < j then (1, 0, 0) else (0, 0, 0) := by
  split
  · rename_i h
    obtain ⟨p, hp, e⟩ := List.mem_map.mp (FL_mem.mpr h)
    have : p.2 = (1, 0, 0) := by
      unfold FL at hp
      obtain ⟨i, _, rfl⟩ := List.mem_map.mp hp
      rfl
    refine lGet_in (FL_nk j) ?_
    rw [← this, ← e]
    exact hp
  · rename_i h
    exact lGet_out fun z => h (FL_mem.mp z)
theorem FL_bnd (j : Nat) : Bnd (FL j) j := by
  refine ⟨by simp [FL], fun p hp => ?_⟩
  unfold FL at hp
  obtain ⟨i, hi, rfl⟩ := List.mem_map.mp hp
  have := List.mem_range.mp hi
  simp only
  omega
theorem FL_set (j : Nat) : setL (FL j) j (1, (lGet (FL j) j).2) = FL (j + 1) := by
  rw [FL_get, if_neg (by omega)]
  unfold setL
  rw [if_neg fun z => by have := FL_mem.mp z; omega, FL_succ]
theorem FL_tk (j : Nat) : tkK (FL j) = (List.range j).map fun (i : Nat) => (i : Int) := by
  unfold tkK
  rw [List.filter_eq_self.mpr fun p hp => ?_, FL_keys]
  unfold FL at hp
  obtain ⟨i, hi, rfl⟩ := List.mem_map.mp hp
  rfl
section
variable {objs : List D} {n r k M : Nat} {m : Rows} {x0 bg x2 x3 x4 x5 x6 x7 x8 x9 x10 x11 : D}
def tkE : Ex := eCall (stF F_Store_take) [.v (eIns 12 "Store" (eVar 8)), .io 12]
def allE : Ex := lcD [6] (iRg1 (eVar 7)) (gtName 6) bYes tkE
theorem all_ok (S : StoR objs n r m) (hm : proj m = []) (hM : M ≤ 100) : ∃ O m', allE [x0, bg, x2, x3, x4, x5, x6, .int M, rfD n, x9, x10, x11, stD objs] = some (.list (VL.upTo M), [x0, bg, x2, x3, x4, x5, x6, .int M, rfD n, x9, x10, x11, stD O]) ∧ StoR O n r m' ∧ proj m' = FL M := by
  obtain ⟨e', h6, a, O, m', rfl, S', e⟩ := lc_cnt (gt := gtName 6) (tt := bYes) (fe := tkE)
    (fun j e => ∃ a O m', e = [x0, bg, x2, x3, x4, x5, a, .int M, rfD n, x9, x10, x11, stD O] ∧ StoR O n r m' ∧ proj m' = FL j) (fun j => .int j) (VL.upTo M) 0 [x0, bg, x2, x3, x4, x5, x6, .int M, rfD n, x9, x10, x11, stD objs] (fun j d e hj he => by
      obtain ⟨a, O, m', rfl, S', e⟩ := he
      rw [Nat.zero_add] at e
      rw [upTo_len] at hj
      have hb : Bnd (proj m') j := by rw [e]; exact FL_bnd j
      obtain ⟨O', h, m2, S2, e2, F⟩ := take_eq (L := j) S' hb (by omega) (by omega) (by rw [e, FL_get, if_neg (by omega)]; simp) (fun b hb => by rw [e, FL_get, if_pos (by omega)]; simp)
      have i1 := S'.i1
      refine ⟨[x0, bg, x2, x3, x4, x5, d, .int M, rfD n, x9, x10, x11, stD O], [x0, bg, x2, x3, x4, x5, d, .int M, rfD n, x9, x10, x11, stD O], [x0, bg, x2, x3, x4, x5, d, .int M, rfD n, x9, x10, x11, stD O'], by simp, by simp [bYes], ?_, d, O', m2, rfl, S2, ?_⟩
      · unfold tkE
        rw [Nat.zero_add]
        simp [i1, h]
      · rw [e2, e, Nat.zero_add, FL_set]) ⟨_, _, _, rfl, S, by rw [hm]; rfl⟩
  have hu : (List.range' 0 (VL.upTo M).length).map (fun (j : Nat) => (PyData.int j : D)) = VL.upTo M := by
    rw [upTo_len, ← List.range_eq_range']
    rfl
  rw [hu] at h6
  rw [upTo_len, Nat.zero_add] at e
  refine ⟨O, m', ?_, S', e⟩
  have hl : (VL.upTo M).length ≤ 1000000 := by rw [upTo_len]; omega
  have r5 : restore [6] [x0, bg, x2, x3, x4, x5, x6, .int M, rfD n, x9, x10, x11, stD objs] [x0, bg, x2, x3, x4, x5, a, .int M, rfD n, x9, x10, x11, stD O] = [x0, bg, x2, x3, x4, x5, x6, .int M, rfD n, x9, x10, x11, stD O] := rfl
  unfold allE
  generalize tkE = TE at h6 ⊢
  simp [rgK_i _ _ (show -4611686018427387904 ≤ (M : Int) by omega) (by omega), h6, hl, r5]
end
end W_k30
set_option Elab.async false
set_option linter.all false
set_option maxRecDepth 100000
set_option maxHeartbeats 2000000
namespace W_k30
open PySem VL L2
def en0 : Sx := asgG (eTup [(eNew "Store" (stF F_Store___init__) [] 12), (eTrkD 12 (eC (.dict []))), (eNew "Store" (stF F_Store___init__) [] 12), (eTrkD 12 (eC (.dict [])))]) (gtTup 4 (gtCons (gtName 2) (gtCons (gtName 3) (gtCons (gtName 4) (gtCons (gtName 5) gtNil)))))
def en1 : Sx := sIf (bLend 12 (bOr (bNot (asB (eCall (stF F__law_looks_right) ([.v (eVar 2), .v (eVar 3)] ++ [.v (eVar 12)])))) (bNot (asB (eCall (stF F__law_looks_right) ([.v (eVar 4), .v (eVar 5)] ++ [.v (eVar 12)])))))) (retE (eC (.bool false))) sNil
def en2 : Sx := asg2 7 8 (eBin addD (eC (.int 30)) (eCall F__law_take [.io 1, .v (eC (.int 40))])) (eNew "Store" (stF F_Store___init__) [] 12)
def en3 : Sx := sIf (bOr (asB (eBin neD allE (eLR1 (eVar 7)))) (bLend 12 (asB (eBin neD (eNs lenD [(eCall (stF F_Store_taken) [.v (eIns 12 "Store" (eVar 8)), .v (eVar 12)])]) (eVar 7))))) (retE (eC (.bool false))) sNil
def en4 : Sx := sExp (eCall (stF F_Store_lower_one) (.v (eIns 12 "Store" (eVar 8)) :: ([.v (eBin subD (eVar 7) (eC (.int 2)))] ++ [.io 12])))
def en5 : Sx := retE (eCall F__law_alike [.v (eLst [tkE, tkE, (eLend 12 0 (eCall (stF F_Store_count_of) (.v (eIns 12 "Store" (eVar 8)) :: ([.v (eBin addD (eVar 7) (eC (.int 1)))] ++ [.v (eVar 12)]))))]), .v (eLst [(eBin subD (eVar 7) (eC (.int 2))), (eVar 7), (eC (.int 0))])])
def loopS : Sx := forD (iRg1 (eBin addD (eC (.int 10)) (eCall F__law_take [.io 1, .v (eC (.int 30))]))) (gtName 6) turnB
theorem g_law_eq : g_law = sq en0 (sq loopS (sq en1 (sq en2 (sq en3 (sq en4 en5))))) := rfl
theorem rgOk_M {M : Nat} (hM : M ≤ 100) : rgOk 0 M = true := by
    unfold rgOk
    have l1 : (100 : Nat) ≤ lim := by decide
    have l2 : ((M : Int) - 0).toNat ≤ lim := Nat.le_trans (by omega) l1
    generalize lim = L at *
    simp only [Bool.and_eq_true, decide_eq_true_eq]
    omega
theorem rgD_M {M : Nat} : rgD 0 M = VL.upTo M := by simp [rgD, VL.upTo]
def lrK : D × List D → Option (D × List D) := fun p => match p.1 with
  | .int j => if rgOk 0 j = true then some (.list (rgD 0 j), p.2) else none
  | _ => none
theorem lrK_i {j : Int} (e : List D) (h : rgOk 0 j = true) : lrK (.int j, e) = some (.list (rgD 0 j), e) := by
  unfold lrK
  simp only [h]
  rfl
theorem zz_eLR1 (a : Ex) (env : List D) : eLR1 a env = ob (a env) lrK := rfl
section
variable {objs : List D} {n q n' q' r k M : Nat} {m : Rows} {x0 bg x2 x3 x4 x5 x6 x7 x8 x9 x10 x11 : D}
theorem lr1_ok (hM : M ≤ 100) (e : List D) (h : e[7]? = some (.int M)) : eLR1 (eVar 7) e = some (.list (VL.upTo M), e) := by
  have h1 : eVar 7 e = some (.int M, e) := by simp [h]
  rw [zz_eLR1, h1, ob_some, lrK_i e (rgOk_M hM), rgD_M]
theorem en0_ok (bg : D) : ∃ O, en0 [.none, bg, .none, .none, .none, .none, .none, .none, .none, .none, .none, .none, stD []] = some (.nx [.none, bg, rfD 0, rfD 2, rfD 3, rfD 5, .none, .none, .none, .none, .none, .none, stD O]) ∧ Two O 0 2 3 5 0 := by
  have i0 := init_eq (objs := [])
  have i3 := init_eq (objs := [PyData.tuple [.str "Store", rfD 1], .dict [], .dict []])
  simp at i0 i3
  refine ⟨[.tuple [.str "Store", rfD 1], .dict [], .dict [], .tuple [.str "Store", rfD 4], .dict [], .dict []], ?_, ⟨1, [], [], 4, [], [], ⟨⟨rfl, rfl, (fun p hp => by cases hp), by simp, by simp⟩, ⟨rfl, by simp⟩, fun j => rfl, ⟨by simp [proj], fun p hp => by cases hp⟩, ⟨by simp, fun p hp => by cases hp⟩, by simp [fp]⟩, ⟨⟨rfl, rfl, (fun p hp => by cases hp), by simp, by simp⟩, ⟨rfl, by simp⟩, fun j => rfl, ⟨by simp [proj], fun p hp => by cases hp⟩, ⟨by simp, fun p hp => by cases hp⟩, by simp [fp]⟩, by simp [FP, fp]⟩⟩
  unfold en0
  simp [i0, i3]
theorem loop_ok (hb : Bag bg) (T : Two objs n q n' q' 0) : ∃ b' m1 q1 y6 y9 y10 O, loopS [x0, bg, rfD n, rfD q, rfD n', rfD q', x6, x7, x8, x9, x10, x11, stD objs] = some (.nx [x0, b', rfD n, rfD q, rfD m1, rfD q1, y6, x7, x8, y9, y10, x11, stD O]) ∧ Bag b' ∧ Two O n q m1 q1 80 := by
  obtain ⟨w, b1, ht, w0, w1, hb1⟩ := take_ok hb (n := 30) (by omega) (by omega)
  obtain ⟨e', h1, b', m1, q1, y6, y9, y10, O, rfl, hb', T'⟩ := for_genN (gt := gtName 6) (gb := turnB) (fun j e => ∃ b' m1 q1 y6 y9 y10 O, e = [x0, b', rfD n, rfD q, rfD m1, rfD q1, y6, x7, x8, y9, y10, x11, stD O] ∧ Bag b' ∧ Two O n q m1 q1 (2 * j)) (VL.upTo (10 + w).toNat) 0 [x0, b1, rfD n, rfD q, rfD n', rfD q', x6, x7, x8, x9, x10, x11, stD objs] (fun j d e hj ⟨b', m1, q1, y6, y9, y10, O, he, hb', T'⟩ => by
    subst he
    have hj2 : j < (10 + w).toNat := by
      have := (List.getElem?_eq_some_iff.mp hj).1
      rwa [upTo_len] at this
    obtain ⟨z9, z10, m2, q2, b2, O2, h, hb2, T2⟩ := turn_ok (x0 := x0) (x6 := d) (x7 := x7) (x8 := x8) (x9 := y9) (x10 := y10) (x11 := x11) hb' T' (by omega)
    exact ⟨_, _, rfl, .inl h, b2, m2, q2, d, z9, z10, O2, rfl, hb2, T2⟩) ⟨_, _, _, _, _, _, _, rfl, hb1, T⟩
  rw [upTo_len] at T'
  have T'' : Two O n q m1 q1 80 := by
    obtain ⟨r, m, l, r', m', l', B, B', dj⟩ := T'
    exact ⟨_, _, _, _, _, _, B.more (by omega), B'.more (by omega), dj⟩
  refine ⟨b', m1, q1, y6, y9, y10, O, ?_, hb', T''⟩
  unfold loopS
  generalize turnB = tb at h1 ⊢
  simp [ht, rgK_i (10 + w) _ (by omega) (by omega)]
  exact h1
theorem en1_ok (T : Two objs n q n' q' k) (hk : k ≤ 150) : en1 [x0, bg, rfD n, rfD q, rfD n', rfD q', x6, x7, x8, x9, x10, x11, stD objs] = some (.nx [x0, bg, rfD n, rfD q, rfD n', rfD q', x6, x7, x8, x9, x10, x11, stD objs]) := by
  obtain ⟨r, m, l, r', m', l', B, B', dj⟩ := T
  have h1 := looks_ok B hk
  have h2 := looks_ok B' hk
  unfold en1
  simp [h1, h2]
theorem en2_ok (hb : Bag bg) : ∃ (b' : D) (M : Nat) (O : List D), 30 ≤ M ∧ M ≤ 69 ∧ Bag b' ∧ en2 [x0, bg, x2, x3, x4, x5, x6, x7, x8, x9, x10, x11, stD objs] = some (.nx [x0, b', x2, x3, x4, x5, x6, .int M, rfD objs.length, x9, x10, x11, stD O]) ∧ StoR O objs.length (objs.length + 1) [] := by
  obtain ⟨w, b1, ht, w0, w1, hb1⟩ := take_ok hb (n := 40) (by omega) (by omega)
  have i0 := init_eq (objs := objs)
  refine ⟨b1, (30 + w).toNat, _, by omega, by omega, hb1, ?_, new_eq⟩
  unfold en2
  simp [ht, i0]
  omega
theorem en3_ok (S : StoR objs n r m) (hm : proj m = []) (h30 : 30 ≤ M) (hM : M ≤ 100) : ∃ O m', en3 [x0, bg, x2, x3, x4, x5, x6, .int M, rfD n, x9, x10, x11, stD objs] = some (.nx [x0, bg, x2, x3, x4, x5, x6, .int M, rfD n, x9, x10, x11, stD O]) ∧ StoR O n r m' ∧ proj m' = FL M := by
  obtain ⟨O, m', h1, S', e⟩ := all_ok (x0 := x0) (bg := bg) (x2 := x2) (x3 := x3) (x4 := x4) (x5 := x5) (x6 := x6) (x9 := x9) (x10 := x10) (x11 := x11) S hm hM
  refine ⟨O, m', ?_, S', e⟩
  have h2 := lr1_ok hM [x0, bg, x2, x3, x4, x5, x6, .int M, rfD n, x9, x10, x11, stD O] rfl
  have sm : Sm (.list (VL.upTo M)) := by
    refine Bd.sm (bd_list (a := 0) (b := 0) (n := 100) (fun d h => ?_) (by rw [upTo_len]; exact hM)) (by omega) (by omega)
    unfold VL.upTo at h
    obtain ⟨i, hi, rfl⟩ := List.mem_map.mp h
    have := List.mem_range.mp hi
    exact bd_int (by omega)
  have ne := sm_ne sm
  have tk := tkn_eq S' (k := M) (by rw [e]; exact FL_bnd M) (by omega)
  rw [e] at tk
  have i1 := S'.i1
  have hl : (srt ((tkK (FL M)).map .int)).length = M := by
    rw [(srt_perm _).length_eq, List.length_map, FL_tk, List.length_map, List.length_range]
  have hn : neD (.int M) (.int M) = some (.bool false) := by simp [neD, halfOk, PyData.plain, PyData.depth, PyData.eqv]
  have t1 : eBin neD allE (eLR1 (eVar 7)) [x0, bg, x2, x3, x4, x5, x6, .int M, rfD n, x9, x10, x11, stD objs] = some (.bool false, [x0, bg, x2, x3, x4, x5, x6, .int M, rfD n, x9, x10, x11, stD O]) := by
    generalize allE = A at h1 ⊢
    generalize (eLR1 (eVar 7)) = R at h2 ⊢
    simp [h1, h2, ne]
  unfold en3
  generalize (eBin neD allE (eLR1 (eVar 7))) = A at t1 ⊢
  simp [t1, i1, tk, takenD, hl]
end
end W_k30
set_option Elab.async false
set_option linter.all false
set_option maxRecDepth 100000
set_option maxHeartbeats 2000000
namespace W_k30
open PySem VL L2
section
variable {objs : List D} {n q n' q' r k M : Nat} {m : Rows} {x0 bg x2 x3 x4 x5 x6 x7 x8 x9 x10 x11 : D}
def A1 (M : Nat) : LRows := setL (FL M) ((M : Int) - 2) (0, 0, 0)
def A2 (M : Nat) : LRows := setL (A1 M) ((M : Int) - 2) (1, 0, 0)
def A3 (M : Nat) : LRows := setL (A2 M) (M : Int) (1, 0, 0)
theorem A1_nk (M : Nat) : ((A1 M).map (·.1)).Nodup := setL_nk (FL_nk M)
theorem A2_nk (M : Nat) : ((A2 M).map (·.1)).Nodup := setL_nk (A1_nk M)
theorem A1_get (M : Nat) (i : Int) : lGet (A1 M) i = if i = (M : Int) - 2 then (0, 0, 0) else if 0 ≤ i ∧ i < M then (1, 0, 0) else (0, 0, 0) := by
  unfold A1
  rw [setL_get (FL_nk M), FL_get]
theorem A2_get (M : Nat) (i : Int) : lGet (A2 M) i = if i = (M : Int) - 2 then (1, 0, 0) else if 0 ≤ i ∧ i < M then (1, 0, 0) else (0, 0, 0) := by
  unfold A2
  rw [setL_get (A1_nk M), A1_get]
  split <;> rfl
theorem A3_get (M : Nat) (i : Int) : lGet (A3 M) i = if i = (M : Int) then (1, 0, 0) else if i = (M : Int) - 2 then (1, 0, 0) else if 0 ≤ i ∧ i < M then (1, 0, 0) else (0, 0, 0) := by
  unfold A3
  rw [setL_get (A2_nk M), A2_get]
theorem A1_bnd {M : Nat} (h : 30 ≤ M) : Bnd (A1 M) (M + 1) := setL_bnd (FL_bnd M) (by omega) (by omega) (by simp only; omega)
theorem A2_bnd {M : Nat} (h : 30 ≤ M) : Bnd (A2 M) (M + 2) := setL_bnd (A1_bnd h) (by omega) (by omega) (by simp only; omega)
theorem en4_ok (S : StoR objs n r m) (hm : proj m = FL M) (h30 : 30 ≤ M) (hM : M ≤ 100) : ∃ O m', en4 [x0, bg, x2, x3, x4, x5, x6, .int M, rfD n, x9, x10, x11, stD objs] = some (.nx [x0, bg, x2, x3, x4, x5, x6, .int M, rfD n, x9, x10, x11, stD O]) ∧ StoR O n r m' ∧ proj m' = A1 M := by
  have hl : m.length < 1000 := by
    have : (proj m).length = M := by rw [hm]; simp [FL]
    simp [proj] at this
    omega
  obtain ⟨O, h, m', S', e, _⟩ := lower_eq (j := (M : Int) - 2) S hl
  rw [hm, FL_get, if_pos (by omega)] at e
  have i1 := S.i1
  refine ⟨O, m', ?_, S', e⟩
  unfold en4
  simp [i1, h]
theorem tkE_ok {l : LRows} {L : Nat} (S : StoR objs n r m) (hm : proj m = l) (hb : Bnd l k) (hk : k < 900) (hL : L ≤ 42 + k) (h2 : lGet l L = (0, 0, 0)) (h3 : ∀ a : Nat, a < L → 0 < (lGet l a).1) : ∃ O m', tkE [x0, bg, x2, x3, x4, x5, x6, x7, rfD n, x9, x10, x11, stD objs] = some (.int L, [x0, bg, x2, x3, x4, x5, x6, x7, rfD n, x9, x10, x11, stD O]) ∧ StoR O n r m' ∧ proj m' = setL l L (1, 0, 0) := by
  subst hm
  obtain ⟨O, h, m', S', e, _⟩ := take_eq S hb hk hL (by rw [h2]; exact Int.le_refl 0) h3
  rw [h2] at e
  have i1 := S.i1
  refine ⟨O, m', ?_, S', e⟩
  unfold tkE
  simp [i1, h]
theorem en5_ok (S : StoR objs n r m) (hm : proj m = A1 M) (h30 : 30 ≤ M) (hM : M ≤ 100) : ∃ e, en5 [x0, bg, x2, x3, x4, x5, x6, .int M, rfD n, x9, x10, x11, stD objs] = some (.rt (.bool true) e) := by
  have c : ((M - 2 : Nat) : Int) = (M : Int) - 2 := by omega
  obtain ⟨O1, m1, t1, S1, e1⟩ := tkE_ok (L := M - 2) (k := M + 1) (x0 := x0) (bg := bg) (x2 := x2) (x3 := x3) (x4 := x4) (x5 := x5) (x6 := x6) (x7 := .int M) (x9 := x9) (x10 := x10) (x11 := x11) S hm (A1_bnd h30) (by omega) (by omega) (by rw [c, A1_get, if_pos rfl]) (fun a ha => by
    rw [A1_get, if_neg (by omega), if_pos (by omega)]
    simp)
  have e1' : proj m1 = A2 M := by rw [e1, c]; rfl
  obtain ⟨O2, m2, t2, S2, e2⟩ := tkE_ok (L := M) (k := M + 2) (x0 := x0) (bg := bg) (x2 := x2) (x3 := x3) (x4 := x4) (x5 := x5) (x6 := x6) (x7 := .int M) (x9 := x9) (x10 := x10) (x11 := x11) S1 e1' (A2_bnd h30) (by omega) (by omega) (by rw [A2_get, if_neg (by omega), if_neg (by omega)]) (fun a ha => by
    rw [A2_get]
    split
    · simp
    · rw [if_pos (by omega)]; simp)
  have e2' : proj m2 = A3 M := e2
  have cn := count_eq S2 ((M : Int) + 1)
  rw [e2', A3_get, if_neg (by omega), if_neg (by omega), if_neg (by omega)] at cn
  have i2 := S2.i1
  have sm : Sm (.list [.int ((M : Int) - 2), .int M, .int 0]) := by
    refine Bd.sm (bd_list (a := 0) (b := 0) (n := 3) (fun d h => ?_) (by simp)) (by omega) (by omega)
    simp at h
    rcases h with rfl | rfl | rfl <;> exact bd_int (by omega)
  have al := alike_sm sm
  rw [c] at t1
  refine ⟨[x0, bg, x2, x3, x4, x5, x6, .int M, rfD n, x9, x10, x11, stD O2], ?_⟩
  unfold en5
  generalize tkE = TE at t1 t2 ⊢
  have im : immutR (PyData.int 0) = true := rfl
  simp [t1, t2, i2, cn, al, im]
end
theorem bag0 (ns : List Int) (h : ns.length ≤ 63) : Bag (bagD ns) := by
  refine ⟨0, 1234567891, 0, ns.map absI, rfl, by omega, fun c m => ?_, by simpa using h⟩
  rw [List.mem_map] at m
  obtain ⟨i, _, rfl⟩ := m
  unfold absI
  split <;> omega
theorem law_math : ∀ ns : List Int, ns.length ≤ 63 → ∃ e, g_law (env0S 13 ns) = some (.rt (.bool true) e) := fun ns h => by
  have e0 : env0S 13 ns = [.none, bagD ns, .none, .none, .none, .none, .none, .none, .none, .none, .none, .none, stD []] := rfl
  obtain ⟨O0, t0, T0⟩ := en0_ok (bagD ns)
  obtain ⟨b1, m1, q1, y6, y9, y10, O1, t1, hb1, T1⟩ := loop_ok (x0 := .none) (x6 := .none) (x7 := .none) (x8 := .none) (x9 := .none) (x10 := .none) (x11 := .none) (bag0 ns h) T0
  have t2 := en1_ok (x0 := .none) (bg := b1) (x6 := y6) (x7 := .none) (x8 := .none) (x9 := y9) (x10 := y10) (x11 := .none) T1 (by omega)
  obtain ⟨b3, M, O3, h30, h69, hb3, t3, S3⟩ := en2_ok (objs := O1) (x0 := .none) (x2 := rfD 0) (x3 := rfD 2) (x4 := rfD m1) (x5 := rfD q1) (x6 := y6) (x7 := .none) (x8 := .none) (x9 := y9) (x10 := y10) (x11 := .none) hb1
  obtain ⟨O4, m4, t4, S4, e4⟩ := en3_ok (M := M) (x0 := .none) (bg := b3) (x2 := rfD 0) (x3 := rfD 2) (x4 := rfD m1) (x5 := rfD q1) (x6 := y6) (x9 := y9) (x10 := y10) (x11 := .none) S3 rfl h30 (by omega)
  obtain ⟨O5, m5, t5, S5, e5⟩ := en4_ok (x0 := .none) (bg := b3) (x2 := rfD 0) (x3 := rfD 2) (x4 := rfD m1) (x5 := rfD q1) (x6 := y6) (x9 := y9) (x10 := y10) (x11 := .none) S4 e4 h30 (by omega)
  obtain ⟨e, t6⟩ := en5_ok (x0 := .none) (bg := b3) (x2 := rfD 0) (x3 := rfD 2) (x4 := rfD m1) (x5 := rfD q1) (x6 := y6) (x9 := y9) (x10 := y10) (x11 := .none) S5 e5 h30 (by omega)
  exact ⟨e, by rw [e0, g_law_eq, sq_nx t0, sq_nx t1, sq_nx t2, sq_nx t3, sq_nx t4, sq_nx t5, t6]⟩
end W_k30
open PySem PySem.W PyProof.Rows
set_option maxRecDepth 100000 in
set_option maxHeartbeats 0 in
theorem PySem.Challenge.cw_belowall_k30_stores_holds : PySem.Challenge.rw_belowall_k30_stores.Holds := by
  w_on; o_law; k_head; (case hw => w_witness2)
  k_fill
  refine VL.walk_ofD (l := PySem.Challenge.rw_belowall_k30_stores) (n := 63) (k := 4) (x := "_law_script") (sp := VL.spLaw) (ts := []) [] rfl (by decide) rfl ⟨rfl, by decide, by decide⟩ (fun w h Y => ⟨PySem.W.kIn_of Y, fun P m => by cases m⟩) (fun w => by kernel_rfl) ?F (fun K H a ns hl hT hS => ⟨a, ns, rfl, hT, hS, hl, fun _ => rfl⟩)
  case F =>
    intro w mg fa h KX G hmg
    refine' W_k30.all_mk KX G hmg W_k30.law_math ?vl_v_Store ?vl_x_1_Store ?vl_x_2_Store ?vl_x_3_Store ?vl_x_4_Store ?vl_x_5_Store_its_rows ?vl_x_6_Store_its_rows ?vl_x_7_Store_its_rows ?vl_x_8_Store_its_rows ?vl_x_9_Store_its_rows ?vl_x_i_Store ?vl_x_b_0 ?vl_x_c_0 ?vl_x_d_0 ?vl_x_e_0 ?vl_l0 ?vl_c0 ?vl_k0 ?vl_x_b_1 ?vl_x_c_1 ?vl_l1 ?vl_c1 ?vl_k1 ?vl_x_b_2 ?vl_x_c_2 ?vl_l2 ?vl_c2 ?vl_k2 ?vl_x_b_3 ?vl_x_c_3 ?vl_l3 ?vl_c3 ?vl_k3 ?vl_x_b_4 ?vl_x_c_4 ?vl_l4 ?vl_c4 ?vl_k4 ?vl_x_b_5 ?vl_x_c_5 ?vl_l5 ?vl_c5 ?vl_k5 ?vl_a6 ?vl_l6 ?vl_c6 ?vl_k6 ?vl_a7 ?vl_l7 ?vl_c7 ?vl_k7 ?vl_a8 ?vl_l8 ?vl_c8 ?vl_k8 ?vl_a9 ?vl_l9 ?vl_c9 ?vl_k9 ?vl_a10 ?vl_l10 ?vl_c10 ?vl_k10 ?vl_x_b_11 ?vl_x_c_11 ?vl_l11 ?vl_c11 ?vl_k11 ?vl_x_b_12 ?vl_x_c_12 ?vl_l12 ?vl_c12 ?vl_k12 ?vl_x_b_13 ?vl_x_c_13 ?vl_l13 ?vl_c13 ?vl_k13 ?vl_x_b_14 ?vl_x_c_14 ?vl_l14 ?vl_c14 ?vl_k14 ?vl_x_b_15 ?vl_x_c_15 ?vl_l15 ?vl_c15 ?vl_k15 ?vl_x_b_16 ?vl_x_c_16 ?vl_l16 ?vl_c16 ?vl_k16 ?vl_a17 ?vl_l17 ?vl_c17 ?vl_k17 ?vl_a18 ?vl_l18 ?vl_c18 ?vl_k18 ?vl_x_b_19 ?vl_x_c_19 ?vl_l19 ?vl_c19 ?vl_k19 ?vl_a20 ?vl_l20 ?vl_c20 ?vl_k20 ?vl_a21 ?vl_l21 ?vl_c21 ?vl_k21 ?vl_z0 ?vl_z1 ?vl_z2 ?vl_z3 ?vl_z4 ?vl_z5 ?vl_z6 ?vl_z7 ?vl_z8 ?vl_z9 ?vl_z10 ?vl_g0 ?vl_m_EMPTY
    (case vl_v_Store => refine VL.nsIn_mark ?_; k_is)
    (case vl_x_1_Store => rw [VL.markL_nil]; k_is)
    (case vl_x_2_Store => rw [VL.markL_nil]; k_is)
    (case vl_x_3_Store => rw [VL.markL_nil]; k_is)
    (case vl_x_4_Store => rw [VL.markL_nil]; k_is)
    (case vl_x_5_Store_its_rows => rw [VL.markL_nil]; k_is)
    (case vl_x_6_Store_its_rows => rw [VL.markL_nil]; k_is)
    (case vl_x_7_Store_its_rows => rw [VL.markL_nil]; k_is)
    (case vl_x_8_Store_its_rows => rw [VL.markL_nil]; k_is)
    (case vl_x_9_Store_its_rows => rw [VL.markL_nil]; k_is)
    (case vl_x_i_Store => rw [VL.markL_nil]; k_is)
    (case vl_x_b_0 => rw [VL.markL_nil]; k_is)
    (case vl_x_c_0 => rw [VL.markL_nil]; k_is)
    (case vl_x_d_0 => rw [VL.markL_nil]; k_is)
    (case vl_x_e_0 => rw [VL.markL_nil]; k_is)
    (case vl_l0 => refine VL.markL_get ?_; k_is)
    (case vl_c0 => refine VL.codeIn_mark ?_; k_is)
    (case vl_k0 => refine' VL.keepIn_mark ?lk; (case lk => k_is))
    (case vl_x_b_1 => rw [VL.markL_nil]; k_is)
    (case vl_x_c_1 => rw [VL.markL_nil]; k_is)
    (case vl_l1 => refine VL.markL_get ?_; k_is)
    (case vl_c1 => refine VL.codeIn_mark ?_; k_is)
    (case vl_k1 => refine' VL.keepIn_mark ?lk; (case lk => k_is))
    (case vl_x_b_2 => rw [VL.markL_nil]; k_is)
    (case vl_x_c_2 => rw [VL.markL_nil]; k_is)
    (case vl_l2 => refine VL.markL_get ?_; k_is)
    (case vl_c2 => refine VL.codeIn_mark ?_; k_is)
    (case vl_k2 => refine' VL.keepIn_mark ?lk; (case lk => k_is))
    (case vl_x_b_3 => rw [VL.markL_nil]; k_is)
    (case vl_x_c_3 => rw [VL.markL_nil]; k_is)
    (case vl_l3 => refine VL.markL_get ?_; k_is)
    (case vl_c3 => refine VL.codeIn_mark ?_; k_is)
    (case vl_k3 => refine' VL.keepIn_mark ?lk; (case lk => k_is))
    (case vl_x_b_4 => rw [VL.markL_nil]; k_is)
    (case vl_x_c_4 => rw [VL.markL_nil]; k_is)
    (case vl_l4 => refine VL.markL_get ?_; k_is)
    (case vl_c4 => refine VL.codeIn_mark ?_; k_is)
    (case vl_k4 => refine' VL.keepIn_mark ?lk; (case lk => k_is))
    (case vl_x_b_5 => rw [VL.markL_nil]; k_is)
    (case vl_x_c_5 => rw [VL.markL_nil]; k_is)
    (case vl_l5 => refine VL.markL_get ?_; k_is)
    (case vl_c5 => refine VL.codeIn_mark ?_; k_is)
    (case vl_k5 => refine' VL.keepIn_mark ?lk; (case lk => k_is))
    (case vl_a6 => refine VL.nsIn_mark ?_; k_is)
    (case vl_l6 => refine VL.markL_get ?_; k_is)
    (case vl_c6 => refine VL.codeIn_mark ?_; k_is)
    (case vl_k6 => refine' VL.keepIn_mark ?lk; (case lk => k_is))
    (case vl_a7 => refine VL.nsIn_mark ?_; k_is)
    (case vl_l7 => refine VL.markL_get ?_; k_is)
    (case vl_c7 => refine VL.codeIn_mark ?_; k_is)
    (case vl_k7 => refine' VL.keepIn_mark ?lk; (case lk => k_is))
    (case vl_a8 => refine VL.nsIn_mark ?_; k_is)
    (case vl_l8 => refine VL.markL_get ?_; k_is)
    (case vl_c8 => refine VL.codeIn_mark ?_; k_is)
    (case vl_k8 => refine' VL.keepIn_mark ?lk; (case lk => k_is))
    (case vl_a9 => refine VL.nsIn_mark ?_; k_is)
    (case vl_l9 => refine VL.markL_get ?_; k_is)
    (case vl_c9 => refine VL.codeIn_mark ?_; k_is)
    (case vl_k9 => refine' VL.keepIn_mark ?lk; (case lk => k_is))
    (case vl_a10 => refine VL.nsIn_mark ?_; k_is)
    (case vl_l10 => refine VL.markL_get ?_; k_is)
    (case vl_c10 => refine VL.codeIn_mark ?_; k_is)
    (case vl_k10 => refine' VL.keepIn_mark ?lk; (case lk => k_is))
    (case vl_x_b_11 => rw [VL.markL_nil]; k_is)
    (case vl_x_c_11 => rw [VL.markL_nil]; k_is)
    (case vl_l11 => refine VL.markL_get ?_; k_is)
    (case vl_c11 => refine VL.codeIn_mark ?_; k_is)
    (case vl_k11 => refine' VL.keepIn_mark ?lk; (case lk => k_is))
    (case vl_x_b_12 => rw [VL.markL_nil]; k_is)
    (case vl_x_c_12 => rw [VL.markL_nil]; k_is)
    (case vl_l12 => refine VL.markL_get ?_; k_is)
    (case vl_c12 => refine VL.codeIn_mark ?_; k_is)
    (case vl_k12 => refine' VL.keepIn_mark ?lk; (case lk => k_is))
    (case vl_x_b_13 => rw [VL.markL_nil]; k_is)
    (case vl_x_c_13 => rw [VL.markL_nil]; k_is)
    (case vl_l13 => refine VL.markL_get ?_; k_is)
    (case vl_c13 => refine VL.codeIn_mark ?_; k_is)
    (case vl_k13 => refine' VL.keepIn_mark ?lk; (case lk => k_is))
    (case vl_x_b_14 => rw [VL.markL_nil]; k_is)
    (case vl_x_c_14 => rw [VL.markL_nil]; k_is)
    (case vl_l14 => refine VL.markL_get ?_; k_is)
    (case vl_c14 => refine VL.codeIn_mark ?_; k_is)
    (case vl_k14 => refine' VL.keepIn_mark ?lk; (case lk => k_is))
    (case vl_x_b_15 => rw [VL.markL_nil]; k_is)
    (case vl_x_c_15 => rw [VL.markL_nil]; k_is)
    (case vl_l15 => refine VL.markL_get ?_; k_is)
    (case vl_c15 => refine VL.codeIn_mark ?_; k_is)
    (case vl_k15 => refine' VL.keepIn_mark ?lk; (case lk => k_is))
    (case vl_x_b_16 => rw [VL.markL_nil]; k_is)
    (case vl_x_c_16 => rw [VL.markL_nil]; k_is)
    (case vl_l16 => refine VL.markL_get ?_; k_is)
    (case vl_c16 => refine VL.codeIn_mark ?_; k_is)
    (case vl_k16 => refine' VL.keepIn_mark ?lk; (case lk => k_is))
    (case vl_a17 => refine VL.nsIn_mark ?_; k_is)
    (case vl_l17 => refine VL.markL_get ?_; k_is)
    (case vl_c17 => refine VL.codeIn_mark ?_; k_is)
    (case vl_k17 => refine' VL.keepIn_mark ?lk; (case lk => k_is))
    (case vl_a18 => refine VL.nsIn_mark ?_; k_is)
    (case vl_l18 => refine VL.markL_get ?_; k_is)
    (case vl_c18 => refine VL.codeIn_mark ?_; k_is)
    (case vl_k18 => refine' VL.keepIn_mark ?lk; (case lk => k_is))
    (case vl_x_b_19 => rw [VL.markL_nil]; k_is)
    (case vl_x_c_19 => rw [VL.markL_nil]; k_is)
    (case vl_l19 => refine VL.markL_get ?_; k_is)
    (case vl_c19 => refine VL.codeIn_mark ?_; k_is)
    (case vl_k19 => refine' VL.keepIn_mark ?lk; (case lk => k_is))
    (case vl_a20 => refine VL.nsIn_mark ?_; k_is)
    (case vl_l20 => refine VL.markL_get ?_; k_is)
    (case vl_c20 => refine VL.codeIn_mark ?_; k_is)
    (case vl_k20 => refine' VL.keepIn_mark ?lk; (case lk => k_is))
    (case vl_a21 => refine VL.nsIn_mark ?_; k_is)
    (case vl_l21 => refine VL.markL_get ?_; k_is)
    (case vl_c21 => refine VL.codeIn_mark ?_; k_is)
    (case vl_k21 => refine' VL.keepIn_mark ?lk; (case lk => k_is))
    (case vl_z0 => refine VL.nsIn_mark ?_; k_is)
    (case vl_z1 => refine VL.nsIn_mark ?_; k_is)
    (case vl_z2 => refine VL.nsIn_mark ?_; k_is)
    (case vl_z3 => refine VL.nsIn_mark ?_; k_is)
    (case vl_z4 => refine VL.nsIn_mark ?_; k_is)
    (case vl_z5 => refine VL.nsIn_mark ?_; k_is)
    (case vl_z6 => refine VL.nsIn_mark ?_; k_is)
    (case vl_z7 => refine VL.nsIn_mark ?_; k_is)
    (case vl_z8 => refine VL.nsIn_mark ?_; k_is)
    (case vl_z9 => refine VL.nsIn_mark ?_; k_is)
    (case vl_z10 => refine VL.nsIn_mark ?_; k_is)
    (case vl_g0 => refine VL.nsIn_mark ?_; k_is)
    (case vl_m_EMPTY => refine VL.markL_get ?_; k_is)
