import PyProof.Rows.All
import Wide.All
import OpenK.AllK
import Wide.FinOn
import PySem.Challenge.RW_turnheaps_k07_whole_weavings
import HandS.ForMost
import HandS.ForExc
import HandS.Defaults
import HandS.WideBits
import HandS.Lambda
import HandS.Gcd
import HandS.IsInst
import HandS.TupAny
import HandS.TupMul
import HandS.Deep
import HandS.Style
import HandS.Flow
import HandS.TupLe
import HandS.SetFor
import HandS.SortInts
import KE.KMathGC
import HandS.HeadHook4
import HandS.Small
import HandS.AnyAll
import HandS.GenList
import HandS.DictTup
import HandS.HeadWalk
import HandS.Head0
import HandS.Head1
import HandS.Head2
import HandS.Star
import HandS.Conv
import HandS.Zip
import HandS.Strs
import HandS.ExcOwn
import HandS.ExcIs
import PyProof.AssignAttr
import KE.GoesEnum
import KE.GoesNew
import HandS.DictComp
import HandS.TupSets
import PyProof.TupleOfSeq
set_option Elab.async false
set_option linter.all false
set_option maxRecDepth 100000
/-! Xt: each def of the text as a plain function over data and a small memory; the promise of a def says that it gives what its function gives. -/
namespace Xt
open PySem PySem.Spec PyProof.Rows L2

/-! ### data -/
/-- what a slot holds: data that never change; an object of the memory; a tuple with such in it; nothing that is told -/
inductive Dv where
  | g (x : PyData)
  | r (i : Nat)
  | t (xs : List Dv)
  | u
/-- an object that may change -/
inductive MO where
  | lst (xs : List Dv)
  | dct (kvs : List (Int × Dv))
  | ins (c : Str) (fs : List (Str × Dv))
  | dead
abbrev Mem := List MO
structure Exn where
  cls : Str
  ix : Option PyData
inductive RE (α : Type) where
  | fail
  | ok (a : α) (M : Mem)
  | ex (c : Exn) (M : Mem)
abbrev Co (α : Type) := Mem → RE α
def bnd {α β : Type} (f : Co α) (k : α → Co β) : Co β := fun M => match f M with
  | .fail => .fail
  | .ok a M' => k a M'
  | .ex c M' => .ex c M'
def rt {α : Type} (a : α) : Co α := fun M => .ok a M
def fl {α : Type} : Co α := fun _ => .fail
def ofO {α : Type} : Option α → Co α
  | some a => rt a
  | none => fl
/-- what stands in the memory at i -/
def atM {α : Type} (i : Nat) (k : MO → Co α) : Co α := fun M => match M[i]? with
  | some mo => k mo M
  | none => .fail
abbrev Slots := List Dv

/-! ### how data stand in the abstract heap -/
/-- a list that does not change any more: locked, or written by the top -/
def LsF (K : PySem.W.Frag) (H : Hp) (a : Addr) (xs : List V) : Prop :=
  (∃ o, H a = some (.frz o (.lst xs))) ∨ ∃ (o : Obj) (its : Array Value) (n : Nat), K.lookup a = some o ∧ o.cls = .type "list" ∧ o.dict = none ∧ o.data = .seq its n ∧ its.size ≤ sizeLine ∧ Vals xs its.toList
theorem LsF.sq {K : PySem.W.Frag} {H : Hp} {a : Addr} {xs : List V} (h : LsF K H a xs) : SqL K H a xs := by
  rcases h with ⟨o, h⟩ | h
  · exact .inl (.inr ⟨o, h⟩)
  · exact .inr h
mutual
inductive RpV (K : PySem.W.Frag) (H : Hp) : V → PyData → Prop
  | non : RpV K H .non .none
  | bl (b : Bool) : RpV K H (.bl b) (.bool b)
  | int (i : Int) : RpV K H (.int i) (.int i)
  | str (x : Str) : RpV K H (.str x) (.str x)
  | lst {a : Addr} {xs : List V} {ds : List PyData} : LsF K H a xs → RpVs K H xs ds → RpV K H (.ref a) (.list ds)
  | tup {a : Addr} {xs : List V} {ds : List PyData} : H a = some (.tup xs) → RpVs K H xs ds → RpV K H (.ref a) (.tuple ds)
  | dct {a : Addr} {o : Obj} {kvs : List (Key × V)} {kds : List (PyData × PyData)} : H a = some (.frz o (.dK kvs)) → RpKs K H kvs kds → RpV K H (.ref a) (.dict kds)
inductive RpVs (K : PySem.W.Frag) (H : Hp) : List V → List PyData → Prop
  | nil : RpVs K H [] []
  | cons {v : V} {vs : List V} {d : PyData} {ds : List PyData} : RpV K H v d → RpVs K H vs ds → RpVs K H (v :: vs) (d :: ds)
inductive RpKs (K : PySem.W.Frag) (H : Hp) : List (Key × V) → List (PyData × PyData) → Prop
  | nil : RpKs K H [] []
  | cons {i : Int} {v : V} {kvs : List (Key × V)} {d : PyData} {kds : List (PyData × PyData)} : RpV K H v d → RpKs K H kvs kds → RpKs K H ((.inl i, v) :: kvs) ((.int i, d) :: kds)
end
/-- what is locked and what is a tuple stays -/
structure Keep (H H' : Hp) : Prop where
  frz : ∀ a o u, H a = some (.frz o u) → H' a = some (.frz o u)
  tup : ∀ a xs, H a = some (.tup xs) → H' a = some (.tup xs)
theorem Keep.refl (H : Hp) : Keep H H := ⟨fun _ _ _ h => h, fun _ _ h => h⟩
theorem Keep.trans {H H1 H2 : Hp} (a : Keep H H1) (b : Keep H1 H2) : Keep H H2 := ⟨fun x o u h => b.frz x o u (a.frz x o u h), fun x o h => b.tup x o (a.tup x o h)⟩
section
variable {K : PySem.W.Frag} {H H' : Hp}
theorem LsF.mono {a : Addr} {xs : List V} (k : Keep H H') (h : LsF K H a xs) : LsF K H' a xs := by
  rcases h with ⟨o, h⟩ | h
  · exact .inl ⟨o, k.frz _ _ _ h⟩
  · exact .inr h
mutual
theorem RpV.mono (k : Keep H H') : ∀ {v : V} {d : PyData}, RpV K H v d → RpV K H' v d
  | _, _, .non => .non
  | _, _, .bl b => .bl b
  | _, _, .int i => .int i
  | _, _, .str x => .str x
  | _, _, .lst h r => .lst (h.mono k) (RpVs.mono k r)
  | _, _, .tup h r => .tup (k.tup _ _ h) (RpVs.mono k r)
  | _, _, .dct h r => .dct (k.frz _ _ _ h) (RpKs.mono k r)
theorem RpVs.mono (k : Keep H H') : ∀ {vs : List V} {ds : List PyData}, RpVs K H vs ds → RpVs K H' vs ds
  | _, _, .nil => .nil
  | _, _, .cons h r => .cons (RpV.mono k h) (RpVs.mono k r)
theorem RpKs.mono (k : Keep H H') : ∀ {vs : List (Key × V)} {ds : List (PyData × PyData)}, RpKs K H vs ds → RpKs K H' vs ds
  | _, _, .nil => .nil
  | _, _, .cons h r => .cons (RpV.mono k h) (RpKs.mono k r)
end
theorem RpVs.length : ∀ {vs : List V} {ds : List PyData}, RpVs K H vs ds → vs.length = ds.length
  | _, _, .nil => rfl
  | _, _, .cons _ r => by rw [List.length_cons, List.length_cons, RpVs.length r]
theorem RpKs.length : ∀ {vs : List (Key × V)} {ds : List (PyData × PyData)}, RpKs K H vs ds → vs.length = ds.length
  | _, _, .nil => rfl
  | _, _, .cons _ r => by rw [List.length_cons, List.length_cons, RpKs.length r]
/-- the library's own reading of such data (no dict in it) -/
def flat : PyData → Bool
  | .dict _ => false
  | _ => true
mutual
def noDct : PyData → Bool
  | .dict _ => false
  | .list xs => noDcts xs
  | .tuple xs => noDcts xs
  | _ => true
def noDcts : List PyData → Bool
  | [] => true
  | x :: xs => noDct x && noDcts xs
end
mutual
theorem RpV.dp : ∀ {v : V} {d : PyData}, RpV K H v d → noDct d = true → Dp K H v d
  | _, _, .non, _ => .non
  | _, _, .bl b, _ => .bl b
  | _, _, .int i, _ => .int i
  | _, _, .str x, _ => .str x
  | _, _, .lst h r, z => .lst h.sq (RpVs.dp r (by rw [noDct] at z; exact z))
  | _, _, .tup h r, z => .tup (.inl (.inl h)) (RpVs.dp r (by rw [noDct] at z; exact z))
  | _, _, .dct h r, z => by rw [noDct] at z; cases z
theorem RpVs.dp : ∀ {vs : List V} {ds : List PyData}, RpVs K H vs ds → noDcts ds = true → DpAll K H vs ds
  | _, _, .nil, _ => .nil
  | _, _, .cons h r, z => by
    rw [noDcts] at z
    obtain ⟨z1, z2⟩ := Bool.and_eq_true_iff.mp z
    exact .cons (RpV.dp h z1) (RpVs.dp r z2)
end
end

/-! ### slots, memory -/
/-- the written part, the module's names, the tables of code objects -/
structure Gx where
  K : PySem.W.Frag
  mg : Str → Option Value
  tbs : List Addr
  nm : Addr → Option Str
mutual
inductive RpD (G : Gx) (ι : List Addr) (H : Hp) : V → Dv → Prop
  | g {v : V} {x : PyData} : RpV G.K H v x → RpD G ι H v (.g x)
  | r {a : Addr} {i : Nat} : ι[i]? = some a → RpD G ι H (.ref a) (.r i)
  | t {a : Addr} {vs : List V} {xs : List Dv} : H a = some (.tup vs) → RpDs G ι H vs xs → RpD G ι H (.ref a) (.t xs)
inductive RpDs (G : Gx) (ι : List Addr) (H : Hp) : List V → List Dv → Prop
  | nil : RpDs G ι H [] []
  | cons {v : V} {vs : List V} {d : Dv} {ds : List Dv} : RpD G ι H v d → RpDs G ι H vs ds → RpDs G ι H (v :: vs) (d :: ds)
end
inductive RpI (G : Gx) (ι : List Addr) (H : Hp) : List (Key × V) → List (Int × Dv) → Prop
  | nil : RpI G ι H [] []
  | cons {i : Int} {v : V} {kvs : List (Key × V)} {d : Dv} {kds : List (Int × Dv)} : RpD G ι H v d → RpI G ι H kvs kds → RpI G ι H ((.inl i, v) :: kvs) ((i, d) :: kds)
inductive RpF (G : Gx) (ι : List Addr) (H : Hp) : List (Str × V) → List (Str × Dv) → Prop
  | nil : RpF G ι H [] []
  | cons {f : Str} {v : V} {kvs : List (Str × V)} {d : Dv} {kds : List (Str × Dv)} : RpD G ι H v d → RpF G ι H kvs kds → RpF G ι H ((f, v) :: kvs) ((f, d) :: kds)
section
variable {G : Gx} {ι ι' : List Addr} {H H' : Hp}
theorem pre_get {ι ι' : List Addr} (p : ι <+: ι') {i : Nat} {a : Addr} (h : ι[i]? = some a) : ι'[i]? = some a := by
  obtain ⟨t, rfl⟩ := p
  rw [List.getElem?_append_left (List.getElem?_eq_some_iff.mp h).1]
  exact h
mutual
theorem RpD.mono (p : ι <+: ι') (k : Keep H H') : ∀ {v : V} {d : Dv}, RpD G ι H v d → RpD G ι' H' v d
  | _, _, .g h => .g (h.mono k)
  | _, _, .r h => .r (pre_get p h)
  | _, _, .t h r => .t (k.tup _ _ h) (RpDs.mono p k r)
theorem RpDs.mono (p : ι <+: ι') (k : Keep H H') : ∀ {vs : List V} {ds : List Dv}, RpDs G ι H vs ds → RpDs G ι' H' vs ds
  | _, _, .nil => .nil
  | _, _, .cons h r => .cons (RpD.mono p k h) (RpDs.mono p k r)
end
theorem RpI.mono (p : ι <+: ι') (k : Keep H H') {vs : List (Key × V)} {ds : List (Int × Dv)} (h : RpI G ι H vs ds) : RpI G ι' H' vs ds := by
  induction h with
  | nil => exact .nil
  | cons h _ ih => exact .cons (h.mono p k) ih
theorem RpF.mono (p : ι <+: ι') (k : Keep H H') {vs : List (Str × V)} {ds : List (Str × Dv)} (h : RpF G ι H vs ds) : RpF G ι' H' vs ds := by
  induction h with
  | nil => exact .nil
  | cons h _ ih => exact .cons (h.mono p k) ih
theorem RpDs.length : ∀ {vs : List V} {ds : List Dv}, RpDs G ι H vs ds → vs.length = ds.length
  | _, _, .nil => rfl
  | _, _, .cons _ r => by rw [List.length_cons, List.length_cons, RpDs.length r]
theorem RpDs.append : ∀ {vs ws : List V} {ds es : List Dv}, RpDs G ι H vs ds → RpDs G ι H ws es → RpDs G ι H (vs ++ ws) (ds ++ es)
  | _, _, _, _, .nil, h => h
  | _, _, _, _, .cons h r, z => .cons h (RpDs.append r z)
theorem RpDs.get : ∀ {vs : List V} {ds : List Dv} {i : Nat} {d : Dv}, RpDs G ι H vs ds → ds[i]? = some d → ∃ v, vs[i]? = some v ∧ RpD G ι H v d
  | _, _, _, _, .nil, h => by simp at h
  | _, _, 0, _, .cons h _, e => by
    simp at e
    subst e
    exact ⟨_, rfl, h⟩
  | _, _, i + 1, _, .cons _ r, e => by
    obtain ⟨v, h1, h2⟩ := RpDs.get (i := i) r (by simpa using e)
    exact ⟨v, by simpa using h1, h2⟩
theorem RpDs.set {v : V} {d : Dv} (h : RpD G ι H v d) : ∀ {vs : List V} {ds : List Dv} (i : Nat), RpDs G ι H vs ds → RpDs G ι H (vs.set i v) (ds.set i d)
  | _, _, _, .nil => .nil
  | _, _, 0, .cons _ r => .cons h r
  | _, _, i + 1, .cons q r => .cons q (RpDs.set h i r)
theorem RpDs.take : ∀ {vs : List V} {ds : List Dv} (n : Nat), RpDs G ι H vs ds → RpDs G ι H (vs.take n) (ds.take n)
  | _, _, 0, _ => .nil
  | _, _, _ + 1, .nil => .nil
  | _, _, n + 1, .cons h r => .cons h (RpDs.take n r)
theorem RpDs.drop : ∀ {vs : List V} {ds : List Dv} (n : Nat), RpDs G ι H vs ds → RpDs G ι H (vs.drop n) (ds.drop n)
  | _, _, 0, h => h
  | _, _, _ + 1, .nil => .nil
  | _, _, n + 1, .cons _ r => RpDs.drop n r
theorem RpDs.snoc {vs : List V} {ds : List Dv} {v : V} {d : Dv} (h : RpDs G ι H vs ds) (z : RpD G ι H v d) : RpDs G ι H (vs ++ [v]) (ds ++ [d]) := h.append (.cons z .nil)
/-- data as slots' values and back -/
theorem RpVs.ds : ∀ {vs : List V} {xs : List PyData}, RpVs G.K H vs xs → RpDs G ι H vs (xs.map Dv.g)
  | _, _, .nil => .nil
  | _, _, .cons h r => .cons (.g h) (RpVs.ds r)
/-- all of them data -/
def grd : List Dv → Option (List PyData)
  | [] => some []
  | .g x :: r => (grd r).map (x :: ·)
  | _ :: _ => none
theorem RpDs.grd : ∀ {vs : List V} {ds : List Dv} {xs : List PyData}, RpDs G ι H vs ds → Xt.grd ds = some xs → RpVs G.K H vs xs
  | _, _, _, .nil, e => by
    cases e
    exact .nil
  | _, .g x :: r, xs, .cons (.g h) q, e => by
    rw [Xt.grd] at e
    cases e1 : Xt.grd r with
    | none =>
      rw [e1] at e
      cases e
    | some ys =>
      rw [e1] at e
      cases e
      exact .cons h (RpDs.grd q e1)
  | _, .r _ :: _, _, _, e => by cases e
  | _, .t _ :: _, _, _, e => by cases e
  | _, .u :: _, _, _, e => by cases e
end
def isTbl : HO → Bool
  | .tbl _ => true
  | _ => false
/-- one object of the memory -/
def MoR (G : Gx) (ι : List Addr) (H : Hp) (a : Addr) : MO → Prop
  | .lst xs => ∃ vs, H a = some (.lst vs) ∧ RpDs G ι H vs xs
  | .dct kvs => ∃ kws, H a = some (.dK kws) ∧ RpI G ι H kws kvs
  | .ins c fs => ∃ C dx fvs, G.mg c = some (.ref C) ∧ H a = some (.ins C dx fvs) ∧ RpF G ι H fvs fs
  | .dead => ∃ o, H a = some o ∧ isTbl o = false
/-- a table of code objects; where it has a name, all of it bears that name -/
def TbR (nm : Addr → Option Str) (H : Hp) (P : Addr) : Prop := ∃ ps : Array Value, H P = some (.tbl ps) ∧ TriplesOk ps.toList ∧ ∀ q, nm P = some q → ∀ (pos : Pos) (cv : Value), codeAmong pos ps.toList = some cv → ∃ c, cv = .ref c ∧ H c = some (LamX.CodeO c q)
theorem TbR.to {nm : Addr → Option Str} {H H' : Hp} {P : Addr} (t : TbR nm H P) (k1 : ∀ ps, H P = some (.tbl ps) → H' P = some (.tbl ps)) (k2 : ∀ c f, H c = some (.ext f) → H' c = some (.ext f)) : TbR nm H' P := by
  obtain ⟨ps, h, t, n⟩ := t
  refine ⟨ps, k1 ps h, t, fun q e pos cv hc => ?_⟩
  obtain ⟨c, e1, e2⟩ := n q e pos cv hc
  exact ⟨c, e1, k2 c _ e2⟩
structure MemR (G : Gx) (ι : List Addr) (H : Hp) (M : Mem) : Prop where
  len : ι.length = M.length
  nd : ι.Nodup
  ob : ∀ (i : Nat) (a : Addr) (mo : MO), ι[i]? = some a → M[i]? = some mo → MoR G ι H a mo
  tab : ∀ P ∈ G.tbs, TbR G.nm H P
/-- from one state to a later one -/
structure Ext (G : Gx) (ι : List Addr) (H : Hp) (ι' : List Addr) (M' : Mem) (H' : Hp) : Prop where
  pre : ι <+: ι'
  mem : MemR G ι' H' M'
  keep : Keep H H'
  frame : ∀ b o, H b = some o → isTbl o = false → b ∉ ι → H' b = some o
  tbl : ∀ b ps, H b = some (.tbl ps) → ∃ qs, H' b = some (.tbl qs)
  fresh : ∀ a ∈ ι', a ∉ ι → H a = none
theorem Ext.refl {G : Gx} {ι : List Addr} {H : Hp} {M : Mem} (m : MemR G ι H M) : Ext G ι H ι M H :=
  ⟨List.prefix_refl _, m, .refl _, fun _ _ h _ _ => h, fun _ ps h => ⟨ps, h⟩, fun _ h n => absurd h n⟩
theorem Ext.trans {G : Gx} {ι ι1 ι2 : List Addr} {H H1 H2 : Hp} {M1 M2 : Mem} (a : Ext G ι H ι1 M1 H1) (b : Ext G ι1 H1 ι2 M2 H2) : Ext G ι H ι2 M2 H2 where
  pre := a.pre.trans b.pre
  mem := b.mem
  keep := a.keep.trans b.keep
  frame := fun x o h1 h2 h3 => b.frame x o (a.frame x o h1 h2 h3) h2 fun z => by
    rw [a.fresh x z h3] at h1
    cases h1
  tbl := fun x ps h => by
    obtain ⟨qs, e⟩ := a.tbl x ps h
    exact b.tbl x qs e
  fresh := fun x h n => by
    by_cases z : x ∈ ι1
    · exact a.fresh x z n
    · have e := b.fresh x h z
      cases q : H x with
      | none => rfl
      | some o =>
        cases t : isTbl o with
        | false =>
          rw [a.frame x o q t n] at e
          cases e
        | true =>
          cases o with
          | tbl ps =>
            obtain ⟨qs, e2⟩ := a.tbl x ps q
            rw [e2] at e
            cases e
          | _ => cases t
/-- slots -/
structure StR (G : Gx) (H : Hp) (σ : L2.St) (ι : List Addr) (ρ : Slots) (M : Mem) : Prop where
  len : σ.length = ρ.length
  mem : MemR G ι H M
  sl : ∀ (i : Nat) (d : Dv), ρ[i]? = some d → d ≠ .u → ∃ v, σ[i]? = some (some v) ∧ RpD G ι H v d
theorem StR.ext {G : Gx} {ι ι1 : List Addr} {H H1 : Hp} {M M1 : Mem} {σ : L2.St} {ρ : Slots} (s : StR G H σ ι ρ M) (x : Ext G ι H ι1 M1 H1) : StR G H1 σ ι1 ρ M1 :=
  ⟨s.len, x.mem, fun i d h n => by
    obtain ⟨v, e, r⟩ := s.sl i d h n
    exact ⟨v, e, r.mono x.pre x.keep⟩⟩
/-- an exception: its class by name, its index -/
def ExR (G : Gx) (H : Hp) (c : Exn) (cls : Value) (dx : Option Addr) : Prop :=
  (∃ C, G.mg c.cls = some (.ref C) ∧ cls = .ref C) ∧ match c.ix with
    | none => dx = none
    | some x => ∃ d v, dx = some d ∧ H d = some (.xd [("index", v)]) ∧ RpV G.K H v x
/-- what follows, whatever the addresses -/
def Post {α : Type} (G : Gx) (E : XK) (ι : List Addr) (H : Hp) (Q : α → List Addr → Mem → Hp → Prop) : RE α → Prop
  | .fail => False
  | .ok a M' => ∀ ι' H', Ext G ι H ι' M' H' → Q a ι' M' H'
  | .ex c M' => ∀ ι' H' cls dx, Ext G ι H ι' M' H' → ExR G H' c cls dx → E cls dx H'
section
variable {α β : Type} {G : Gx} {E : XK} {ι ι1 : List Addr} {H H1 : Hp} {M M1 : Mem}
theorem Post.mono {Q Q' : α → List Addr → Mem → Hp → Prop} {r : RE α} (h : Post G E ι H Q r) (k : ∀ a ι' M' H', Ext G ι H ι' M' H' → Q a ι' M' H' → Q' a ι' M' H') : Post G E ι H Q' r := by
  cases r with
  | fail => exact h
  | ok a M' => exact fun ι' H' x => k a ι' M' H' x (h ι' H' x)
  | ex c M' => exact h
theorem Post.shift {Q : α → List Addr → Mem → Hp → Prop} {r : RE α} (x : Ext G ι H ι1 M1 H1) (h : Post G E ι H Q r) : Post G E ι1 H1 Q r := by
  cases r with
  | fail => exact h
  | ok a M' => exact fun ι' H' y => h ι' H' (x.trans y)
  | ex c M' => exact fun ι' H' cls dx y => h ι' H' cls dx (x.trans y)
theorem Post.bnd {f : Co α} {k : α → Co β} {Q : β → List Addr → Mem → Hp → Prop} (h : Post G E ι H Q (bnd f k M)) :
    Post G E ι H (fun a ι1 M1 H1 => Post G E ι1 H1 Q (k a M1)) (f M) := by
  unfold Xt.bnd at h
  cases e : f M with
  | fail =>
    rw [e] at h
    exact h
  | ok a M' =>
    rw [e] at h
    intro ι1 H1 x
    exact Post.shift x h
  | ex c M' =>
    rw [e] at h
    exact h
theorem Post.atM {i : Nat} {k : MO → Co α} {Q : α → List Addr → Mem → Hp → Prop} (h : Post G E ι H Q (Xt.atM i k M)) : ∃ mo, M[i]? = some mo ∧ Post G E ι H Q (k mo M) := by
  unfold Xt.atM at h
  cases e : M[i]? with
  | none =>
    rw [e] at h
    exact h.elim
  | some mo =>
    rw [e] at h
    exact ⟨mo, rfl, h⟩
theorem Post.ofO {o : Option α} {k : α → Co β} {Q : β → List Addr → Mem → Hp → Prop} (h : Post G E ι H Q (Xt.bnd (ofO o) k M)) : ∃ a, o = some a ∧ Post G E ι H Q (k a M) := by
  cases o with
  | none => exact False.elim h
  | some a => exact ⟨a, rfl, h⟩
theorem Post.rt (m : MemR G ι H M) {a : α} {Q : α → List Addr → Mem → Hp → Prop} (h : Post G E ι H Q (rt a M)) : Q a ι M H := h ι H (.refl m)
end

/-! ### readings -/
/-- an expression: f's value is what follows -/
def QE (G : Gx) (Q : VK) : Dv → List Addr → Mem → Hp → Prop := fun d ι' _ H' => ∀ v, RpD G ι' H' v d → Q v H'
def rdE (G : Gx) (E : XK) (f : Slots → Co Dv) : TE := fun σ H Q => ∃ ι ρ M, StR G H σ ι ρ M ∧ Post G E ι H (QE G Q) (f ρ M)
def rdA (G : Gx) (E : XK) (f : Slots → Co (List Dv)) : TA := fun σ H Q => ∃ ι ρ M, StR G H σ ι ρ M ∧ Post G E ι H (fun ds ι' _ H' => ∀ vs, RpDs G ι' H' vs ds → Q vs H') (f ρ M)
def rdT (G : Gx) (E : XK) (f : Slots → Co Bool) : TT := fun σ H Q => ∃ ι ρ M, StR G H σ ι ρ M ∧ Post G E ι H (fun b _ _ H' => Q b H') (f ρ M)
/-- a statement's end -/
inductive Fl where
  | nx (ρ : Slots)
  | rt (d : Dv)
  | bk (ρ : Slots)
  | ct (ρ : Slots)
def QS (G : Gx) (D : Ends) : Fl → List Addr → Mem → Hp → Prop := fun f ι' M' H' => match f with
  | .nx ρ => ∀ σ, StR G H' σ ι' ρ M' → D.nx σ H'
  | .rt d => ∀ v, RpD G ι' H' v d → D.rt v H'
  | .bk ρ => ∀ σ, StR G H' σ ι' ρ M' → D.bk σ H'
  | .ct ρ => ∀ σ, StR G H' σ ι' ρ M' → D.ct σ H'
def rdS (G : Gx) (E : XK) (f : Slots → Co Fl) : TS := fun D σ H => ∃ ι ρ M, StR G H σ ι ρ M ∧ Post G E ι H (QS G D) (f ρ M)

/-! ### another reading of the same -/
section
variable {X : Cx}
theorem peI {e : Expr} {t t' : TE} (h : PE X e t) (k : ∀ σ H Q, t' σ H Q → t σ H Q) : PE X e t' := ⟨fun pins s σ H Q I z => h.run pins s σ H Q I (k σ H Q z)⟩
theorem paI {e : List Expr} {t t' : TA} (h : PA X e t) (k : ∀ σ H Q, t' σ H Q → t σ H Q) : PA X e t' := ⟨fun pos pins s σ H Q I z => h.run pos pins s σ H Q I (k σ H Q z)⟩
theorem ptI {e : Expr} {t t' : TT} (h : PT X e t) (k : ∀ σ H Q, t' σ H Q → t σ H Q) : PT X e t' := ⟨fun pins s σ H Q I z => h.run pins s σ H Q I (k σ H Q z)⟩
theorem pwI {e : Expr} {t t' : TT} (h : PW X e t) (k : ∀ σ H Q, t' σ H Q → t σ H Q) : PW X e t' := ⟨fun w pins s σ H Q I z => h.run w pins s σ H Q I (k σ H Q z)⟩
theorem psI {e : Stmt} {t t' : TS} (h : PS X e t) (k : ∀ D σ H, t' D σ H → t D σ H) : PS X e t' := ⟨fun pins s σ H D I z => h.run pins s σ H D I (k D σ H z)⟩
theorem pssI {e : List Stmt} {t t' : TS} (h : PSs X e t) (k : ∀ D σ H, t' D σ H → t D σ H) : PSs X e t' := ⟨fun pins s σ H D I z => h.run pins s σ H D I (k D σ H z)⟩
/-- the value may be locked behind an expression -/
theorem pe_frz {e : Expr} {t : TE} (h : PE X e t) : PE X e (fun σ H Q => t σ H fun v H1 => Q v H1 ∨ ∃ d u, v = .ref d ∧ H1 d = some u ∧ Mut (some u) ∧ ∀ od, Q v (upd H1 d (.frz od u))) := by
  refine ⟨fun pins s σ H Q I z => ?_⟩
  refine thn (h.run pins s σ H _ I z) fun u s1 ⟨x, H1, I1, r1, q⟩ => ?_
  rcases q with q | ⟨d, w, rfl, hd, mu, q⟩
  · exact ⟨x, H1, I1, r1, q⟩
  · obtain ⟨od, I2⟩ := I1.lock hd mu
    exact ⟨_, _, I2, r1, q od⟩
end
end Xt
set_option Elab.async false
set_option linter.all false
set_option maxRecDepth 100000
set_option maxHeartbeats 1000000
namespace Xt
open PySem PySem.Spec PyProof.Rows L2

/-! ### new objects, changed objects -/
section
variable {G : Gx} {E : XK} {ι : List Addr} {H : Hp} {M : Mem} {p : Addr} {o : HO}
theorem keep_new (hp : H p = none) : Keep H (upd H p o) :=
  ⟨fun a ob u h => by rw [upd_ne (ne_of_none h hp)]; exact h, fun a xs h => by rw [upd_ne (ne_of_none h hp)]; exact h⟩
theorem MemR.at (m : MemR G ι H M) {a : Addr} (h : a ∈ ι) : ∃ o, H a = some o := by
  obtain ⟨i, hi, e⟩ := List.getElem_of_mem h
  have h1 : ι[i]? = some a := by rw [List.getElem?_eq_getElem hi, e]
  have h2 : i < M.length := by rw [← m.len]; exact hi
  have q := m.ob i a M[i] h1 (List.getElem?_eq_getElem h2)
  cases z : M[i] with
  | lst xs =>
    rw [z] at q
    obtain ⟨vs, q, _⟩ := q
    exact ⟨_, q⟩
  | dct xs =>
    rw [z] at q
    obtain ⟨vs, q, _⟩ := q
    exact ⟨_, q⟩
  | ins c xs =>
    rw [z] at q
    obtain ⟨C, dx, fvs, _, q, _⟩ := q
    exact ⟨_, q⟩
  | dead =>
    rw [z] at q
    obtain ⟨o, q, _⟩ := q
    exact ⟨o, q⟩
theorem MoR.mono {ι' : List Addr} {H' : Hp} {a : Addr} {mo : MO} (pr : ι <+: ι') (k : Keep H H') (e : H' a = H a) (h : MoR G ι H a mo) : MoR G ι' H' a mo := by
  cases mo with
  | lst xs =>
    obtain ⟨vs, h1, h2⟩ := h
    exact ⟨vs, e.trans h1, h2.mono pr k⟩
  | dct xs =>
    obtain ⟨vs, h1, h2⟩ := h
    exact ⟨vs, e.trans h1, h2.mono pr k⟩
  | ins c xs =>
    obtain ⟨C, dx, fvs, h0, h1, h2⟩ := h
    exact ⟨C, dx, fvs, h0, e.trans h1, h2.mono pr k⟩
  | dead =>
    obtain ⟨o, h, z⟩ := h
    exact ⟨o, e.trans h, z⟩
/-- a new object that is not of the memory -/
theorem Ext.new (m : MemR G ι H M) (hp : H p = none) : Ext G ι H ι M (upd H p o) where
  pre := List.prefix_refl _
  mem := ⟨m.len, m.nd, fun i a mo h1 h2 => by
    obtain ⟨u, hu⟩ := m.at (List.mem_of_getElem? h1)
    exact (m.ob i a mo h1 h2).mono (List.prefix_refl _) (keep_new hp) (upd_ne (ne_of_none hu hp)), fun P hP => (m.tab P hP).to (fun ps h => by rw [upd_ne (ne_of_none h hp)]; exact h) fun c f h => by rw [upd_ne (ne_of_none h hp)]; exact h⟩
  keep := keep_new hp
  frame := fun b u h _ _ => by rw [upd_ne (ne_of_none h hp)]; exact h
  tbl := fun b ps h => ⟨ps, by rw [upd_ne (ne_of_none h hp)]; exact h⟩
  fresh := fun a h n => absurd h n
/-- .. that is -/
theorem Ext.alloc {mo : MO} (m : MemR G ι H M) (hp : H p = none) (h : MoR G (ι ++ [p]) (upd H p o) p mo) : Ext G ι H (ι ++ [p]) (M ++ [mo]) (upd H p o) where
  pre := List.prefix_append _ _
  mem := by
    refine ⟨by rw [List.length_append, List.length_append, m.len]; rfl, ?_, fun i a mo' h1 h2 => ?_, fun P hP => ?_⟩
    · refine List.nodup_append.mpr ⟨m.nd, by simp, fun a ha b hb e => ?_⟩
      obtain ⟨u, hu⟩ := m.at ha
      have hb' : b = p := by simpa using hb
      rw [e, hb', hp] at hu
      cases hu
    · by_cases hi : i < ι.length
      · rw [List.getElem?_append_left hi] at h1
        rw [List.getElem?_append_left (by rw [← m.len]; exact hi)] at h2
        obtain ⟨u, hu⟩ := m.at (List.mem_of_getElem? h1)
        exact (m.ob i a mo' h1 h2).mono (List.prefix_append _ _) (keep_new hp) (upd_ne (ne_of_none hu hp))
      · rw [List.getElem?_append_right (by omega)] at h1
        rw [List.getElem?_append_right (by rw [← m.len]; omega)] at h2
        have z : i - ι.length = 0 := by
          by_cases z : i - ι.length = 0
          · exact z
          · obtain ⟨k, e⟩ : ∃ k, i - ι.length = k + 1 := ⟨i - ι.length - 1, by omega⟩
            rw [e] at h1
            simp at h1
        rw [z] at h1
        rw [← m.len, z] at h2
        have e1 : p = a := by simpa using h1
        have e2 : mo = mo' := by simpa using h2
        rw [← e1, ← e2]
        exact h
    · exact (m.tab P hP).to (fun ps h => by rw [upd_ne (ne_of_none h hp)]; exact h) fun c f h => by rw [upd_ne (ne_of_none h hp)]; exact h
  keep := keep_new hp
  frame := fun b u h _ _ => by rw [upd_ne (ne_of_none h hp)]; exact h
  tbl := fun b ps h => ⟨ps, by rw [upd_ne (ne_of_none h hp)]; exact h⟩
  fresh := fun a h n => by
    rcases List.mem_append.mp h with z | z
    · exact absurd z n
    · have e : a = p := by simpa using z
      rw [e]
      exact hp
/-- may be written -/
def wr : HO → Bool
  | .lst _ => true
  | .dK _ => true
  | .ins _ _ _ => true
  | _ => false
theorem keep_store {w : HO} (ha : H p = some w) (hw : wr w = true) : Keep H (upd H p o) :=
  ⟨fun a ob u h => by
    rw [upd_ne (fun z => by
      rw [z, ha] at h
      cases h
      cases hw)]
    exact h, fun a xs h => by
    rw [upd_ne (fun z => by
      rw [z, ha] at h
      cases h
      cases hw)]
    exact h⟩
theorem Ext.store {i : Nat} {mo : MO} {w : HO} (m : MemR G ι H M) (hi : ι[i]? = some p) (ha : H p = some w) (hw : wr w = true) (h : MoR G ι (upd H p o) p mo) : Ext G ι H ι (M.set i mo) (upd H p o) where
  pre := List.prefix_refl _
  mem := by
    refine ⟨by rw [List.length_set, m.len], m.nd, fun j a mo' h1 h2 => ?_, fun P hP => ?_⟩
    · by_cases hj : i = j
      · subst hj
        rw [hi] at h1
        cases h1
        have hl : i < M.length := by rw [← m.len]; exact (List.getElem?_eq_some_iff.mp hi).1
        rw [List.getElem?_set_self hl] at h2
        cases h2
        exact h
      · rw [List.getElem?_set_ne hj] at h2
        have ne : a ≠ p := fun z => by
          subst z
          obtain ⟨l1, e1⟩ := List.getElem?_eq_some_iff.mp h1
          obtain ⟨l2, e2⟩ := List.getElem?_eq_some_iff.mp hi
          exact hj ((List.getElem_inj m.nd).mp (e2.trans e1.symm))
        exact (m.ob j a mo' h1 h2).mono (List.prefix_refl _) (keep_store ha hw) (upd_ne ne)
    · refine (m.tab P hP).to (fun ps h => ?_) fun c f h => ?_
      · rw [upd_ne (fun z => by
          rw [z, ha] at h
          cases h
          cases hw)]
        exact h
      · rw [upd_ne (fun z => by
          rw [z, ha] at h
          cases h
          cases hw)]
        exact h
  keep := keep_store ha hw
  frame := fun b u h _ n => by
    rw [upd_ne (fun z => n (by rw [z]; exact List.mem_of_getElem? hi))]
    exact h
  tbl := fun b ps h => ⟨ps, by
    rw [upd_ne (fun z => by
      rw [z, ha] at h
      cases h
      cases hw)]
    exact h⟩
  fresh := fun a h n => absurd h n
end

/-! ### operations by values -/
/-- F's result is what r gives -/
def OpS (G : Gx) (E : XK) (r : R2) (F : Dv → Dv → Co Dv) : Prop := ∀ (ι : List Addr) (M : Mem) (H : Hp) (x y : V) (d e : Dv) (Q : VK), MemR G ι H M → RpD G ι H x d → RpD G ι H y e → Post G E ι H (QE G Q) (F d e M) → r x y H Q
def CaS (G : Gx) (E : XK) (r : List V → Hp → VK → Prop) (F : List Dv → Co Dv) : Prop := ∀ (ι : List Addr) (M : Mem) (H : Hp) (xs : List V) (ds : List Dv) (Q : VK), MemR G ι H M → RpDs G ι H xs ds → Post G E ι H (QE G Q) (F ds M) → r xs H Q
def b2 (F : Dv → Dv → Co Dv) (f g : Slots → Co Dv) : Slots → Co Dv := fun ρ => bnd (f ρ) fun x => bnd (g ρ) fun y => F x y
def b1 (F : Dv → Co Dv) (f : Slots → Co Dv) : Slots → Co Dv := fun ρ => bnd (f ρ) F
section
variable {X : Cx} {G : Gx} {E : XK} {e e1 e2 : Expr} {f g : Slots → Co Dv} {pos : Pos}
theorem rd_b2 {r : R2} {F : Dv → Dv → Co Dv} {t : TE} (hF : OpS G E r F) {σ : L2.St} {H : Hp} {Q : VK} (h : rdE G E (b2 F f g) σ H Q) : tOp r (rdE G E f) (rdE G E g) σ H Q := by
  obtain ⟨ι, ρ, M, st, p⟩ := h
  refine ⟨ι, ρ, M, st, (Post.bnd p).mono fun d ι1 M1 H1 x1 p1 v rv => ?_⟩
  refine ⟨ι1, ρ, M1, st.ext x1, (Post.bnd p1).mono fun d2 ι2 M2 H2 x2 p2 w rw => ?_⟩
  exact hF ι2 M2 H2 v w d d2 Q x2.mem (rv.mono x2.pre x2.keep) rw p2
theorem xbin {op : Operator} {r : R2} {F : Dv → Dv → Co Dv} (ho : OpR X (binaryOp op) r) (hF : OpS G E r F) (ha : PE X e1 (rdE G E f)) (hb : PE X e2 (rdE G E g)) : PE X (.BinOp e1 op e2 pos) (rdE G E (b2 F f g)) :=
  peI (pe_op ho ha hb) fun _ _ _ h => rd_b2 (t := rdE G E f) hF h
theorem xcmp {op : CmpOp} {r : R2} {F : Dv → Dv → Co Dv} (ho : OpR X (compareOp op) r) (hF : OpS G E r F) (ha : PE X e1 (rdE G E f)) (hb : PE X e2 (rdE G E g)) (hm : behindInMarks op e2 = false := by first | exact nobehind _ (by decide) (by decide) | rfl) : PE X (.Compare e1 [op] [e2] pos) (rdE G E (b2 F f g)) :=
  peI (pe_cmpR ho ha hb hm) fun _ _ _ h => rd_b2 (t := rdE G E f) hF h
/-- a value that is a bool, as a test -/
def tB : Dv → Co Bool := fun d => match d with
  | .g (.bool b) => rt b
  | _ => fl
def tst (f : Slots → Co Dv) : Slots → Co Bool := fun ρ => bnd (f ρ) tB
theorem rd_tst {σ : L2.St} {H : Hp} {Q : Bool → Hp → Prop} (h : rdT G E (tst f) σ H Q) : rdE G E f σ H (fun x H' => ∃ k, x = V.bl k ∧ Q k H') := by
  obtain ⟨ι, ρ, M, st, p⟩ := h
  refine ⟨ι, ρ, M, st, (Post.bnd p).mono fun d ι1 M1 H1 x1 p1 v rv => ?_⟩
  cases rv with
  | g rv =>
    cases rv with
    | bl b => exact ⟨b, rfl, Post.rt x1.mem p1⟩
    | _ => exact False.elim p1
  | _ => exact False.elim p1
theorem xtcmp {op : CmpOp} {r : R2} {F : Dv → Dv → Co Dv} (ho : OpR X (compareOp op) r) (hF : OpS G E r F) (ha : PE X e1 (rdE G E f)) (hb : PE X e2 (rdE G E g)) (hm : behindInMarks op e2 = false := by first | exact nobehind _ (by decide) (by decide) | rfl) : PT X (.Compare e1 [op] [e2] pos) (rdT G E (tst (b2 F f g))) :=
  ptI (pt_cmpR ho ha hb hm) fun _ _ _ h => by
    have q := rd_tst h
    exact rd_b2 (t := rdE G E f) hF q
/-- a chain a op b op' c -/
def ch (F F' : Dv → Dv → Co Dv) (f g h : Slots → Co Dv) : Slots → Co Dv := fun ρ => bnd (f ρ) fun x => bnd (g ρ) fun y => bnd (F x y) fun z => bnd (tB z) fun b => match b with
  | true => bnd (h ρ) fun w => F' y w
  | false => rt (.g (.bool false))
theorem rd_ch {r r' : R2} {F F' : Dv → Dv → Co Dv} {h3 : Slots → Co Dv} (hF : OpS G E r F) (hF' : OpS G E r' F') {σ : L2.St} {H : Hp} {Q : VK} (h : rdE G E (ch F F' f g h3) σ H Q) : tChain r r' (rdE G E f) (rdE G E g) (rdE G E h3) σ H Q := by
  obtain ⟨ι, ρ, M, st, p⟩ := h
  refine ⟨ι, ρ, M, st, (Post.bnd p).mono fun d ι1 M1 H1 x1 p1 v rv => ?_⟩
  refine ⟨ι1, ρ, M1, st.ext x1, (Post.bnd p1).mono fun d2 ι2 M2 H2 x2 p2 w rw => ?_⟩
  refine hF ι2 M2 H2 v w d d2 _ x2.mem (rv.mono x2.pre x2.keep) rw ((Post.bnd p2).mono fun d3 ι3 M3 H3 x3 p3 z rz => ?_)
  cases rz with
  | g rz =>
    cases rz with
    | bl b =>
      refine ⟨b, rfl, ?_⟩
      have p4 := Post.rt x3.mem (Post.bnd p3)
      cases b with
      | true =>
        refine iteT ?_
        refine ⟨ι3, ρ, M3, ((st.ext x1).ext x2).ext x3, (Post.bnd p4).mono fun d4 ι4 M4 H4 x4 p5 w' rw' => ?_⟩
        exact hF' ι4 M4 H4 w w' d2 d4 Q x4.mem ((rw.mono x3.pre x3.keep).mono x4.pre x4.keep) rw' p5
      | false =>
        refine iteF ?_
        exact Post.rt x3.mem p4 _ (.g (.bl false))
    | _ => exact False.elim (Post.bnd p3)
  | _ => exact False.elim (Post.bnd p3)
theorem xchain {op op' : CmpOp} {r r' : R2} {F F' : Dv → Dv → Co Dv} {e3 : Expr} {h3 : Slots → Co Dv} (ho : OpR X (compareOp op) r) (ho' : OpR X (compareOp op') r') (hF : OpS G E r F) (hF' : OpS G E r' F') (ha : PE X e1 (rdE G E f)) (hb : PE X e2 (rdE G E g)) (hc : PE X e3 (rdE G E h3))
    (hm : lastMarks [op, op'] [e2, e3] = false := by rfl) : PE X (.Compare e1 [op, op'] [e2, e3] pos) (rdE G E (ch F F' f g h3)) :=
  peI (pe_chain ho ho' ha hb hc hm) fun _ _ _ h => rd_ch hF hF' h
theorem xtchain {op op' : CmpOp} {r r' : R2} {F F' : Dv → Dv → Co Dv} {e3 : Expr} {h3 : Slots → Co Dv} (ho : OpR X (compareOp op) r) (ho' : OpR X (compareOp op') r') (hF : OpS G E r F) (hF' : OpS G E r' F') (ha : PE X e1 (rdE G E f)) (hb : PE X e2 (rdE G E g)) (hc : PE X e3 (rdE G E h3))
    (hm : lastMarks [op, op'] [e2, e3] = false := by rfl) : PT X (.Compare e1 [op, op'] [e2, e3] pos) (rdT G E (tst (ch F F' f g h3))) :=
  ptI (pt_chain ho ho' ha hb hc hm) fun _ _ _ h => rd_ch hF hF' (rd_tst h)

/-! ### names, constants -/
def sl (i : Nat) : Slots → Co Dv := fun ρ => match ρ[i]? with
  | none => fl
  | some .u => fl
  | some d => rt d
def kk (x : PyData) : Slots → Co Dv := fun _ => rt (.g x)
theorem rd_sl {i : Nat} {σ : L2.St} {H : Hp} {Q : VK} (h : rdE G E (sl i) σ H Q) : tVar i σ H Q := by
  obtain ⟨ι, ρ, M, st, p⟩ := h
  cases e : ρ[i]? with
  | none =>
    have z : sl i ρ M = .fail := by
      unfold sl
      rw [e]
      rfl
    rw [z] at p
    exact p.elim
  | some d =>
    by_cases hd : d = .u
    · have z : sl i ρ M = .fail := by
        unfold sl
        rw [e, hd]
        rfl
      rw [z] at p
      exact p.elim
    · obtain ⟨v, e1, r⟩ := st.sl i d e hd
      have z : sl i ρ M = .ok d M := by
        unfold sl
        rw [e]
        cases d <;> first | rfl | exact absurd rfl hd
      rw [z] at p
      exact ⟨v, e1, p ι H (.refl st.mem) v r⟩
theorem xv (i : Nat) {x : Str} (hN : X.N[i]? = some x := by rfl) (hv : Vis X.env.scope x := by first | exact Or.inl rfl | exact Or.inr (Or.inl rfl) | exact Or.inr (Or.inr rfl)) (hd : (x == ("__debug__" : Str)) = false := by decide)
    (hcd : (x == ("__classdict__" : Str)) = false := by decide) : PE X (.Name x pos) (rdE G E (sl i)) := peI (pe_var hN hv hd hcd) fun _ _ _ h => rd_sl h
theorem rd_kk {v : V} {x : PyData} (r : ∀ H, RpV G.K H v x) {σ : L2.St} {H : Hp} {Q : VK} (h : rdE G E (kk x) σ H Q) : tC v σ H Q := by
  obtain ⟨ι, ρ, M, st, p⟩ := h
  exact Post.rt st.mem p v (.g (r H))
theorem xint {i j} : PE X (.Constant (.int i) j pos) (rdE G E (kk (.int i))) := peI pe_int fun _ _ _ h => rd_kk (fun _ => .int i) h
theorem xbl {b j} : PE X (.Constant (.bool b) j pos) (rdE G E (kk (.bool b))) := peI pe_bl fun _ _ _ h => rd_kk (fun _ => .bl b) h
theorem xnon {j} : PE X (.Constant .none j pos) (rdE G E (kk .none)) := peI pe_non fun _ _ _ h => rd_kk (fun _ => .non) h
theorem xstr {x j} : PE X (.Constant (.str x) j pos) (rdE G E (kk (.str x))) := peI pe_str fun _ _ _ h => rd_kk (fun _ => .str x) h
theorem xgint {x : Str} {i : Int} (hg : Gl X x) (hm : ∃ t, X.mg x = some (.int i t)) (hd : (x == ("__debug__" : Str)) = false := by decide) : PE X (.Name x pos) (rdE G E (kk (.int i))) := by
  obtain ⟨t, hm⟩ := hm
  exact peI (pe_glob (v := .int i) hg hm ⟨t, rfl⟩ hd) fun _ _ _ h => rd_kk (fun _ => .int i) h

/-! ### if, and, or, not -/
def iff (c : Slots → Co Bool) (f g : Slots → Co Dv) : Slots → Co Dv := fun ρ => bnd (c ρ) fun b => match b with
  | true => f ρ
  | false => g ρ
theorem xif {c : Expr} {cf : Slots → Co Bool} (hc : PT X c (rdT G E cf)) (ha : PE X e1 (rdE G E f)) (hb : PE X e2 (rdE G E g)) : PE X (.IfExp c e1 e2 pos) (rdE G E (iff cf f g)) :=
  peI (pe_ifExp hc ha hb) fun σ H Q h => by
    obtain ⟨ι, ρ, M, st, p⟩ := h
    refine ⟨ι, ρ, M, st, (Post.bnd p).mono fun b ι1 M1 H1 x1 p1 => ?_⟩
    cases b with
    | true => exact iteT ⟨ι1, ρ, M1, st.ext x1, p1⟩
    | false => exact iteF ⟨ι1, ρ, M1, st.ext x1, p1⟩
def tand (f g : Slots → Co Bool) : Slots → Co Bool := fun ρ => bnd (f ρ) fun b => match b with
  | true => g ρ
  | false => rt false
def tor (f g : Slots → Co Bool) : Slots → Co Bool := fun ρ => bnd (f ρ) fun b => match b with
  | true => rt true
  | false => g ρ
def tnt (f : Slots → Co Bool) : Slots → Co Bool := fun ρ => bnd (f ρ) fun b => rt (!b)
theorem xwand {a b : Expr} {rest : List Expr} {f g : Slots → Co Bool} (ha : PT X a (rdT G E f)) (hb : PW X (.BoolOp .And (b :: rest) pos) (rdT G E g)) : PW X (.BoolOp .And (a :: b :: rest) pos) (rdT G E (tand f g)) :=
  pwI (pw_and ha hb) fun σ H Q h => by
    obtain ⟨ι, ρ, M, st, p⟩ := h
    refine ⟨ι, ρ, M, st, (Post.bnd p).mono fun b ι1 M1 H1 x1 p1 => ?_⟩
    cases b with
    | true => exact iteT ⟨ι1, ρ, M1, st.ext x1, p1⟩
    | false => exact iteF (Post.rt x1.mem p1)
theorem xwor {a b : Expr} {rest : List Expr} {f g : Slots → Co Bool} (ha : PT X a (rdT G E f)) (hb : PW X (.BoolOp .Or (b :: rest) pos) (rdT G E g)) : PW X (.BoolOp .Or (a :: b :: rest) pos) (rdT G E (tor f g)) :=
  pwI (pw_or ha hb) fun σ H Q h => by
    obtain ⟨ι, ρ, M, st, p⟩ := h
    refine ⟨ι, ρ, M, st, (Post.bnd p).mono fun b ι1 M1 H1 x1 p1 => ?_⟩
    cases b with
    | true => exact iteT (Post.rt x1.mem p1)
    | false => exact iteF ⟨ι1, ρ, M1, st.ext x1, p1⟩
theorem xwand1 {a : Expr} {f : Slots → Co Bool} (ha : PT X a (rdT G E f)) : PW X (.BoolOp .And [a] pos) (rdT G E f) := pw_and1 ha
theorem xwor1 {a : Expr} {f : Slots → Co Bool} (ha : PT X a (rdT G E f)) : PW X (.BoolOp .Or [a] pos) (rdT G E f) := pw_or1 ha
theorem xtnot {a : Expr} {f : Slots → Co Bool} (ha : PT X a (rdT G E f)) : PT X (.UnaryOp .Not a pos) (rdT G E (tnt f)) :=
  ptI (pt_not ha) fun σ H Q h => by
    obtain ⟨ι, ρ, M, st, p⟩ := h
    refine ⟨ι, ρ, M, st, (Post.bnd p).mono fun b ι1 M1 H1 x1 p1 => ?_⟩
    exact Post.rt x1.mem p1
/-- truth of a value -/
def tru : Dv → Co Bool := fun d => match d with
  | .g .none => rt false
  | .g (.bool b) => rt b
  | .g (.int i) => rt (i != 0)
  | .g (.list xs) => rt (!xs.isEmpty)
  | .g (.tuple xs) => rt (!xs.isEmpty)
  | .r i => atM i fun mo => match mo with
    | .lst xs => rt (!xs.isEmpty)
    | .dct xs => rt (!xs.isEmpty)
    | _ => fl
  | _ => fl
theorem len_empty {α β : Type} {xs : List α} {ys : List β} (h : xs.length = ys.length) : xs.isEmpty = ys.isEmpty := by
  cases xs with
  | nil =>
    cases ys with
    | nil => rfl
    | cons _ _ => cases h
  | cons _ _ =>
    cases ys with
    | nil => cases h
    | cons _ _ => rfl
theorem RpI.length {ι : List Addr} {H : Hp} {vs : List (Key × V)} {ds : List (Int × Dv)} (h : RpI G ι H vs ds) : vs.length = ds.length := by
  induction h with
  | nil => rfl
  | cons _ _ ih => rw [List.length_cons, List.length_cons, ih]
theorem MemR.lstE {ι : List Addr} {H : Hp} {M : Mem} {i : Nat} {a : Addr} {xs : List Dv} (m : MemR G ι H M) (h1 : ι[i]? = some a) (h2 : M[i]? = some (.lst xs)) : ∃ vs, H a = some (.lst vs) ∧ RpDs G ι H vs xs := m.ob i a _ h1 h2
theorem MemR.dctE {ι : List Addr} {H : Hp} {M : Mem} {i : Nat} {a : Addr} {xs : List (Int × Dv)} (m : MemR G ι H M) (h1 : ι[i]? = some a) (h2 : M[i]? = some (.dct xs)) : ∃ vs, H a = some (.dK vs) ∧ RpI G ι H vs xs := m.ob i a _ h1 h2
theorem xtru {a : Expr} (hK : X.K = G.K) (ha : PE X a (rdE G E f)) (he : ∀ whole, isTrue a X.env whole = (do let v ← whole; standAt a.pos; holding [v] (truthy v)) := by intro _; rfl) : PT X a (rdT G E (fun ρ => bnd (f ρ) tru)) :=
  ptI (pt_truth ha he) fun σ H Q h => by
    obtain ⟨ι, ρ, M, st, p⟩ := h
    refine ⟨ι, ρ, M, st, (Post.bnd p).mono fun d ι1 M1 H1 x1 p1 v rv => ?_⟩
    rw [hK]
    cases rv with
    | g rv =>
      cases rv with
      | non => exact ⟨_, rfl, p1 ι1 H1 (.refl x1.mem)⟩
      | bl b => exact ⟨_, rfl, p1 ι1 H1 (.refl x1.mem)⟩
      | int i => exact ⟨_, rfl, p1 ι1 H1 (.refl x1.mem)⟩
      | lst h r =>
        refine ⟨_, .inl ⟨_, h.sq, rfl⟩, ?_⟩
        rw [len_empty r.length]
        exact p1 ι1 H1 (.refl x1.mem)
      | tup h r =>
        refine ⟨_, .inr (.inl ⟨_, .of h, rfl⟩), ?_⟩
        rw [len_empty r.length]
        exact p1 ι1 H1 (.refl x1.mem)
      | _ => exact False.elim p1
    | @r a i hi =>
      obtain ⟨mo, e, p2⟩ := Post.atM p1
      cases mo with
      | lst xs =>
        obtain ⟨vs, h1, h2⟩ := x1.mem.lstE hi e
        refine ⟨_, .inl ⟨_, .of h1, rfl⟩, ?_⟩
        rw [len_empty h2.length]
        exact Post.rt x1.mem p2
      | dct xs =>
        obtain ⟨vs, h1, h2⟩ := x1.mem.dctE hi e
        refine ⟨_, .inr (.inr ⟨_, h1, rfl⟩), ?_⟩
        rw [len_empty h2.length]
        exact Post.rt x1.mem p2
      | _ => exact p2.elim
    | _ => exact False.elim p1
/-- and, or, not of bools, as values -/
def vB (b : Bool) : Dv := .g (.bool b)
theorem xand {a b : Expr} {rest : List Expr} (ha : PE X a (rdE G E f)) (hb : PE X (.BoolOp .And (b :: rest) pos) (rdE G E g)) : PE X (.BoolOp .And (a :: b :: rest) pos) (rdE G E (fun ρ => bnd (tst f ρ) fun c => match c with | true => g ρ | false => rt (vB false))) :=
  peI (pe_and ha hb) fun σ H Q h => by
    obtain ⟨ι, ρ, M, st, p⟩ := h
    refine rd_tst ⟨ι, ρ, M, st, (Post.bnd p).mono fun c ι1 M1 H1 x1 p1 => ?_⟩
    cases c with
    | true => exact iteT ⟨ι1, ρ, M1, st.ext x1, p1⟩
    | false => exact iteF (Post.rt x1.mem p1 _ (.g (.bl false)))
theorem xor_ {a b : Expr} {rest : List Expr} (ha : PE X a (rdE G E f)) (hb : PE X (.BoolOp .Or (b :: rest) pos) (rdE G E g)) : PE X (.BoolOp .Or (a :: b :: rest) pos) (rdE G E (fun ρ => bnd (tst f ρ) fun c => match c with | true => rt (vB true) | false => g ρ)) :=
  peI (pe_or ha hb) fun σ H Q h => by
    obtain ⟨ι, ρ, M, st, p⟩ := h
    refine rd_tst ⟨ι, ρ, M, st, (Post.bnd p).mono fun c ι1 M1 H1 x1 p1 => ?_⟩
    cases c with
    | true => exact iteT (Post.rt x1.mem p1 _ (.g (.bl true)))
    | false => exact iteF ⟨ι1, ρ, M1, st.ext x1, p1⟩
theorem xone {a : Expr} {op : BoolOp} (ha : PE X a (rdE G E f)) : PE X (.BoolOp op [a] pos) (rdE G E f) := pe_one ha
theorem xnot {a : Expr} (ha : PE X a (rdE G E f)) : PE X (.UnaryOp .Not a pos) (rdE G E (fun ρ => bnd (tst f ρ) fun c => rt (vB (!c)))) :=
  peI (pe_not ha) fun σ H Q h => by
    obtain ⟨ι, ρ, M, st, p⟩ := h
    exact rd_tst ⟨ι, ρ, M, st, (Post.bnd p).mono fun c ι1 M1 H1 x1 p1 => Post.rt x1.mem p1 _ (.g (.bl _))⟩

/-! ### argument lists, displays -/
theorem xa0 : PA X [] (rdA G E (fun _ => rt [])) := paI pa_nil fun σ H Q h => by
  obtain ⟨ι, ρ, M, st, p⟩ := h
  exact Post.rt st.mem p [] .nil
def ac (f : Slots → Co Dv) (g : Slots → Co (List Dv)) : Slots → Co (List Dv) := fun ρ => bnd (f ρ) fun x => bnd (g ρ) fun xs => rt (x :: xs)
theorem xa1 {es : List Expr} {gs : Slots → Co (List Dv)} (ha : PE X e (rdE G E f)) (hr : PA X es (rdA G E gs)) (hs : starEach (e :: es) X.env = (false, eval e X.env) :: starEach es X.env := by rfl) : PA X (e :: es) (rdA G E (ac f gs)) :=
  paI (pa_cons ha hr hs) fun σ H Q h => by
    obtain ⟨ι, ρ, M, st, p⟩ := h
    refine ⟨ι, ρ, M, st, (Post.bnd p).mono fun d ι1 M1 H1 x1 p1 v rv => ?_⟩
    refine ⟨ι1, ρ, M1, st.ext x1, (Post.bnd p1).mono fun ds ι2 M2 H2 x2 p2 ws rw => ?_⟩
    exact Post.rt x2.mem p2 _ (.cons (rv.mono x2.pre x2.keep) rw)
def mkT (ds : List Dv) : Dv := match grd ds with
  | some xs => .g (.tuple xs)
  | none => .t ds
theorem mkT_rp {ι : List Addr} {H : Hp} {a : Addr} {vs : List V} {ds : List Dv} (h : H a = some (.tup vs)) (r : RpDs G ι H vs ds) : RpD G ι H (.ref a) (mkT ds) := by
  unfold mkT
  cases e : grd ds with
  | none => exact .t h r
  | some xs => exact .g (.tup h (r.grd e))
def szOk (n : Nat) : Bool := Nat.ble n 16777216
theorem szOk_le {n : Nat} (h : szOk n = true) : n ≤ sizeLine := by
  rw [sizeLine_eq]
  exact Nat.le_of_ble_eq_true h
def chk {α : Type} (b : Bool) (k : Co α) : Co α := match b with
  | true => k
  | false => fl
theorem Post.chk {α : Type} {b : Bool} {k : Co α} {ι : List Addr} {H : Hp} {M : Mem} {Q : α → List Addr → Mem → Hp → Prop} (h : Post G E ι H Q (Xt.chk b k M)) : b = true ∧ Post G E ι H Q (k M) := by
  cases b with
  | true => exact ⟨rfl, h⟩
  | false => exact False.elim h
def tup (f : Slots → Co (List Dv)) : Slots → Co Dv := fun ρ => bnd (f ρ) fun ds => chk (szOk ds.length) (rt (mkT ds))
theorem xtup {es : List Expr} {k} {gs : Slots → Co (List Dv)} (h : PA X es (rdA G E gs)) : PE X (.Tuple es k pos) (rdE G E (tup gs)) :=
  peI (pe_tup h) fun σ H Q h => by
    obtain ⟨ι, ρ, M, st, p⟩ := h
    refine ⟨ι, ρ, M, st, (Post.bnd p).mono fun ds ι1 M1 H1 x1 p1 vs rv => ?_⟩
    obtain ⟨z, p2⟩ := Post.chk p1
    refine ⟨by rw [rv.length]; exact szOk_le z, fun a ha => ?_⟩
    have x2 : Ext G ι1 H1 ι1 M1 (upd H1 a (.tup vs)) := .new x1.mem ha
    exact Post.rt x2.mem (p2.shift x2) _ (mkT_rp upd_same (rv.mono x2.pre x2.keep))
/-- a list display: an object of the memory -/
def newL (ds : List Dv) : Co Dv := fun M => .ok (.r M.length) (M ++ [.lst ds])
def lstR (f : Slots → Co (List Dv)) : Slots → Co Dv := fun ρ => bnd (f ρ) fun ds => chk (szOk ds.length) (newL ds)
theorem get_last {α : Type} (l : List α) (a : α) : (l ++ [a])[l.length]? = some a := by simp
theorem xlstR {es : List Expr} {gs : Slots → Co (List Dv)} (h : PA X es (rdA G E gs)) : PE X (.List es pos) (rdE G E (lstR gs)) :=
  peI (pe_lst h) fun σ H Q h => by
    obtain ⟨ι, ρ, M, st, p⟩ := h
    refine ⟨ι, ρ, M, st, (Post.bnd p).mono fun ds ι1 M1 H1 x1 p1 vs rv => ?_⟩
    obtain ⟨z, p2⟩ := Post.chk p1
    refine ⟨by rw [rv.length]; exact szOk_le z, fun a ha => ?_⟩
    have x2 : Ext G ι1 H1 (ι1 ++ [a]) (M1 ++ [.lst ds]) (upd H1 a (.lst vs)) := .alloc x1.mem ha ⟨vs, upd_same, rv.mono (List.prefix_append _ _) (keep_new ha)⟩
    refine p2 _ _ x2 _ (.r ?_)
    rw [← x1.mem.len]
    exact get_last _ _
/-- .. or data at once: locked -/
def lstG (f : Slots → Co (List Dv)) : Slots → Co Dv := fun ρ => bnd (f ρ) fun ds => chk (szOk ds.length) (bnd (ofO (grd ds)) fun xs => rt (.g (.list xs)))
theorem upd2 {H : Hp} {a : Addr} {o u : HO} : upd (upd H a o) a u = upd H a u := upd_upd
/-- a new list at a free place, then locked -/
theorem lockL {ι : List Addr} {H : Hp} {M : Mem} {vs : List V} {xs : List PyData} {Q : VK} {a : Addr} (m : MemR G ι H M) (ha : H a = none) (r : RpVs G.K H vs xs) (p : Post G E ι H (QE G Q) (rt (.g (.list xs)) M)) :
    Q (.ref a) (upd H a (.lst vs)) ∨ ∃ d u, V.ref a = .ref d ∧ (upd H a (.lst vs)) d = some u ∧ Mut (some u) ∧ ∀ od, Q (.ref a) (upd (upd H a (.lst vs)) d (.frz od u)) := by
  refine .inr ⟨a, .lst vs, rfl, upd_same, trivial, fun od => ?_⟩
  rw [upd2]
  have x2 : Ext G ι H ι M (upd H a (.frz od (.lst vs))) := .new m ha
  exact Post.rt x2.mem (p.shift x2) _ (.g (.lst (.inl ⟨od, upd_same⟩) (r.mono x2.keep)))
theorem xlstG {es : List Expr} {gs : Slots → Co (List Dv)} (h : PA X es (rdA G E gs)) : PE X (.List es pos) (rdE G E (lstG gs)) :=
  peI (pe_frz (pe_lst h)) fun σ H Q h => by
    obtain ⟨ι, ρ, M, st, p⟩ := h
    refine ⟨ι, ρ, M, st, (Post.bnd p).mono fun ds ι1 M1 H1 x1 p1 vs rv => ?_⟩
    obtain ⟨z, p2⟩ := Post.chk p1
    obtain ⟨xs, e, p3⟩ := Post.ofO p2
    exact ⟨by rw [rv.length]; exact szOk_le z, fun a ha => lockL x1.mem ha (rv.grd e) p3⟩
/-- an object of the memory becomes data: it is locked and not of the memory any more -/
def frD : Dv → Co Dv := fun d => match d with
  | .r i => atM i fun mo => match mo with
    | .lst ds => bnd (ofO (grd ds)) fun xs => fun M => .ok (.g (.list xs)) (M.set i .dead)
    | _ => fl
  | d => rt d
theorem xfrz {e : Expr} (h : PE X e (rdE G E f)) : PE X e (rdE G E (b1 frD f)) :=
  peI (pe_frz h) fun σ H Q h => by
    obtain ⟨ι, ρ, M, st, p⟩ := h
    refine ⟨ι, ρ, M, st, (Post.bnd p).mono fun d ι1 M1 H1 x1 p1 v rv => ?_⟩
    cases rv with
    | g rv => exact .inl (p1 ι1 H1 (.refl x1.mem) _ (.g rv))
    | t h r => exact .inl (p1 ι1 H1 (.refl x1.mem) _ (.t h r))
    | @r a i hi =>
      obtain ⟨mo, e, p2⟩ := Post.atM p1
      cases mo with
      | lst ds =>
        obtain ⟨xs, q, p3⟩ := Post.ofO p2
        obtain ⟨vs, h1, h2⟩ := x1.mem.lstE hi e
        refine .inr ⟨a, _, rfl, h1, trivial, fun od => ?_⟩
        have x2 : Ext G ι1 H1 ι1 (M1.set i .dead) (upd H1 a (.frz od (.lst vs))) := .store x1.mem hi h1 rfl ⟨_, upd_same, rfl⟩
        exact p3 _ _ x2 _ (.g (.lst (.inl ⟨od, upd_same⟩) ((h2.grd q).mono x2.keep)))
      | _ => exact p2.elim
end
end Xt
set_option Elab.async false
set_option linter.all false
set_option maxRecDepth 100000
set_option maxHeartbeats 1000000
namespace Xt
open PySem PySem.Spec PyProof.Rows L2

/-! ### looking at a value -/
def asI : Dv → Option Int
  | .g (.int i) => some i
  | _ => none
def asB : Dv → Option Bool
  | .g (.bool b) => some b
  | _ => none
/-- data, off the memory too -/
def asGp (d : Dv) (M : Mem) : Option PyData := match d with
  | .g x => some x
  | .r i => (match M[i]? with
    | some (.lst ds) => (grd ds).map PyData.list
    | _ => none)
  | _ => none
def asG (d : Dv) : Co PyData := fun M => ofO (asGp d M) M
mutual
theorem noDct_of : ∀ d : PyData, d.canLay0 = true → noDct d = true
  | .none, _ => rfl
  | .bool _, _ => rfl
  | .int _, _ => rfl
  | .str _, _ => rfl
  | .list xs, h => noDcts_of xs h
  | .tuple xs, h => noDcts_of xs h
  | .dict _, h => by cases h
theorem noDcts_of : ∀ xs : List PyData, PyData.canLayAll0 xs = true → noDcts xs = true
  | [], _ => rfl
  | x :: xs, h => by
    obtain ⟨h1, h2⟩ := Bool.and_eq_true_iff.mp (show (x.canLay0 && PyData.canLayAll0 xs) = true from h)
    show (noDct x && noDcts xs) = true
    rw [noDct_of x h1, noDcts_of xs h2]
    rfl
end
section
variable {G : Gx} {E : XK} {ι : List Addr} {H : Hp} {M : Mem} {v : V} {d : Dv}
theorem asI_rp {i : Int} (r : RpD G ι H v d) (e : asI d = some i) : v = .int i ∧ d = .g (.int i) := by
  cases r with
  | g r =>
    cases r <;> first
      | (cases e; exact ⟨rfl, rfl⟩)
      | cases e
  | _ => cases e
theorem asB_rp {i : Bool} (r : RpD G ι H v d) (e : asB d = some i) : v = .bl i ∧ d = .g (.bool i) := by
  cases r with
  | g r =>
    cases r <;> first
      | (cases e; exact ⟨rfl, rfl⟩)
      | cases e
  | _ => cases e
/-- a list of the memory -/
theorem asGp_r {i : Nat} {x : PyData} (e : asGp (.r i) M = some x) : ∃ ds xs, M[i]? = some (.lst ds) ∧ grd ds = some xs ∧ x = .list xs := by
  have e2 : (match M[i]? with
    | some (.lst ds) => (grd ds).map PyData.list
    | _ => none) = some x := e
  cases q : M[i]? with
  | none =>
    rw [q] at e2
    cases e2
  | some mo =>
    rw [q] at e2
    cases mo with
    | lst ds =>
      have e3 : (grd ds).map PyData.list = some x := e2
      cases q2 : grd ds with
      | none =>
        rw [q2] at e3
        cases e3
      | some xs =>
        rw [q2] at e3
        exact ⟨ds, xs, rfl, q2, (Option.some.inj e3).symm⟩
    | _ => cases e2
theorem Post.asGe {α : Type} {k : PyData → Co α} {Q : α → List Addr → Mem → Hp → Prop} (p : Post G E ι H Q (Xt.bnd (Xt.asG d) k M)) : ∃ x, asGp d M = some x ∧ Post G E ι H Q (k x M) := by
  have p2 : Post G E ι H Q (Xt.bnd (Xt.ofO (asGp d M)) k M) := p
  exact Post.ofO p2
/-- the library's reading of data -/
theorem Post.asG {α : Type} {k : PyData → Co α} {Q : α → List Addr → Mem → Hp → Prop} (m : MemR G ι H M) (r : RpD G ι H v d) (p : Post G E ι H Q (Xt.bnd (Xt.asG d) k M)) :
    ∃ x, (noDct x = true → Dp G.K H v x) ∧ Post G E ι H Q (k x M) := by
  obtain ⟨x, e, p1⟩ := Post.asGe p
  refine ⟨x, fun z => ?_, p1⟩
  cases r with
  | g r =>
    cases e
    exact r.dp z
  | @r a i hi =>
    obtain ⟨ds, xs, e1, e2, rfl⟩ := asGp_r e
    obtain ⟨vs, h1, h2⟩ := m.lstE hi e1
    exact .lst (.of h1) ((h2.grd e2).dp z)
  | t _ _ => cases e

/-! ### numbers -/
def i2 (f : Int → Int → Dv) : Dv → Dv → Co Dv := fun d e => bnd (ofO (asI d)) fun i => bnd (ofO (asI e)) fun j => rt (f i j)
def i2c (c : Int → Int → Bool) (f : Int → Int → Dv) : Dv → Dv → Co Dv := fun d e => bnd (ofO (asI d)) fun i => bnd (ofO (asI e)) fun j => chk (c i j) (rt (f i j))
theorem os_i2 {f : Int → Int → V} {f' : Int → Int → Dv} (h : ∀ ι H i j, RpD G ι H (f i j) (f' i j)) : OpS G E (rI0 f) (i2 f') := fun ι M H x y d e Q m rx ry p => by
  obtain ⟨i, e1, p⟩ := Post.ofO p
  obtain ⟨j, e2, p⟩ := Post.ofO p
  exact ⟨i, j, (asI_rp rx e1).1, (asI_rp ry e2).1, Post.rt m p _ (h _ _ _ _)⟩
theorem os_i2c {C : Int → Int → Prop} {c : Int → Int → Bool} {f : Int → Int → V} {f' : Int → Int → Dv} (hc : ∀ i j, c i j = true → C i j) (h : ∀ ι H i j, c i j = true → RpD G ι H (f i j) (f' i j)) : OpS G E (rI C f) (i2c c f') := fun ι M H x y d e Q m rx ry p => by
  obtain ⟨i, e1, p⟩ := Post.ofO p
  obtain ⟨j, e2, p⟩ := Post.ofO p
  obtain ⟨c1, p⟩ := Post.chk p
  exact ⟨i, j, (asI_rp rx e1).1, (asI_rp ry e2).1, hc i j c1, Post.rt m p _ (h _ _ _ _ c1)⟩
def dI (i : Int) : Dv := .g (.int i)
theorem rpI {ι : List Addr} {H : Hp} {i : Int} : RpD G ι H (.int i) (dI i) := .g (.int i)
theorem rpB {ι : List Addr} {H : Hp} {b : Bool} : RpD G ι H (.bl b) (vB b) := .g (.bl b)
abbrev subD : Dv → Dv → Co Dv := i2 fun i j => dI (i - j)
theorem os_sub : OpS G E (rI0 fun i j => .int (i - j)) subD := os_i2 fun _ _ _ _ => rpI
/-- below 2 ^ 4096 -/
def small (i : Int) : Bool := Nat.blt i.natAbs (2 ^ 4096)
theorem small_lt {i : Int} (h : small i = true) : i.natAbs < 2 ^ 4096 := Nat.le_of_ble_eq_true h
def mulOk (i j : Int) : Bool := small i && small j
theorem mulOk_x {i j : Int} (h : mulOk i j = true) : CMulX i j := by
  obtain ⟨h1, h2⟩ := Bool.and_eq_true_iff.mp h
  exact mulx_ok (small_lt h1) (small_lt h2) (by decide)
def divOk (_ j : Int) : Bool := decide (0 < j) && small j
theorem divOk_w {i j : Int} (h : divOk i j = true) : CDivW i j := by
  obtain ⟨h1, h2⟩ := Bool.and_eq_true_iff.mp h
  have h3 := of_decide_eq_true h1
  refine ⟨h3, ?_⟩
  have h4 := small_lt h2
  have h5 : j.natAbs ≠ 0 := by omega
  have := (Nat.log2_lt h5).mpr h4
  omega
abbrev fdivD : Dv → Dv → Co Dv := i2c divOk fun i j => dI (i / j)
theorem os_fdiv : OpS G E (rI CDivW fun i j => .int (i / j)) fdivD := os_i2c (fun _ _ h => divOk_w h) fun _ _ _ _ _ => rpI
abbrev modD : Dv → Dv → Co Dv := i2c (fun _ j => decide (0 < j)) fun i j => dI (i % j)
theorem os_mod : OpS G E (rI (fun _ j => 0 < j) fun i j => .int (i % j)) modD := os_i2c (fun _ _ h => of_decide_eq_true h) fun _ _ _ _ _ => rpI
def powOk (i j : Int) : Bool := decide (0 ≤ j) && (decide (j ≤ 1000000) && Nat.blt i.natAbs (2 ^ 64))
theorem powOk_c {i j : Int} (h : powOk i j = true) : CPow i j := by
  obtain ⟨h1, h2⟩ := Bool.and_eq_true_iff.mp h
  obtain ⟨h3, h4⟩ := Bool.and_eq_true_iff.mp h2
  exact ⟨of_decide_eq_true h1, of_decide_eq_true h3, Nat.le_of_ble_eq_true h4⟩
abbrev powD : Dv → Dv → Co Dv := i2c powOk fun i j => dI (i ^ j.toNat)
theorem os_pow : OpS G E (rI CPow fun i j => .int (i ^ j.toNat)) powD := os_i2c (fun _ _ h => powOk_c h) fun _ _ _ _ _ => rpI
abbrev shlD : Dv → Dv → Co Dv := i2c powOk fun i j => dI (i * 2 ^ j.toNat)
theorem os_shl : OpS G E (rI CPow fun i j => .int (i * 2 ^ j.toNat)) shlD := os_i2c (fun _ _ h => powOk_c h) fun _ _ _ _ _ => rpI
abbrev ltD : Dv → Dv → Co Dv := i2 fun i j => vB (decide (i < j))
abbrev leD : Dv → Dv → Co Dv := i2 fun i j => vB (decide (i ≤ j))
abbrev gtD : Dv → Dv → Co Dv := i2 fun i j => vB (decide (j < i))
abbrev geD : Dv → Dv → Co Dv := i2 fun i j => vB (decide (j ≤ i))
theorem os_lt : OpS G E (rI0 fun i j => .bl (decide (i < j))) ltD := os_i2 fun _ _ _ _ => rpB
theorem os_le : OpS G E (rI0 fun i j => .bl (decide (i ≤ j))) leD := os_i2 fun _ _ _ _ => rpB
theorem os_gt : OpS G E (rI0 fun i j => .bl (decide (j < i))) gtD := os_i2 fun _ _ _ _ => rpB
theorem os_ge : OpS G E (rI0 fun i j => .bl (decide (j ≤ i))) geD := os_i2 fun _ _ _ _ => rpB

/-! ### == of data -/
def eqOk (x y : PyData) : Bool := PyData.canLay0 x && (PyData.canLay0 y && Nat.ble (min x.depth y.depth) 200)
def eqD (neg : Bool) : Dv → Dv → Co Dv := fun d e => bnd (asG d) fun x => bnd (asG e) fun y => chk (eqOk x y) (rt (vB (if neg then !PyData.eqv x y else PyData.eqv x y)))
def rEqX (K : PySem.W.Frag) (A : Around) (neg : Bool) : R2 := fun x y H Q => ∃ d e, Dp K H x d ∧ Dp K H y e ∧ d.canLay0 = true ∧ e.canLay0 = true ∧ A.units + min d.depth e.depth < cLine ∧ Q (.bl (if neg then !PyData.eqv d e else PyData.eqv d e)) H
theorem op_eqX {X : Cx} : OpR X (compareOp .Eq) (rEqX X.K X.A false) := by
  intro pins s σ H x y v u Q I rx ry h
  obtain ⟨d, e, hd, he, sd, se, hr, q⟩ := h
  obtain ⟨as, r1⟩ := Dp.reads I d x v hd rx
  obtain ⟨bs, r2⟩ := Dp.reads I e y u he ry
  exact SeqAt.compareEq_reads r1 r2 sd se hr ⟨.bl _, H, I, rfl, q⟩
theorem op_neX {X : Cx} : OpR X (compareOp .NotEq) (rEqX X.K X.A true) := by
  intro pins s σ H x y v u Q I rx ry h
  obtain ⟨d, e, hd, he, sd, se, hr, q⟩ := h
  obtain ⟨as, r1⟩ := Dp.reads I d x v hd rx
  obtain ⟨bs, r2⟩ := Dp.reads I e y u he ry
  exact SeqAt.compareNe_reads r1 r2 sd se hr ⟨.bl _, H, I, rfl, q⟩
theorem os_eq {A : Around} {neg : Bool} (hu : A.units + 200 < cLine) : OpS G E (rEqX G.K A neg) (eqD neg) := fun ι M H x y d e Q m rx ry p => by
  obtain ⟨a, h1, p⟩ := Post.asG m rx p
  obtain ⟨b, h2, p⟩ := Post.asG m ry p
  obtain ⟨c, p⟩ := Post.chk p
  obtain ⟨c1, c2⟩ := Bool.and_eq_true_iff.mp c
  obtain ⟨c3, c4⟩ := Bool.and_eq_true_iff.mp c2
  exact ⟨a, b, h1 (noDct_of _ c1), h2 (noDct_of _ c3), c1, c3, by
    have := Nat.le_of_ble_eq_true c4
    omega, Post.rt m p _ rpB⟩

/-! ### is None -/
def isN (neg : Bool) : Dv → Co Dv := fun d => match d with
  | .g .none => rt (vB (!neg))
  | .g _ => rt (vB neg)
  | .r _ => rt (vB neg)
  | .t _ => rt (vB neg)
  | .u => fl
theorem isN_rp {neg : Bool} {Q : VK} (m : MemR G ι H M) (r : RpD G ι H v d) (p : Post G E ι H (QE G Q) (isN neg d M)) : Q (.bl (if neg then !decide (v = .non) else decide (v = .non))) H := by
  cases neg <;> cases r with
  | g r => cases r <;> exact Post.rt m p _ rpB
  | _ => exact Post.rt m p _ rpB
end
section
variable {X : Cx} {G : Gx} {E : XK} {e e1 e2 : Expr} {f g : Slots → Co Dv} {pos : Pos}
theorem xisN {j pos'} (ha : PE X e (rdE G E f)) : PE X (.Compare e [.Is] [.Constant .none j pos'] pos) (rdE G E (b1 (isN false) f)) :=
  peI (pe_cmp (pc_isN ha)) fun σ H Q h => by
    obtain ⟨ι, ρ, M, st, p⟩ := h
    exact ⟨ι, ρ, M, st, (Post.bnd p).mono fun d ι1 M1 H1 x1 p1 v rv => isN_rp (neg := false) x1.mem rv p1⟩
theorem xnotN {j pos'} (ha : PE X e (rdE G E f)) : PE X (.Compare e [.IsNot] [.Constant .none j pos'] pos) (rdE G E (b1 (isN true) f)) :=
  peI (pe_cmp (pc_notN ha)) fun σ H Q h => by
    obtain ⟨ι, ρ, M, st, p⟩ := h
    exact ⟨ι, ρ, M, st, (Post.bnd p).mono fun d ι1 M1 H1 x1 p1 v rv => isN_rp (neg := true) x1.mem rv p1⟩
theorem xtisN {j pos'} (ha : PE X e (rdE G E f)) : PT X (.Compare e [.Is] [.Constant .none j pos'] pos) (rdT G E (tst (b1 (isN false) f))) :=
  ptI (pt_cmp (pc_isN ha)) fun σ H Q h => by
    obtain ⟨ι, ρ, M, st, p⟩ := rd_tst h
    exact ⟨ι, ρ, M, st, (Post.bnd p).mono fun d ι1 M1 H1 x1 p1 v rv => isN_rp (Q := fun x H' => ∃ k, x = V.bl k ∧ Q k H') (neg := false) x1.mem rv p1⟩
theorem xtnotN {j pos'} (ha : PE X e (rdE G E f)) : PT X (.Compare e [.IsNot] [.Constant .none j pos'] pos) (rdT G E (tst (b1 (isN true) f))) :=
  ptI (pt_cmp (pc_notN ha)) fun σ H Q h => by
    obtain ⟨ι, ρ, M, st, p⟩ := rd_tst h
    exact ⟨ι, ρ, M, st, (Post.bnd p).mono fun d ι1 M1 H1 x1 p1 v rv => isN_rp (Q := fun x H' => ∃ k, x = V.bl k ∧ Q k H') (neg := true) x1.mem rv p1⟩

/-! ### +, where lists may come: the new one is locked -/
abbrev VF (Q : VK) : VK := fun v H1 => Q v H1 ∨ ∃ d u, v = .ref d ∧ H1 d = some u ∧ Mut (some u) ∧ ∀ od, Q v (upd H1 d (.frz od u))
def OpF (G : Gx) (E : XK) (r : R2) (F : Dv → Dv → Co Dv) : Prop := ∀ (ι : List Addr) (M : Mem) (H : Hp) (x y : V) (d e : Dv) (Q : VK), MemR G ι H M → RpD G ι H x d → RpD G ι H y e → Post G E ι H (QE G Q) (F d e M) → r x y H (VF Q)
theorem xbinF {op : Operator} {r : R2} {F : Dv → Dv → Co Dv} (ho : OpR X (binaryOp op) r) (hF : OpF G E r F) (ha : PE X e1 (rdE G E f)) (hb : PE X e2 (rdE G E g)) : PE X (.BinOp e1 op e2 pos) (rdE G E (b2 F f g)) :=
  peI (pe_frz (pe_op ho ha hb)) fun σ H Q h => by
    obtain ⟨ι, ρ, M, st, p⟩ := h
    refine ⟨ι, ρ, M, st, (Post.bnd p).mono fun d ι1 M1 H1 x1 p1 v rv => ?_⟩
    refine ⟨ι1, ρ, M1, st.ext x1, (Post.bnd p1).mono fun d2 ι2 M2 H2 x2 p2 w rw => ?_⟩
    exact hF ι2 M2 H2 v w d d2 Q x2.mem (rv.mono x2.pre x2.keep) rw p2
/-- list + list, any two that are read -/
def rCatF (K : PySem.W.Frag) : R2 := fun x y H Q => ∃ l b xs zs, x = .ref l ∧ y = .ref b ∧ SqL K H l xs ∧ SqL K H b zs ∧ xs.length + zs.length ≤ sizeLine ∧ ∀ p, H p = none → Q (.ref p) (upd H p (.lst (xs ++ zs)))
theorem op_catF : OpR X (binaryOp .Add) (rCatF X.K) := by
  intro pins s σ H x y v u Q I rx ry h
  obtain ⟨l, b, xs, zs, rfl, rfl, h1, h2, hz, q⟩ := h
  cases rx
  cases ry
  obtain ⟨its, rv, ⟨⟨c1, dd1, dt1, sl1⟩, n1, ho1, hc1, hd1, hs1⟩, z1⟩ := I.list h1
  obtain ⟨jts, rw, ⟨⟨c2, dd2, dt2, sl2⟩, n2, ho2, hc2, hd2, hs2⟩, z2⟩ := I.list h2
  simp only at hc1 hd1 hs1 hc2 hd2 hs2
  subst hc1 hd1 hs1 hc2 hd2 hs2
  have e1 := rv.length
  have e2 := rw.length
  have e : its.toArray ++ jts.toArray = (its ++ jts).toArray := by simp
  refine concat_meets ⟨_, ho1, rfl⟩ ⟨_, ho2, rfl⟩ noFill_list_add seq_list_add PySem.F.slot_list_add PySem.F.entry_list_add (PySem.F.args_list_add_2 _ _)
    (list_addW l b its.toArray jts.toArray n1 n2 none none sl1 sl2 (by rw [List.size_toArray, List.size_toArray]; omega)) ⟨ho1, ho2, ?_⟩
  rw [e]
  refine ⟨.ref s.heap.objs.size, _, I.laid (t' := s.toks) (o := .lst (xs ++ zs)) (fun b ob q => Heap.get?_push_of_some _ q) (Nat.le_refl _) ?_, rfl, q _ (I.hok.fresh (Nat.le_refl _))⟩
  exact ⟨by rw [List.length_append]; exact hz, _, 0, rv.append rw, Heap.get?_push_size _ rfl⟩
def addD : Dv → Dv → Co Dv := fun d e => match d with
  | .g (.int i) => bnd (ofO (asI e)) fun j => rt (dI (i + j))
  | .g (.tuple xs) => (match e with
    | .g (.tuple ys) => chk (szOk (xs.length + ys.length)) (rt (.g (.tuple (xs ++ ys))))
    | _ => fl)
  | d => bnd (asG d) fun x => bnd (asG e) fun y => match x, y with
    | .list xs, .list ys => chk (szOk (xs.length + ys.length)) (rt (.g (.list (xs ++ ys))))
    | _, _ => fl
def rAdd (K : PySem.W.Frag) : R2 := fun x y H Q => (rI0 fun i j => .int (i + j)) x y H Q ∨ (rCatA K x y H Q ∨ rCatF K x y H Q)
theorem op_addX : OpR X (binaryOp .Add) (rAdd X.K) := OpR.or op_add (OpR.or op_catA op_catF)
end
section
variable {G : Gx} {E : XK} {ι : List Addr} {H : Hp} {M : Mem} {v : V} {d : Dv}
theorem RpVs.append {K : PySem.W.Frag} : ∀ {vs ws : List V} {ds es : List PyData}, RpVs K H vs ds → RpVs K H ws es → RpVs K H (vs ++ ws) (ds ++ es)
  | _, _, _, _, .nil, h => h
  | _, _, _, _, .cons h r, z => .cons h (RpVs.append r z)
/-- a list's data -/
theorem asG_lst {xs : List PyData} (m : MemR G ι H M) (r : RpD G ι H v d) (e : asGp d M = some (.list xs)) : ∃ a vs, v = .ref a ∧ SqL G.K H a vs ∧ RpVs G.K H vs xs := by
  cases r with
  | g r =>
    cases e
    cases r with
    | lst h r => exact ⟨_, _, rfl, h.sq, r⟩
  | @r a i hi =>
    obtain ⟨ds, ys, e1, e2, e3⟩ := asGp_r e
    cases e3
    obtain ⟨vs, h1, h2⟩ := m.lstE hi e1
    exact ⟨_, _, rfl, .of h1, h2.grd e2⟩
  | t _ _ => cases e
/-- a list just made, to be locked -/
theorem lockF {vs : List V} {xs : List PyData} {Q : VK} (m : MemR G ι H M) (r : RpVs G.K H vs xs) (p : Post G E ι H (QE G Q) (rt (.g (.list xs)) M)) : ∀ a, H a = none → VF Q (.ref a) (upd H a (.lst vs)) := fun a ha => lockL m ha r p
theorem of_catF {xs ys : List PyData} {x y : V} {d e : Dv} {Q : VK} (m : MemR G ι H M) (rx : RpD G ι H x d) (ry : RpD G ι H y e) (e1 : asGp d M = some (.list xs)) (e2 : asGp e M = some (.list ys))
    (p : Post G E ι H (QE G Q) (chk (szOk (xs.length + ys.length)) (rt (.g (.list (xs ++ ys)))) M)) : rCatF G.K x y H (VF Q) := by
  obtain ⟨a, vs, rfl, h1, r1⟩ := asG_lst m rx e1
  obtain ⟨b, ws, rfl, h2, r2⟩ := asG_lst m ry e2
  obtain ⟨c, p⟩ := Post.chk p
  exact ⟨a, b, vs, ws, rfl, rfl, h1, h2, by rw [r1.length, r2.length]; exact szOk_le c, lockF m (r1.append r2) p⟩
theorem of_add : OpF G E (rAdd G.K) addD := fun ι M H x y d e Q m rx ry p => by
  have gen : ∀ {d}, RpD G ι H x d → Post G E ι H (QE G Q) ((bnd (asG d) fun x => bnd (asG e) fun y => match x, y with
    | .list xs, .list ys => chk (szOk (xs.length + ys.length)) (rt (.g (.list (xs ++ ys))))
    | _, _ => fl) M) → rAdd G.K x y H (VF Q) := fun {d} rx p => by
    obtain ⟨a, e1, p⟩ := Post.asGe p
    obtain ⟨b, e2, p⟩ := Post.asGe p
    cases a with
    | list xs =>
      cases b with
      | list ys => exact .inr (.inr (of_catF m rx ry e1 e2 p))
      | _ => exact p.elim
    | _ => exact p.elim
  cases rx with
  | g rx =>
    cases rx with
    | int i =>
      obtain ⟨j, e2, p⟩ := Post.ofO p
      exact .inl ⟨i, j, rfl, (asI_rp ry e2).1, .inl (Post.rt m p _ rpI)⟩
    | @tup a vs xs h1 r1 =>
      cases ry with
      | g ry =>
        cases ry with
        | @tup b ws ys h2 r2 =>
          obtain ⟨c, p⟩ := Post.chk p
          refine .inr (.inl ⟨a, b, vs, ws, rfl, rfl, .of h1, .of h2, by rw [r1.length, r2.length]; exact szOk_le c, fun z => ?_, fun _ z => ?_, fun _ _ q hq => ?_⟩)
          · have e1 : xs = [] := by
              cases xs with
              | nil => rfl
              | cons _ _ =>
                rw [z] at r1
                cases r1
            rw [e1, List.nil_append] at p
            exact .inl (Post.rt m p _ (.g (.tup h2 r2)))
          · have e1 : ys = [] := by
              cases ys with
              | nil => rfl
              | cons _ _ =>
                rw [z] at r2
                cases r2
            rw [e1, List.append_nil] at p
            exact .inl (Post.rt m p _ (.g (.tup h1 r1)))
          · have x2 : Ext G ι H ι M (upd H q (.tup (vs ++ ws))) := .new m hq
            exact .inl (Post.rt x2.mem (p.shift x2) _ (.g (.tup upd_same ((r1.append r2).mono x2.keep))))
        | _ => exact p.elim
      | _ => exact p.elim
    | lst h1 r1 => exact gen (.g (.lst h1 r1)) p
    | _ =>
      obtain ⟨b, e2, p⟩ := Post.asGe p
      exact p.elim
  | r hi => exact gen (.r hi) p
  | t h r => exact p.elim

/-! ### * -/
def mulD : Dv → Dv → Co Dv := fun d e => match d with
  | .g (.tuple xs) => bnd (ofO (asI e)) fun k => chk (!xs.isEmpty && (decide (2 ≤ k) && (decide (k ≤ 1000) && Nat.ble xs.length 1000))) (rt (.g (.tuple (List.replicate k.toNat xs).flatten)))
  | d => i2c mulOk (fun i j => dI (i * j)) d e
def rMul (K : PySem.W.Frag) : R2 := fun x y H Q => (rI CMulX fun i j => .int (i * j)) x y H Q ∨ rRepT K x y H Q
theorem RpVs.rep {K : PySem.W.Frag} {vs : List V} {ds : List PyData} (r : RpVs K H vs ds) : ∀ k : Nat, RpVs K H (List.replicate k vs).flatten (List.replicate k ds).flatten
  | 0 => .nil
  | k + 1 => by
    rw [List.replicate_succ, List.replicate_succ, List.flatten_cons, List.flatten_cons]
    exact r.append (RpVs.rep r k)
theorem os_mul : OpS G E (rMul G.K) mulD := fun ι M H x y d e Q m rx ry p => by
  have gen : ∀ {d}, RpD G ι H x d → Post G E ι H (QE G Q) (i2c mulOk (fun i j => dI (i * j)) d e M) → rMul G.K x y H Q := fun {d} rx p =>
    .inl (os_i2c (E := E) (fun _ _ h => mulOk_x h) (fun _ _ _ _ _ => rpI) ι M H x y d e Q m rx ry p)
  cases rx with
  | g rx =>
    cases rx with
    | @tup a vs xs h1 r1 =>
      obtain ⟨k, e2, p⟩ := Post.ofO p
      obtain ⟨c, p⟩ := Post.chk p
      obtain ⟨c1, c⟩ := Bool.and_eq_true_iff.mp c
      obtain ⟨c2, c⟩ := Bool.and_eq_true_iff.mp c
      obtain ⟨c3, c4⟩ := Bool.and_eq_true_iff.mp c
      have hl := r1.length
      refine .inr ⟨a, k, vs, rfl, (asI_rp ry e2).1, .of h1, fun z => ?_, of_decide_eq_true c2, of_decide_eq_true c3, by rw [hl]; exact Nat.le_of_ble_eq_true c4, fun q hq => ?_⟩
      · rw [z] at hl
        cases xs with
        | nil => cases c1
        | cons _ _ => cases hl
      · have x2 : Ext G ι H ι M (upd H q (.tup (List.replicate k.toNat vs).flatten)) := .new m hq
        exact Post.rt x2.mem (p.shift x2) _ (.g (.tup upd_same ((r1.rep k.toNat).mono x2.keep)))
    | int i => exact gen (.g (.int i)) p
    | _ => exact p.elim
  | _ => exact p.elim
end
section
variable {X : Cx}
theorem op_mulY : OpR X (binaryOp .Mult) (rMul X.K) := OpR.or op_mulX op_repT
end
end Xt
set_option Elab.async false
set_option linter.all false
set_option maxRecDepth 100000
set_option maxHeartbeats 1000000
namespace Xt
open PySem PySem.Spec PyProof.Rows L2

section
variable {G : Gx} {E : XK} {ι : List Addr} {H : Hp} {M : Mem} {v : V} {d : Dv}
/-! ### places -/
theorem atI_len {α β : Type} {xs : List α} {ys : List β} {i : Int} {y : β} (hl : xs.length = ys.length) (h : atI ys i = some y) : ∃ j, ixN ys.length i = some j ∧ ys[j]? = some y ∧ ∃ x, xs[j]? = some x ∧ atI xs i = some x := by
  unfold atI at h
  cases e : ixN ys.length i with
  | none =>
    rw [e] at h
    cases h
  | some j =>
    rw [e] at h
    have h2 : ys[j]? = some y := h
    have hj : j < xs.length := by
      rw [hl]
      exact (List.getElem?_eq_some_iff.mp h2).1
    refine ⟨j, rfl, h2, xs[j], List.getElem?_eq_getElem hj, ?_⟩
    unfold atI
    rw [hl, e]
    exact List.getElem?_eq_getElem hj
theorem RpVs.get {K : PySem.W.Frag} : ∀ {vs : List V} {ds : List PyData} {i : Nat} {d : PyData} {v : V}, RpVs K H vs ds → ds[i]? = some d → vs[i]? = some v → RpV K H v d
  | _, _, _, _, _, .nil, h, _ => by simp at h
  | _, _, 0, _, _, .cons h _, e, e2 => by
    simp at e e2
    subst e e2
    exact h
  | _, _, i + 1, _, _, .cons _ r, e, e2 => RpVs.get (i := i) r (by simpa using e) (by simpa using e2)
theorem RpVs.at {K : PySem.W.Frag} {vs : List V} {ds : List PyData} {i : Int} {d : PyData} (r : RpVs K H vs ds) (h : atI ds i = some d) : ∃ v, atI vs i = some v ∧ RpV K H v d := by
  obtain ⟨j, _, h1, x, h2, h3⟩ := atI_len r.length h
  exact ⟨x, h3, r.get h1 h2⟩
theorem RpDs.at {vs : List V} {ds : List Dv} {i : Int} {d : Dv} (r : RpDs G ι H vs ds) (h : atI ds i = some d) : ∃ v, atI vs i = some v ∧ RpD G ι H v d := by
  obtain ⟨j, _, h1, x, h2, h3⟩ := atI_len r.length h
  obtain ⟨w, h4, h5⟩ := r.get h1
  rw [h4] at h2
  cases h2
  exact ⟨_, h3, h5⟩
/-- o[i] -/
def ixD : Dv → Dv → Co Dv := fun d e => bnd (ofO (asI e)) fun i => match d with
  | .g (.list xs) => bnd (ofO (atI xs i)) fun x => rt (.g x)
  | .g (.tuple xs) => bnd (ofO (atI xs i)) fun x => rt (.g x)
  | .t xs => ofO (atI xs i)
  | .r k => atM k fun mo => match mo with
    | .lst xs => ofO (atI xs i)
    | _ => fl
  | _ => fl
def rIxX (K : PySem.W.Frag) : R2 := fun x y H Q => rIxL K x y H Q ∨ rIxT K x y H Q
theorem post_ofO {α : Type} {o : Option α} {Q : α → List Addr → Mem → Hp → Prop} (m : MemR G ι H M) (p : Post G E ι H Q (ofO o M)) : ∃ a, o = some a ∧ Q a ι M H := by
  cases o with
  | none => exact p.elim
  | some a => exact ⟨a, rfl, Post.rt m p⟩
theorem os_ix : OpS G E (rIxX G.K) ixD := fun ι M H x y d e Q m rx ry p => by
  obtain ⟨i, e2, p⟩ := Post.ofO p
  have hy := (asI_rp ry e2).1
  cases rx with
  | g rx =>
    cases rx with
    | lst h r =>
      obtain ⟨z, e3, p⟩ := Post.ofO p
      obtain ⟨w, h1, h2⟩ := r.at e3
      exact .inl ⟨_, _, i, w, rfl, hy, h.sq, h1, Post.rt m p _ (.g h2)⟩
    | tup h r =>
      obtain ⟨z, e3, p⟩ := Post.ofO p
      obtain ⟨w, h1, h2⟩ := r.at e3
      exact .inr ⟨_, _, i, w, rfl, hy, .of h, h1, Post.rt m p _ (.g h2)⟩
    | _ => exact p.elim
  | @r a k hk =>
    obtain ⟨mo, q, p⟩ := Post.atM p
    cases mo with
    | lst xs =>
      obtain ⟨z, e3, p⟩ := post_ofO m p
      obtain ⟨vs, h1, h2⟩ := m.lstE hk q
      obtain ⟨w, h3, h4⟩ := h2.at e3
      exact .inl ⟨_, _, i, w, rfl, hy, .of h1, h3, p _ h4⟩
    | _ => exact p.elim
  | t h r =>
    obtain ⟨z, e3, p⟩ := post_ofO m p
    obtain ⟨w, h3, h4⟩ := r.at e3
    exact .inr ⟨_, _, i, w, rfl, hy, .of h, h3, p _ h4⟩
/-! ### len -/
def lenD : List Dv → Co Dv := fun ds => match ds with
  | [.g (.list xs)] => rt (dI xs.length)
  | [.g (.tuple xs)] => rt (dI xs.length)
  | [.t xs] => rt (dI xs.length)
  | [.r k] => atM k fun mo => match mo with
    | .lst xs => rt (dI xs.length)
    | .dct xs => rt (dI xs.length)
    | _ => fl
  | _ => fl
def rLenX (K : PySem.W.Frag) : List V → Hp → VK → Prop := fun xs H Q => (∃ p ys, xs = [.ref p] ∧ (SqL K H p ys ∨ SqT K H p ys) ∧ Q (.int ys.length) H) ∨ ∃ a kvs, xs = [V.ref a] ∧ H a = some (.dK kvs) ∧ Q (.int kvs.length) H
theorem cs_len : CaS G E (rLenX G.K) lenD := fun ι M H xs ds Q m r p => by
  cases r with
  | nil => exact p.elim
  | cons r t =>
    cases t with
    | cons _ _ => cases r with
      | g r => cases r <;> exact p.elim
      | _ => exact p.elim
    | nil =>
      cases r with
      | g r =>
        cases r with
        | lst h r => exact .inl ⟨_, _, rfl, .inl h.sq, Post.rt m p _ (by rw [r.length]; exact rpI)⟩
        | tup h r => exact .inl ⟨_, _, rfl, .inr (.of h), Post.rt m p _ (by rw [r.length]; exact rpI)⟩
        | _ => exact p.elim
      | @r a k hk =>
        obtain ⟨mo, q, p⟩ := Post.atM p
        cases mo with
        | lst xs =>
          obtain ⟨vs, h1, h2⟩ := m.lstE hk q
          exact .inl ⟨_, _, rfl, .inl (.of h1), Post.rt m p _ (by rw [h2.length]; exact rpI)⟩
        | dct xs =>
          obtain ⟨vs, h1, h2⟩ := m.dctE hk q
          exact .inr ⟨_, _, rfl, h1, Post.rt m p _ (by rw [h2.length]; exact rpI)⟩
        | _ => exact p.elim
      | t h r => exact .inl ⟨_, _, rfl, .inr (.of h), Post.rt m p _ (by rw [r.length]; exact rpI)⟩
end
section
variable {X : Cx} {G : Gx} {E : XK} {e e1 e2 : Expr} {es : List Expr} {f g : Slots → Co Dv} {pos : Pos}
theorem ix_X : IxR X (rIxX X.K) := ix_list.or ix_tup
theorem xix (hK : X.K = G.K) (ha : PE X e1 (rdE G E f)) (hb : PE X e2 (rdE G E g)) (hs : PlainIx e2 := by intro _ _; rfl) : PE X (.Subscript e1 e2 pos) (rdE G E (b2 ixD f g)) :=
  peI (pe_ix ix_X ha hb hs) fun _ _ _ h => by
    rw [hK]
    exact rd_b2 (t := rdE G E f) os_ix h
theorem cr_lenX : CallR X (.builtin "len") (rLenX X.K) := CallR.or call_len_seq call_lenD
/-- a built-in function by its name -/
def cB (F : List Dv → Co Dv) (gs : Slots → Co (List Dv)) : Slots → Co Dv := fun ρ => bnd (gs ρ) F
theorem rd_cB {r : List V → Hp → VK → Prop} {F : List Dv → Co Dv} {gs : Slots → Co (List Dv)} (hF : CaS G E r F) {σ : L2.St} {H : Hp} {Q : VK} (h : rdE G E (cB F gs) σ H Q) : tCB r (rdA G E gs) σ H Q := by
  obtain ⟨ι, ρ, M, st, p⟩ := h
  exact ⟨ι, ρ, M, st, (Post.bnd p).mono fun ds ι1 M1 H1 x1 p1 vs rv => hF ι1 M1 H1 vs ds Q x1.mem rv p1⟩
theorem xcb {x : Str} {p : Pos} {id : String} {r : List V → Hp → VK → Prop} {F : List Dv → Co Dv} {gs : Slots → Co (List Dv)} (hc : CallR X (.builtin id) r) (hF : CaS G E r F) (hg : Gl X x) (hm : X.mg x = none) (hv : bootBuiltins x = some (.builtin id)) (ha : PA X (e :: es) (rdA G E gs))
    (hn : x ≠ "__name__" := by decide) (hdb : (x == ("__debug__" : Str)) = false := by decide) (he : starEach (e :: es) X.env = (false, eval e X.env) :: starEach es X.env := by rfl) (hpl : (backTo pos (starEach es X.env)).any (·.1) = false := by rfl) :
    PE X (.Call (.Name x p) (e :: es) [] pos) (rdE G E (cB F gs)) := peI (pe_callB hc hg hm hv ha hn hdb he hpl) fun _ _ _ h => rd_cB hF h
theorem xct {x : Str} {p : Pos} {T : String} {r : List V → Hp → VK → Prop} {F : List Dv → Co Dv} {gs : Slots → Co (List Dv)} (hc : CallR X (.type T) r) (hF : CaS G E r F) (hg : Gl X x) (hm : X.mg x = none) (hv : bootBuiltins x = some (.type T)) (ha : PA X (e :: es) (rdA G E gs))
    (hn : x ≠ "__name__" := by decide) (hdb : (x == ("__debug__" : Str)) = false := by decide) (he : starEach (e :: es) X.env = (false, eval e X.env) :: starEach es X.env := by rfl) (hpl : (backTo pos (starEach es X.env)).any (·.1) = false := by rfl) :
    PE X (.Call (.Name x p) (e :: es) [] pos) (rdE G E (cB F gs)) := peI (pe_callTy hc hg hm hv ha hn hdb he hpl) fun _ _ _ h => rd_cB hF h
/-- a function of an imported module -/
theorem xcm {x : Str} {p : Pos} {id : String} {r : List V → Hp → VK → Prop} {F : List Dv → Co Dv} {gs : Slots → Co (List Dv)} (hc : CallR X (.builtin id) r) (hF : CaS G E r F) (hg : Gl X x) (hm : X.mg x = some (.builtin id)) (ha : PA X (e :: es) (rdA G E gs))
    (hdb : (x == ("__debug__" : Str)) = false := by decide) (he : starEach (e :: es) X.env = (false, eval e X.env) :: starEach es X.env := by rfl) (hpl : (backTo pos (starEach es X.env)).any (·.1) = false := by rfl) :
    PE X (.Call (.Name x p) (e :: es) [] pos) (rdE G E (cB F gs)) := peI (pe_callBfun hc hg hm ha hdb he hpl) fun _ _ _ h => rd_cB hF h

/-! ### calls of the text's own defs -/
def spF (G : Gx) (F : List Dv → Co Dv) : Sp := fun vs H Q E => ∃ ι M ds, MemR G ι H M ∧ RpDs G ι H vs ds ∧ Post G E ι H (QE G Q) (F ds M)
theorem spF_imp {F F' : List Dv → Co Dv} (h : ∀ ds M, F' ds M = F ds M ∨ F' ds M = .fail) {vs : List V} {H : Hp} {Q : VK} (s : spF G F' vs H Q E) : spF G F vs H Q E := by
  obtain ⟨ι, M, ds, m, r, p⟩ := s
  rcases h ds M with z | z
  · exact ⟨ι, M, ds, m, r, by rw [← z]; exact p⟩
  · rw [z] at p
    exact p.elim
variable {CX : CXT} {k : Nat} {fa : Addr} {fd : FuncData} {ps : List Str} {x : Str} {p : Pos} {F : List Dv → Co Dv} {gs : Slots → Co (List Dv)}
theorem rd_callW {σ : L2.St} {H : Hp} {Q : VK} (h : rdE G E (cB F gs) σ H Q) : tCall (spF G F) [] E (rdA G E gs) σ H Q := by
  obtain ⟨ι, ρ, M, st, p⟩ := h
  refine ⟨ι, ρ, M, st, (Post.bnd p).mono fun ds ι1 M1 H1 x1 p1 vs rv => ?_⟩
  show spF G F (vs ++ []) H1 Q E
  rw [List.append_nil]
  exact ⟨ι1, M1, ds, x1.mem, rv, p1⟩
/-- the whole memory is handed over -/
theorem xcallW (Fk : FnOk X.prog X.w X.K X.mg X.base CX k fa fd ps (spF G F)) (hr : Room k X.A) (hg : Gl X x) (hm : X.mg x = some (.ref fa)) (hk : PySem.W.keepIn X.K (.ref fa) = true) (hb : Binds X.K fd ps []) (hx : Passes CX X E) (ha : PA X (e :: es) (rdA G E gs))
    (hdb : (x == ("__debug__" : Str)) = false := by decide) (he : starEach (e :: es) X.env = (false, eval e X.env) :: starEach es X.env := by rfl) (hpl : (backTo pos (starEach es X.env)).any (·.1) = false := by rfl) :
    PE X (.Call (.Name x p) (e :: es) [] pos) (rdE G E (cB F gs)) := peI (pe_call Fk hr hg hm hk hb .nil hx ha hdb he hpl) fun _ _ _ h => rd_callW h
/-- data alone are handed over, and come back -/
def pureC (F : List Dv → Co Dv) : List Dv → Co Dv := fun ds => bnd (ofO (grd ds)) fun xs M => match F (xs.map Dv.g) [] with
  | .ok (.g x) _ => .ok (.g x) M
  | .ok _ _ => .fail
  | .ex c _ => .ex c M
  | .fail => .fail
theorem Ext.pure {ι ι' : List Addr} {M M' : Mem} {H H' : Hp} (m : MemR G ι H M) (y : Ext G [] H ι' M' H') : Ext G ι H ι M H' where
  pre := List.prefix_refl _
  mem := ⟨m.len, m.nd, fun i a mo h1 h2 => by
    have q := m.ob i a mo h1 h2
    obtain ⟨o, ho⟩ := m.at (List.mem_of_getElem? h1)
    refine q.mono (List.prefix_refl _) y.keep ?_
    have nt : isTbl o = false := by
      cases mo with
      | lst xs =>
        obtain ⟨vs, q, _⟩ := q
        rw [ho] at q
        cases q
        rfl
      | dct xs =>
        obtain ⟨vs, q, _⟩ := q
        rw [ho] at q
        cases q
        rfl
      | ins c xs =>
        obtain ⟨C, dx, fvs, _, q, _⟩ := q
        rw [ho] at q
        cases q
        rfl
      | dead =>
        obtain ⟨o2, q2, q3⟩ := q
        rw [ho] at q2
        cases q2
        exact q3
    rw [ho]
    exact y.frame a o ho nt (by simp), y.mem.tab⟩
  keep := y.keep
  frame := fun b o h1 h2 _ => y.frame b o h1 h2 (by simp)
  tbl := y.tbl
  fresh := fun a h n => absurd h n
theorem rd_callP {σ : L2.St} {H : Hp} {Q : VK} (h : rdE G E (cB (pureC F) gs) σ H Q) : tCall (spF G F) [] E (rdA G E gs) σ H Q := by
  obtain ⟨ι, ρ, M, st, p⟩ := h
  refine ⟨ι, ρ, M, st, (Post.bnd p).mono fun ds ι1 M1 H1 x1 p1 vs rv => ?_⟩
  show spF G F (vs ++ []) H1 Q E
  rw [List.append_nil]
  obtain ⟨xs, e, p2⟩ := Post.ofO p1
  refine ⟨[], [], xs.map Dv.g, ⟨rfl, List.nodup_nil, fun i a mo h _ => by simp at h, x1.mem.tab⟩, (rv.grd e).ds, ?_⟩
  cases q : F (xs.map Dv.g) [] with
  | fail =>
    simp only [q] at p2
    exact p2.elim
  | ok d M' =>
    simp only [q] at p2
    intro ι' H' y v rd
    cases d with
    | g z =>
      cases rd with
      | g rz => exact p2 ι1 H' (.pure x1.mem y) v (.g rz)
    | _ => exact p2.elim
  | ex c M' =>
    simp only [q] at p2
    intro ι' H' cls dx y hx
    exact p2 ι1 H' cls dx (.pure x1.mem y) hx
theorem xcallP (Fk : FnOk X.prog X.w X.K X.mg X.base CX k fa fd ps (spF G F)) (hr : Room k X.A) (hg : Gl X x) (hm : X.mg x = some (.ref fa)) (hk : PySem.W.keepIn X.K (.ref fa) = true) (hb : Binds X.K fd ps []) (hx : Passes CX X E) (ha : PA X (e :: es) (rdA G E gs))
    (hdb : (x == ("__debug__" : Str)) = false := by decide) (he : starEach (e :: es) X.env = (false, eval e X.env) :: starEach es X.env := by rfl) (hpl : (backTo pos (starEach es X.env)).any (·.1) = false := by rfl) :
    PE X (.Call (.Name x p) (e :: es) [] pos) (rdE G E (cB (pureC F) gs)) := peI (pe_call Fk hr hg hm hk hb .nil hx ha hdb he hpl) fun _ _ _ h => rd_callP h

/-! ### statements -/
theorem StR.set {H : Hp} {σ : L2.St} {ι : List Addr} {ρ : Slots} {M : Mem} (s : StR G H σ ι ρ M) (i : Nat) {v : V} {d : Dv} (r : RpD G ι H v d) : StR G H (σ.set i (some v)) ι (ρ.set i d) M :=
  ⟨by rw [List.length_set, List.length_set, s.len], s.mem, fun j d' h n => by
    by_cases hj : i = j
    · subst hj
      have hl : i < ρ.length := by
        have := (List.getElem?_eq_some_iff.mp h).1
        rwa [List.length_set] at this
      rw [List.getElem?_set_self hl] at h
      cases h
      exact ⟨v, by rw [List.getElem?_set_self (by rw [s.len]; exact hl)], r⟩
    · rw [List.getElem?_set_ne hj] at h
      rw [List.getElem?_set_ne hj]
      exact s.sl j d' h n⟩
/-- a target -/
def rdG (G : Gx) (E : XK) (tf : Dv → Slots → Co Slots) : TG := fun v σ H Q => ∃ ι ρ M d, StR G H σ ι ρ M ∧ RpD G ι H v d ∧ Post G E ι H (fun ρ' ι' M' H' => ∀ σ', StR G H' σ' ι' ρ' M' → Q σ' H') (tf d ρ M)
def rdGs (G : Gx) (E : XK) (tf : List Dv → Slots → Co Slots) : TGs := fun vs σ H Q => ∃ ι ρ M ds, StR G H σ ι ρ M ∧ RpDs G ι H vs ds ∧ Post G E ι H (fun ρ' ι' M' H' => ∀ σ', StR G H' σ' ι' ρ' M' → Q σ' H') (tf ds ρ M)
theorem pgI {e : Expr} {t t' : TG} (h : PG X e t) (k : ∀ v σ H Q, t' v σ H Q → t v σ H Q) : PG X e t' := ⟨fun pins s σ H v u Q I r z => h.run pins s σ H v u Q I r (k v σ H Q z)⟩
theorem pgsI {e : List Expr} {t t' : TGs} (h : PGs X e t) (k : ∀ v σ H Q, t' v σ H Q → t v σ H Q) : PGs X e t' := ⟨fun pins s σ H v u Q I r z => h.run pins s σ H v u Q I r (k v σ H Q z)⟩
def tN (i : Nat) : Dv → Slots → Co Slots := fun d ρ => rt (ρ.set i d)
theorem xgn (i : Nat) (hN : X.N.Nodup) (hi : X.N[i]? = some x := by rfl) (hx : Loc X.env.scope x := by first | exact Or.inl rfl | exact Or.inr rfl) (hf : X.fn x = true ∨ X.env.scope.names.lookup x = some .local := by first | exact .inl rfl | exact .inr rfl | assumption) : PG X (.Name x pos) (rdG G E (tN i)) :=
  pgI (pg_name hN hi hx hf) fun v σ H Q h => by
    obtain ⟨ι, ρ, M, d, st, r, p⟩ := h
    exact Post.rt st.mem p _ (st.set i r)
def tZ : List Dv → Slots → Co Slots := fun ds ρ => match ds with
  | [] => rt ρ
  | _ => fl
def tC (a : Dv → Slots → Co Slots) (b : List Dv → Slots → Co Slots) : List Dv → Slots → Co Slots := fun ds ρ => match ds with
  | d :: r => bnd (a d ρ) fun ρ' => b r ρ'
  | [] => fl
theorem xgs0 : PGs X [] (rdGs G E tZ) := pgsI pgs_nil fun vs σ H Q h => by
  obtain ⟨ι, ρ, M, ds, st, r, p⟩ := h
  cases r with
  | nil => exact ⟨rfl, Post.rt st.mem p _ st⟩
  | cons _ _ => exact p.elim
theorem xgs1 {a : Dv → Slots → Co Slots} {b : List Dv → Slots → Co Slots} (h1 : PG X e (rdG G E a)) (h2 : PGs X es (rdGs G E b)) (hs : (assignEach (e :: es) X.env).map (·.2) = assign e X.env :: (assignEach es X.env).map (·.2) := by rfl) : PGs X (e :: es) (rdGs G E (tC a b)) :=
  pgsI (pgs_cons h1 h2 hs) fun vs σ H Q h => by
    obtain ⟨ι, ρ, M, ds, st, r, p⟩ := h
    cases r with
    | nil => exact p.elim
    | @cons v vs d ds r rr =>
      refine ⟨v, vs, rfl, ι, ρ, M, d, st, r, (Post.bnd p).mono fun ρ' ι1 M1 H1 x1 p1 σ' st' => ?_⟩
      exact ⟨ι1, ρ', M1, ds, st', rr.mono x1.pre x1.keep, p1⟩
/-- the items of a tuple -/
def asT : Dv → Option (List Dv)
  | .g (.tuple xs) => some (xs.map Dv.g)
  | .t xs => some xs
  | _ => none
theorem asT_rp {ι : List Addr} {H : Hp} {v : V} {d : Dv} {ds : List Dv} (r : RpD G ι H v d) (e : asT d = some ds) : ∃ a vs, v = .ref a ∧ H a = some (.tup vs) ∧ RpDs G ι H vs ds := by
  cases r with
  | g r =>
    cases r with
    | tup h r =>
      cases e
      exact ⟨_, _, rfl, h, r.ds⟩
    | _ => cases e
  | r _ => cases e
  | t h r =>
    cases e
    exact ⟨_, _, rfl, h, r⟩
def tT (n : Nat) (b : List Dv → Slots → Co Slots) : Dv → Slots → Co Slots := fun d ρ => bnd (ofO (asT d)) fun ds => chk (Nat.beq ds.length n) (b ds ρ)
theorem xgt {b : List Dv → Slots → Co Slots} {kk n : Nat} (hK : X.K = G.K) (hc : X.calm = true) (h : PGs X es (rdGs G E b)) (hn : (assignEach es X.env).length = n := by rfl) (hst : (assignEach es X.env).findIdx? (·.1) = none := by rfl) : PG X (.Tuple es kk pos) (rdG G E (tT n b)) :=
  pgI (pg_tup hc h hn hst) fun v σ H Q h => by
    obtain ⟨ι, ρ, M, d, st, r, p⟩ := h
    obtain ⟨ds, e, p⟩ := Post.ofO p
    obtain ⟨c, p⟩ := Post.chk p
    obtain ⟨a, vs, rfl, h1, h2⟩ := asT_rp r e
    exact ⟨a, vs, rfl, .of h1, by rw [h2.length]; exact Nat.eq_of_beq_eq_true c, ι, ρ, M, ds, st, h2, p⟩
def asg (f : Slots → Co Dv) (tf : Dv → Slots → Co Slots) : Slots → Co Fl := fun ρ => bnd (f ρ) fun d => bnd (tf d ρ) fun ρ' => rt (.nx ρ')
theorem rd_asg {tf : Dv → Slots → Co Slots} {D : Ends} {σ : L2.St} {H : Hp} (h : rdS G E (asg f tf) D σ H) : tAsg (rdE G E f) (rdG G E tf) D σ H := by
  obtain ⟨ι, ρ, M, st, p⟩ := h
  refine ⟨ι, ρ, M, st, (Post.bnd p).mono fun d ι1 M1 H1 x1 p1 v rv => ?_⟩
  refine ⟨ι1, ρ, M1, d, st.ext x1, rv, (Post.bnd p1).mono fun ρ' ι2 M2 H2 x2 p2 σ' st' => ?_⟩
  exact Post.rt x2.mem p2 σ' st'
theorem xasg {tg : Expr} {tf : Dv → Slots → Co Slots} (he : PE X e (rdE G E f)) (hg : PG X tg (rdG G E tf)) (hs : swapsWithSole [tg] e pos.line X.env = pure false := by rfl) (hw : swappedStores [tg] e X.env = pure none := by rfl)
    (h1 : (assignEach [tg] X.env).map (·.2) = [assign tg X.env] := by rfl) : PS X (.Assign [tg] e pos) (rdS G E (asg f tf)) := psI (ps_asg he hg hs hw h1) fun _ _ _ h => rd_asg h
theorem rd_set {i : Nat} {D : Ends} {σ : L2.St} {H : Hp} (h : rdS G E (asg f (tN i)) D σ H) : tAsg (rdE G E f) (gName i) D σ H := by
  obtain ⟨ι, ρ, M, st, p⟩ := h
  refine ⟨ι, ρ, M, st, (Post.bnd p).mono fun d ι1 M1 H1 x1 p1 v rv => ?_⟩
  exact Post.rt x1.mem (Post.rt x1.mem (Post.bnd p1)) _ ((st.ext x1).set i rv)
theorem xset (i : Nat) {pos' : Pos} (hN : X.N.Nodup) (he : PE X e (rdE G E f)) (hi : X.N[i]? = some x := by rfl) (hx : Loc X.env.scope x := by first | exact Or.inl rfl | exact Or.inr rfl) (hs : swapsWith e (some (.Name x pos')) pos.line X.env = pure false := by rfl)
    (hf : X.fn x = true ∨ X.env.scope.names.lookup x = some .local := by first | exact .inl rfl | exact .inr rfl | assumption) : PS X (.Assign [.Name x pos'] e pos) (rdS G E (asg f (tN i))) :=
  psI (ps_set hN hi hx he hs hf) fun _ _ _ h => rd_set h
/-- a, b = x, y: plain local names -/
def par2 (i j : Nat) (gs : Slots → Co (List Dv)) : Slots → Co Fl := fun ρ => bnd (gs ρ) fun ds => match ds with
  | [a, b] => rt (.nx ((ρ.set i a).set j b))
  | _ => fl
theorem xpar {i j : Nat} {x y : Str} {a b : Expr} {px py pt : Pos} {kt k2 pt2} (hc : X.calm = true) (hN : X.N.Nodup) (ha : PA X [a, b] (rdA G E gs)) (hi : X.N[i]? = some x := by rfl) (hj : X.N[j]? = some y := by rfl) (hij : i ≠ j := by decide)
    (hx : X.env.scope.names.lookup x = some .local := by rfl) (hy : X.env.scope.names.lookup y = some .local := by rfl)
    (hw : swappedStores [.Tuple [.Name x px, .Name y py] kt pt] (.Tuple [a, b] k2 pt2) X.env = pure (some [x, y]) := by rfl)
    (hs : swapsWithSole [.Tuple [.Name x px, .Name y py] kt pt] (.Tuple [a, b] k2 pt2) pos.line X.env = pure false := by rfl) :
    PS X (.Assign [.Tuple [.Name x px, .Name y py] kt pt] (.Tuple [a, b] k2 pt2) pos) (rdS G E (par2 i j gs)) :=
  psI (ps_par hc hN hi hj hij hx hy ha hw hs) fun D σ H h => by
    obtain ⟨ι, ρ, M, st, p⟩ := h
    refine ⟨ι, ρ, M, st, (Post.bnd p).mono fun ds ι1 M1 H1 x1 p1 vs rv => ?_⟩
    cases rv with
    | nil => exact p1.elim
    | cons r1 rv =>
      cases rv with
      | nil => exact p1.elim
      | cons r2 rv =>
        cases rv with
        | nil => exact ⟨_, _, rfl, Post.rt x1.mem p1 _ (((st.ext x1).set i r1).set j r2)⟩
        | cons _ _ => exact p1.elim
def par3 (i j l : Nat) (gs : Slots → Co (List Dv)) : Slots → Co Fl := fun ρ => bnd (gs ρ) fun ds => match ds with
  | [a, b, c] => rt (.nx (((ρ.set i a).set j b).set l c))
  | _ => fl
theorem xpar3 {i j l : Nat} {x y z : Str} {a b c : Expr} {px py pz pt : Pos} {kt k2 pt2} (hc : X.calm = true) (hN : X.N.Nodup) (ha : PA X [a, b, c] (rdA G E gs)) (hi : X.N[i]? = some x := by rfl) (hj : X.N[j]? = some y := by rfl) (hl : X.N[l]? = some z := by rfl) (hij : i ≠ j := by decide) (hil : i ≠ l := by decide) (hjl : j ≠ l := by decide)
    (hx : X.env.scope.names.lookup x = some .local := by rfl) (hy : X.env.scope.names.lookup y = some .local := by rfl) (hz : X.env.scope.names.lookup z = some .local := by rfl)
    (hw : swappedStores [.Tuple [.Name x px, .Name y py, .Name z pz] kt pt] (.Tuple [a, b, c] k2 pt2) X.env = pure (some [x, y, z]) := by rfl)
    (hs : swapsWithSole [.Tuple [.Name x px, .Name y py, .Name z pz] kt pt] (.Tuple [a, b, c] k2 pt2) pos.line X.env = pure false := by rfl) :
    PS X (.Assign [.Tuple [.Name x px, .Name y py, .Name z pz] kt pt] (.Tuple [a, b, c] k2 pt2) pos) (rdS G E (par3 i j l gs)) :=
  psI (ps_par3 hc hN hi hj hl hij hil hjl hx hy hz ha hw hs) fun D σ H h => by
    obtain ⟨ι, ρ, M, st, p⟩ := h
    refine ⟨ι, ρ, M, st, (Post.bnd p).mono fun ds ι1 M1 H1 x1 p1 vs rv => ?_⟩
    cases rv with
    | nil => exact p1.elim
    | cons r1 rv =>
      cases rv with
      | nil => exact p1.elim
      | cons r2 rv =>
        cases rv with
        | nil => exact p1.elim
        | cons r3 rv =>
          cases rv with
          | nil => exact ⟨_, _, _, rfl, Post.rt x1.mem p1 _ ((((st.ext x1).set i r1).set j r2).set l r3)⟩
          | cons _ _ => exact p1.elim
def ret (f : Slots → Co Dv) : Slots → Co Fl := fun ρ => bnd (f ρ) fun d => rt (.rt d)
theorem xret (he : PE X e (rdE G E f)) : PS X (.Return (some e) pos) (rdS G E (ret f)) := psI (ps_ret he) fun D σ H h => by
  obtain ⟨ι, ρ, M, st, p⟩ := h
  exact ⟨ι, ρ, M, st, (Post.bnd p).mono fun d ι1 M1 H1 x1 p1 v rv => Post.rt x1.mem p1 v rv⟩
def retN : Slots → Co Fl := fun _ => rt (.rt (.g .none))
theorem xretN : PS X (.Return none pos) (rdS G E retN) := psI ps_retN fun D σ H h => by
  obtain ⟨ι, ρ, M, st, p⟩ := h
  exact Post.rt st.mem p _ (.g .non)
def drp (f : Slots → Co Dv) : Slots → Co Fl := fun ρ => bnd (f ρ) fun _ => rt (.nx ρ)
theorem xexp (he : PE X e (rdE G E f)) (hs : swapsWith e none pos.line X.env = pure false := by rfl) : PS X (.Expr e pos) (rdS G E (drp f)) := psI (ps_expr he hs) fun D σ H h => by
  obtain ⟨ι, ρ, M, st, p⟩ := h
  exact ⟨ι, ρ, M, st, (Post.bnd p).mono fun d ι1 M1 H1 x1 p1 v rv => Post.rt x1.mem p1 _ (st.ext x1)⟩
def skp : Slots → Co Fl := fun ρ => rt (.nx ρ)
theorem xs0 : PSs X [] (rdS G E skp) := pssI pss_nil fun D σ H h => by
  obtain ⟨ι, ρ, M, st, p⟩ := h
  exact Post.rt st.mem p _ st
def sq (a b : Slots → Co Fl) : Slots → Co Fl := fun ρ => bnd (a ρ) fun f => match f with
  | .nx ρ' => b ρ'
  | f => rt f
theorem xs1 {st : Stmt} {rest : List Stmt} {a b : Slots → Co Fl} (h1 : PS X st (rdS G E a)) (h2 : PSs X rest (rdS G E b)) : PSs X (st :: rest) (rdS G E (sq a b)) :=
  pssI (pss_cons h1 h2) fun D σ H h => by
    obtain ⟨ι, ρ, M, st, p⟩ := h
    refine ⟨ι, ρ, M, st, (Post.bnd p).mono fun fl ι1 M1 H1 x1 p1 => ?_⟩
    cases fl with
    | nx ρ' => exact fun σ' st' => ⟨ι1, ρ', M1, st', p1⟩
    | rt d => exact Post.rt (E := E) x1.mem p1
    | bk ρ' => exact Post.rt (E := E) x1.mem p1
    | ct ρ' => exact Post.rt (E := E) x1.mem p1
def ifs (c : Slots → Co Bool) (a b : Slots → Co Fl) : Slots → Co Fl := fun ρ => bnd (c ρ) fun q => match q with
  | true => a ρ
  | false => b ρ
theorem xifs {c : Expr} {s t : List Stmt} {cf : Slots → Co Bool} {a b : Slots → Co Fl} (hc : PT X c (rdT G E cf)) (h1 : PSs X s (rdS G E a)) (h2 : PSs X t (rdS G E b)) : PS X (.If c s t pos) (rdS G E (ifs cf a b)) :=
  psI (ps_if hc h1 h2) fun D σ H h => by
    obtain ⟨ι, ρ, M, st, p⟩ := h
    refine ⟨ι, ρ, M, st, (Post.bnd p).mono fun q ι1 M1 H1 x1 p1 => ?_⟩
    cases q with
    | true => exact iteT ⟨ι1, ρ, M1, st.ext x1, p1⟩
    | false => exact iteF ⟨ι1, ρ, M1, st.ext x1, p1⟩
def brk : Slots → Co Fl := fun ρ => rt (.bk ρ)
theorem xbrk : PS X (.Break pos) (rdS G E brk) := psI ps_break fun D σ H h => by
  obtain ⟨ι, ρ, M, st, p⟩ := h
  exact Post.rt st.mem p _ st
def cnt : Slots → Co Fl := fun ρ => rt (.ct ρ)
theorem xcnt : PS X (.Continue pos) (rdS G E cnt) := psI ps_continue fun D σ H h => by
  obtain ⟨ι, ρ, M, st, p⟩ := h
  exact Post.rt st.mem p _ st
/-- a statement that is never come to -/
def nvr : Slots → Co Fl := fun _ => fl
theorem xnvr {st : Stmt} : PS X st (rdS G E nvr) := psI ps_never fun D σ H h => by
  obtain ⟨ι, ρ, M, st, p⟩ := h
  exact p.elim
end
/-! ### a def -/
def defF (n np : Nat) (b : Slots → Co Fl) : List Dv → Co Dv := fun ds => chk (Nat.beq ds.length np) (bnd (b (ds ++ List.replicate (n - np) .u)) fun f => match f with
  | .nx _ => rt (.g .none)
  | .rt d => rt d
  | _ => fl)
section
variable {G : Gx} {E : XK}
theorem start_st {H : Hp} {ι : List Addr} {M : Mem} {N : List Str} {vs : List V} {ds : List Dv} (m : MemR G ι H M) (r : RpDs G ι H vs ds) : StR G H (L2.start N vs) ι (ds ++ List.replicate (N.length - ds.length) .u) M where
  len := by
    unfold L2.start
    rw [List.length_append, List.length_append, List.length_map, List.length_replicate, List.length_replicate, r.length]
  mem := m
  sl := fun i d h n => by
    by_cases hi : i < ds.length
    · rw [List.getElem?_append_left hi] at h
      obtain ⟨v, h1, h2⟩ := r.get h
      refine ⟨v, ?_, h2⟩
      unfold L2.start
      rw [List.getElem?_append_left (by rw [List.length_map, r.length]; exact hi), List.getElem?_map, h1]
      rfl
    · rw [List.getElem?_append_right (by omega), List.getElem?_replicate] at h
      split at h
      · cases h
        exact absurd rfl n
      · cases h
variable {P : Program} {w : World} {base : Heap} {CX : CXT} {x qual : Str} {params : Arguments} {body : List Stmt} {scope : Scope} {f : Addr} {fd : FuncData} {N ps : List Str} {k : Nat} {b : Slots → Co Fl}
theorem spF_len {n np : Nat} {vs : List V} {H : Hp} {Q : VK} (h : spF G (defF n np b) vs H Q E) : vs.length = np := by
  obtain ⟨ι, M, ds, m, r, p⟩ := h
  obtain ⟨c, _⟩ := Post.chk p
  rw [r.length]
  exact Nat.eq_of_beq_eq_true c
theorem xdef (F : FunD G.K x qual params body scope [] [] f fd) (S : FnScope N ps scope)
    (hb : ∀ (cdv : Value) (A : Around) (outer : List PySem.Env) (s : Shared) (H : Hp) (E : XK), Room k (A.deeper (envOfC qual scope s.heap.objs.size f cdv)) → PSs (cxOf CX P w G.K G.mg base N qual scope f cdv A outer s H E) body (rdS G E b)) :
    FnOk P w G.K G.mg base CX (k + 1) f fd ps (spF G (defF N.length ps.length b)) := by
  refine F.ok S (fun vs H Q E h => spF_len h) fun cdv A outer s H vs Q E hr h => ?_
  have hl := spF_len h
  obtain ⟨ι, M, ds, m, r, p⟩ := h
  obtain ⟨_, p⟩ := Post.chk p
  refine ⟨_, hb cdv A outer s H E hr, ι, _, M, ?_, (Post.bnd p).mono fun fl ι1 M1 H1 x1 p1 => ?_⟩
  · have e := start_st (N := N) m r
    rw [← r.length, hl] at e
    exact e
  · cases fl with
    | nx ρ => exact fun σ _ => Post.rt x1.mem p1 _ (.g .non)
    | rt d => exact Post.rt (E := E) x1.mem p1
    | _ => exact p1.elim
end
end Xt
set_option Elab.async false
set_option linter.all false
set_option maxRecDepth 100000
set_option maxHeartbeats 1000000
namespace Xt
open PySem PySem.Spec PyProof.Rows L2

/-! ### what is walked -/
/-- the iterator yields these, whatever happens meanwhile to what may change -/
structure Wk (G : Gx) (ι : List Addr) (H : Hp) (J : It) (ds : List Dv) : Prop where
  go : ∀ i H1, Keep H H1 → i < ds.length → J.go i H1
  stop : ∀ H1, Keep H H1 → J.stop ds.length H1
  yld : ∀ i H1 x H2, Keep H H1 → i < ds.length → J.yld i H1 x H2 → ∃ d, ds[i]? = some d ∧ RpD G ι H2 x d ∧ (H2 = H1 ∨ ∃ T vs, H1 T = none ∧ H2 = upd H1 T (.tup vs))
def rdI (G : Gx) (E : XK) (src : Slots → Co (List Dv)) : TI := fun σ H R => ∃ ι ρ M, StR G H σ ι ρ M ∧ Post G E ι H (fun ds ι' _ H' => ∀ J, Wk G ι' H' J ds → R J H') (src ρ M)
section
variable {X : Cx} {G : Gx} {E : XK} {e : Expr} {es : List Expr} {f : Slots → Co Dv} {gs : Slots → Co (List Dv)} {pos p : Pos} {tg : Expr}
theorem piI {t t' : TI} (h : PI X tg e t) (k : ∀ σ H Q, t' σ H Q → t σ H Q) : PI X tg e t' := ⟨fun pins s σ H Q I z => h.run pins s σ H Q I (k σ H Q z)⟩
theorem pi_or {t t' : TI} (h : PI X tg e t) (h' : PI X tg e t') : PI X tg e (fun σ H R => t σ H R ∨ t' σ H R) := ⟨fun pins s σ H R I z => z.elim (h.run pins s σ H R I) (h'.run pins s σ H R I)⟩
/-- the items of a list or a tuple that do not change -/
def its : Dv → Option (List Dv)
  | .g (.list xs) => some (xs.map Dv.g)
  | .g (.tuple xs) => some (xs.map Dv.g)
  | .t xs => some xs
  | _ => none
def srcS (f : Slots → Co Dv) : Slots → Co (List Dv) := fun ρ => bnd (f ρ) fun d => ofO (its d)
theorem wk_list {K : PySem.W.Frag} {ι : List Addr} {H : Hp} {a : Addr} {vs : List V} {xs : List PyData} (hK : K = G.K) (h : LsF K H a vs) (r : RpVs G.K H vs xs) : Wk G ι H (Itl K a) (xs.map Dv.g) where
  go := fun i H1 k hi => by
    rw [List.length_map, ← r.length] at hi
    exact ⟨vs, vs[i], (h.mono k).sq, List.getElem?_eq_getElem hi⟩
  stop := fun H1 k => ⟨vs, (h.mono k).sq, by rw [List.length_map, r.length]; exact Nat.le_refl _⟩
  yld := fun i H1 x H2 k hi y => by
    obtain ⟨e, y⟩ := y
    have q := y vs (h.mono k).sq
    rw [List.length_map] at hi
    refine ⟨.g xs[i], by rw [List.getElem?_map, List.getElem?_eq_getElem hi]; rfl, .g ?_, .inl e⟩
    rw [e]
    exact (r.get (List.getElem?_eq_getElem hi) q).mono k
theorem wk_tup {K : PySem.W.Frag} {ι : List Addr} {H : Hp} {a : Addr} {vs : List V} {ds : List Dv} (h : H a = some (.tup vs)) (r : RpDs G ι H vs ds) : Wk G ι H (Itt K a) ds where
  go := fun i H1 k hi => by
    rw [← r.length] at hi
    exact ⟨vs, vs[i], .of (k.tup _ _ h), List.getElem?_eq_getElem hi⟩
  stop := fun H1 k => ⟨vs, .of (k.tup _ _ h), by rw [r.length]; exact Nat.le_refl _⟩
  yld := fun i H1 x H2 k hi y => by
    obtain ⟨e, y⟩ := y
    have q := y vs (.of (k.tup _ _ h))
    obtain ⟨w, h1, h2⟩ := r.get (List.getElem?_eq_getElem hi)
    rw [h1] at q
    cases q
    refine ⟨ds[i], List.getElem?_eq_getElem hi, ?_, .inl e⟩
    rw [e]
    exact h2.mono (List.prefix_refl _) k
theorem xis (hK : X.K = G.K) (he : PE X e (rdE G E f)) : PI X tg e (rdI G E (srcS f)) :=
  piI (pi_or (pi_list he) (pi_tup he)) fun σ H R h => by
    obtain ⟨ι, ρ, M, st, p⟩ := h
    have p0 := Post.bnd p
    cases q : f ρ M with
    | fail =>
      rw [q] at p0
      exact p0.elim
    | ex c M' =>
      rw [q] at p0
      exact .inl ⟨ι, ρ, M, st, by rw [q]; exact p0⟩
    | ok d M1 =>
      rw [q] at p0
      have side : (∃ xs, d = .g (.list xs)) ∨ (∀ xs, d ≠ .g (.list xs)) := by
        cases d with
        | g x =>
          cases x with
          | list xs => exact .inl ⟨xs, rfl⟩
          | _ => exact .inr fun _ z => by cases z
        | _ => exact .inr fun _ z => by cases z
      rcases side with ⟨xs, rfl⟩ | side
      · refine .inl ⟨ι, ρ, M, st, ?_⟩
        rw [q]
        intro ι1 H1 x1 v rv
        cases rv with
        | g rv =>
          cases rv with
          | @lst a vs _ h r =>
            refine ⟨a, rfl, ⟨vs, by rw [hK]; exact h.sq⟩, ?_⟩
            have p1 := p0 ι1 H1 x1
            exact Post.rt x1.mem p1 (Itl X.K a) (wk_list hK (by rw [hK]; exact h) r)
      · refine .inr ⟨ι, ρ, M, st, ?_⟩
        rw [q]
        intro ι1 H1 x1 v rv
        have p1 := p0 ι1 H1 x1
        obtain ⟨ds, e1, p2⟩ := post_ofO x1.mem p1
        have e2 : asT d = some ds := by
          cases d with
          | g x =>
            cases x with
            | list xs => exact absurd rfl (side xs)
            | tuple xs => exact e1
            | _ => cases e1
          | t xs => exact e1
          | _ => cases e1
        obtain ⟨a, vs, rfl, h1, h2⟩ := asT_rp rv e2
        exact ⟨a, rfl, ⟨vs, .of h1⟩, p2 _ (wk_tup h1 h2)⟩
/-- ranges -/
def rngs (c : Int) : Int → Nat → List Dv
  | _, 0 => []
  | lo, n + 1 => dI lo :: rngs c (lo + c) n
theorem rngs_len (c : Int) : ∀ (lo : Int) (n : Nat), (rngs c lo n).length = n
  | _, 0 => rfl
  | lo, n + 1 => by rw [rngs, List.length_cons, rngs_len c (lo + c) n]
theorem rngs_get (c : Int) : ∀ (lo : Int) (n i : Nat), i < n → (rngs c lo n)[i]? = some (dI (lo + i * c))
  | _, 0, _, h => absurd h (Nat.not_lt_zero _)
  | lo, n + 1, 0, _ => by
    rw [rngs, List.getElem?_cons_zero]
    congr 2
    simp
  | lo, n + 1, i + 1, h => by
    rw [rngs, List.getElem?_cons_succ, rngs_get c (lo + c) n i (Nat.lt_of_succ_lt_succ h)]
    congr 2
    rw [Int.natCast_succ, Int.add_mul]
    omega
theorem wk_rng {ι : List Addr} {H : Hp} (lo : Int) (n : Nat) : Wk G ι H (Itr lo n) (rngs 1 lo n) where
  go := fun i H1 _ hi => by
    rw [rngs_len] at hi
    exact hi
  stop := fun H1 _ => by
    rw [rngs_len]
    exact Nat.le_refl _
  yld := fun i H1 x H2 _ hi y => by
    obtain ⟨e, y⟩ := y
    rw [rngs_len] at hi
    refine ⟨_, rngs_get 1 lo n i hi, ?_, .inl e⟩
    rw [y, Int.mul_one]
    exact rpI
theorem wk_rngC {ι : List Addr} {H : Hp} (lo c : Int) (n : Nat) : Wk G ι H (Itc lo c n) (rngs c lo n) where
  go := fun i H1 _ hi => by
    rw [rngs_len] at hi
    exact hi
  stop := fun H1 _ => by
    rw [rngs_len]
    exact Nat.le_refl _
  yld := fun i H1 x H2 _ hi y => by
    obtain ⟨e, y⟩ := y
    rw [rngs_len] at hi
    refine ⟨_, rngs_get c lo n i hi, ?_, .inl e⟩
    rw [y]
    exact rpI
def rOk (i : Int) : Bool := Nat.ble i.natAbs 4611686018427387903
theorem rOk_lt {i : Int} (h : rOk i = true) : -(2 ^ 62) ≤ i ∧ i < 2 ^ 62 := by
  have := Nat.le_of_ble_eq_true h
  omega
/-- range(b), range(a, b), range(a, b, c) -/
def srcR1 (gs : Slots → Co (List Dv)) : Slots → Co (List Dv) := fun ρ => bnd (gs ρ) fun ds => match ds with
  | [d] => bnd (ofO (asI d)) fun j => chk (rOk j) (rt (rngs 1 0 j.toNat))
  | _ => fl
def srcR2 (gs : Slots → Co (List Dv)) : Slots → Co (List Dv) := fun ρ => bnd (gs ρ) fun ds => match ds with
  | [d, e] => bnd (ofO (asI d)) fun i => bnd (ofO (asI e)) fun j => chk (rOk i && rOk j) (rt (rngs 1 i (j - i).toNat))
  | _ => fl
def rgN (i j c : Int) : Option Nat := match decide (c ≠ 0) && (Nat.blt c.natAbs 1073741824 && Builtin.Range.small i j c) with
  | true => (match Builtin.Range.rangeSize i j c with
    | .ofNat n => some n
    | _ => none)
  | false => none
theorem rgN_c {i j c : Int} {n : Nat} (h : rgN i j c = some n) : RgC i j c n := by
  unfold rgN at h
  split at h
  · rename_i q
    obtain ⟨h1, h2⟩ := Bool.and_eq_true_iff.mp q
    obtain ⟨h3, h4⟩ := Bool.and_eq_true_iff.mp h2
    split at h
    · rename_i n' e
      cases h
      exact ⟨of_decide_eq_true h1, Nat.le_of_ble_eq_true h3, h4, e⟩
    · cases h
  · cases h
def srcR3 (gs : Slots → Co (List Dv)) : Slots → Co (List Dv) := fun ρ => bnd (gs ρ) fun ds => match ds with
  | [d, e, f] => bnd (ofO (asI d)) fun i => bnd (ofO (asI e)) fun j => bnd (ofO (asI f)) fun c => bnd (ofO (rgN i j c)) fun n => rt (rngs c i n)
  | _ => fl
theorem xir1 {a : Expr} (ha : PA X [a] (rdA G E gs)) (hg : Gl X "range" := by rfl) (hm : X.mg "range" = none := by assumption) (hs : starEach [a] X.env = [(false, eval a X.env)] := by rfl) : PI X tg (.Call (.Name "range" p) [a] [] pos) (rdI G E (srcR1 gs)) :=
  piI (pi_range1 hg hm ha hs) fun σ H R h => by
    obtain ⟨ι, ρ, M, st, p⟩ := h
    refine ⟨ι, ρ, M, st, (Post.bnd p).mono fun ds ι1 M1 H1 x1 p1 vs rv => ?_⟩
    cases rv with
    | nil => exact p1.elim
    | cons r1 rv =>
      cases rv with
      | cons _ _ => exact p1.elim
      | nil =>
        obtain ⟨j, e1, p2⟩ := Post.ofO p1
        obtain ⟨c, p3⟩ := Post.chk p2
        obtain ⟨h1, h2⟩ := rOk_lt c
        exact ⟨j, by rw [(asI_rp r1 e1).1], h1, h2, Post.rt x1.mem p3 _ (wk_rng 0 _)⟩
theorem xir2 {a b : Expr} (ha : PA X [a, b] (rdA G E gs)) (hg : Gl X "range" := by rfl) (hm : X.mg "range" = none := by assumption) (hs : starEach [a, b] X.env = [(false, eval a X.env), (false, eval b X.env)] := by rfl) (hs2 : starEach [b] X.env = [(false, eval b X.env)] := by rfl) :
    PI X tg (.Call (.Name "range" p) [a, b] [] pos) (rdI G E (srcR2 gs)) :=
  piI (pi_range2 hg hm ha hs hs2) fun σ H R h => by
    obtain ⟨ι, ρ, M, st, p⟩ := h
    refine ⟨ι, ρ, M, st, (Post.bnd p).mono fun ds ι1 M1 H1 x1 p1 vs rv => ?_⟩
    cases rv with
    | nil => exact p1.elim
    | cons r1 rv =>
      cases rv with
      | nil => exact p1.elim
      | cons r2 rv =>
        cases rv with
        | cons _ _ => exact p1.elim
        | nil =>
          obtain ⟨i, e1, p2⟩ := Post.ofO p1
          obtain ⟨j, e2, p2⟩ := Post.ofO p2
          obtain ⟨c, p3⟩ := Post.chk p2
          obtain ⟨c1, c2⟩ := Bool.and_eq_true_iff.mp c
          obtain ⟨h1, h2⟩ := rOk_lt c1
          obtain ⟨h3, h4⟩ := rOk_lt c2
          exact ⟨i, j, by rw [(asI_rp r1 e1).1, (asI_rp r2 e2).1], ⟨h1, h2, h3, h4⟩, Post.rt x1.mem p3 _ (wk_rng i _)⟩
theorem xir3 {a b c : Expr} (ha : PA X [a, b, c] (rdA G E gs)) (hg : Gl X "range" := by rfl) (hm : X.mg "range" = none := by assumption) (hs : starEach [a, b, c] X.env = (false, eval a X.env) :: starEach [b, c] X.env := by rfl) (hpl : (backTo pos (starEach [b, c] X.env)).any (·.1) = false := by rfl) :
    PI X tg (.Call (.Name "range" p) [a, b, c] [] pos) (rdI G E (srcR3 gs)) :=
  piI (pi_range3 hg hm ha hs hpl) fun σ H R h => by
    obtain ⟨ι, ρ, M, st, p⟩ := h
    refine ⟨ι, ρ, M, st, (Post.bnd p).mono fun ds ι1 M1 H1 x1 p1 vs rv => ?_⟩
    cases rv with
    | nil => exact p1.elim
    | cons r1 rv =>
      cases rv with
      | nil => exact p1.elim
      | cons r2 rv =>
        cases rv with
        | nil => exact p1.elim
        | cons r3 rv =>
          cases rv with
          | cons _ _ => exact p1.elim
          | nil =>
            obtain ⟨i, e1, p2⟩ := Post.ofO p1
            obtain ⟨j, e2, p2⟩ := Post.ofO p2
            obtain ⟨k, e3, p2⟩ := Post.ofO p2
            obtain ⟨n, e4, p3⟩ := Post.ofO p2
            exact ⟨i, j, k, n, by rw [(asI_rp r1 e1).1, (asI_rp r2 e2).1, (asI_rp r3 e3).1], rgN_c e4, Post.rt x1.mem p3 _ (wk_rngC i k n)⟩
/-- the pairs of a dict that does not change -/
def dIts : List (PyData × PyData) → List Dv
  | [] => []
  | (k, x) :: r => .g (.tuple [k, x]) :: dIts r
def srcD (f : Slots → Co Dv) : Slots → Co (List Dv) := fun ρ => bnd (f ρ) fun d => match d with
  | .g (.dict kds) => rt (dIts kds)
  | _ => fl
theorem dIts_get {K : PySem.W.Frag} {H : Hp} : ∀ {kvs : List (Key × V)} {kds : List (PyData × PyData)} {i : Nat}, RpKs K H kvs kds → i < kds.length → ∃ k x j v, (dIts kds)[i]? = some (.g (.tuple [.int k, x])) ∧ kvs[i]? = some (j, v) ∧ j = .inl k ∧ RpV K H v x
  | _, _, _, .nil, h => absurd h (Nat.not_lt_zero _)
  | _, _, 0, .cons h _, _ => ⟨_, _, _, _, rfl, rfl, rfl, h⟩
  | _, _, i + 1, .cons _ r, h => by
    obtain ⟨k, x, j, v, h1, h2, h3⟩ := dIts_get (i := i) r (Nat.lt_of_succ_lt_succ h)
    exact ⟨k, x, j, v, h1, h2, h3⟩
theorem dIts_len : ∀ kds : List (PyData × PyData), (dIts kds).length = kds.length
  | [] => rfl
  | (_, _) :: r => by rw [dIts, List.length_cons, List.length_cons, dIts_len r]
theorem xid {apos cpos tpos : Pos} {elts : List Expr} {kk : Nat} (he : PE X e (rdE G E f)) (hb : attributeBase e (Str.ofString "items") X.env (eval e X.env) = eval e X.env := by rfl) (hl : (apos.endLine == cpos.line) = true := by rfl) :
    PI X (.Tuple elts kk tpos) (.Call (.Attribute e "items" apos) [] [] cpos) (rdI G E (srcD f)) :=
  piI (pi_items he hb hl) fun σ H R h => by
    obtain ⟨ι, ρ, M, st, p⟩ := h
    refine ⟨ι, ρ, M, st, (Post.bnd p).mono fun d ι1 M1 H1 x1 p1 v rv => ?_⟩
    cases rv with
    | g rv =>
      cases rv with
      | @dct a o kvs kds h r =>
        refine ⟨a, o, kvs, rfl, h, Post.rt x1.mem p1 _ ⟨fun i H2 k hi => ⟨k.frz _ _ _ h, ?_⟩, fun H2 k => ⟨k.frz _ _ _ h, ?_⟩, fun i H2 x H3 k hi y => ?_⟩⟩
        · rw [dIts_len] at hi
          rw [r.length]
          exact hi
        · rw [dIts_len, r.length]
          exact Nat.le_refl _
        · obtain ⟨T, kk, w, e1, rfl, hT, rfl⟩ := y
          rw [dIts_len] at hi
          obtain ⟨k2, z, j, v2, g1, g2, g3, g4⟩ := dIts_get r hi
          rw [g2] at e1
          cases e1
          refine ⟨_, g1, .g (.tup upd_same (.cons ?_ (.cons ?_ .nil))), .inr ⟨T, _, hT, rfl⟩⟩
          · rw [g3]
            exact .int k2
          · exact (g4.mono k).mono (keep_new hT)
      | _ => exact p1.elim
    | r _ => exact p1.elim
    | t _ _ => exact p1.elim

/-! ### for -/
def forL (tf : Dv → Slots → Co Slots) (b : Slots → Co Fl) : List Dv → Slots → Co Fl
  | [], ρ => rt (.nx ρ)
  | d :: r, ρ => bnd (tf d ρ) fun ρ1 => bnd (b ρ1) fun f => match f with
    | .nx ρ2 => forL tf b r ρ2
    | .ct ρ2 => forL tf b r ρ2
    | .bk ρ2 => rt (.nx ρ2)
    | .rt d => rt (.rt d)
def forX (src : Slots → Co (List Dv)) (tf : Dv → Slots → Co Slots) (b : Slots → Co Fl) : Slots → Co Fl := fun ρ => bnd (src ρ) fun ds => forL tf b ds ρ
theorem wk_new {ι : List Addr} {M : Mem} {H H2 : Hp} (m : MemR G ι H M) (h : H2 = H ∨ ∃ T vs, H T = none ∧ H2 = upd H T (.tup vs)) : Ext G ι H ι M H2 := by
  rcases h with rfl | ⟨T, vs, hT, rfl⟩
  · exact .refl m
  · exact .new m hT
theorem xfor {body : List Stmt} {src : Slots → Co (List Dv)} {tf : Dv → Slots → Co Slots} {b : Slots → Co Fl} {iter : Expr} (hp : PassesOwn (model X.prog X.w) X.A X.env X.xe) (hc : X.calm = true) (hi : PI X tg iter (rdI G E src)) (hg : PG X tg (rdG G E tf)) (hb : PSs X body (rdS G E b))
    (hs : ∀ x, foldedSetIterable iter X.env x = pure x := by intro _; rfl) : PS X (.For tg iter body [] pos) (rdS G E (forX src tf b)) :=
  psI (ps_for hp hc hi hg hb hs) fun D σ H h => by
    obtain ⟨ι, ρ, M, st, p⟩ := h
    refine ⟨ι, ρ, M, st, (Post.bnd p).mono fun ds ι1 M1 H1 x1 p1 J wk => ?_⟩
    refine ⟨fun i m σ H => i + m = ds.length ∧ Keep H1 H ∧ ∃ ι ρ M, ι1 <+: ι ∧ StR G H σ ι ρ M ∧ Post G E ι H (QS G D) (forL tf b (ds.drop i) ρ M), ⟨ds.length, Nat.zero_add _, .refl _, ι1, ρ, M1, List.prefix_refl _, st.ext x1, p1⟩, ?_⟩
    rintro i m σ2 H2 ⟨him, k2, ι2, ρ2, M2, pr2, st2, p2⟩
    by_cases hlt : i < ds.length
    · right
      obtain ⟨m', rfl⟩ : ∃ m', m = m' + 1 := ⟨m - 1, by omega⟩
      refine ⟨wk.go i H2 k2 hlt, fun σ H => ((i + 1) + m' = ds.length ∧ Keep H1 H ∧ ∃ ι ρ M, ι1 <+: ι ∧ StR G H σ ι ρ M ∧ Post G E ι H (QS G D) (forL tf b (ds.drop (i + 1)) ρ M)), fun σ H z => ⟨m', Nat.lt_succ_self _, z⟩, fun x H3 y => ?_⟩
      obtain ⟨d, e1, rd, new⟩ := wk.yld i H2 x H3 k2 hlt y
      have e2 : ds.drop i = d :: ds.drop (i + 1) := by
        rw [List.drop_eq_getElem_cons hlt]
        rw [List.getElem?_eq_getElem hlt] at e1
        cases e1
        rfl
      have x3 : Ext G ι2 H2 ι2 M2 H3 := wk_new st2.mem new
      rw [e2, forL] at p2
      have p3 := p2.shift x3
      refine ⟨ι2, ρ2, M2, d, st2.ext x3, rd.mono pr2 (.refl _), (Post.bnd p3).mono fun ρ' ι4 M4 H4 x4 p4 σ' st' => ?_⟩
      refine ⟨ι4, ρ', M4, st', (Post.bnd p4).mono fun fl ι5 M5 H5 x5 p5 => ?_⟩
      have k5 : Keep H1 H5 := ((k2.trans x3.keep).trans x4.keep).trans x5.keep
      have pr5 : ι1 <+: ι5 := (pr2.trans x4.pre).trans x5.pre
      cases fl with
      | nx ρ5 => exact fun σ5 st5 => ⟨by omega, k5, ι5, ρ5, M5, pr5, st5, p5⟩
      | ct ρ5 => exact fun σ5 st5 => ⟨by omega, k5, ι5, ρ5, M5, pr5, st5, p5⟩
      | bk ρ5 => exact Post.rt (E := E) x5.mem p5
      | rt d => exact Post.rt (E := E) x5.mem p5
    · left
      have hi : i = ds.length := by omega
      subst hi
      rw [List.drop_length, forL] at p2
      exact ⟨wk.stop H2 k2, Post.rt (E := E) st2.mem p2 _ st2⟩
/-! ### while: n turns at most -/
def whl (c : Slots → Co Bool) (b : Slots → Co Fl) : Nat → Slots → Co Fl
  | 0, _ => fl
  | n + 1, ρ => bnd (c ρ) fun q => match q with
    | false => rt (.nx ρ)
    | true => bnd (b ρ) fun f => match f with
      | .nx ρ2 => whl c b n ρ2
      | .ct ρ2 => whl c b n ρ2
      | .bk ρ2 => rt (.nx ρ2)
      | .rt d => rt (.rt d)
theorem xwhl {c : Expr} {body : List Stmt} {cf : Slots → Co Bool} {b : Slots → Co Fl} (n : Nat) (hp : PassesOwn (model X.prog X.w) X.A X.env X.xe) (hc : PT X c (rdT G E cf)) (hb : PSs X body (rdS G E b)) : PS X (.While c body [] pos) (rdS G E (whl cf b n)) :=
  psI (ps_while hp hc hb) fun D σ H h => by
    refine ⟨fun m σ H => rdS G E (whl cf b m) D σ H, ⟨n, h⟩, ?_⟩
    rintro m σ1 H1 ⟨ι, ρ, M, st, p⟩
    cases m with
    | zero => exact p.elim
    | succ m =>
      rw [whl] at p
      refine ⟨ι, ρ, M, st, (Post.bnd p).mono fun q ι1 M1 H1 x1 p1 => ?_⟩
      cases q with
      | false => exact iteF (Post.rt (E := E) x1.mem p1 _ (st.ext x1))
      | true =>
        refine iteT ⟨rdS G E (whl cf b m) D, fun σ H z => ⟨m, Nat.lt_succ_self _, z⟩, ι1, ρ, M1, st.ext x1, (Post.bnd p1).mono fun fl ι2 M2 H2 x2 p2 => ?_⟩
        cases fl with
        | nx ρ2 => exact fun σ2 st2 => ⟨ι2, ρ2, M2, st2, p2⟩
        | ct ρ2 => exact fun σ2 st2 => ⟨ι2, ρ2, M2, st2, p2⟩
        | bk ρ2 => exact Post.rt (E := E) x2.mem p2
        | rt d => exact Post.rt (E := E) x2.mem p2
end
end Xt
set_option Elab.async false
set_option linter.all false
set_option maxRecDepth 100000
set_option maxHeartbeats 1000000
namespace Xt
open PySem PySem.Spec PyProof.Rows L2

/-! ### a heap without one object (the list that is being made) -/
def hid (H : Hp) (D : Addr) : Hp := fun b => if b = D then none else H b
section
variable {G : Gx} {E : XK} {ι : List Addr} {H H' : Hp} {M : Mem} {D : Addr} {vs : List V}
theorem hid_ne {b : Addr} (h : b ≠ D) : hid H D b = H b := if_neg h
theorem hid_at : hid H D D = none := if_pos rfl
theorem hid_some {b : Addr} {o : HO} (h : hid H D b = some o) : b ≠ D ∧ H b = some o := by
  by_cases e : b = D
  · rw [e, hid_at] at h
    cases h
  · rw [hid_ne e] at h
    exact ⟨e, h⟩
theorem keep_up : Keep (hid H D) H := ⟨fun _ _ _ h => (hid_some h).2, fun _ _ h => (hid_some h).2⟩
theorem keep_dn (hD : H D = some (.lst vs)) : Keep H (hid H D) :=
  ⟨fun a o u h => by rw [hid_ne (fun e => by rw [e, hD] at h; cases h)]; exact h, fun a xs h => by rw [hid_ne (fun e => by rw [e, hD] at h; cases h)]; exact h⟩
theorem MemR.up (m : MemR G ι (hid H D) M) : MemR G ι H M :=
  ⟨m.len, m.nd, fun i a mo h1 h2 => by
    obtain ⟨o, ho⟩ := m.at (List.mem_of_getElem? h1)
    exact (m.ob i a mo h1 h2).mono (List.prefix_refl _) keep_up (by rw [hid_ne (hid_some ho).1]), fun P hP => (m.tab P hP).to (fun ps h => (hid_some h).2) fun c f h => (hid_some h).2⟩
theorem MemR.dn (hD : H D = some (.lst vs)) (hn : D ∉ ι) (m : MemR G ι H M) : MemR G ι (hid H D) M :=
  ⟨m.len, m.nd, fun i a mo h1 h2 => by
    have ne : a ≠ D := fun e => hn (by rw [← e]; exact List.mem_of_getElem? h1)
    exact (m.ob i a mo h1 h2).mono (List.prefix_refl _) (keep_dn hD) (hid_ne ne), fun P hP => (m.tab P hP).to (fun ps h => by rw [hid_ne (fun e => by rw [e, hD] at h; cases h)]; exact h) fun c f h => by rw [hid_ne (fun e => by rw [e, hD] at h; cases h)]; exact h⟩
theorem StR.up {σ : L2.St} {ρ : Slots} (s : StR G (hid H D) σ ι ρ M) : StR G H σ ι ρ M :=
  ⟨s.len, s.mem.up, fun i d h n => by
    obtain ⟨v, e, r⟩ := s.sl i d h n
    exact ⟨v, e, r.mono (List.prefix_refl _) keep_up⟩⟩
theorem StR.dn {σ : L2.St} {ρ : Slots} (hD : H D = some (.lst vs)) (hn : D ∉ ι) (s : StR G H σ ι ρ M) : StR G (hid H D) σ ι ρ M :=
  ⟨s.len, s.mem.dn hD hn, fun i d h n => by
    obtain ⟨v, e, r⟩ := s.sl i d h n
    exact ⟨v, e, r.mono (List.prefix_refl _) (keep_dn hD)⟩⟩
/-- what happens with the list in sight happens without -/
theorem Ext.hid {ι' : List Addr} {M' : Mem} (hD : H D = some (.lst vs)) (hn : D ∉ ι) (x : Ext G ι H ι' M' H') : Ext G ι (Xt.hid H D) ι' M' (Xt.hid H' D) ∧ H' D = some (.lst vs) ∧ D ∉ ι' := by
  have hn' : D ∉ ι' := fun z => by
    have e := x.fresh D z hn
    rw [hD] at e
    cases e
  have hD' : H' D = some (.lst vs) := x.frame D _ hD rfl hn
  refine ⟨⟨x.pre, x.mem.dn hD' hn', (keep_up.trans x.keep).trans (keep_dn hD'), fun b o h1 h2 h3 => ?_, fun b ps h => ?_, fun a h n => ?_⟩, hD', hn'⟩
  · obtain ⟨ne, h⟩ := hid_some h1
    rw [hid_ne ne]
    exact x.frame b o h h2 h3
  · obtain ⟨ne, h⟩ := hid_some h
    rw [hid_ne ne]
    exact x.tbl b ps h
  · by_cases e : a = D
    · rw [e]
      exact hid_at
    · rw [hid_ne e]
      exact x.fresh a h n
/-- no exception -/
def nox {α : Type} (c : Co α) : Co α := fun M => match c M with
  | .ex _ _ => .fail
  | r => r
theorem Post.hid {α : Type} {E' : XK} {c : Co α} {Q : α → List Addr → Mem → Hp → Prop} (hD : H D = some (.lst vs)) (hn : D ∉ ι) (p : Post G E ι (Xt.hid H D) Q (nox c M)) :
    Post G E' ι H (fun a ι' M' H' => Q a ι' M' (Xt.hid H' D) ∧ H' D = some (.lst vs) ∧ D ∉ ι') (c M) := by
  unfold nox at p
  cases e : c M with
  | fail =>
    rw [e] at p
    exact p.elim
  | ex _ _ =>
    rw [e] at p
    exact p.elim
  | ok a M' =>
    rw [e] at p
    intro ι' H' x
    obtain ⟨y, h1, h2⟩ := x.hid hD hn
    exact ⟨p ι' _ y, h1, h2⟩

/-! ### a comprehension's targets: its own names -/
def wip (ρ : Slots) : List Nat → Slots
  | [] => ρ
  | i :: r => (wip ρ r).set i .u
theorem wip_st {σ : L2.St} {ρ : Slots} (s : StR G H σ ι ρ M) : ∀ own : List Nat, StR G H (wipe σ own) ι (wip ρ own) M
  | [] => s
  | i :: r => by
    have q := wip_st s r
    refine ⟨?_, q.mem, fun j d h n => ?_⟩
    · rw [wip, wipe_length, List.length_set]
      have e := q.len
      rw [wipe_length] at e
      exact e
    · rw [wip] at h
      by_cases hj : i = j
      · subst hj
        by_cases hl : i < (wip ρ r).length
        · rw [List.getElem?_set_self hl] at h
          cases h
          exact absurd rfl n
        · rw [List.getElem?_eq_none (by rw [List.length_set]; omega)] at h
          cases h
      · rw [List.getElem?_set_ne hj] at h
        obtain ⟨v, e, r'⟩ := q.sl j d h n
        refine ⟨v, ?_, r'⟩
        show ((wipe σ r).set i none)[j]? = some (some v)
        rw [List.getElem?_set_ne hj]
        exact e
theorem wipe_set (σ : L2.St) (i : Nat) (v : Option V) : ∀ {own : List Nat}, i ∈ own → wipe (σ.set i v) own = wipe σ own
  | [], h => by cases h
  | j :: r, h => by
    show (wipe (σ.set i v) r).set j none = (wipe σ r).set j none
    by_cases hr : i ∈ r
    · rw [wipe_set σ i v hr]
    · have e : i = j := by
        rcases List.mem_cons.mp h with e | h
        · exact e
        · exact absurd h hr
      subst e
      have com : ∀ (l : List Nat), i ∉ l → wipe (σ.set i v) l = (wipe σ l).set i v := by
        intro l
        induction l with
        | nil => intro _; rfl
        | cons k l ih =>
          intro hk
          show (wipe (σ.set i v) l).set k none = ((wipe σ l).set k none).set i v
          rw [ih (fun z => hk (List.mem_cons_of_mem _ z)), List.set_comm _ _ (fun z => hk (by rw [z]; exact List.mem_cons_self))]
      rw [com r hr, List.set_set]
theorem wipe_com (i : Nat) (v : Option V) : ∀ (l : List Nat) (σ : L2.St), i ∉ l → wipe (σ.set i v) l = (wipe σ l).set i v
  | [], _, _ => rfl
  | k :: l, σ, hk => by
    show (wipe (σ.set i v) l).set k none = ((wipe σ l).set k none).set i v
    rw [wipe_com i v l σ (fun z => hk (List.mem_cons_of_mem _ z)), List.set_comm _ _ (fun z => hk (by rw [z]; exact List.mem_cons_self))]
theorem wipe_wipe (σ : L2.St) : ∀ own : List Nat, wipe (wipe σ own) own = wipe σ own
  | [] => rfl
  | i :: r => by
    show (wipe ((wipe σ r).set i none) r).set i none = (wipe σ r).set i none
    by_cases hr : i ∈ r
    · rw [wipe_set _ i none hr, wipe_wipe σ r]
    · rw [wipe_com i none r _ hr, List.set_set, wipe_wipe σ r]
/-- g binds as tf does, and its own names alone -/
def TgS (G : Gx) (E : XK) (own : List Nat) (g : TG) (tf : Dv → Slots → Co Slots) : Prop := ∀ (ι : List Addr) (ρ : Slots) (M : Mem) (σ : L2.St) (H : Hp) (v : V) (d : Dv) (Q : L2.St → Hp → Prop), StR G H σ ι ρ M → RpD G ι H v d →
  Post G E ι H (fun ρ' ι' M' H' => ∀ σ', StR G H' σ' ι' ρ' M' → wipe σ' own = wipe σ own → Q σ' H') (tf d ρ M) → g v σ H Q
theorem tg_n {own : List Nat} {i : Nat} (h : i ∈ own) : TgS G E own (gName i) (tN i) := fun ι ρ M σ H v d Q s r p => Post.rt (E := E) s.mem p _ (s.set i r) (wipe_set σ i _ h)
theorem tg_2 {own : List Nat} {K : PySem.W.Frag} {i j : Nat} (hi : i ∈ own) (hj : j ∈ own) : TgS G E own (gTup K 2 (gCons (gName i) (gCons (gName j) gNil))) (tT 2 (tC (tN i) (tC (tN j) tZ))) := fun ι ρ M σ H v d Q s r p => by
  obtain ⟨ds, e, p⟩ := Post.ofO p
  obtain ⟨c, p⟩ := Post.chk p
  obtain ⟨a, vs, rfl, h1, h2⟩ := asT_rp r e
  have hl : ds.length = 2 := Nat.eq_of_beq_eq_true c
  cases h2 with
  | nil => cases hl
  | cons r1 h2 =>
    cases h2 with
    | nil => cases hl
    | cons r2 h2 =>
      cases h2 with
      | cons _ _ => cases hl
      | nil =>
        refine ⟨a, _, rfl, .of h1, rfl, _, _, rfl, _, _, rfl, rfl, ?_⟩
        exact Post.rt (E := E) s.mem p _ ((s.set i r1).set j r2) (by rw [wipe_set _ j _ hj, wipe_set _ i _ hi])
theorem tg_3 {own : List Nat} {K : PySem.W.Frag} {i j k : Nat} (hi : i ∈ own) (hj : j ∈ own) (hk : k ∈ own) : TgS G E own (gTup K 3 (gCons (gName i) (gCons (gName j) (gCons (gName k) gNil)))) (tT 3 (tC (tN i) (tC (tN j) (tC (tN k) tZ)))) := fun ι ρ M σ H v d Q s r p => by
  obtain ⟨ds, e, p⟩ := Post.ofO p
  obtain ⟨c, p⟩ := Post.chk p
  obtain ⟨a, vs, rfl, h1, h2⟩ := asT_rp r e
  have hl : ds.length = 3 := Nat.eq_of_beq_eq_true c
  cases h2 with
  | nil => cases hl
  | cons r1 h2 =>
    cases h2 with
    | nil => cases hl
    | cons r2 h2 =>
      cases h2 with
      | nil => cases hl
      | cons r3 h2 =>
        cases h2 with
        | cons _ _ => cases hl
        | nil =>
          refine ⟨a, _, rfl, .of h1, rfl, _, _, rfl, _, _, rfl, _, _, rfl, rfl, ?_⟩
          exact Post.rt (E := E) s.mem p _ (((s.set i r1).set j r2).set k r3) (by rw [wipe_set _ k _ hk, wipe_set _ j _ hj, wipe_set _ i _ hi])
/-- tests: none, one -/
def PtS (G : Gx) (E : XK) (t : TT) (tt : Slots → Co Bool) : Prop := ∀ (ι : List Addr) (ρ : Slots) (M : Mem) (σ : L2.St) (H : Hp) (Q : Bool → Hp → Prop), StR G H σ ι ρ M → Post G E ι H (fun b _ _ H' => Q b H') (tt ρ M) → t σ H Q
def yes : Slots → Co Bool := fun _ => rt true
theorem pt_0 : PtS G E tYes yes := fun ι ρ M σ H Q s p => Post.rt (E := E) s.mem p
theorem pt_1 {tt : Slots → Co Bool} : PtS G E (rdT G E tt) tt := fun ι ρ M σ H Q s p => ⟨ι, ρ, M, s, p⟩
def gOf : Dv → Option PyData
  | .g x => some x
  | _ => none
/-! ### a list comprehension -/
def lcL (tf : Dv → Slots → Co Slots) (tt : Slots → Co Bool) (te : Slots → Co Dv) (ρ : Slots) : List Dv → Co (List PyData)
  | [] => rt []
  | d :: r => bnd (nox (tf d ρ)) fun ρ1 => bnd (nox (tt ρ1)) fun q => match q with
    | true => bnd (nox (te ρ1)) fun y => bnd (ofO (gOf y)) fun x => bnd (lcL tf tt te ρ r) fun xs => rt (x :: xs)
    | false => lcL tf tt te ρ r
def lcX (own : List Nat) (src : Slots → Co (List Dv)) (tf : Dv → Slots → Co Slots) (tt : Slots → Co Bool) (te : Slots → Co Dv) : Slots → Co Dv := fun ρ => bnd (src ρ) fun ds => chk (szOk ds.length) (bnd (lcL tf tt te (wip ρ own) ds) fun xs => rt (.g (.list xs)))
theorem bnd_assoc {α β γ : Type} (f : Co α) (k : α → Co β) (l : β → Co γ) : bnd (bnd f k) l = bnd f fun a => bnd (k a) l := by
  funext M
  unfold bnd
  cases f M <;> rfl
theorem bnd_rt {α β : Type} (a : α) (k : α → Co β) : bnd (rt a) k = k a := rfl
theorem RpVs.snoc {K : PySem.W.Frag} {vs : List V} {xs : List PyData} {v : V} {x : PyData} (h : RpVs K H vs xs) (z : RpV K H v x) : RpVs K H (vs ++ [v]) (xs ++ [x]) := h.append (.cons z .nil)
end
section
variable {X : Cx} {G : Gx} {E : XK} {e : Expr} {es : List Expr} {f : Slots → Co Dv} {pos p : Pos} {tg : Expr}
theorem rd_lc {src : Slots → Co (List Dv)} {tf : Dv → Slots → Co Slots} {tt : Slots → Co Bool} {te : Slots → Co Dv} {g : TG} {t : TT} {own : List Nat} (hg : TgS G E0 own g tf) (ht : PtS G E0 t tt) {σ : L2.St} {H : Hp} {Q : VK} (h : rdE G E (lcX own src tf tt te) σ H Q) :
    tLc (rdI G E src) g t (rdE G E0 te) own σ H (VF Q) := by
  obtain ⟨ι, ρ, M, st, p⟩ := h
  refine ⟨ι, ρ, M, st, (Post.bnd p).mono fun ds ι1 M1 H1 x1 p1 J wk D hD => ?_⟩
  obtain ⟨sz, p2⟩ := Post.chk p1
  have hn : D ∉ ι1 := fun z => by
    obtain ⟨o, ho⟩ := x1.mem.at z
    rw [hD] at ho
    cases ho
  have h0 : hid (upd H1 D (.lst [])) D = H1 := by
    funext b
    by_cases e : b = D
    · rw [e, hid_at, hD]
    · rw [hid_ne e, upd_ne e]
  refine ⟨fun i m Hc => i + m = ds.length ∧ Keep H1 Hc ∧ ∃ ι2 M2 xs vs, ι1 <+: ι2 ∧ D ∉ ι2 ∧ Hc D = some (.lst vs) ∧ RpVs G.K Hc vs xs ∧ xs.length ≤ i ∧ StR G (hid Hc D) σ ι2 ρ M2 ∧
    Post G E ι2 (hid Hc D) (QE G Q) (bnd (lcL tf tt te (wip ρ own) (ds.drop i)) (fun ys => rt (.g (.list (xs ++ ys)))) M2), ⟨ds.length, Nat.zero_add _, keep_new hD, ι1, M1, [], [], List.prefix_refl _, hn, upd_same, .nil, Nat.le_refl _, by rw [h0]; exact st.ext x1, by rw [h0]; exact p2⟩, ?_⟩
  rintro i m Hc ⟨him, kc, ι2, M2, xs, vs, pr2, hn2, hDc, rxs, hlen, st2, p3⟩
  by_cases hlt : i < ds.length
  · right
    obtain ⟨m', rfl⟩ : ∃ m', m = m' + 1 := ⟨m - 1, by omega⟩
    refine ⟨wk.go i Hc kc hlt, _, fun Hn z => ⟨m', Nat.lt_succ_self _, z⟩, fun x H3 y => ?_⟩
    obtain ⟨d, e1, rd, new⟩ := wk.yld i Hc x H3 kc hlt y
    have e2 : ds.drop i = d :: ds.drop (i + 1) := by
      rw [List.drop_eq_getElem_cons hlt]
      rw [List.getElem?_eq_getElem hlt] at e1
      cases e1
      rfl
    -- the item's own tuple
    have hD3 : H3 D = some (.lst vs) := by
      rcases new with rfl | ⟨T, ws, hT, rfl⟩
      · exact hDc
      · rw [upd_ne (ne_of_none hDc hT)]
        exact hDc
    have x3 : Ext G ι2 (hid Hc D) ι2 M2 (hid H3 D) := by
      rcases new with rfl | ⟨T, ws, hT, rfl⟩
      · exact .refl st2.mem
      · have e : hid (upd Hc T (.tup ws)) D = upd (hid Hc D) T (.tup ws) := by
          funext b
          by_cases e : b = D
          · rw [e, hid_at, upd_ne (ne_of_none hDc hT), hid_at]
          · by_cases e2 : b = T
            · rw [e2, hid_ne (fun z => e (e2.trans z)), upd_same, upd_same]
            · rw [hid_ne e, upd_ne e2, upd_ne e2, hid_ne e]
        rw [e]
        refine .new st2.mem ?_
        by_cases e2 : T = D
        · rw [e2]
          exact hid_at
        · rw [hid_ne e2]
          exact hT
    have k3 : Keep Hc H3 := by
      rcases new with rfl | ⟨T, ws, hT, rfl⟩
      · exact .refl _
      · exact keep_new hT
    have p4 := p3.shift x3
    rw [e2, lcL, bnd_assoc] at p4
    have st3 := (wip_st (st2.ext x3) own).up
    refine hg ι2 _ M2 _ H3 x d _ st3 (rd.mono pr2 (.refl _)) ((Post.hid hD3 hn2 (Post.bnd p4)).mono fun ρ1 ι4 M4 H4 x4 ⟨p5, hD4, hn4⟩ σ4 st4 hw => ⟨hw.trans (wipe_wipe σ own), ?_⟩)
    rw [bnd_assoc] at p5
    refine ht ι4 ρ1 M4 σ4 H4 _ st4 ((Post.hid hD4 hn4 (Post.bnd p5)).mono fun q ι5 M5 H5 x5 ⟨p6, hD5, hn5⟩ => ?_)
    have st5 : StR G (hid H5 D) σ ι5 ρ M5 := by
      have y4 := (x4.hid hD3 hn2).1
      have y5 := (x5.hid hD4 hn4).1
      exact ((st2.ext x3).ext y4).ext y5
    have k5 : Keep H1 H5 := (((kc.trans k3).trans x4.keep).trans x5.keep)
    have pr5 : ι1 <+: ι5 := (pr2.trans x4.pre).trans x5.pre
    cases q with
    | false =>
      refine iteF ⟨by omega, k5, ι5, M5, xs, vs, pr5, hn5, hD5, ((rxs.mono k3).mono x4.keep).mono x5.keep, by omega, st5, p6⟩
    | true =>
      refine iteT ?_
      rw [bnd_assoc] at p6
      refine ⟨ι5, ρ1, M5, (st4.ext x5), (Post.hid hD5 hn5 (Post.bnd p6)).mono fun d6 ι6 M6 H6 x6 ⟨p7, hD6, hn6⟩ v6 rv6 => ?_⟩
      rw [bnd_assoc] at p7
      obtain ⟨z, ez, p8⟩ := Post.ofO p7
      have ed : d6 = .g z := by
        cases d6 with
        | g w =>
          cases ez
          rfl
        | _ => cases ez
      subst ed
      cases rv6 with
      | g rv6 =>
        have rx6 : RpVs G.K H6 vs xs := (((rxs.mono k3).mono x4.keep).mono x5.keep).mono x6.keep
        have h6 : hid (upd H6 D (.lst (vs ++ [v6]))) D = hid H6 D := by
          funext b
          by_cases e : b = D
          · rw [e, hid_at, hid_at]
          · rw [hid_ne e, hid_ne e, upd_ne e]
        have ks : Keep H6 (upd H6 D (.lst (vs ++ [v6]))) := keep_store hD6 rfl
        refine ⟨vs, hD6, ?_, by omega, (k5.trans x6.keep).trans ks, ι6, M6, xs ++ [z], vs ++ [v6], pr5.trans x6.pre, hn6, upd_same, (rx6.snoc rv6).mono ks, ?_, ?_, ?_⟩
        · have h9 := szOk_le sz
          rw [rxs.length]
          omega
        · rw [List.length_append]
          show xs.length + 1 ≤ i + 1
          omega
        · rw [h6]
          exact st5.ext (x6.hid hD5 hn5).1
        · rw [h6]
          rw [bnd_assoc] at p8
          have e9 : ∀ ys, xs ++ [z] ++ ys = xs ++ z :: ys := fun ys => by simp
          simp only [e9]
          exact p8
  · left
    have hi : i = ds.length := by omega
    subst hi
    rw [List.drop_length, lcL, bnd_rt, List.append_nil] at p3
    refine ⟨wk.stop Hc kc, .inr ⟨D, .lst vs, rfl, hDc, trivial, fun od => ?_⟩⟩
    have e : upd Hc D (.frz od (.lst vs)) = upd (hid Hc D) D (.frz od (.lst vs)) := by
      funext b
      by_cases e : b = D
      · rw [e, upd_same, upd_same]
      · rw [upd_ne e, upd_ne e, hid_ne e]
    rw [e]
    have x9 : Ext G ι2 (hid Hc D) ι2 M2 (upd (hid Hc D) D (.frz od (.lst vs))) := .new st2.mem hid_at
    exact Post.rt (E := E) x9.mem (p3.shift x9) _ (.g (.lst (.inl ⟨od, upd_same⟩) ((rxs.mono (keep_dn hDc)).mono x9.keep)))
theorem xlc {elt iter : Expr} {ifs : List Expr} {scope : Scope} {own : List (Str × Nat)} {src : Slots → Co (List Dv)} {tf : Dv → Slots → Co Slots} {tt : Slots → Co Bool} {te : Slots → Co Dv} {g : TG} {t : TT} (hc : X.calm = true) (hN : X.N.Nodup) (hi : PI X tg iter (rdI G E src)) (ok : BlkOk X.N X.env.scope scope own)
    (tg_ : TgS G E0 (own.map (·.2)) g tf) (pt_ : PtS G E0 t tt) (hg : ∀ (s : Shared) (H : Hp) (C : Addr) (cl : List (Str × Addr)) (fp : List Addr), PG (X.blk s H scope (compEnvC scope cl C X.env) fp) tg g) (ht : ∀ (s : Shared) (H : Hp) (C : Addr) (cl : List (Str × Addr)) (fp : List Addr), PTs (X.blk s H scope (compEnvC scope cl C X.env) fp) ifs t)
    (he : ∀ (s : Shared) (H : Hp) (C : Addr) (cl : List (Str × Addr)) (fp : List Addr), PE (X.blk s H scope (compEnvC scope cl C X.env) fp) elt (rdE G E0 te)) (hs : ∀ x, foldedSetIterable iter X.env x = pure x := by intro _; rfl) :
    PE X (.ListComp elt [⟨tg, iter, ifs, 0⟩] scope pos) (rdE G E (lcX (own.map (·.2)) src tf tt te)) :=
  peI (pe_frz (pe_lc hc hN hi ok hg ht he hs)) fun _ _ _ h => rd_lc tg_ pt_ h
end
end Xt
set_option Elab.async false
set_option linter.all false
set_option maxRecDepth 100000
set_option maxHeartbeats 1000000
namespace Xt
open PySem PySem.Spec PyProof.Rows L2

/-! ### defs by name -/
/-- the def that stands under the name x gives what F n gives, with n calls, one in another -/
def Dok (P : Program) (w : World) (base : Heap) (CX : CXT) (G : Gx) (x : Str) (ps : List Str) (n : Nat) (F : List Dv → Co Dv) : Prop :=
  ∃ (fa : Addr) (fd : FuncData), G.mg x = some (.ref fa) ∧ PySem.W.keepIn G.K (.ref fa) = true ∧ Binds G.K fd ps [] ∧ FnOk P w G.K G.mg base CX n fa fd ps (spF G F)
theorem Dok.imp {P : Program} {w : World} {base : Heap} {CX : CXT} {G : Gx} {x : Str} {ps : List Str} {n : Nat} {F F' : List Dv → Co Dv} (d : Dok P w base CX G x ps n F) (h : ∀ ds M, F' ds M = F ds M ∨ F' ds M = .fail) : Dok P w base CX G x ps n F' := by
  obtain ⟨fa, fd, h1, h2, h3, h4⟩ := d
  exact ⟨fa, fd, h1, h2, h3, h4.imp fun vs H Q E s => spF_imp h s⟩
theorem Dok.mono {P : Program} {w : World} {base : Heap} {CX : CXT} {G : Gx} {x : Str} {ps : List Str} {n m : Nat} {F : List Dv → Co Dv} (d : Dok P w base CX G x ps n F) (h : n ≤ m) : Dok P w base CX G x ps m F := by
  obtain ⟨fa, fd, h1, h2, h3, h4⟩ := d
  exact ⟨fa, fd, h1, h2, h3, h4.mono h⟩
theorem px0 {X : Cx} {E : XK} : Passes CX0 X E := fun _ _ _ _ _ _ _ h => h.elim
section
variable {X : Cx} {G : Gx} {E : XK} {e : Expr} {es : List Expr} {gs : Slots → Co (List Dv)} {pos p : Pos} {CX : CXT} {x : Str} {ps : List Str} {n : Nat} {F : List Dv → Co Dv}
theorem xcP (d : Dok X.prog X.w X.base CX G x ps n F) (hK : X.K = G.K) (hm : X.mg = G.mg) (hr : Room n X.A) (hx : Passes CX X E) (ha : PA X (e :: es) (rdA G E gs)) (hg : Gl X x := by rfl)
    (hdb : (x == ("__debug__" : Str)) = false := by decide) (he : starEach (e :: es) X.env = (false, eval e X.env) :: starEach es X.env := by rfl) (hpl : (backTo pos (starEach es X.env)).any (·.1) = false := by rfl) :
    PE X (.Call (.Name x p) (e :: es) [] pos) (rdE G E (cB (pureC F) gs)) := by
  obtain ⟨fa, fd, h1, h2, h3, h4⟩ := d
  rw [← hK, ← hm] at h4
  rw [← hm] at h1
  rw [← hK] at h2 h3
  exact xcallP h4 hr hg h1 h2 h3 hx ha hdb he hpl
theorem xcW (d : Dok X.prog X.w X.base CX G x ps n F) (hK : X.K = G.K) (hm : X.mg = G.mg) (hr : Room n X.A) (hx : Passes CX X E) (ha : PA X (e :: es) (rdA G E gs)) (hg : Gl X x := by rfl)
    (hdb : (x == ("__debug__" : Str)) = false := by decide) (he : starEach (e :: es) X.env = (false, eval e X.env) :: starEach es X.env := by rfl) (hpl : (backTo pos (starEach es X.env)).any (·.1) = false := by rfl) :
    PE X (.Call (.Name x p) (e :: es) [] pos) (rdE G E (cB F gs)) := by
  obtain ⟨fa, fd, h1, h2, h3, h4⟩ := d
  rw [← hK, ← hm] at h4
  rw [← hm] at h1
  rw [← hK] at h2 h3
  exact xcallW h4 hr hg h1 h2 h3 hx ha hdb he hpl
end
/-! ### what the head tells -/
structure Tx (fa : List He.Fa) (fn : List He.DefD) (G : Gx) : Prop where
  says : He.SaysD fa fn G.K
  hp : ∃ h : Heap, G.K.In h ∧ h.Ns mainGlobals G.mg
section
variable {fa : List He.Fa} {fn : List He.DefD} {G : Gx}
theorem Tx.glo (T : Tx fa fn G) {x : Str} (i : Nat) (h : fa[i]? = some (.glo x) := by rfl) : G.mg x = some (.ref (He.ga G.K x)) := by
  obtain ⟨hh, h1, h2⟩ := T.hp
  exact He.glo_ok h1 h2 (T.says.fact i h)
theorem Tx.free (T : Tx fa fn G) {x : Str} (i : Nat) (h : fa[i]? = some (.free x) := by rfl) : G.mg x = none := by
  obtain ⟨hh, h1, h2⟩ := T.hp
  exact He.free_ok h1 h2 (T.says.fact i h)
theorem Tx.int (T : Tx fa fn G) {x : Str} {z : Int} (i : Nat) (h : fa[i]? = some (.int x z) := by rfl) : ∃ t, G.mg x = some (.int z t) := by
  obtain ⟨hh, h1, h2⟩ := T.hp
  exact He.int_ok h1 h2 (T.says.fact i h)
end
/-- nothing is promised with no call -/
theorem fn_zero {P : Program} {w : World} {K : PySem.W.Frag} {mg : Str → Option Value} {base : Heap} {CX : CXT} {k : Nat} {f : Addr} {fd : FuncData} {ps : List Str} {G : Gx} : FnOk P w K mg base CX k f fd ps (spF G fun _ => fl) := by
  have no : ∀ vs H Q E, ¬ spF G (fun _ => fl) vs H Q E := fun vs H Q E h => by
    obtain ⟨ι, M, ds, _, _, p⟩ := h
    exact p.elim
  exact ⟨fun vs H Q E h => absurd h (no vs H Q E), fun A outer s H args us vs Q E _ _ _ _ h => absurd h (no vs H Q E)⟩
/-- a def of the text, by its body: n calls for what it calls -/
theorem dok_mk {P : Program} {w : World} {base : Heap} {G : Gx} {x nm qual : Str} {params : Arguments} {body : List Stmt} {scope : Scope} {fa : Addr} {N ps : List Str} {Fn : Nat → List Dv → Co Dv} {b : Nat → Slots → Co Fl} (h0 : Fn 0 = fun _ => fl) (hs : ∀ n, Fn (n + 1) = defF N.length ps.length (b n))
    (F : ∃ fd, FunD G.K nm qual params body scope [] [] fa fd) (hm : G.mg x = some (.ref fa)) (S : FnScope N ps scope)
    (hbd : ∀ (kV doc pm : Value) (an : Option Addr) (cdv ct : Value) (us : List Value), us.length = ps.length → bindArgs (PySem.W.fnOf nm qual params body scope .none kV doc pm an cdv ct) ⟨us, []⟩ = pure (ps.zip us))
    (hb : ∀ n, Dok P w base CX0 G x ps n (Fn n) → ∀ (cdv : Value) (A : Around) (outer : List Env) (s : Shared) (H : Hp) (E : XK), Room n (A.deeper (envOfC qual scope s.heap.objs.size fa cdv)) → PSs (cxOf CX0 P w G.K G.mg base N qual scope fa cdv A outer s H E).nox body (rdS G E (b n))) :
    ∀ n, Dok P w base CX0 G x ps n (Fn n) := by
  obtain ⟨fd, F⟩ := F
  intro n
  induction n with
  | zero => exact ⟨fa, fd, hm, F.kp, F.bindsN hbd, by rw [h0]; exact fn_zero⟩
  | succ n ih => exact ⟨fa, fd, hm, F.kp, F.bindsN hbd, by
      rw [hs]
      exact xdef F S fun cdv A outer s H E hr => (hb n ih cdv A outer s H E hr).nox⟩
end Xt
set_option Elab.async false
set_option linter.all false
set_option maxRecDepth 100000
set_option maxHeartbeats 1000000
namespace Xt
open PySem PySem.Spec PyProof.Rows L2

/-! ### a call that may change what stands in the memory, its own new objects forgotten -/
def grdO : MO → Bool
  | .lst xs => (grd xs).isSome
  | .dct kvs => (grd (kvs.map (·.2))).isSome
  | .ins _ fs => (grd (fs.map (·.2))).isSome
  | .dead => true
def trimC (F : List Dv → Co Dv) : List Dv → Co Dv := fun ds M => match F ds M with
  | .ok (.g x) M' => (match (M'.take M.length).all grdO with
    | true => .ok (.g x) (M'.take M.length)
    | false => .fail)
  | .ok _ _ => .fail
  | .ex c M' => (match (M'.take M.length).all grdO with
    | true => .ex c (M'.take M.length)
    | false => .fail)
  | .fail => .fail
section
variable {G : Gx} {E : XK} {ι ι' : List Addr} {H H' : Hp} {M M' : Mem}
theorem grd_cons {x : Dv} {xs : List Dv} (h : (grd (x :: xs)).isSome = true) : (∃ y, x = .g y) ∧ (grd xs).isSome = true := by
  cases x with
  | g y =>
    refine ⟨⟨y, rfl⟩, ?_⟩
    have h2 : ((grd xs).map (y :: ·)).isSome = true := h
    cases e : grd xs with
    | none =>
      rw [e] at h2
      cases h2
    | some _ => rfl
  | _ => cases h
theorem RpDs.any_ι {vs : List V} {ds : List Dv} (r : RpDs G ι' H vs ds) (h : (Xt.grd ds).isSome = true) : RpDs G ι H vs ds := by
  obtain ⟨xs, e⟩ := Option.isSome_iff_exists.mp h
  have e2 : ∀ {ds : List Dv} {xs : List PyData}, Xt.grd ds = some xs → ds = xs.map Dv.g := by
    intro ds
    induction ds with
    | nil =>
      intro xs e
      cases e
      rfl
    | cons d ds ih =>
      intro xs e
      cases d with
      | g y =>
        have e3 : (Xt.grd ds).map (y :: ·) = some xs := e
        cases q : Xt.grd ds with
        | none =>
          rw [q] at e3
          cases e3
        | some zs =>
          rw [q] at e3
          cases e3
          rw [ih q]
          rfl
      | _ => cases e
  rw [e2 e]
  exact (r.grd e).ds
theorem RpI.any_ι {vs : List (Key × V)} {ds : List (Int × Dv)} (r : RpI G ι' H vs ds) (h : (Xt.grd (ds.map (·.2))).isSome = true) : RpI G ι H vs ds := by
  induction r with
  | nil => exact .nil
  | @cons i v kvs d kds hd _ ih =>
    obtain ⟨⟨y, e⟩, h2⟩ := grd_cons h
    have e' : d = .g y := e
    subst e'
    cases hd with
    | g hv => exact .cons (.g hv) (ih h2)
theorem RpF.any_ι {vs : List (Str × V)} {ds : List (Str × Dv)} (r : RpF G ι' H vs ds) (h : (Xt.grd (ds.map (·.2))).isSome = true) : RpF G ι H vs ds := by
  induction r with
  | nil => exact .nil
  | @cons i v kvs d kds hd _ ih =>
    obtain ⟨⟨y, e⟩, h2⟩ := grd_cons h
    have e' : d = .g y := e
    subst e'
    cases hd with
    | g hv => exact .cons (.g hv) (ih h2)
theorem Ext.trim (m : MemR G ι H M) (x : Ext G ι H ι' M' H') (h : (M'.take M.length).all grdO = true) : Ext G ι H ι (M'.take M.length) H' where
  pre := List.prefix_refl _
  mem := by
    obtain ⟨t, e⟩ := x.pre
    have hl : ι'.length = M'.length := x.mem.len
    have hlen : M.length ≤ M'.length := by
      rw [← hl, ← e, List.length_append, m.len]
      omega
    refine ⟨by rw [List.length_take, m.len]; omega, m.nd, fun i a mo h1 h2 => ?_, x.mem.tab⟩
    have h3 : M'[i]? = some mo := by
      rw [List.getElem?_take] at h2
      split at h2
      · exact h2
      · cases h2
    have q := x.mem.ob i a mo (pre_get x.pre h1) h3
    have z := List.all_eq_true.mp h mo (List.mem_of_getElem? h2)
    cases mo with
    | lst xs =>
      obtain ⟨vs, q1, q2⟩ := q
      exact ⟨vs, q1, q2.any_ι z⟩
    | dct xs =>
      obtain ⟨vs, q1, q2⟩ := q
      exact ⟨vs, q1, q2.any_ι z⟩
    | ins c xs =>
      obtain ⟨C, dx, vs, q0, q1, q2⟩ := q
      exact ⟨C, dx, vs, q0, q1, q2.any_ι z⟩
    | dead => exact q
  keep := x.keep
  frame := x.frame
  tbl := x.tbl
  fresh := fun a h n => absurd h n
theorem sp_trim {F : List Dv → Co Dv} {ds : List Dv} {Q : VK} (m : MemR G ι H M) (p : Post G E ι H (QE G Q) (trimC F ds M)) : Post G E ι H (QE G Q) (F ds M) := by
  unfold trimC at p
  cases e : F ds M with
  | fail =>
    rw [e] at p
    exact p.elim
  | ok d M' =>
    rw [e] at p
    cases d with
    | g x =>
      cases z : (M'.take M.length).all grdO with
      | false =>
        simp only [z] at p
        exact p.elim
      | true =>
        simp only [z] at p
        intro ι' H' y v rv
        cases rv with
        | g rv => exact p ι H' (y.trim m z) v (.g rv)
    | _ => exact p.elim
  | ex c M' =>
    rw [e] at p
    cases z : (M'.take M.length).all grdO with
    | false =>
      simp only [z] at p
      exact p.elim
    | true =>
      simp only [z] at p
      intro ι' H' cls dx y hx
      exact p ι H' cls dx (y.trim m z) hx
end
section
variable {X : Cx} {G : Gx} {E : XK} {e e1 e2 : Expr} {es : List Expr} {f g : Slots → Co Dv} {gs : Slots → Co (List Dv)} {pos p : Pos} {CX : CXT} {x : Str} {ps : List Str} {n : Nat} {F : List Dv → Co Dv}
theorem rd_callT {σ : L2.St} {H : Hp} {Q : VK} (h : rdE G E (cB (trimC F) gs) σ H Q) : tCall (spF G F) [] E (rdA G E gs) σ H Q := by
  obtain ⟨ι, ρ, M, st, p⟩ := h
  refine ⟨ι, ρ, M, st, (Post.bnd p).mono fun ds ι1 M1 H1 x1 p1 vs rv => ?_⟩
  show spF G F (vs ++ []) H1 Q E
  rw [List.append_nil]
  exact ⟨ι1, M1, ds, x1.mem, rv, sp_trim x1.mem p1⟩
theorem xcT (d : Dok X.prog X.w X.base CX G x ps n F) (hK : X.K = G.K) (hm : X.mg = G.mg) (hr : Room n X.A) (hx : Passes CX X E) (ha : PA X (e :: es) (rdA G E gs)) (hg : Gl X x := by rfl)
    (hdb : (x == ("__debug__" : Str)) = false := by decide) (he : starEach (e :: es) X.env = (false, eval e X.env) :: starEach es X.env := by rfl) (hpl : (backTo pos (starEach es X.env)).any (·.1) = false := by rfl) :
    PE X (.Call (.Name x p) (e :: es) [] pos) (rdE G E (cB (trimC F) gs)) := by
  obtain ⟨fa, fd, h1, h2, h3, h4⟩ := d
  rw [← hK, ← hm] at h4
  rw [← hm] at h1
  rw [← hK] at h2 h3
  exact peI (pe_call h4 hr hg h1 h2 h3 .nil hx ha hdb he hpl) fun _ _ _ h => rd_callT h
end
end Xt
set_option Elab.async false
set_option linter.all false
set_option maxRecDepth 100000
set_option maxHeartbeats 2000000
/-! a generator expression inside sum(..), all(..): its items one after another, calls of own defs among them -/
namespace Xt
open PySem PySem.Spec PyProof.Rows L2 GenW

/-! ### the items -/
def gxL (tf : Dv → Slots → Co Slots) (te : Slots → Co Dv) (ρ : Slots) : List Dv → Mem → Option (List (PyData × Mem))
  | [], _ => some []
  | d :: r, M => match tf d ρ M with
    | .ok ρ1 M1 => (match te ρ1 M1 with
      | .ok (.g y) M2 => (match gxL tf te ρ r M2 with
        | some l => some ((y, M2) :: l)
        | none => none)
      | _ => none)
    | _ => none
/-- the memory behind them -/
def gxM : Mem → List (PyData × Mem) → Mem
  | M, [] => M
  | _, (_, M) :: r => gxM M r
theorem gxL_cons {tf : Dv → Slots → Co Slots} {te : Slots → Co Dv} {ρ : Slots} {d : Dv} {r : List Dv} {M : Mem} {z : PyData} {Mz : Mem} {l : List (PyData × Mem)} (h : gxL tf te ρ (d :: r) M = some ((z, Mz) :: l)) :
    ∃ ρ1 M1, tf d ρ M = .ok ρ1 M1 ∧ te ρ1 M1 = .ok (.g z) Mz ∧ gxL tf te ρ r Mz = some l := by
  unfold gxL at h
  split at h
  · rename_i ρ1 M1 e1
    split at h
    · rename_i y M2 e2
      split at h
      · rename_i l' e3
        cases h
        exact ⟨ρ1, M1, e1, e2, e3⟩
      · cases h
    · cases h
  · cases h
theorem gxL_len {tf : Dv → Slots → Co Slots} {te : Slots → Co Dv} {ρ : Slots} : ∀ {ds : List Dv} {M : Mem} {l : List (PyData × Mem)}, gxL tf te ρ ds M = some l → l.length = ds.length
  | [], M, l, h => by
    cases h
    rfl
  | d :: r, M, [], h => by
    unfold gxL at h
    split at h
    · split at h
      · split at h <;> cases h
      · cases h
    · cases h
  | d :: r, M, (z, Mz) :: l, h => by
    obtain ⟨_, _, _, _, e⟩ := gxL_cons h
    rw [List.length_cons, List.length_cons, gxL_len e]
/-- what stands at the targets does not matter -/
def BkS (G : Gx) (ρ : Slots) (tf : Dv → Slots → Co Slots) : Prop := ∀ (d : Dv) (M M1 : Mem) (ρ1 : Slots), tf d ρ M = .ok ρ1 M1 → ∀ (σ : L2.St) (ι : List Addr) (H : Hp) (M2 : Mem), StR G H σ ι ρ1 M2 → StR G H σ ι ρ M2
section
variable {G : Gx} {ρ : Slots}
theorem StR.unset {H : Hp} {σ : L2.St} {ι : List Addr} {M : Mem} {i : Nat} {d : Dv} (h : ρ[i]? = some .u) (s : StR G H σ ι (ρ.set i d) M) : StR G H σ ι ρ M :=
  ⟨by rw [s.len, List.length_set], s.mem, fun j e hj n => s.sl j e (by
    rw [List.getElem?_set_ne (fun z => by
      rw [← z, h] at hj
      cases hj
      exact n rfl)]
    exact hj) n⟩
theorem bk_n {i : Nat} (h : ρ[i]? = some .u) : BkS G ρ (tN i) := fun d M M1 ρ1 e σ ι H M2 s => by
  cases e
  exact s.unset h
theorem bk_2 {i j : Nat} (hij : i ≠ j) (hi : ρ[i]? = some .u) (hj : ρ[j]? = some .u) : BkS G ρ (tT 2 (tC (tN i) (tC (tN j) tZ))) := fun d M M1 ρ1 e σ ι H M2 s => by
  unfold tT at e
  cases q : asT d with
  | none =>
    rw [q] at e
    cases e
  | some ds =>
    rw [q] at e
    match ds, e with
    | [], e => cases e
    | [_], e => cases e
    | [a, b], e =>
      have e2 : ρ1 = (ρ.set i a).set j b := by
        cases e
        rfl
      rw [e2] at s
      exact StR.unset hi (StR.unset (i := j) (by rw [List.getElem?_set_ne hij]; exact hj) s)
    | _ :: _ :: _ :: _, e => cases e
end
section
variable {X : Cx} {G : Gx} {elt iter tg : Expr} {scope : Scope} {gpos : Pos} {tf : Dv → Slots → Co Slots} {te : Slots → Co Dv} {ρ : Slots} {it : Addr} {fp : List Addr} {tn : Nat → Heap → Prop} {J : It} {ι0 : List Addr} {H0 : Hp} {ds : List Dv} {zms : List (PyData × Mem)} {Mf : Mem} {PP : List (Addr × Obj) → Prop} {A : Around}
/-- i items are out, the next is asked for -/
def GSt (X : Cx) (G : Gx) (ρ : Slots) (fp : List Addr) (tn : Nat → Heap → Prop) (ι0 : List Addr) (H0 : Hp) (PP : List (Addr × Obj) → Prop) (i : Nat) (M : Mem) (s₀ s : Shared) : Prop :=
  ∃ ι H σ pp, PP pp ∧ (∀ p ∈ pp, s₀.heap.get? p.1 = some p.2) ∧ Inv X pp σ H s ∧ Ext G ι0 H0 ι M H ∧ StR G H σ ι ρ M ∧ tn i s.heap ∧ ∀ b ∈ fp, H b = none
def GYd (X : Cx) (G : Gx) (ι0 : List Addr) (H0 : Hp) (zms : List (PyData × Mem)) (fp : List Addr) (PP : List (Addr × Obj) → Prop) : Protocol := fun m s₀ v s kap =>
  ∃ i z M ι H σ V pp ip, i + m + 1 = zms.length ∧ zms[i]? = some (z, M) ∧ PP pp ∧ (∀ p ∈ pp, s₀.heap.get? p.1 = some p.2) ∧ Inv X (pp ++ ip) σ H s ∧ Ext G ι0 H0 ι M H ∧ RelV V v ∧ RpV G.K H V z ∧ (∀ p ∈ ip, p.1 ∈ fp) ∧ ∀ s' pp', PP pp' → Inv X (pp' ++ ip) σ H s' → kap (.send .none) s'
def GEd (X : Cx) (G : Gx) (ι0 : List Addr) (H0 : Hp) (Mf : Mem) (PP : List (Addr × Obj) → Prop) : Nat → Shared → Shared → Prop := fun m s₀ s =>
  m = 0 ∧ ∃ ι H σ pp, PP pp ∧ (∀ p ∈ pp, s₀.heap.get? p.1 = some p.2) ∧ Inv X pp σ H s ∧ Ext G ι0 H0 ι Mf H
theorem seg_gx (hov : A.over (.compLoop (.GeneratorExp elt [⟨tg, iter, [], 0⟩] scope gpos) 0 (.ref it) .none X.env) [] = X.A) (hc : X.calm = true) (hxe : ∀ e s, X.xe e s → False) (T : Turn X.prog X.w X.K tg J fp it tn)
    (hst : ∀ pp (H' : Hp), PP pp → (∀ b ∈ fp, H' b = none) → ∀ b ∈ fp, FpOk X pp H' b) (wk : Wk G ι0 H0 J ds) (hg : PG X tg (rdG G L2.E0 tf)) (he : PE X elt (rdE G L2.E0 te)) (hb : BkS G ρ tf) (hco : X.env.scope.isCoroutine = false) (hn : zms.length = ds.length) :
    ∀ (l : List (PyData × Mem)) (i : Nat) (M : Mem) (s₀ s : Shared), i + l.length = ds.length → gxL tf te ρ (ds.drop i) M = some l → zms.drop i = l → gxM M l = Mf → GSt X G ρ fp tn ι0 H0 PP i M s₀ s →
      Seg (model X.prog X.w) A (fun n s₀ r s₁ => r = .ok .next ∧ GEd X G ι0 H0 Mf PP n s₀ s₁) (GYd X G ι0 H0 zms fp PP) l.length s₀
        (.compLoop (.GeneratorExp elt [⟨tg, iter, [], 0⟩] scope gpos) 0 (.ref it) .none X.env) ((model X.prog X.w).den (.compLoop (.GeneratorExp elt [⟨tg, iter, [], 0⟩] scope gpos) 0 (.ref it) .none X.env)) [] s := by
  intro l
  induction l with
  | nil =>
    intro i M s₀ s hil hl hz hM ⟨ι, H, σ, pp, hp, hs0, I, x, st, ht, hf⟩
    have hin : i = ds.length := by simpa using hil
    subst hin
    show Seg _ A _ _ _ s₀ _ ((compTurn (.GeneratorExp elt [⟨tg, iter, [], 0⟩] scope gpos) 0 (.ref it) .none X.env).onRaise (leaving X.env)) [] s
    rw [compTurn_gen, Sem.onRaise_eq_wrap]
    refine seg_bind_wrap (wpAny_standAt ?_)
    refine seg_bind_wrap ?_
    rw [hov]
    refine thn (T.done X rfl rfl rfl hc _ pp s σ H _ I (hst pp H hp hf) ht (wk.stop H x.keep)) fun r s1 ⟨hr, I1⟩ => ?_
    subst hr
    refine seg_end (.ok .next) ⟨rfl, rfl, ι, H, σ, pp, hp, hs0, I1, ?_⟩
    rw [← hM]
    exact x
  | cons zm l ih =>
    intro i M s₀ s hil hl hz hM ⟨ι, H, σ, pp, hp, hs0, I, x, st, ht, hf⟩
    obtain ⟨z, Mz⟩ := zm
    have hlt : i < ds.length := by
      rw [List.length_cons] at hil
      omega
    have e0 : ds.drop i = ds[i] :: ds.drop (i + 1) := List.drop_eq_getElem_cons hlt
    rw [e0] at hl
    obtain ⟨ρ1, M1, q1, q2, q3⟩ := gxL_cons hl
    have hlz : i < zms.length := by rw [hn]; exact hlt
    have ez : zms.drop i = zms[i] :: zms.drop (i + 1) := List.drop_eq_getElem_cons hlz
    rw [ez] at hz
    have hz1 : zms[i] = (z, Mz) := (List.cons.inj hz).1
    have hz2 : zms.drop (i + 1) = l := (List.cons.inj hz).2
    show Seg _ A _ _ _ s₀ _ ((compTurn (.GeneratorExp elt [⟨tg, iter, [], 0⟩] scope gpos) 0 (.ref it) .none X.env).onRaise (leaving X.env)) [] s
    rw [compTurn_gen, Sem.onRaise_eq_wrap]
    refine seg_bind_wrap (wpAny_standAt ?_)
    refine seg_bind_wrap ?_
    rw [hov]
    refine thn (T.item X rfl rfl rfl hc i pp s σ H _ I (hst pp H hp hf) ht (wk.go i H x.keep hlt)) fun r s1 ⟨u, hr, h1⟩ => ?_
    subst hr
    refine seg_bind_wrap ?_
    rw [hov]
    refine thn h1 fun _ s2 ⟨V, H2, I2, r2, y2, st2, f2⟩ => ?_
    obtain ⟨d, ed, rd, new⟩ := wk.yld i H V H2 x.keep hlt y2
    rw [List.getElem?_eq_getElem hlt] at ed
    cases ed
    have x2 : Ext G ι H ι M H2 := wk_new x.mem new
    have I2' := I2.pinned (hst pp H2 hp f2) (T.obj _ _ st2)
    refine seg_bind_wrap ?_
    rw [hov]
    refine wpAny_mono (hg.run _ s2 σ H2 V u (fun σ' H' => ∃ ι', Ext G ι H2 ι' M1 H' ∧ StR G H' σ' ι' ρ1 M1) I2' r2 ⟨ι, ρ, M, ds[i], st.ext x2, rd.mono x.pre (.refl _), ?_⟩) (fun _ s3 ⟨σ3, H3, I3, ι3, x3, st3⟩ => ?_) fun e s' hx => (hxe e s' hx).elim
    · rw [q1]
      exact fun ι' H' y σ' s' => ⟨ι', y, s'⟩
    simp only [List.forIn_nil]
    refine seg_bind_wrap (wpAny_pure ?_)
    simp only [if_true]
    have hy : ∀ v, yieldOut X.env v = yieldValue v := fun v => by simp only [yieldOut, hco, Bool.false_eq_true, if_false]
    simp only [hy]
    rw [Sem.bind_eq_wrap', Sem.bind_eq_wrap', Sem.wrap_wrap, Sem.wrap_wrap]
    refine seg_wrap ?_
    rw [hov]
    refine wpAny_mono (he.run _ s3 σ3 H3 (fun V' H' => ∃ ι', Ext G ι3 H3 ι' Mz H' ∧ RpV G.K H' V' z) I3 ⟨ι3, ρ1, M1, st3, ?_⟩) (fun w s4 ⟨V4, H4, I4, r4, ι4, x4, rp4⟩ => ?_) fun e s' hx => (hxe e s' hx).elim
    · rw [q2]
      intro ι' H' y v rv
      cases rv with
      | g rv => exact ⟨ι', y, rv⟩
    have x04 : Ext G ι0 H0 ι4 Mz H4 := ((x.trans x2).trans x3).trans x4
    refine seg_at (seg_yield rfl rfl rfl ⟨i, z, Mz, ι4, H4, σ3, V4, pp, pinsAt fp s2.heap, ?_, ?_, hp, hs0, I4, x04, r4, rp4, fun p hp' => (of_pinsAt hp').1, fun s' pp' hpp' I5 => ?_⟩)
    · rw [hn, ← hil, List.length_cons]
      omega
    · rw [List.getElem?_eq_getElem hlz, hz1]
    · refine seg_again rfl (ih (i + 1) Mz s' s' ?_ q3 hz2 hM ⟨ι4, H4, σ3, pp', hpp', fun p hp' => (I5.pin p (List.mem_append_right _ (List.mem_append_left _ hp'))).1, I5.unpinned, x04, hb _ _ _ _ q1 _ _ _ _ (st3.ext x4), ?_, fun b hb' => ?_⟩)
      · rw [List.length_cons] at hil
        omega
      · exact T.keep _ _ _ st2 fun b hb' o e => (I5.pin (b, o) (List.mem_append_right _ (List.mem_append_right _ (mem_pinsAt hb' e)))).1
      · obtain ⟨o, e, _⟩ := T.obj _ _ st2 b hb'
        exact (I5.pin (b, o) (List.mem_append_right _ (List.mem_append_right _ (mem_pinsAt hb' e)))).2.1
end
end Xt
set_option Elab.async false
set_option linter.all false
set_option maxRecDepth 100000
set_option maxHeartbeats 2000000
namespace Xt
open PySem PySem.Spec PyProof.Rows L2 GenW
section
variable {X : Cx} {G : Gx} {elt iter tg : Expr} {scope : Scope} {gpos : Pos} {tf : Dv → Slots → Co Slots} {te : Slots → Co Dv} {ρ : Slots} {it : Addr} {fp : List Addr} {tn : Nat → Heap → Prop} {J : It} {ι0 : List Addr} {H0 : Hp} {ds : List Dv} {zms : List (PyData × Mem)} {Mf : Mem} {PP : List (Addr × Obj) → Prop} {A : Around}
theorem seg_gx0 (hov : A.over (.compLoop (.GeneratorExp elt [⟨tg, iter, [], 0⟩] scope gpos) 0 (.ref it) .none X.env) [] = X.A) (hc : X.calm = true) (hxe : ∀ e s, X.xe e s → False) (T : Turn X.prog X.w X.K tg J fp it tn)
    (hst : ∀ pp (H' : Hp), PP pp → (∀ b ∈ fp, H' b = none) → ∀ b ∈ fp, FpOk X pp H' b) (wk : Wk G ι0 H0 J ds) (hg : PG X tg (rdG G L2.E0 tf)) (he : PE X elt (rdE G L2.E0 te)) (hb : BkS G ρ tf) (hco : X.env.scope.isCoroutine = false)
    {M : Mem} {s₀ s : Shared} (hl : gxL tf te ρ ds M = some zms) (hM : gxM M zms = Mf) (st : GSt X G ρ fp tn ι0 H0 PP 0 M s₀ s) :
    Seg (model X.prog X.w) A (fun n s₀ r s₁ => r = .ok .next ∧ GEd X G ι0 H0 Mf PP n s₀ s₁) (GYd X G ι0 H0 zms fp PP) zms.length s₀
      (.compStart (.GeneratorExp elt [⟨tg, iter, [], 0⟩] scope gpos) 0 (.ref it) .none X.env) ((model X.prog X.w).den (.compStart (.GeneratorExp elt [⟨tg, iter, [], 0⟩] scope gpos) 0 (.ref it) .none X.env)) [] s := by
  have hn := gxL_len hl
  have loop := seg_gx hov hc hxe T hst wk hg he hb hco hn zms 0 M s₀ s (by rw [hn]; exact Nat.zero_add _) hl rfl hM st
  obtain ⟨ι, H, σ, pp, hp, _, I, x, sr, ht, hf⟩ := st
  show Seg _ A _ _ _ s₀ _ ((compStart (.GeneratorExp elt [⟨tg, iter, [], 0⟩] scope gpos) 0 (.ref it) .none X.env).onRaise (leaving X.env)) [] s
  unfold compStart
  rw [Sem.onRaise_eq_wrap]
  show Seg _ A _ _ _ s₀ _ ((ask >>= _).wrap _ _ _ _) [] s
  refine seg_bind_wrap (wpAny_askSetting ?_)
  split
  · exact seg_again rfl loop
  · first
      | exact seg_bind_wrap (wpAny_rule (seg_bind_wrap (wpAny_standAt (seg_bind_wrap (T.self _ 0 s _ _ ht (seg_again rfl loop))))))
      | (refine seg_bind_wrap (wpAny_rule ?_); show Seg _ A _ _ _ s₀ _ ((standAt iter.pos >>= _).wrap _ _ _ _) [] s; exact seg_bind_wrap (wpAny_standAt (seg_bind_wrap (T.self _ 0 s _ _ ht (seg_again rfl loop)))))

/-! ### the next item is asked for -/
theorem Inv.sg {pins : List (Addr × Obj)} {σ : L2.St} {H : Hp} {s : Shared} {g : Nat} {x : GenState} (I : Inv X pins σ H s) (hx : x.bare = true) : Inv X pins σ H (s.setGen g x) :=
  I.call' (ch := []) rfl .refl I.hok (allBare_setGen I.bare hx) fun b z => by cases z
theorem Inv.kh {pins : List (Addr × Obj)} {σ : L2.St} {H : Hp} {s s' : Shared} (I : Inv X pins σ H s) (ho : s'.os = s.os) (k : ∀ b o, s.heap.get? b = some o → s'.heap.get? b = some o) (hb : AllBare s'.gens) : Inv X pins σ H s' :=
  I.call' (ch := []) ho (Un.kept k) (I.hok.kept k) hb fun b z => by cases z
/-- the generator: i items are out, l will be -/
structure GGo (X : Cx) (G : Gx) (A : Around) (a : Addr) (g : Nat) (ι0 : List Addr) (H0 : Hp) (zms : List (PyData × Mem)) (fp : List Addr) (Mf : Mem) (PP : List (Addr × Obj) → Prop) (m : Nat) (σ : L2.St) (H : Hp) (ip : List (Addr × Obj)) (s : Shared) : Prop where
  gen : s.heap.IsGen a g
  ipf : ∀ p ∈ ip, p.1 ∈ fp
  goes : ∃ gs, s.gens[g]? = some gs ∧ ∀ s'' pp', PP pp' → Inv X (pp' ++ ip) σ H s'' → gs.Goes (model X.prog X.w) A.in1 (fun n s₀ r s₁ => r = .ok .next ∧ GEd X G ι0 H0 Mf PP n s₀ s₁) (GYd X G ι0 H0 zms fp PP) m (.send .none) s''
theorem next_gx {a : Addr} {g i m : Nat} {go : Obj} {σ : L2.St} {H : Hp} {ip pp : List (Addr × Obj)} {s : Shared} {Q : Option Value → Shared → Prop} {E : Value → Shared → Prop} (hh : A.handled = none) (hroom : A.depth < recursionLimit)
    (hgo : ∀ h : Heap, h.get? a = some go → h.IsGen a g) (hpn : (a, go) ∈ X.pn) (gg : GGo X G A a g ι0 H0 zms fp Mf PP m σ H ip s) (hp : PP pp) (I : Inv X (pp ++ ip) σ H s) (him : i + m = zms.length)
    (hY : ∀ z Mz m' v V s' ι' H' σ' ip' pp', m = m' + 1 → zms[i]? = some (z, Mz) → RelV V v → RpV G.K H' V z → PP pp' → (∀ p ∈ pp', s.heap.get? p.1 = some p.2) → Inv X (pp' ++ ip') σ' H' s' → Ext G ι0 H0 ι' Mz H' → GGo X G A a g ι0 H0 zms fp Mf PP m' σ' H' ip' s' → Q (some v) s')
    (hN : ∀ s' ι' H' σ' pp', m = 0 → PP pp' → (∀ p ∈ pp', s.heap.get? p.1 = some p.2) → Inv X pp' σ' H' s' → Ext G ι0 H0 ι' Mf H' → Q none s') : wpAny (model X.prog X.w) A (pyNext (.ref a)) Q E s := by
  obtain ⟨hg, hip, gs, hgs, hgoes⟩ := gg
  have hgl : g < s.gens.size := (Array.getElem?_eq_some_iff.mp hgs).1
  refine wpAny_gsz (n := g + 1) hgl ?_
  refine wpAny_pyNext_genexpQ (P := GEd X G ι0 H0 Mf PP) hh I.nolimit hroom hg hgs (hgoes _ pp hp (Inv.sg I rfl)) (fun v s₁ gs' hb hv => ?_) (fun s₁ hx h' hk => ?_)
  · obtain ⟨j, z, Mz, ι', H', σ', V, pp', ip', hj, hz, hp', hs0, I', x', rv, rp, hip', kap⟩ := hv
    intro hsz
    have hsz1 : g < s₁.gens.size := by
      have q : (s₁.setGen g gs').gens.size = s₁.gens.size := setGen_size _ _ _
      have hsz' : g + 1 ≤ (s₁.setGen g gs').gens.size := hsz
      omega
    cases m with
    | zero => exact (kap s₁ pp' hp' I').elim
    | succ m' =>
      have hji : j = i := by omega
      subst hji
      refine hY z Mz m' v V _ ι' H' σ' ip' pp' rfl hz rv rp hp' hs0 (Inv.sg I' hb) x' ⟨?_, hip', gs', setGen_at hsz1, fun s'' pp'' h1 h2 => kap s'' pp'' h1 h2⟩
      exact hgo _ (I'.pin (a, go) (List.mem_append_left _ hpn)).1
  · obtain ⟨hm, ι', H', σ', pp', hp', hs0, I', x'⟩ := hx
    intro _
    refine hN _ ι' H' σ' pp' hm hp' hs0 ?_ x'
    exact Inv.kh (s := s₁.setGen g .finished) (Inv.sg I' rfl) rfl hk (allBare_setGen I'.bare rfl)

/-! ### all(..) -/
def allZ : List (PyData × Mem) → Option (Bool × Mem) → Option (Bool × Mem)
  | [], e => e
  | (.bool true, M) :: r, e => allZ r (e.map fun _ => (true, M))
  | (.bool false, M) :: _, _ => some (false, M)
  | _, _ => none
theorem all_loop {a : Addr} {g : Nat} {go : Obj} {R : Result → Shared → Prop} {s2 : Shared} (hh : A.in1.handled = none) (hroom : A.in1.depth < recursionLimit) (hgo : ∀ h : Heap, h.get? a = some go → h.IsGen a g) (hpn : (a, go) ∈ X.pn) {b : Bool} {Me : Mem}
    (hR : ∀ s' ι' H' σ', Inv X [] σ' H' s' → Ext G ι0 H0 ι' Me H' → R (.ok (.ret (.bool b))) s') : ∀ (m i : Nat) (M : Mem) (σ : L2.St) (H : Hp) (ip : List (Addr × Obj)) (s : Shared),
      i + m = zms.length → allZ (zms.drop i) (some (true, M)) = some (b, Me) → (m = 0 → M = Mf) → gxM M (zms.drop i) = Mf → GGo X G A.in1 a g ι0 H0 zms fp Mf (fun pp => pp = []) m σ H ip s → Inv X ip σ H s →
      codeAny (model X.prog X.w) A (.builtin "all.loop" ⟨[.ref a], []⟩) R s := by
  intro m
  induction m with
  | zero =>
    intro i M σ H ip s him hz hM hM2 gg I
    refine codeAny_builtin F.entry_all_loop ?_
    rw [Around.under_plainId F.plain_all_loop _]
    show wpAny _ A.in1 (pyNext (.ref a) >>= _) _ _ s
    refine wpAny_bind (next_gx (pp := []) hh hroom hgo hpn gg rfl I him (fun z Mz m' v V s' ι' H' σ' ip' pp' e => by cases e) fun s' ι' H' σ' pp' _ hp' _ I' x' => ?_)
    subst hp'
    refine wpAny_bind (wpAny_rule (wpAny_pure ?_))
    have e : zms.drop i = [] := by rw [List.drop_eq_nil_iff]; omega
    rw [e] at hz
    have hz' : some (true, M) = some (b, Me) := hz
    cases hz'
    rw [hM rfl] at hR
    exact hR s' ι' H' σ' I' x'
  | succ m ih =>
    intro i M σ H ip s him hz hM hM2 gg I
    refine codeAny_builtin F.entry_all_loop ?_
    rw [Around.under_plainId F.plain_all_loop _]
    show wpAny _ A.in1 (pyNext (.ref a) >>= _) _ _ s
    refine wpAny_bind (next_gx (pp := []) hh hroom hgo hpn gg rfl I him (fun z Mz m' v V s' ι' H' σ' ip' pp' e hzi rv rp hp' _ I' x' gg' => ?_) fun s' ι' H' σ' pp' e => by cases e)
    cases e
    subst hp'
    have hlz : i < zms.length := (List.getElem?_eq_some_iff.mp hzi).1
    have ez : zms.drop i = (z, Mz) :: zms.drop (i + 1) := by
      rw [List.drop_eq_getElem_cons hlz]
      rw [List.getElem?_eq_getElem hlz] at hzi
      rw [Option.some.inj hzi]
    rw [ez] at hz hM2
    cases z with
    | bool c =>
      cases rp with
      | bl c =>
        have ev : v = .bool c := rv
        subst ev
        refine wpAny_bind (wpAny_holding (wpAny_truthy_bool ?_))
        refine wpAny_bind (wpAny_letGo ?_)
        cases c with
        | true =>
          simp only [if_true]
          have hz2 : allZ (zms.drop (i + 1)) (some (true, Mz)) = some (b, Me) := hz
          have hM3 : gxM Mz (zms.drop (i + 1)) = Mf := hM2
          refine wpAny_pure ⟨plainId_quiet F.plain_all_loop _, ih (i + 1) Mz σ' H' ip' s' (by omega) hz2 (fun e => ?_) hM3 gg' I'⟩
          have e2 : zms.drop (i + 1) = [] := by rw [List.drop_eq_nil_iff]; omega
          rw [e2] at hM3
          exact hM3
        | false =>
          have hz2 : some (false, Mz) = some (b, Me) := hz
          cases hz2
          simp only [Bool.false_eq_true, if_false]
          refine wpAny_bind (wpAny_rule (wpAny_pure ?_))
          exact hR s' ι' H' σ' (I'.pins_of fun p hp => by cases hp) x'
    | _ => cases hz
end
end Xt
set_option Elab.async false
set_option linter.all false
set_option maxRecDepth 100000
set_option maxHeartbeats 2000000
namespace Xt
open PySem PySem.Spec PyProof.Rows L2 GenW
section
variable {X : Cx} {G : Gx} {fp : List Addr} {ι0 : List Addr} {H0 : Hp} {zms : List (PyData × Mem)} {Mf : Mem} {A : Around}
/-- sum's own cell -/
abbrev sumO (acc : Int) (t : Tok) (c : Nat) : Obj := { cls := .type "list", dict := none, data := .seq #[.int acc t] c, slots := #[] }
def SP1 (S : Addr) : List (Addr × Obj) → Prop := fun pp => ∃ acc t c, pp = [(S, sumO acc t c)]
/-- one place is not the frame's -/
structure Off (X : Cx) (fp : List Addr) (S : Addr) : Prop where
  above : X.s_0.heap.objs.size ≤ S
  loc : S ≠ X.env.locals
  cel : ∀ x c, X.env.cells.lookup x = some c → c ≠ S
  pn : ∀ p ∈ X.pn, p.1 ≠ S
  fp : ∀ b ∈ fp, b ≠ S
theorem Inv.poke {S : Addr} {o o' : Obj} {ip : List (Addr × Obj)} {σ : L2.St} {H : Hp} {s : Shared} {h' : Heap} {t' : Nat} (hS : Off X fp S) (hip : ∀ p ∈ ip, p.1 ∈ fp) (I : Inv X ([(S, o)] ++ ip) σ H s) (hk : ∀ b u, b ≠ S → s.heap.get? b = some u → h'.get? b = some u) (hS' : h'.get? S = some o') (nc : ∀ v, o'.data ≠ .cell v) :
    Inv X ([(S, o')] ++ ip) σ H { s with heap := h', toks := t' } := by
  obtain ⟨p1, p2, p3, p4, p5⟩ := I.pin (S, o) (List.mem_append_right _ List.mem_cons_self)
  have I0 : Inv X ip σ H s := I.pins_of fun p hp => I.pin p (List.mem_append_right _ (List.mem_cons_of_mem _ hp))
  have ne : ∀ b u, H b = some u → b ≠ S := fun b u q e => by
    rw [e, p2] at q
    cases q
  have nc2 : ∀ b, b ∉ [S] → b ≠ S := fun b hb e => hb (by rw [e]; exact List.mem_singleton.mpr rfl)
  have J : Inv X ip σ H { s with heap := h', gens := s.gens, drawn := s.drawn, toks := t' } := by
    refine I0.step (g' := s.gens) (d' := s.drawn) (t' := t') (ch := [S]) (fun b hb => ?_) (fun b u _ _ hb e _ => hk b u (nc2 b hb) e) (fun b u _ _ hb e _ => ⟨u.slots, hk b u (nc2 b hb) e⟩) (fun _ _ _ _ n => n) (fun b u hb e => ⟨u, hk b u (nc2 b hb) e⟩)
      (fun _ _ e => e) (fun _ _ _ e => e) (fun b ps e => ⟨#[], by rw [e]; simp⟩) (fun m hm => ?_) (fun b u e => ?_) I0.bare
    · rw [List.mem_singleton.mp hb]
      exact ⟨.inr hS.above, hS.loc, hS.cel, fun p hp => (List.mem_append.mp hp).elim (hS.pn p) fun z => hS.fp _ (hip p z)⟩
    · obtain ⟨ob, es, ep, ho, r⟩ := hm
      exact ⟨ob, es, ep, hk _ ob (Ne.symm hS.loc) ho, r⟩
    · refine (I0.hok b u e).stay (fun c v hc y => hk c v ?_ y) (fun _ y => y) fun _ _ y => y
      rcases hc with y | y
      · rw [y]
        exact ne b u e
      · exact ne c _ y
  refine J.pins_of fun p hp => ?_
  rcases List.mem_append.mp hp with z | z
  · rw [List.mem_singleton.mp z]
    exact ⟨hS', p2, p3, p4, nc⟩
  · exact J.pin p (List.mem_append_right _ z)
def intsZ : List (PyData × Mem) → Option (List Int)
  | [] => some []
  | (.int i, _) :: r => (intsZ r).map (i :: ·)
  | _ => none
def sumZ (a : Int) : List Int → Int
  | [] => a
  | i :: r => sumZ (a + i) r
theorem sum_loop {a S : Addr} {g : Nat} {go : Obj} {R : Result → Shared → Prop} (hh : A.in1.handled = none) (hroom : A.in1.depth < recursionLimit) (hgo : ∀ h : Heap, h.get? a = some go → h.IsGen a g) (hpn : (a, go) ∈ X.pn) (hS : Off X fp S) {tot : Int}
    (hR : ∀ t s' ι' H' σ', Inv X [] σ' H' s' → Ext G ι0 H0 ι' Mf H' → R (.ok (.ret (.int tot t))) s') : ∀ (m i : Nat) (zs : List Int) (acc : Int) (tA : Tok) (c : Nat) (st : Int) (σ : L2.St) (H : Hp) (ip : List (Addr × Obj)) (s : Shared),
      (st = 0 ∨ st = 2) → i + m = zms.length → intsZ (zms.drop i) = some zs → sumZ acc zs = tot → GGo X G A.in1 a g ι0 H0 zms fp Mf (SP1 S) m σ H ip s → Inv X ([(S, sumO acc tA c)] ++ ip) σ H s →
      codeAny (model X.prog X.w) A (.builtin "sum.loop" ⟨[.ref a, .ref S, rawInt st, rawInt 0], []⟩) R s := by
  intro m
  induction m with
  | zero =>
    intro i zs acc tA c st σ H ip s hst2 him hz htot gg I
    have hSo := (I.pin (S, sumO acc tA c) (List.mem_append_right _ List.mem_cons_self)).1
    refine codeAny_builtin F.entry_sum_loop ?_
    rw [Around.under_plainId F.plain_sum_loop _]
    show wpAny _ A.in1 (seqItems? (.ref S) >>= _) _ _ s
    refine wpAny_bind (wpAny_seqItems hSo rfl ?_)
    show wpAny _ A.in1 (tryCatch (pyNext (.ref a)) _ >>= _) _ _ s
    refine wpAny_bind (wpAny_tryCatch (next_gx hh hroom hgo hpn gg ⟨acc, tA, c, rfl⟩ I him (fun z Mz m' v V s' ι' H' σ' ip' pp' e => by cases e) fun s' ι' H' σ' pp' _ hp' _ I' x' => ?_))
    have e : zms.drop i = [] := by rw [List.drop_eq_nil_iff]; omega
    rw [e] at hz
    have hz' : some [] = some zs := hz
    cases hz'
    have htot' : acc = tot := htot
    subst htot'
    exact wpAny_pure (hR tA s' ι' H' σ' (I'.pins_of fun p hp => by cases hp) x')
  | succ m ih =>
    intro i zs acc tA c st σ H ip s hst2 him hz htot gg I
    have hSo := (I.pin (S, sumO acc tA c) (List.mem_append_right _ List.mem_cons_self)).1
    refine codeAny_builtin F.entry_sum_loop ?_
    rw [Around.under_plainId F.plain_sum_loop _]
    show wpAny _ A.in1 (seqItems? (.ref S) >>= _) _ _ s
    refine wpAny_bind (wpAny_seqItems hSo rfl ?_)
    show wpAny _ A.in1 (tryCatch (pyNext (.ref a)) _ >>= _) _ _ s
    refine wpAny_bind (wpAny_tryCatch (next_gx hh hroom hgo hpn gg ⟨acc, tA, c, rfl⟩ I him (fun z Mz m' v V s' ι' H' σ' ip' pp' e hzi rv rp hp' hs0 I' x' gg' => ?_) fun s' ι' H' σ' pp' e => by cases e))
    cases e
    have hlz : i < zms.length := (List.getElem?_eq_some_iff.mp hzi).1
    have ez : zms.drop i = (z, Mz) :: zms.drop (i + 1) := by
      rw [List.drop_eq_getElem_cons hlz]
      rw [List.getElem?_eq_getElem hlz] at hzi
      rw [Option.some.inj hzi]
    rw [ez] at hz
    -- the cell is as it was
    obtain ⟨acc', tA', c', rfl⟩ := hp'
    have hs1 := hs0 (S, sumO acc' tA' c') List.mem_cons_self
    have hs2 : s.heap.get? S = some (sumO acc' tA' c') := hs1
    rw [hSo] at hs2
    cases hs2
    have hS' := (I'.pin (S, sumO acc tA c) (List.mem_append_right _ List.mem_cons_self)).1
    cases z with
    | int k =>
      cases rp with
      | int k =>
        obtain ⟨t, rfl⟩ : ∃ t, v = .int k t := rv
        cases ezs : intsZ (zms.drop (i + 1)) with
        | none =>
          have hz2 : (intsZ (zms.drop (i + 1))).map (k :: ·) = some zs := hz
          rw [ezs] at hz2
          cases hz2
        | some zs' =>
          have hz2 : (intsZ (zms.drop (i + 1))).map (k :: ·) = some zs := hz
          rw [ezs] at hz2
          cases hz2
          have htot2 : sumZ (acc + k) zs' = tot := htot
          have other : ∀ (hp : Heap) (f : Obj → Obj) (b : Addr) (u : Obj), b ≠ S → hp.get? b = some u → (hp.update S f).get? b = some u := fun hp f b u hb e => (Heap.get?_update_other _ _ (Ne.symm hb)).trans e
          have gk : ∀ {s9 : Shared}, s9.gens = s'.gens → s9.heap.IsGen a g → GGo X G A.in1 a g ι0 H0 zms fp Mf (SP1 S) m σ' H' ip' s9 := fun {s9} e1 e2 => ⟨e2, gg'.ipf, by
            obtain ⟨gs, q1, q2⟩ := gg'.goes
            exact ⟨gs, by rw [e1]; exact q1, q2⟩⟩
          have back : ∀ (st' : Int) (t' : Nat) (tk : Tok) (h' : Heap) (c' : Nat), (st' = 0 ∨ st' = 2) → (∀ b u, b ≠ S → s'.heap.get? b = some u → h'.get? b = some u) → h'.get? S = some (sumO (acc + k) tk c') →
              codeAny (model X.prog X.w) A (.builtin "sum.loop" ⟨[.ref a, .ref S, rawInt st', rawInt 0], []⟩) R { s' with heap := h', toks := t' } := fun st' t' tk h' c' hst' hk hS2 => by
            have I2 := Inv.poke (t' := t') hS gg'.ipf I' hk hS2 (fun v q => by cases q)
            refine ih (i + 1) zs' (acc + k) tk c' st' σ' H' ip' _ hst' (by omega) ezs htot2 (gk rfl ?_) I2
            exact hgo _ (I2.pin (a, go) (List.mem_append_left _ hpn)).1
          rcases hst2 with rfl | rfl
          · show wpAny _ A.in1 (if (_ : Bool) = true then (mkInt (acc + k) >>= _) else _) _ _ _
            split
            · refine wpAny_bind (wpAny_mkInt ?_)
              show wpAny _ A.in1 (updateSeq S (fun _ => #[.int (acc + k) s'.toks]) >>= _) _ _ _
              refine wpAny_bind ?_
              refine wpAny_updateSeq hS' rfl (wpAny_pure ⟨plainId_quiet F.plain_sum_loop _, ?_⟩)
              exact back 0 _ s'.toks _ _ (.inl rfl) (other _ _) (Heap.get?_update_self _ hS' rfl)
            · refine wpAny_bind (wpAny_rule ?_)
              refine wpAny_bind (wpAny_attempt (wpAny_holding (wpAny_add_int ?_)))
              show wpAny _ A.in1 (updateSeq S (fun _ => #[.int (acc + k) s'.toks]) >>= _) _ _ _
              refine wpAny_bind (wpAny_updateSeq hS' rfl ?_)
              have hS2 := Heap.get?_update_self (Obj.mapSeq fun _ => #[Value.int (acc + k) s'.toks]) hS' rfl
              refine wpAny_bind (wpAny_letGo ?_)
              refine wpAny_bind (wpAny_updateSeq hS2 rfl (wpAny_pure ⟨plainId_quiet F.plain_sum_loop _, ?_⟩))
              exact back 2 _ s'.toks _ _ (.inr rfl) (fun b u hb e => other _ _ b u hb (other _ _ b u hb e)) (Heap.get?_update_self _ hS2 rfl)
          · show wpAny _ A.in1 ((holding [Value.int k t] (binaryOp .Add (.int acc tA) (.int k t))).attempt >>= _) _ _ _
            refine wpAny_bind (wpAny_attempt (wpAny_holding (wpAny_add_int ?_)))
            show wpAny _ A.in1 (updateSeq S (fun _ => #[.int (acc + k) s'.toks]) >>= _) _ _ _
            refine wpAny_bind (wpAny_updateSeq hS' rfl ?_)
            have hS2 := Heap.get?_update_self (Obj.mapSeq fun _ => #[Value.int (acc + k) s'.toks]) hS' rfl
            refine wpAny_bind (wpAny_letGo ?_)
            refine wpAny_bind (wpAny_updateSeq hS2 rfl (wpAny_pure ⟨plainId_quiet F.plain_sum_loop _, ?_⟩))
            exact back 2 _ s'.toks _ _ (.inr rfl) (fun b u hb e => other _ _ b u hb (other _ _ b u hb e)) (Heap.get?_update_self _ hS2 rfl)
    | _ => cases hz
end
section
variable {prog : Program} {w : World} {A : Around} {E : Value → Shared → Prop} {s : Shared}
theorem call_allG {x : Value} {Q : Value → Shared → Prop} (h : wpAny (model prog w) A.in1 (pyIter x) (fun it s₂ => codeAny (model prog w) A (.builtin "all.loop" ⟨[it], []⟩) (fun r s' => match r with | .ok (.ret v) => Q v s' | .ok _ => False | .error e => E e s') s₂) E s) :
    wpAny (model prog w) A (call (.builtin "all") [x]) Q E s := by
  refine call_function_tree F.kind_all F.plain_all F.entry_all (F.args_all1 _) ?_
  unfold Builtin.«all»
  refine wpAny_bind (m := oneArg "all" _) (wpAny_pure ?_)
  refine wpAny_bind (wpAny_mono h (fun it s₂ h₂ => ?_) fun _ _ e => e)
  exact wpAny_pure ⟨plainId_quiet F.plain_all_loop _, h₂⟩
theorem call_sumG {x : Value} {Q : Value → Shared → Prop} (h : wpAny (model prog w) A.in1 (pyIter x) (fun it s₂ => ∀ tk, codeAny (model prog w) A (.builtin "sum.loop" ⟨[it, .ref s₂.heap.objs.size, rawInt 0, rawInt 0], []⟩) (fun r s' => match r with | .ok (.ret v) => Q v s' | .ok _ => False | .error e => E e s')
      { s₂ with heap := s₂.heap.push (sumO 0 s₂.toks 0), toks := tk }) E s) :
    wpAny (model prog w) A (call (.builtin "sum") [x]) Q E s := by
  refine call_function_tree F.kind_sum F.plain_sum F.entry_sum (F.args_sum1 _) ?_
  unfold Builtin.«sum»
  simp only [List.length_cons, List.length_nil]
  rw [if_neg (by decide)]
  refine wpAny_bind (wpAny_of_eq (show Builtin.Builtins.bindParams "sum" ["start"] 0 { } = pure [none] from rfl) ?_)
  refine wpAny_bind (wpAny_mono h (fun it s₂ h₂ => ?_) fun _ _ e => e)
  refine wpAny_bind (wpAny_mkInt ?_)
  refine wpAny_bind (wpAny_pure ?_)
  simp only [List.forIn_cons, List.forIn_nil]
  refine wpAny_bind (wpAny_bind (wpAny_bind (wpAny_isInstance (T := "int") (b := false) (typeIs_int _ _ _) PySem.sub_int_str ?_)))
  simp only [Bool.false_eq_true, if_false]
  refine wpAny_pure (wpAny_bind (wpAny_bind (wpAny_isInstance (T := "int") (b := false) (typeIs_int _ _ _) PySem.sub_int_bytes ?_)))
  simp only [Bool.false_eq_true, if_false]
  refine wpAny_pure (wpAny_bind (wpAny_bind (wpAny_isInstance (T := "int") (b := false) (typeIs_int _ _ _) PySem.sub_int_bytearray ?_)))
  simp only [Bool.false_eq_true, if_false]
  refine wpAny_pure (wpAny_pure ?_)
  refine wpAny_bind (wpAny_newObj_type ?_)
  exact wpAny_pure ⟨plainId_quiet F.plain_sum_loop _, h₂ _⟩
end
end Xt
set_option Elab.async false
set_option linter.all false
set_option maxRecDepth 100000
set_option maxHeartbeats 2000000
namespace Xt
open PySem PySem.Spec PyProof.Rows L2 GenW
/-! ### the generator's own context -/
/-- the names of its frame: its own (none), the captured (their place outside) -/
def frOk (N : List Str) (nm : List (Str × NameKind)) : List Str → List (Option Nat) → Bool
  | [], [] => true
  | _ :: r, none :: q => frOk N nm r q
  | x :: r, some j :: q => N[j]? == some x && (nm.lookup x == some .free && frOk N nm r q)
  | _, _ => false
structure GxS (N N' : List Str) (fr : List (Option Nat)) (out scope : Scope) : Prop where
  kind : scope.kind = .function
  co : scope.isCoroutine = false
  cell : ∀ y ∈ scope.names, y.2 ≠ .cell
  dot : scope.names.lookup (".0" : Str) = some NameKind.local
  free : ∀ y ∈ scope.names, y.2 = .free → out.names.lookup y.1 = some .cell ∨ out.names.lookup y.1 = some .free
  nd : N'.Nodup
  fr : frOk N scope.names N' fr = true
theorem frOk_at {N : List Str} {nm : List (Str × NameKind)} : ∀ {N' : List Str} {fr : List (Option Nat)}, frOk N nm N' fr = true → fr.length = N'.length ∧ ∀ (i j : Nat), fr[i]? = some (some j) → ∃ x, N'[i]? = some x ∧ N[j]? = some x ∧ nm.lookup x = some .free
  | [], [], _ => ⟨rfl, fun i j h => by simp at h⟩
  | [], _ :: _, h => by cases h
  | _ :: _, [], h => by cases h
  | x :: r, none :: q, h => by
    obtain ⟨h1, h2⟩ := frOk_at (N' := r) (fr := q) h
    refine ⟨by rw [List.length_cons, List.length_cons, h1], fun i j e => ?_⟩
    cases i with
    | zero =>
      rw [List.getElem?_cons_zero] at e
      cases e
    | succ i => exact h2 i j e
  | x :: r, some j0 :: q, h => by
    have h0 : (N[j0]? == some x && (nm.lookup x == some .free && frOk N nm r q)) = true := h
    obtain ⟨a, b⟩ := Bool.and_eq_true_iff.mp h0
    obtain ⟨b, c⟩ := Bool.and_eq_true_iff.mp b
    obtain ⟨h1, h2⟩ := frOk_at (N' := r) (fr := q) c
    refine ⟨by rw [List.length_cons, List.length_cons, h1], fun i j e => ?_⟩
    cases i with
    | zero =>
      rw [List.getElem?_cons_zero] at e
      cases e
      exact ⟨x, rfl, by simpa using a, by simpa using b⟩
    | succ i => exact h2 i j e
def gσ (σ : L2.St) (fr : List (Option Nat)) : L2.St := fr.map fun o => match o with
  | none => none
  | some j => (match σ[j]? with
    | some v => v
    | none => none)
def gρ (ρ : Slots) (fr : List (Option Nat)) : Slots := fr.map fun o => match o with
  | none => .u
  | some j => (match ρ[j]? with
    | some d => d
    | none => .u)
theorem gρ_own {ρ : Slots} {fr : List (Option Nat)} {i : Nat} (h : fr[i]? = some none) : (gρ ρ fr)[i]? = some .u := by
  unfold gρ
  rw [List.getElem?_map, h]
  rfl
def gcx (X : Cx) (A : Around) (N : List Str) (s : Shared) (H : Hp) (cenv : Env) (fp : List Addr) (pn : List (Addr × Obj)) : Cx :=
  { X with A := A, N := N, s_0 := s, H_0 := H, env := cenv, outer := X.stack, stack := cenv :: X.stack, ex := fp, fn := fun _ => false, calm := true, pn := pn, xe := fun _ _ => False }
section
variable {X : Cx} {G : Gx} {N' : List Str} {fr : List (Option Nat)} {scope : Scope} {pins : List (Addr × Obj)} {σ : L2.St} {H : Hp} {s s5 : Shared} {A : Around} {code : Value}
theorem GxS.cells (S : GxS X.N N' fr X.env.scope scope) (ok : X.Ok) {y : Str} {c : Addr} (h : (cloFrom X.env.cells scope.names []).lookup y = some c) : X.env.cells.lookup y = some c ∧ (y, NameKind.free) ∈ scope.names := by
  rcases cloFrom_mem (PySem.mem_of_lookup h) with z | ⟨z, e⟩
  · cases z
  · obtain ⟨c', q⟩ := ok.has y (S.free _ z rfl)
    rw [q] at e
    rw [q, e]
    exact ⟨rfl, z⟩
theorem GxS.free_has (S : GxS X.N N' fr X.env.scope scope) (ok : X.Ok) {y : Str} (h : scope.names.lookup y = some .free) : ∃ c, (cloFrom X.env.cells scope.names []).lookup y = some c ∧ X.env.cells.lookup y = some c := by
  obtain ⟨c, e⟩ := mem_lookup (cloFrom_has (cells := X.env.cells) (acc := []) (PySem.mem_of_lookup h))
  exact ⟨c, e, (S.cells ok e).1⟩
theorem inv_gx (S : GxS X.N N' fr X.env.scope scope) (I : Inv X pins σ H s) (hh : A.handled = none) (hf : A.frames = some (genEnv scope (cloFrom X.env.cells scope.names []) s.heap.objs.size code builtinsNs X.env :: X.stack))
    (k : ∀ b o, s.heap.get? b = some o → s5.heap.get? b = some o) (os : s5.os = s.os) (bare : AllBare s5.gens) (ns : ∃ m, s5.heap.Ns s.heap.objs.size m)
    {go : Obj} {a : Addr} {fp : List Addr} (hfp : ∀ b ∈ fp, FpOk X pins H b ∧ b < s.heap.objs.size) (ha : s5.heap.get? a = some go) (hs : s.heap.objs.size < a) (hgd : ∀ v, go.data ≠ .cell v) :
    Inv (gcx X A N' s H (genEnv scope (cloFrom X.env.cells scope.names []) s.heap.objs.size code builtinsNs X.env) fp [(a, go)]) [] (gσ σ fr) H s5 := by
  have nst : ∀ b ∈ fp, b ∉ frs X.stack := fun b hb z => by
    obtain ⟨_, f1, f2, _⟩ := (hfp b hb).1
    rcases List.mem_cons.mp (I.stkSub b z) with w | w
    · exact f1 w
    · exact f2 w
  obtain ⟨fl, fa⟩ := frOk_at S.fr
  obtain ⟨m, hns⟩ := ns
  have clt : ∀ x c, X.env.cells.lookup x = some c → c < s.heap.objs.size := fun x c e => by
    obtain ⟨v, ob, ho, _⟩ := I.cell x c e
    exact Heap.lt_size ho
  refine ⟨⟨I.ok.mod, S.kind, I.ok.glob, rfl, Nat.le_refl _, fun y z c h1 h2 => I.ok.inj _ _ _ (S.cells I.ok h1).1 (S.cells I.ok h2).1, fun y hy => ?_, fun y c z _ => (by cases z), fun _ => hh, hf, .inr ⟨rfl, rfl⟩, fun b hb => ⟨Nat.ne_of_lt (hfp b hb).2, fun x c e => (hfp b hb).1.2.2.2.2.1 x c (S.cells I.ok e).1⟩, fun b o e => I.bs b o e, Nat.le_trans I.ok.bsz I.sz, fun b o e hb => ?_, nst, I.stack, I.stkFree⟩,
    os, bare, Un.kept k, ⟨m, hns, fun i x v h1 h2 h3 => ?_⟩, fun y c h => ?_, I.hok.fresh (Nat.le_refl _), fun y c h => I.freeC y c (S.cells I.ok h).1, fun p hp => ?_, I.hok.kept k, ?_⟩
  rotate_left 1
  · rcases (hfp b hb).1.2.2.2.1 with z | z
    · exact I.ok.noex b o e z
    · exact absurd (Heap.lt_size e) (Nat.not_lt.mpr (Nat.le_trans I.ok.bsz z))
  rotate_right 1
  · have hy' : scope.names.lookup y = some .cell ∨ scope.names.lookup y = some .free := hy
    rcases hy' with z | z
    · exact absurd rfl (S.cell _ (PySem.mem_of_lookup z))
    · obtain ⟨c, e, _⟩ := S.free_has I.ok z
      exact ⟨c, e⟩
  · unfold gσ at h2
    rw [List.getElem?_map] at h2
    cases e : fr[i]? with
    | none =>
      rw [e] at h2
      cases h2
    | some o =>
      rw [e] at h2
      cases o with
      | none => cases h2
      | some j =>
        obtain ⟨x', n1, n2, n3⟩ := fa i j e
        have h1' : N'[i]? = some x := h1
        rw [n1] at h1'
        cases h1'
        have h2' : (match σ[j]? with | some v => v | none => none) = some v := Option.some.inj h2
        cases q : σ[j]? with
        | none =>
          rw [q] at h2'
          cases h2'
        | some w =>
          rw [q] at h2'
          have h2'' : w = some v := h2'
          subst h2''
          obtain ⟨c, e1, e2⟩ := S.free_has I.ok n3
          obtain ⟨mo, hmo, look⟩ := I.loc
          have vis : X.env.scope.names.lookup x = some .cell ∨ X.env.scope.names.lookup x = some .free := S.free _ (PySem.mem_of_lookup n3) rfl
          obtain ⟨u, r, lk⟩ := look j x v n2 q (.inr vis)
          refine ⟨u, r, .inr ⟨.inr n3, c, e1, ?_⟩⟩
          rcases lk with ⟨z, _⟩ | ⟨_, c', e3, e4⟩
          · have z' : X.env.scope.names.lookup x = some .local := z
            rcases vis with w | w <;> rw [w] at z' <;> cases z'
          · rw [e2] at e3
            cases e3
            obtain ⟨ob, ho, hd⟩ := e4
            exact ⟨ob, k _ _ ho, hd⟩
  · obtain ⟨v, ob, ho, hd⟩ := I.cell y c (S.cells I.ok h).1
    exact ⟨v, ob, k _ _ ho, hd⟩
  · have hp' : p ∈ [(a, go)] := by
      rcases List.mem_append.mp hp with z | z
      · exact z
      · cases z
    rw [List.mem_singleton.mp hp']
    refine ⟨ha, I.hok.fresh (Nat.le_of_lt hs), Nat.ne_of_gt hs, fun z => ?_, hgd⟩
    obtain ⟨_, o, ho, _⟩ := I.stack.mem (b := a) z
    exact absurd (Heap.lt_size ho) (Nat.not_lt.mpr (Nat.le_of_lt hs))
  · unfold gσ
    rw [List.length_map]
    exact fl
theorem gst_gx (S : GxS X.N N' fr X.env.scope scope) {ι : List Addr} {ρ : Slots} {M : Mem} (st : StR G H σ ι ρ M) : StR G H (gσ σ fr) ι (gρ ρ fr) M := by
  refine ⟨by unfold gσ gρ; rw [List.length_map, List.length_map], st.mem, fun i d h n => ?_⟩
  unfold gρ at h
  rw [List.getElem?_map] at h
  cases e : fr[i]? with
  | none =>
    rw [e] at h
    cases h
  | some o =>
    rw [e] at h
    cases o with
    | none =>
      cases h
      exact absurd rfl n
    | some j =>
      have h' : (match ρ[j]? with | some d => d | none => .u) = d := Option.some.inj h
      cases q : ρ[j]? with
      | none =>
        rw [q] at h'
        exact absurd h'.symm n
      | some d' =>
        rw [q] at h'
        have h'' : d' = d := h'
        subst h''
        obtain ⟨v, e1, e2⟩ := st.sl j d' q n
        refine ⟨v, ?_, e2⟩
        unfold gσ
        rw [List.getElem?_map, e]
        show some (match σ[j]? with | some v => v | none => none) = some (some v)
        rw [e1]
end
end Xt
set_option Elab.async false
set_option linter.all false
set_option maxRecDepth 100000
set_option maxHeartbeats 2000000
namespace Xt
open PySem PySem.Spec PyProof.Rows L2 GenW
section
variable {X : Cx} {G : Gx} {N' : List Str} {fr : List (Option Nat)} {scope : Scope} {pins : List (Addr × Obj)} {σ : L2.St} {H : Hp} {s : Shared} {tg iter elt : Expr} {gpos : Pos}
/-- a table has grown -/
theorem Ext.tab {ι : List Addr} {M : Mem} {P : Addr} {ps qs : Array Value} (m : MemR G ι H M) (hnm : G.nm P = none) (hP : H P = some (.tbl ps)) (ht : TriplesOk qs.toList) : Ext G ι H ι M (upd H P (.tbl qs)) where
  pre := List.prefix_refl _
  mem := ⟨m.len, m.nd, fun i a mo h1 h2 => by
    have q := m.ob i a mo h1 h2
    have ne : a ≠ P := fun e => by
      subst e
      cases mo with
      | lst xs =>
        obtain ⟨vs, q, _⟩ := q
        rw [hP] at q
        cases q
      | dct xs =>
        obtain ⟨vs, q, _⟩ := q
        rw [hP] at q
        cases q
      | ins c xs =>
        obtain ⟨C, dx, vs, _, q, _⟩ := q
        rw [hP] at q
        cases q
      | dead =>
        obtain ⟨o, q, z⟩ := q
        rw [hP] at q
        cases q
        cases z
    refine q.mono (List.prefix_refl _) ⟨fun b o u e => ?_, fun b xs e => ?_⟩ (upd_ne ne)
    · rw [upd_ne (fun z => by
        rw [z, hP] at e
        cases e)]
      exact e
    · rw [upd_ne (fun z => by
        rw [z, hP] at e
        cases e)]
      exact e, fun Q hQ => by
    by_cases e : Q = P
    · rw [e]
      exact ⟨qs, upd_same, ht, fun q z => by rw [hnm] at z; cases z⟩
    · exact (m.tab Q hQ).to (fun ps h => by rw [upd_ne e]; exact h) fun c f h => by
        rw [upd_ne (fun z => by
          rw [z, hP] at h
          cases h)]
        exact h⟩
  keep := ⟨fun b o u e => by
    rw [upd_ne (fun z => by
      rw [z, hP] at e
      cases e)]
    exact e, fun b xs e => by
    rw [upd_ne (fun z => by
      rw [z, hP] at e
      cases e)]
    exact e⟩
  frame := fun b o e n _ => by
    rw [upd_ne (fun z => by
      rw [z, hP] at e
      cases e
      cases n)]
    exact e
  tbl := fun b rs e => by
    by_cases z : b = P
    · rw [z, upd_same]
      exact ⟨qs, rfl⟩
    · rw [upd_ne z]
      exact ⟨rs, e⟩
  fresh := fun a h n => absurd h n
/-- the generator at a has been made -/
def GRdy (X : Cx) (G : Gx) (scope : Scope) (tg iter elt : Expr) (gpos : Pos) (pins : List (Addr × Obj)) (σ : L2.St) (ι1 : List Addr) (H1 : Hp) (M1 : Mem) (ds : List Dv) (a : Addr) (s5 : Shared) : Prop :=
  ∃ (s4 : Shared) (H4 : Hp) (code : Value) (it : Addr) (fp : List Addr) (tn : Nat → Heap → Prop) (J : It) (g : Nat) (go : Obj),
    Inv X pins σ H4 s4 ∧ Ext G ι1 H1 ι1 M1 H4 ∧ Turn X.prog X.w X.K tg J fp it tn ∧ tn 0 s5.heap ∧ (∀ b ∈ fp, FpOk X pins H4 b ∧ b < s4.heap.objs.size) ∧ Wk G ι1 H1 J ds ∧ s4.heap.objs.size < a ∧ s5.heap.get? a = some go ∧
    (∀ h : Heap, h.get? a = some go → h.IsGen a g) ∧ (∀ v, go.data ≠ .cell v) ∧ (∀ b o, s4.heap.get? b = some o → s5.heap.get? b = some o) ∧ s5.os = s4.os ∧ AllBare s5.gens ∧ (∃ m, s5.heap.Ns s4.heap.objs.size m) ∧
    s5.gens[g]? = some (.fresh (.compStart (.GeneratorExp elt [⟨tg, iter, [], 0⟩] scope gpos) 0 (.ref it) .none (genEnv scope (cloFrom X.env.cells scope.names []) s4.heap.objs.size code builtinsNs X.env)))
theorem gx_make {c P : Addr} {src : Slots → Co (List Dv)} {k : Nat} {Q' : Value → Shared → Prop} {R : List Dv → List Addr → Mem → Hp → Prop} (hr : Room k X.A) (TB : LamX.TabB X.base X.mg c P) (hPt : P ∈ G.tbs ∧ G.nm P = none) (hcode : X.env.code = .ref c) (S : GxS X.N N' fr X.env.scope scope)
    (hi : PI X tg iter (rdI G E0 src)) (hs : ∀ v, genFold iter X.env v = pure v) (I : Inv X pins σ H s) {ι : List Addr} {ρ : Slots} {M : Mem} (st : StR G H σ ι ρ M) (h : Post G E0 ι H R (src ρ M))
    (hQ : ∀ ds ι1 M1 H1 a s5, R ds ι1 M1 H1 → StR G H1 σ ι1 ρ M1 → GRdy X G scope tg iter elt gpos pins σ ι1 H1 M1 ds a s5 → Q' (.ref a) s5) :
    wpAny (model X.prog X.w) X.A (eval (.GeneratorExp elt [⟨tg, iter, [], 0⟩] scope gpos) X.env) Q' X.xe s := by
  have hfree : ∀ y ∈ scope.names, y.2 = .free → ∃ c, X.env.cells.lookup y.1 = some c := fun y hy e => I.ok.has y.1 (S.free y hy e)
  refine wpAny_GeneratorExp_make S.co (closure_ok hfree) S.cell S.dot S.kind (by have := hr.dp; omega) ?_ hs
  refine wpAny_mono (hi.run pins s σ H (fun J H1 => ∃ ds ι1 M1, Wk G ι1 H1 J ds ∧ StR G H1 σ ι1 ρ M1 ∧ R ds ι1 M1 H1) I ⟨ι, ρ, M, st, h.mono fun ds ι1 M1 H1 x1 q J wk => ⟨ds, ι1, M1, wk, st.ext x1, q⟩⟩) (fun xv s1 h1 => ?_) fun _ _ e => e
  refine thn h1 fun itv s2 ⟨it, fp, tn, J, H1, eit, I2, T, tn0, hf, ds, ι1, M1, wk, st1, hR⟩ => ?_
  subst eit
  obtain ⟨ps, hP, ht, _⟩ := st1.mem.tab P hPt.1
  have hPs : s2.heap.get? P = some { cls := .none, data := .fields ps } := I2.hok P _ hP
  have cd : PySem.W.CodeHd s2.heap c P := TB.code.keeps fun b u e => I2.bk b u e
  refine ⟨I2.nolimit, ?_⟩
  have hne : ∀ b ∈ fp, b ≠ P := fun b hb z => by
    have q := (hf b hb).1
    rw [z, hP] at q
    cases q
  have cont : ∀ (code : Value) (H4 : Hp) (s3 : Shared), (∀ b ∈ fp, H4 b = none) → Inv X pins σ H4 s3 → Ext G ι1 H1 ι1 M1 H4 → (∀ b o, b ≠ P → s2.heap.get? b = some o → s3.heap.get? b = some o) → s2.heap.objs.size ≤ s3.heap.objs.size →
      wpAny (model X.prog X.w) X.A (builtinsFor X.env.globals X.env.builtins) (fun bi s₄ =>
        ∀ h', h'.Ns s₄.heap.objs.size (fun y => if y = ".0" then some (.ref it) else none) → Heap.SameBut s₄.heap.objs.size (s₄.heap.push { cls := .type "frame", data := .dict #[] }) h' →
          Q' (.ref h'.objs.size) { s₄ with
            gens := s₄.gens.push (.fresh (.compStart (.GeneratorExp elt [⟨tg, iter, [], 0⟩] scope gpos) 0 (.ref it) .none (genEnv scope (cloFrom X.env.cells scope.names []) s₄.heap.objs.size code bi X.env))),
            toks := s₄.toks + 1 + 1 + 1,
            heap := h'.push { cls := .type "generator", data := .fields #[.int s₄.gens.size 0, .str "<genexpr>" (s₄.toks + 1), .str (X.env.qual ++ "<genexpr>") (s₄.toks + 1 + 1)] } }) X.xe s3 := by
    intro code H4 s3 hfree4 I3 x4 hk hsz
    obtain ⟨bm, ob, e1, e2, e3, e4, e5, e6, e7, e8⟩ := TB.bm
    refine wpAny_builtinsFor (m := X.mg) (by rw [I3.ok.glob]; exact I3.mod.glob.keeps I3.bk) e1 e2 (I3.bk _ _ e5) e6 e7 e8 ?_
    intro h' hns hsb
    have kp : ∀ b o, s3.heap.get? b = some o → h'.get? b = some o := fun b o e => hsb.extBut b o (Nat.ne_of_lt (Heap.lt_size e)) (Heap.get?_push_of_some _ e)
    have sz : h'.objs.size = s3.heap.objs.size + 1 := by rw [hsb.1, Heap.size_push]
    refine hQ ds ι1 M1 H1 _ _ hR st1 ⟨s3, H4, code, it, fp, tn, J, s3.gens.size, _, I3, x4, T, ?_, fun b hb => ?_, wk, ?_, Heap.get?_push_size _ rfl, fun h e => ⟨_, _, _, e, rfl, rfl, rfl⟩, fun v q => (by cases q), fun b o e => Heap.get?_push_of_some _ (kp b o e), rfl, AllBare.push I3.bare rfl, ⟨_, hns.push _⟩, Array.getElem?_push_size ..⟩
    · exact T.keep 0 _ _ tn0 fun b hb o e => Heap.get?_push_of_some _ (kp b o (hk b o (hne b hb) e))
    · obtain ⟨ob, hob, nd⟩ := T.obj 0 _ tn0 b hb
      exact ⟨⟨hfree4 b hb, (hf b hb).2⟩, Nat.lt_of_lt_of_le (Heap.lt_size hob) hsz⟩
    · show s3.heap.objs.size < h'.objs.size
      omega
  cases hf2 : codeAmong gpos ps.toList with
  | none =>
    refine wpAny_genexprCodeX hcode (cd.code hPs ht) (cd.tab hPs) hf2 fun c' h' tk hx hge hlt hco' _ htab' _ => ?_
    obtain ⟨o1, vs, f1, tf, fl, tg', inF, tx, tt, op, _, _, _, _, _, _, _, _, _, htr, _⟩ := hco'
    have J3 := GxR.inv_tab (g' := s2.gens) (d' := s2.drawn) (t' := tk) I2 hP (fun b o hb e => hx b o hb e) htab'.2 I2.bare
    exact cont (.ref c') _ { s2 with heap := h', toks := tk } (fun b hb => by rw [upd_ne (hne b hb)]; exact (hf b hb).1) J3 (.tab st1.mem hPt.2 hP htr) (fun b o hb e => hx b o hb e) (Nat.le_trans hge (Nat.le_of_lt hlt))
  | some cv =>
    refine wpAny_genexprCode_hit hcode (cd.code hPs ht) hf2 ?_
    exact cont cv H1 s2 (fun b hb => (hf b hb).1) I2 (.refl st1.mem) (fun b o _ e => e) (Nat.le_refl _)

/-! ### sum(..), all(..) -/
def sumG (src : Slots → Co (List Dv)) (tf : Dv → Slots → Co Slots) (te : Slots → Co Dv) (fr : List (Option Nat)) : Slots → Co Dv := fun ρ => bnd (src ρ) fun ds M => match gxL tf te (gρ ρ fr) ds M with
  | none => .fail
  | some l => (match intsZ l with
    | none => .fail
    | some zs => .ok (dI (sumZ 0 zs)) (gxM M l))
def allG (src : Slots → Co (List Dv)) (tf : Dv → Slots → Co Slots) (te : Slots → Co Dv) (fr : List (Option Nat)) : Slots → Co Dv := fun ρ => bnd (src ρ) fun ds M => match gxL tf te (gρ ρ fr) ds M with
  | none => .fail
  | some l => (match allZ l (some (true, M)) with
    | none => .fail
    | some (b, Me) => .ok (vB b) Me)
/-- the generator's frame is a frame over the builtin's -/
theorem over_gx {A : Around} {it : Value} {env : Env} {st : List Env} (hA : A.frames = some st) : (A.over (.compLoop (.GeneratorExp elt [⟨tg, iter, [], 0⟩] scope gpos) 0 it .none env) []).frames = some (env :: st) := by
  unfold Around.over
  simp only [hA]
  rfl
theorem room_gx {k : Nat} {A : Around} {it : Value} {env : Env} (hr : Room (k + 1) A) : Room k (A.in1.in1.over (.compLoop (.GeneratorExp elt [⟨tg, iter, [], 0⟩] scope gpos) 0 it .none env) []) := by
  refine ⟨hr.hd, ?_, ?_⟩
  · have := hr.dp
    show A.depth + 1 + 3 * k + 5 < _
    omega
  · have := hr.un
    show A.units + 1 + 1 + 3 + 16 * k + 200 < _
    omega
end
end Xt
set_option Elab.async false
set_option linter.all false
set_option maxRecDepth 100000
set_option maxHeartbeats 2000000
namespace Xt
open PySem PySem.Spec PyProof.Rows L2 GenW
section
variable {X : Cx} {G : Gx} {E : XK} {N' : List Str} {fr : List (Option Nat)} {scope : Scope} {tg iter elt : Expr} {gpos pos p : Pos} {src : Slots → Co (List Dv)} {tf : Dv → Slots → Co Slots} {te : Slots → Co Dv} {k : Nat} {c P : Addr}
/-- the generator's context, whatever the state -/
abbrev gcxA (X : Cx) (N' : List Str) (scope : Scope) (A : Around) (s : Shared) (H : Hp) (code : Value) (fp : List Addr) (pn : List (Addr × Obj)) : Cx :=
  gcx X A N' s H (genEnv scope (cloFrom X.env.cells scope.names []) s.heap.objs.size code builtinsNs X.env) fp pn
/-- what a generator expression asks -/
structure GxOk (X : Cx) (G : Gx) (N' : List Str) (fr : List (Option Nat)) (scope : Scope) (tg iter elt : Expr) (src : Slots → Co (List Dv)) (tf : Dv → Slots → Co Slots) (te : Slots → Co Dv) (k : Nat) : Prop where
  sc : GxS X.N N' fr X.env.scope scope
  pi : PI X tg iter (rdI G E0 src)
  pg : ∀ A s H code fp pn, PG (gcxA X N' scope A s H code fp pn) tg (rdG G E0 tf)
  pe : ∀ A s H code fp pn, Room k A → PE (gcxA X N' scope A s H code fp pn) elt (rdE G E0 te)
  bk : ∀ ρ, BkS G (gρ ρ fr) tf
  fold : ∀ v, genFold iter X.env v = pure v
theorem rd_nox {α : Type} {H : Hp} {ι : List Addr} {Q : α → List Addr → Mem → Hp → Prop} {E : XK} {c : Co α} {M : Mem} (h : Post G E ι H Q (nox c M)) : Post G E0 ι H Q (c M) := by
  unfold nox at h
  cases e : c M with
  | fail =>
    rw [e] at h
    exact h.elim
  | ok a M' =>
    rw [e] at h
    exact h
  | ex c' M' =>
    rw [e] at h
    exact h.elim
theorem fp_gx {pins pp : List (Addr × Obj)} {s4 : Shared} {H4 H' : Hp} {fp : List Addr} {σ : L2.St} {cd : Value} {a : Addr} {go : Obj} {A : Around} (S : GxS X.N N' fr X.env.scope scope) (I4 : Inv X pins σ H4 s4) (hf : ∀ b ∈ fp, FpOk X pins H4 b ∧ b < s4.heap.objs.size) (hag : s4.heap.objs.size < a)
    (hpp : ∀ q ∈ pp, s4.heap.objs.size ≤ q.1) (hz : ∀ b ∈ fp, H' b = none) : ∀ b ∈ fp, FpOk (gcxA X N' scope A s4 H4 cd fp [(a, go)]) pp H' b := fun b hb => by
  obtain ⟨⟨_, f1, f2, _, f4, _⟩, lt⟩ := hf b hb
  refine ⟨hz b hb, Nat.ne_of_lt lt, fun z => ?_, .inl hb, fun x c e => f4 x c (S.cells I4.ok e).1, fun q hq e => ?_⟩
  · rcases List.mem_cons.mp (I4.stkSub b z) with w | w
    · exact f1 w
    · exact f2 w
  · have lt' : b < s4.heap.objs.size := lt
    rcases List.mem_append.mp hq with w | w
    · have w' : q = (a, go) := List.mem_singleton.mp w
      rw [w'] at e
      have e' : a = b := e
      rw [← e'] at lt'
      exact Nat.lt_asymm lt' hag
    · have := hpp q w
      rw [e] at this
      exact absurd lt' (Nat.not_lt.mpr this)
theorem xallG (ok : GxOk X G N' fr scope tg iter elt src tf te k) (hr : Room (k + 1) X.A) (TB : LamX.TabB X.base X.mg c P) (hPt : P ∈ G.tbs ∧ G.nm P = none) (hcode : X.env.code = .ref c) (hg : Gl X "all") (hm : X.mg "all" = none)
    (he : starEach [.GeneratorExp elt [⟨tg, iter, [], 0⟩] scope gpos] X.env = (false, eval (.GeneratorExp elt [⟨tg, iter, [], 0⟩] scope gpos) X.env) :: starEach [] X.env := by rfl) :
    PE X (.Call (.Name "all" p) [.GeneratorExp elt [⟨tg, iter, [], 0⟩] scope gpos] [] pos) (rdE G E (allG (fun ρ => nox (src ρ)) tf te fr)) := by
  refine ⟨fun pins s σ H Q I h => ?_⟩
  obtain ⟨ι, ρ, M, st, po⟩ := h
  refine wpAny_Call_Name_kw (ld_blt I hg hm (show bootBuiltins "all" = some (.builtin "all") from rfl) ?_)
  refine PyProof.Rows.callWith_builtin1 ?_ he (by rfl)
  rw [he]
  show wpAny _ _ (spliced ((false, eval (.GeneratorExp elt [⟨tg, iter, [], 0⟩] scope gpos) X.env) :: backTo pos (starEach [] X.env))) _ _ s
  have po2 := rd_nox (Post.bnd po)
  refine Calls.spliced_cons (gx_make hr TB hPt hcode ok.sc ok.pi ok.fold I st po2 fun ds ι1 M1 H1 a s5 hR st1 rdy => ?_)
  obtain ⟨s4, H4, cd, it, fp, tn, J, g, go, I4, x4, T, tn0, hf, wk, hag, hgo0, hgo, hgd, hk, os, bare, ns, hgs⟩ := rdy
  refine Calls.spliced_nil ?_
  refine call_allG (wpAny_pyIter_gen (hgo _ hgo0) ?_)
  -- the items
  cases el : gxL tf te (gρ ρ fr) ds M1 with
  | none =>
    simp only [el] at hR
    exact hR.elim
  | some l =>
  simp only [el] at hR
  cases ez : allZ l (some (true, M1)) with
  | none =>
    simp only [ez] at hR
    exact hR.elim
  | some bm =>
  obtain ⟨b, Me⟩ := bm
  simp only [ez] at hR
  have hr1 := hr
  -- the context in the generator
  have hov : (X.A.in1.in1.over (.compLoop (.GeneratorExp elt [⟨tg, iter, [], 0⟩] scope gpos) 0 (.ref it) .none (genEnv scope (cloFrom X.env.cells scope.names []) s4.heap.objs.size cd builtinsNs X.env)) []).handled = none := hr.hd
  have hfrm := over_gx (A := X.A.in1.in1) (tg := tg) (iter := iter) (elt := elt) (scope := scope) (gpos := gpos) (it := .ref it) (env := genEnv scope (cloFrom X.env.cells scope.names []) s4.heap.objs.size cd builtinsNs X.env) I.ok.frames
  have J5 := inv_gx (N' := N') (fr := fr) ok.sc I4 hov hfrm hk os bare ns hf hgo0 hag hgd
  have hn := gxL_len el
  have sr4 : StR G H4 (gσ σ fr) ι1 (gρ ρ fr) M1 := gst_gx ok.sc (st1.ext x4)
  have J6 := Inv.pinned (pins := []) J5 (fp_gx (pp := []) ok.sc I4 hf hag (fun q hq => (by cases hq)) fun b hb => (hf b hb).1.1) (T.obj _ _ tn0)
  refine all_loop (G := G) (X := gcxA X N' scope _ s4 H4 cd fp [(a, go)]) (A := X.A) (fp := fp) (ι0 := ι1) (H0 := H1) (zms := l) (Mf := gxM M1 l) (s2 := s5) hr.hd hr.depth hgo List.mem_cons_self (b := b) (Me := Me) (fun s' ι' H' σ' I' x' => ?_) l.length 0 M1 (gσ σ fr) H4 (pinsAt fp s5.heap) s5 (Nat.zero_add _) ez (fun e => ?_) rfl
    ⟨hgo _ hgo0, fun p hp => (of_pinsAt hp).1, _, hgs, fun s'' pp' hpp' I'' => ?_⟩ J6
  · have I9 : Inv X pins σ H' s' := I4.call' (ch := fp) I'.os I'.base I'.hok I'.bare fun b hb => ⟨(hf b hb).1.2.2.2.1, (hf b hb).1.2.1, (hf b hb).1.2.2.2.2⟩
    exact ⟨.bl b, H', I9, rfl, hR ι' H' x' _ (.g (.bl b))⟩
  · cases l with
    | nil => rfl
    | cons _ _ => cases e
  · subst hpp'
    refine ⟨rfl, ?_⟩
    refine seg_gx0 (X := gcxA X N' scope _ s4 H4 cd fp [(a, go)]) (A := X.A.in1.in1) (ds := ds) (ρ := gρ ρ fr) (M := M1) (tf := tf) (te := te) (fp := fp) (tn := tn) (J := J) (PP := fun pp => pp = []) (s₀ := s'') rfl rfl (fun _ _ z => z) T (fun pp H' hpp hz b hb => ?_) wk (ok.pg _ _ _ _ _ _) (ok.pe _ _ _ _ _ _ (room_gx hr)) (ok.bk ρ) ok.sc.co el rfl
      ⟨ι1, H4, gσ σ fr, [], rfl, fun p hp => (by cases hp), I''.pins_of fun p hp => (by cases hp), x4, sr4, ?_, fun b hb => (hf b hb).1.1⟩
    · subst hpp
      exact fp_gx ok.sc I4 hf hag (fun q hq => (by cases hq)) hz b hb
    · exact T.keep _ _ _ tn0 fun b hb o e => (I''.pin (b, o) (List.mem_append_right _ (List.mem_append_right _ (mem_pinsAt hb e)))).1
theorem xsumG (ok : GxOk X G N' fr scope tg iter elt src tf te k) (hr : Room (k + 1) X.A) (TB : LamX.TabB X.base X.mg c P) (hPt : P ∈ G.tbs ∧ G.nm P = none) (hcode : X.env.code = .ref c) (hg : Gl X "sum") (hm : X.mg "sum" = none)
    (he : starEach [.GeneratorExp elt [⟨tg, iter, [], 0⟩] scope gpos] X.env = (false, eval (.GeneratorExp elt [⟨tg, iter, [], 0⟩] scope gpos) X.env) :: starEach [] X.env := by rfl) :
    PE X (.Call (.Name "sum" p) [.GeneratorExp elt [⟨tg, iter, [], 0⟩] scope gpos] [] pos) (rdE G E (sumG (fun ρ => nox (src ρ)) tf te fr)) := by
  refine ⟨fun pins s σ H Q I h => ?_⟩
  obtain ⟨ι, ρ, M, st, po⟩ := h
  refine wpAny_Call_Name_kw (ld_blt I hg hm (show bootBuiltins "sum" = some (.builtin "sum") from rfl) ?_)
  refine PyProof.Rows.callWith_builtin1 ?_ he (by rfl)
  rw [he]
  show wpAny _ _ (spliced ((false, eval (.GeneratorExp elt [⟨tg, iter, [], 0⟩] scope gpos) X.env) :: backTo pos (starEach [] X.env))) _ _ s
  have po2 := rd_nox (Post.bnd po)
  refine Calls.spliced_cons (gx_make hr TB hPt hcode ok.sc ok.pi ok.fold I st po2 fun ds ι1 M1 H1 a s5 hR st1 rdy => ?_)
  obtain ⟨s4, H4, cd, it, fp, tn, J, g, go, I4, x4, T, tn0, hf, wk, hag, hgo0, hgo, hgd, hk, os, bare, ns, hgs⟩ := rdy
  refine Calls.spliced_nil ?_
  refine call_sumG (wpAny_pyIter_gen (hgo _ hgo0) fun tk => ?_)
  cases el : gxL tf te (gρ ρ fr) ds M1 with
  | none =>
    simp only [el] at hR
    exact hR.elim
  | some l =>
  simp only [el] at hR
  cases ez : intsZ l with
  | none =>
    simp only [ez] at hR
    exact hR.elim
  | some zs =>
  simp only [ez] at hR
  have hov : (X.A.in1.in1.over (.compLoop (.GeneratorExp elt [⟨tg, iter, [], 0⟩] scope gpos) 0 (.ref it) .none (genEnv scope (cloFrom X.env.cells scope.names []) s4.heap.objs.size cd builtinsNs X.env)) []).handled = none := hr.hd
  have hfrm := over_gx (A := X.A.in1.in1) (tg := tg) (iter := iter) (elt := elt) (scope := scope) (gpos := gpos) (it := .ref it) (env := genEnv scope (cloFrom X.env.cells scope.names []) s4.heap.objs.size cd builtinsNs X.env) I.ok.frames
  have alt : a < s5.heap.objs.size := Heap.lt_size hgo0
  have kS : ∀ b o, s5.heap.get? b = some o → (s5.heap.push (sumO 0 s5.toks 0)).get? b = some o := fun b o e => Heap.get?_push_of_some _ e
  have tn5 : tn 0 (s5.heap.push (sumO 0 s5.toks 0)) := T.keep 0 _ _ tn0 fun b _ o e => kS b o e
  have J5 := inv_gx (s5 := { s5 with heap := s5.heap.push (sumO 0 s5.toks 0), toks := tk }) (N' := N') (fr := fr) ok.sc I4 hov hfrm (fun b o e => kS b o (hk b o e)) os bare (by
    obtain ⟨m, n⟩ := ns
    exact ⟨m, n.push _⟩) hf (kS _ _ hgo0) hag hgd
  have hn := gxL_len el
  have sr4 : StR G H4 (gσ σ fr) ι1 (gρ ρ fr) M1 := gst_gx ok.sc (st1.ext x4)
  have sS : s4.heap.objs.size ≤ s5.heap.objs.size := Nat.le_of_lt (Nat.lt_trans hag alt)
  have off : Off (gcxA X N' scope (X.A.in1.in1.over (.compLoop (.GeneratorExp elt [⟨tg, iter, [], 0⟩] scope gpos) 0 (.ref it) .none (genEnv scope (cloFrom X.env.cells scope.names []) s4.heap.objs.size cd builtinsNs X.env)) []) s4 H4 cd fp [(a, go)]) fp s5.heap.objs.size := by
    refine ⟨sS, Nat.ne_of_gt (Nat.lt_trans hag alt), fun x c e z => ?_, fun q hq z => ?_, fun b hb z => ?_⟩
    · obtain ⟨v, ob, ho, _⟩ := I4.cell x c (ok.sc.cells I4.ok e).1
      have := Heap.lt_size ho
      rw [z] at this
      exact absurd (Nat.lt_of_lt_of_le this sS) (Nat.lt_irrefl _)
    · have hq' : q = (a, go) := List.mem_singleton.mp hq
      rw [hq'] at z
      have z' : a = s5.heap.objs.size := z
      rw [z'] at alt
      exact Nat.lt_irrefl _ alt
    · have := (hf b hb).2
      rw [z] at this
      exact absurd (Nat.lt_of_lt_of_le this sS) (Nat.lt_irrefl _)
  have ge1 : ∀ q ∈ [(s5.heap.objs.size, sumO 0 s5.toks 0)], s4.heap.objs.size ≤ q.1 := fun q hq => by
    rw [List.mem_singleton.mp hq]
    exact sS
  have J7 := J5.pins_of (pins' := [(s5.heap.objs.size, sumO 0 s5.toks 0)]) fun q hq => by
    rw [List.mem_singleton.mp hq]
    refine ⟨Heap.get?_push_size _ rfl, I4.hok.fresh sS, off.loc, fun z => ?_, fun v e => (by cases e)⟩
    obtain ⟨_, o, ho, _⟩ := I4.stack.mem (b := s5.heap.objs.size) z
    exact absurd (Nat.lt_of_lt_of_le (Heap.lt_size ho) sS) (Nat.lt_irrefl _)
  have J6 := Inv.pinned J7 (fp_gx ok.sc I4 hf hag ge1 fun b hb => (hf b hb).1.1) (T.obj _ _ tn5)
  refine sum_loop (G := G) (X := gcxA X N' scope _ s4 H4 cd fp [(a, go)]) (A := X.A) (fp := fp) (ι0 := ι1) (H0 := H1) (zms := l) (Mf := gxM M1 l) (S := s5.heap.objs.size) hr.hd hr.depth hgo List.mem_cons_self off (tot := sumZ 0 zs) (fun t s' ι' H' σ' I' x' => ?_) l.length 0 zs 0 s5.toks 0 0 (gσ σ fr) H4 (pinsAt fp (s5.heap.push (sumO 0 s5.toks 0))) _ (.inl rfl) (Nat.zero_add _) ez rfl
    ⟨hgo _ (kS _ _ hgo0), fun p hp => (of_pinsAt hp).1, _, hgs, fun s'' pp' hpp' I'' => ?_⟩ J6
  · have I9 : Inv X pins σ H' s' := I4.call' (ch := fp) I'.os I'.base I'.hok I'.bare fun b hb => ⟨(hf b hb).1.2.2.2.1, (hf b hb).1.2.1, (hf b hb).1.2.2.2.2⟩
    exact ⟨.int (sumZ 0 zs), H', I9, ⟨t, rfl⟩, hR ι' H' x' _ rpI⟩
  · refine ⟨rfl, ?_⟩
    refine seg_gx0 (X := gcxA X N' scope _ s4 H4 cd fp [(a, go)]) (A := X.A.in1.in1) (ds := ds) (ρ := gρ ρ fr) (M := M1) (tf := tf) (te := te) (fp := fp) (tn := tn) (J := J) (PP := SP1 s5.heap.objs.size) (s₀ := s'') rfl rfl (fun _ _ z => z) T (fun pp H' hpp hz b hb => ?_) wk (ok.pg _ _ _ _ _ _) (ok.pe _ _ _ _ _ _ (room_gx hr)) (ok.bk ρ) ok.sc.co el rfl
      ⟨ι1, H4, gσ σ fr, pp', hpp', fun p hp => (I''.pin p (List.mem_append_right _ (List.mem_append_left _ hp))).1, I''.unpinned, x4, sr4, ?_, fun b hb => (hf b hb).1.1⟩
    · obtain ⟨acc, t, c', rfl⟩ := hpp
      exact fp_gx ok.sc I4 hf hag (fun q hq => by
        rw [List.mem_singleton.mp hq]
        exact sS) hz b hb
    · exact T.keep _ _ _ tn5 fun b hb o e => (I''.pin (b, o) (List.mem_append_right _ (List.mem_append_right _ (mem_pinsAt hb e)))).1
end
end Xt
set_option Elab.async false
set_option linter.all false
set_option maxRecDepth 100000
set_option maxHeartbeats 1000000
namespace Xt
open PySem PySem.Spec PyProof.Rows L2
/-! ### lists that change -/
/-- what stands at i is put anew -/
def putM (i : Nat) (mo : MO) : Co Unit := fun M => .ok () (M.set i mo)
/-- a list of the memory -/
def lstOf : Dv → Co Nat := fun d => match d with
  | .r i => atM i fun mo => match mo with
    | .lst _ => rt i
    | _ => fl
  | _ => fl
def dctOf : Dv → Co Nat := fun d => match d with
  | .r i => atM i fun mo => match mo with
    | .dct _ => rt i
    | _ => fl
  | _ => fl
def apM (i : Nat) (e : Dv) : Co Dv := atM i fun mo => match mo with
  | .lst xs => chk (Nat.blt xs.length 16777216) (fun M => .ok (.g .none) (M.set i (.lst (xs ++ [e]))))
  | _ => fl
def app (f g : Slots → Co Dv) : Slots → Co Dv := fun ρ => bnd (f ρ) fun d => bnd (lstOf d) fun i => bnd (g ρ) fun e => apM i e
section
variable {G : Gx} {E : XK} {ι : List Addr} {H : Hp} {M : Mem} {d : Dv} {v : V}
theorem Post.lstOf {α : Type} {k : Nat → Co α} {Q : α → List Addr → Mem → Hp → Prop} (p : Post G E ι H Q (Xt.bnd (Xt.lstOf d) k M)) : ∃ i xs, d = .r i ∧ M[i]? = some (.lst xs) ∧ Post G E ι H Q (k i M) := by
  have p2 := Post.bnd p
  cases d with
  | r i =>
    have p3 : Post G E ι H Q (Xt.bnd (Xt.atM i fun mo => match mo with | .lst _ => Xt.rt i | _ => fl) k M) := p
    unfold Xt.bnd Xt.atM at p3
    cases e : M[i]? with
    | none =>
      rw [e] at p3
      exact p3.elim
    | some mo =>
      rw [e] at p3
      cases mo with
      | lst xs => exact ⟨i, xs, rfl, e, p3⟩
      | _ => exact p3.elim
  | _ => exact p2.elim
theorem Post.dctOf {α : Type} {k : Nat → Co α} {Q : α → List Addr → Mem → Hp → Prop} (p : Post G E ι H Q (Xt.bnd (Xt.dctOf d) k M)) : ∃ i xs, d = .r i ∧ M[i]? = some (.dct xs) ∧ Post G E ι H Q (k i M) := by
  have p2 := Post.bnd p
  cases d with
  | r i =>
    have p3 : Post G E ι H Q (Xt.bnd (Xt.atM i fun mo => match mo with | .dct _ => Xt.rt i | _ => fl) k M) := p
    unfold Xt.bnd Xt.atM at p3
    cases e : M[i]? with
    | none =>
      rw [e] at p3
      exact p3.elim
    | some mo =>
      rw [e] at p3
      cases mo with
      | dct xs => exact ⟨i, xs, rfl, e, p3⟩
      | _ => exact p3.elim
  | _ => exact p2.elim
end
section
variable {X : Cx} {G : Gx} {E : XK} {e e1 e2 e3 : Expr} {es : List Expr} {f g h3 : Slots → Co Dv} {gs : Slots → Co (List Dv)} {pos p : Pos}
/-- o.append(e) -/
theorem xapp {apos cpos : Pos} (ho : PE X e1 (rdE G E f)) (ha : PE X e2 (rdE G E g))
    (hbase : attributeBase e1 "append" X.env (eval e1 X.env) = eval e1 X.env := by rfl)
    (hfew : ((backTo cpos (starEach [e2] X.env)).all (fun x => !x.1) && (backToKw cpos (keywordEach [] X.env)).all (fun x => x.1.isSome)
      && decide (([e2] : List Expr).length + ([] : List Keyword).length + (if ([] : List Keyword).isEmpty then 0 else 1) < 30)) = true := by rfl)
    (hline : (apos.endLine == cpos.line) = true := by rfl) (hs : starEach [e2] X.env = (false, eval e2 X.env) :: starEach [] X.env := by rfl) (hplain : (backTo cpos (starEach [] X.env)).any (·.1) = false := by rfl) :
    PE X (.Call (.Attribute e1 "append" apos) [e2] [] cpos) (rdE G E (app f g)) :=
  peI (pe_bm PySem.F.plainAttrs_list PySem.F.slot_list_append PySem.F.type_list_append mt_append ho (pa_cons ha pa_nil hs) hbase hfew hline hs hplain) fun σ H Q h => by
    obtain ⟨ι, ρ, M, st, p⟩ := h
    refine ⟨ι, ρ, M, st, (Post.bnd p).mono fun d ι1 M1 H1 x1 p1 v rv => ?_⟩
    obtain ⟨i, xs0, rfl, e0, p2⟩ := Post.lstOf p1
    cases rv with
    | @r a _ hi =>
      obtain ⟨vs0, g1, _⟩ := x1.mem.lstE hi e0
      refine ⟨.inl ⟨rfl, vs0, .of g1⟩, ι1, ρ, M1, st.ext x1, (Post.bnd p2).mono fun d2 ι2 M2 H2 x2 p3 w rw => ?_⟩
      obtain ⟨mo, e1, p4⟩ := Post.atM p3
      cases mo with
      | lst xs =>
        obtain ⟨c, p5⟩ := Post.chk p4
        have hi2 := pre_get x2.pre hi
        obtain ⟨vs, h1, h2⟩ := x2.mem.lstE hi2 e1
        refine ⟨_, vs, w, rfl, rfl, h1, ?_, ?_⟩
        · rw [h2.length, sizeLine_eq]
          exact Nat.le_of_ble_eq_true c
        · have x3 : Ext G ι2 H2 ι2 (M2.set i (.lst (xs ++ [d2]))) (upd H2 a (.lst (vs ++ [w]))) := .store x2.mem hi2 h1 rfl ⟨_, upd_same, (h2.snoc rw).mono (List.prefix_refl _) (keep_store h1 rfl)⟩
          exact p5 ι2 _ x3 _ (.g .non)
      | _ => exact p4.elim
/-! ### o[i] = v -/
def dvV (kvs : List (Int × Dv)) (k : Int) : Option Dv := match kvs with
  | [] => none
  | (j, d) :: r => (match decide (j = k) with
    | true => some d
    | false => dvV r k)
def dvR (kvs : List (Int × Dv)) (k : Int) (v : Dv) : List (Int × Dv) := match kvs with
  | [] => []
  | (j, d) :: r => (j, match decide (j = k) with
    | true => v
    | false => d) :: dvR r k v
def dvP (kvs : List (Int × Dv)) (k : Int) (v : Dv) : List (Int × Dv) := match dvV kvs k with
  | some _ => dvR kvs k v
  | none => kvs ++ [(k, v)]
def stD : Dv → Dv → Dv → Co Unit := fun o i v => bnd (ofO (asI i)) fun k => match o with
  | .r j => atM j fun mo => match mo with
    | .lst xs => bnd (ofO (ixN xs.length k)) fun n => putM j (.lst (xs.set n v))
    | .dct kvs => chk (Nat.blt kvs.length 16777216) (putM j (.dct (dvP kvs k v)))
    | _ => fl
  | _ => fl
end
section
variable {G : Gx} {E : XK} {ι : List Addr} {H : Hp} {M : Mem} {d : Dv} {v : V}
theorem RpI.valV {kws : List (Key × V)} {kvs : List (Int × Dv)} (r : RpI G ι H kws kvs) (k : Int) : match dvV kvs k with
    | some d => ∃ v, L2.valV kws (.inl k) = some v ∧ RpD G ι H v d
    | none => L2.valV kws (.inl k) = none := by
  induction r with
  | nil => exact valV_nil
  | @cons i v kws d kvs h _ ih =>
    unfold dvV
    cases e : decide (i = k) with
    | true =>
      have e2 := of_decide_eq_true e
      subst e2
      exact ⟨v, valV_pos (p := (Sum.inl i, v)) rfl, h⟩
    | false =>
      have e2 := of_decide_eq_false e
      rw [valV_neg (p := (Sum.inl i, v)) (fun z => e2 (Sum.inl.inj z))]
      exact ih
theorem RpI.snoc {kws : List (Key × V)} {kvs : List (Int × Dv)} (r : RpI G ι H kws kvs) {k : Int} (h : RpD G ι H v d) : RpI G ι H (kws ++ [(.inl k, v)]) (kvs ++ [(k, d)]) := by
  induction r with
  | nil => exact .cons h .nil
  | cons q _ ih => exact .cons q ih
theorem RpI.repl {kws : List (Key × V)} {kvs : List (Int × Dv)} (r : RpI G ι H kws kvs) {k : Int} (h : RpD G ι H v d) : RpI G ι H (kws.map fun kv => if kv.1 = .inl k then (kv.1, v) else kv) (dvR kvs k d) := by
  induction r with
  | nil => exact .nil
  | @cons i v' kws d' kvs q _ ih =>
    rw [List.map_cons]
    unfold dvR
    cases e : decide (i = k) with
    | true =>
      have e2 := of_decide_eq_true e
      subst e2
      rw [if_pos rfl]
      exact .cons h ih
    | false =>
      have e2 := of_decide_eq_false e
      rw [if_neg (fun z => e2 (Sum.inl.inj z))]
      exact .cons q ih
theorem RpI.put {kws : List (Key × V)} {kvs : List (Int × Dv)} (r : RpI G ι H kws kvs) {k : Int} (h : RpD G ι H v d) : RpI G ι H (putK kws (.inl k) v) (dvP kvs k d) := by
  have q := r.valV k
  unfold putK dvP
  rw [valV_any]
  cases e : dvV kvs k with
  | some d' =>
    rw [e] at q
    obtain ⟨v', q1, _⟩ := q
    rw [q1, if_pos (by rfl)]
    exact r.repl h
  | none =>
    rw [e] at q
    have q1 : L2.valV kws (.inl k) = none := q
    rw [q1, if_neg (by decide)]
    exact r.snoc h
end
section
variable {X : Cx} {G : Gx} {E : XK} {e e1 e2 e3 : Expr} {es : List Expr} {f g h3 : Slots → Co Dv} {gs : Slots → Co (List Dv)} {pos p : Pos}
def rSetX : TSet := fun o i v H Q => rSetL o i v H Q ∨ rSetD o i v H Q
theorem set_X (hu : X.A.units + 1 < cLine) : PSet X rSetX := fun pins s σ H o i v ov iv u Q I ro ri rv h => h.elim (set_list pins s σ H o i v ov iv u Q I ro ri rv) (set_dict hu pins s σ H o i v ov iv u Q I ro ri rv)
def tSub (f g : Slots → Co Dv) : Dv → Slots → Co Slots := fun d ρ => bnd (f ρ) fun o => bnd (g ρ) fun i => bnd (stD o i d) fun _ => rt ρ
theorem xgsub (hu : X.A.units + 1 < cLine) (ho : PE X e1 (rdE G E f)) (hi : PE X e2 (rdE G E g))
    (ha : ∀ v, assign (.Subscript e1 e2 pos) X.env v = (do
      let ov ← holding [v] (eval e1 X.env)
      let iv ← holding [v, ov] (eval e2 X.env)
      standAt pos
      holding [v, ov, iv] (setItem ov iv v)
      release [v, ov, iv] []) := by intro _; rfl) : PG X (.Subscript e1 e2 pos) (rdG G E (tSub f g)) :=
  pgI (pg_sub ho hi (set_X hu) ha) fun v σ H Q h => by
    obtain ⟨ι, ρ, M, d, st, r, p⟩ := h
    refine ⟨ι, ρ, M, st, (Post.bnd p).mono fun o ι1 M1 H1 x1 p1 ov ro => ?_⟩
    refine ⟨ι1, ρ, M1, st.ext x1, (Post.bnd p1).mono fun i ι2 M2 H2 x2 p2 iv ri => ?_⟩
    have r2 := (r.mono x1.pre x1.keep).mono x2.pre x2.keep
    have st2 := (st.ext x1).ext x2
    have p3 := Post.bnd p2
    obtain ⟨k, ek, p4⟩ := Post.ofO p3
    obtain ⟨rfl, rfl⟩ := asI_rp ri ek
    cases ro with
    | @r a j hj =>
      obtain ⟨mo, e0, p5⟩ := Post.atM p4
      have hj2 := pre_get x2.pre hj
      cases mo with
      | lst xs =>
        obtain ⟨n, en, p6⟩ := Post.ofO p5
        obtain ⟨vs, h1, h2⟩ := x2.mem.lstE hj2 e0
        refine .inl ⟨a, vs, k, n, rfl, rfl, h1, by rw [h2.length]; exact en, ?_⟩
        have x3 : Ext G ι2 H2 ι2 (M2.set j (.lst (xs.set n d))) (upd H2 a (.lst (vs.set n v))) := .store x2.mem hj2 h1 rfl ⟨_, upd_same, (h2.set r2 n).mono (List.prefix_refl _) (keep_store h1 rfl)⟩
        exact Post.rt x3.mem (p6 ι2 _ x3) σ (st2.ext x3)
      | dct kvs =>
        obtain ⟨c, p6⟩ := Post.chk p5
        obtain ⟨kws, h1, h2⟩ := x2.mem.dctE hj2 e0
        refine .inr ⟨a, _, rfl, DPut.k (k := .inl k) h1 (by rw [h2.length, sizeLine_eq]; exact Nat.le_of_ble_eq_true c), ?_⟩
        have x3 : Ext G ι2 H2 ι2 (M2.set j (.dct (dvP kvs k d))) (upd H2 a (.dK (putK kws (.inl k) v))) := .store x2.mem hj2 h1 rfl ⟨_, upd_same, (h2.put r2).mono (List.prefix_refl _) (keep_store h1 rfl)⟩
        exact Post.rt x3.mem (p6 ι2 _ x3) σ (st2.ext x3)
      | _ => exact p5.elim
    | g _ => exact p4.elim
    | t _ _ => exact p4.elim
/-! ### dicts: {}, {k: v}, get -/
def newD (kvs : List (Int × Dv)) : Co Dv := fun M => .ok (.r M.length) (M ++ [.dct kvs])
theorem xd0 : PE X (.Dict [] [] pos) (rdE G E (fun _ => newD [])) := peI pe_dnewK fun σ H Q h => by
  obtain ⟨ι, ρ, M, st, p⟩ := h
  intro a ha
  have x2 : Ext G ι H (ι ++ [a]) (M ++ [.dct []]) (upd H a (.dK [])) := .alloc st.mem ha ⟨[], upd_same, .nil⟩
  refine p _ _ x2 _ (.r ?_)
  rw [← st.mem.len]
  exact get_last _ _
/-- {k: v} -/
def dsp1 (f g : Slots → Co Dv) : Slots → Co Dv := fun ρ M => bnd (f ρ) (fun k => bnd (ofO (asI k)) fun i => bnd (g ρ) fun v => fun M' => match M'[M.length]? with
  | some (.dct []) => .ok (.r M.length) (M'.set M.length (.dct [(i, v)]))
  | _ => .fail) (M ++ [.dct []])
theorem xd1 {e1 e2 : Expr} (ha : PE X e1 (rdE G E f)) (hb : PE X e2 (rdE G E g)) : PE X (.Dict [some e1] [e2] pos) (rdE G E (dsp1 f g)) :=
  peI (pe_disp (pps_cons ha hb pps_nil) rfl rfl (by simp) (by simp)) fun σ H Q h => by
    obtain ⟨ι, ρ, M, st, p⟩ := h
    intro a ha
    have x1 : Ext G ι H (ι ++ [a]) (M ++ [.dct []]) (upd H a (.dK [])) := .alloc st.mem ha ⟨[], upd_same, .nil⟩
    have hi : (ι ++ [a])[M.length]? = some a := by
      rw [← st.mem.len]
      exact get_last _ _
    have p1 := p.shift x1
    refine ⟨ι ++ [a], ρ, _, st.ext x1, (Post.bnd (E := E) p1).mono fun d ι2 M2 H2 x2 p2 v rv => ?_⟩
    obtain ⟨i, ei, p3⟩ := Post.ofO p2
    obtain ⟨rfl, rfl⟩ := asI_rp rv ei
    refine ⟨ι2, ρ, M2, (st.ext x1).ext x2, (Post.bnd p3).mono fun d2 ι3 M3 H3 x3 p4 w rw => ?_⟩
    have hi3 := pre_get x3.pre (pre_get x2.pre hi)
    cases q : M3[M.length]? with
    | none =>
      simp only [q] at p4
      exact p4.elim
    | some mo =>
      simp only [q] at p4
      cases mo with
      | dct l =>
        cases l with
        | nil =>
          obtain ⟨kws, h1, h2⟩ := x3.mem.dctE hi3 q
          cases h2
          refine ⟨h1, [(.inl i, w)], rfl, (by show 1 ≤ 15; omega), ?_⟩
          have x4 : Ext G ι3 H3 ι3 (M3.set M.length (.dct [(i, d2)])) (upd H3 a (.dK [(.inl i, w)])) := .store x3.mem hi3 h1 rfl ⟨_, upd_same, .cons (rw.mono (List.prefix_refl _) (keep_store h1 rfl)) .nil⟩
          exact p4 ι3 _ x4 _ (.r hi3)
        | cons _ _ => exact p4.elim
      | _ => exact p4.elim
/-- an object of the memory, a dict too, becomes data -/
def grdI : List (Int × Dv) → Option (List (PyData × PyData))
  | [] => some []
  | (i, .g x) :: r => (match grdI r with
    | some l => some ((.int i, x) :: l)
    | none => none)
  | _ => none
theorem RpI.grd {ι : List Addr} {H : Hp} {kws : List (Key × V)} {kvs : List (Int × Dv)} (r : RpI G ι H kws kvs) : ∀ {l : List (PyData × PyData)}, grdI kvs = some l → RpKs G.K H kws l := by
  induction r with
  | nil =>
    intro l e
    cases e
    exact .nil
  | @cons i v kws d kvs h _ ih =>
    intro l e
    cases d with
    | g x =>
      unfold grdI at e
      cases q : grdI kvs with
      | none =>
        rw [q] at e
        cases e
      | some l' =>
        rw [q] at e
        cases e
        cases h with
        | g h => exact .cons h (ih q)
    | _ => cases e
def frZ : Dv → Co Dv := fun d => match d with
  | .r i => atM i fun mo => match mo with
    | .lst ds => bnd (ofO (grd ds)) fun xs => fun M => .ok (.g (.list xs)) (M.set i .dead)
    | .dct kvs => bnd (ofO (grdI kvs)) fun xs => fun M => .ok (.g (.dict xs)) (M.set i .dead)
    | _ => fl
  | d => rt d
theorem xfrZ {e : Expr} (h : PE X e (rdE G E f)) : PE X e (rdE G E (b1 frZ f)) :=
  peI (pe_frz h) fun σ H Q h => by
    obtain ⟨ι, ρ, M, st, p⟩ := h
    refine ⟨ι, ρ, M, st, (Post.bnd p).mono fun d ι1 M1 H1 x1 p1 v rv => ?_⟩
    cases rv with
    | g rv => exact .inl (p1 ι1 H1 (.refl x1.mem) _ (.g rv))
    | t h r => exact .inl (p1 ι1 H1 (.refl x1.mem) _ (.t h r))
    | @r a i hi =>
      obtain ⟨mo, e, p2⟩ := Post.atM p1
      cases mo with
      | lst ds =>
        obtain ⟨xs, q, p3⟩ := Post.ofO p2
        obtain ⟨vs, h1, h2⟩ := x1.mem.lstE hi e
        refine .inr ⟨a, _, rfl, h1, trivial, fun od => ?_⟩
        have x2 : Ext G ι1 H1 ι1 (M1.set i .dead) (upd H1 a (.frz od (.lst vs))) := .store x1.mem hi h1 rfl ⟨_, upd_same, rfl⟩
        exact p3 _ _ x2 _ (.g (.lst (.inl ⟨od, upd_same⟩) ((h2.grd q).mono x2.keep)))
      | dct kvs =>
        obtain ⟨xs, q, p3⟩ := Post.ofO p2
        obtain ⟨kws, h1, h2⟩ := x1.mem.dctE hi e
        refine .inr ⟨a, _, rfl, h1, trivial, fun od => ?_⟩
        have x2 : Ext G ι1 H1 ι1 (M1.set i .dead) (upd H1 a (.frz od (.dK kws))) := .store x1.mem hi h1 rfl ⟨_, upd_same, rfl⟩
        exact p3 _ _ x2 _ (.g (.dct upd_same ((h2.grd q).mono x2.keep)))
      | _ => exact p2.elim
/-- o.get(k, d) -/
def dgt (f g h3 : Slots → Co Dv) : Slots → Co Dv := fun ρ => bnd (f ρ) fun d => bnd (dctOf d) fun i => bnd (g ρ) fun k => bnd (h3 ρ) fun z => bnd (ofO (asI k)) fun n => atM i fun mo => match mo with
  | .dct kvs => rt ((dvV kvs n).getD z)
  | _ => fl
theorem xget {apos cpos : Pos} (hu : X.A.units + 1 < cLine) (ho : PE X e1 (rdE G E f)) (ha : PE X e2 (rdE G E g)) (hb : PE X e3 (rdE G E h3)) (m : M2 X e1 "get" apos e2 e3 cpos := by exact ⟨rfl, rfl, rfl, rfl⟩) :
    PE X (.Call (.Attribute e1 "get" apos) [e2, e3] [] cpos) (rdE G E (dgt f g h3)) :=
  peI (pe_dget2 hu ho ha hb m) fun σ H Q h => by
    obtain ⟨ι, ρ, M, st, p⟩ := h
    refine ⟨ι, ρ, M, st, (Post.bnd p).mono fun d ι1 M1 H1 x1 p1 v rv => ?_⟩
    obtain ⟨i, xs0, rfl, e0, p2⟩ := Post.dctOf p1
    cases rv with
    | @r a _ hi =>
      obtain ⟨kw0, g1, _⟩ := x1.mem.dctE hi e0
      refine ⟨a, rfl, .inl ⟨kw0, .inl g1⟩, ι1, ρ, M1, st.ext x1, (Post.bnd p2).mono fun k ι2 M2 H2 x2 p3 kv rk => ?_⟩
      refine ⟨ι2, ρ, M2, (st.ext x1).ext x2, (Post.bnd p3).mono fun z ι3 M3 H3 x3 p4 zv rz => ?_⟩
      obtain ⟨n, en, p5⟩ := Post.ofO p4
      obtain ⟨rfl, rfl⟩ := asI_rp rk en
      obtain ⟨mo, e1, p6⟩ := Post.atM p5
      cases mo with
      | dct kvs =>
        have hi3 := pre_get x3.pre (pre_get x2.pre hi)
        obtain ⟨kws, h1, h2⟩ := x3.mem.dctE hi3 e1
        refine ⟨_, DGet.k (k := .inl n) h1, ?_⟩
        have q := h2.valV n
        have p6 : Post G E ι3 H3 (QE G Q) (rt ((dvV kvs n).getD z) M3) := p6
        cases e5 : dvV kvs n with
        | none =>
          rw [e5] at q p6
          have q1 : valV kws (.inl n) = none := q
          rw [q1]
          exact Post.rt x3.mem p6 _ rz
        | some d5 =>
          rw [e5] at q p6
          obtain ⟨w, q1, q2⟩ := q
          rw [q1]
          exact Post.rt x3.mem p6 _ q2
      | _ => exact p6.elim
end
end Xt
set_option Elab.async false
set_option linter.all false
set_option maxRecDepth 100000
set_option maxHeartbeats 1000000
namespace Xt
open PySem PySem.Spec PyProof.Rows L2
/-! ### built-in functions -/
def un1 (f : Int → Option Int) : List Dv → Co Dv := fun ds => match ds with
  | [d] => bnd (ofO (asI d)) fun i => bnd (ofO (f i)) fun z => rt (dI z)
  | _ => fl
def bi2 (f : Int → Int → Option Int) : List Dv → Co Dv := fun ds => match ds with
  | [d, e] => bnd (ofO (asI d)) fun i => bnd (ofO (asI e)) fun j => bnd (ofO (f i j)) fun z => rt (dI z)
  | _ => fl
section
variable {G : Gx} {E : XK} {r : List V → Hp → VK → Prop}
theorem cs_un1 {f : Int → Option Int} (h : ∀ i z H Q, f i = some z → Q (.int z) H → r [.int i] H Q) : CaS G E r (un1 f) := fun ι M H xs ds Q m rr p => by
  cases rr with
  | nil => exact p.elim
  | cons r1 t =>
    cases t with
    | cons _ _ => exact p.elim
    | nil =>
      obtain ⟨i, e, p⟩ := Post.ofO p
      obtain ⟨rfl, rfl⟩ := asI_rp r1 e
      obtain ⟨z, ez, p⟩ := Post.ofO p
      exact h i z H Q ez (Post.rt m p _ rpI)
theorem cs_bi2 {f : Int → Int → Option Int} (h : ∀ i j z H Q, f i j = some z → Q (.int z) H → r [.int i, .int j] H Q) : CaS G E r (bi2 f) := fun ι M H xs ds Q m rr p => by
  cases rr with
  | nil => exact p.elim
  | cons r1 t =>
    cases t with
    | nil => exact p.elim
    | cons r2 t =>
      cases t with
      | cons _ _ => exact p.elim
      | nil =>
        obtain ⟨i, e, p⟩ := Post.ofO p
        obtain ⟨rfl, rfl⟩ := asI_rp r1 e
        obtain ⟨j, e, p⟩ := Post.ofO p
        obtain ⟨rfl, rfl⟩ := asI_rp r2 e
        obtain ⟨z, ez, p⟩ := Post.ofO p
        exact h i j z H Q ez (Post.rt m p _ rpI)
abbrev absD := un1 fun i => some (match decide (i < 0) with | true => -i | false => i)
theorem cs_abs : CaS G E (fun xs H Q => ∃ i, xs = [.int i] ∧ Q (.int (if i < 0 then -i else i)) H) absD := cs_un1 fun i z H Q e q => ⟨i, rfl, by
  cases e
  by_cases h : i < 0
  · rw [decide_eq_true h] at q
    rw [if_pos h]
    exact q
  · rw [decide_eq_false h] at q
    rw [if_neg h]
    exact q⟩
abbrev max2D := bi2 fun i j => some (match decide (j > i) with | true => j | false => i)
theorem cs_max2 : CaS G E (fun xs H Q => ∃ i j, xs = [.int i, .int j] ∧ Q (.int (if j > i then j else i)) H) max2D := cs_bi2 fun i j z H Q e q => ⟨i, j, rfl, by
  cases e
  by_cases h : j > i
  · rw [decide_eq_true h] at q
    rw [if_pos h]
    exact q
  · rw [decide_eq_false h] at q
    rw [if_neg h]
    exact q⟩
abbrev min2D := bi2 fun i j => some (match decide (j < i) with | true => j | false => i)
theorem cs_min2 : CaS G E (fun xs H Q => ∃ i j, xs = [.int i, .int j] ∧ Q (.int (if j < i then j else i)) H) min2D := cs_bi2 fun i j z H Q e q => ⟨i, j, rfl, by
  cases e
  by_cases h : j < i
  · rw [decide_eq_true h] at q
    rw [if_pos h]
    exact q
  · rw [decide_eq_false h] at q
    rw [if_neg h]
    exact q⟩
abbrev intD := un1 fun i => some i
theorem cs_int : CaS G E (fun xs H Q => (∃ i, xs = [.int i] ∧ Q (.int i) H) ∨ ∃ k, xs = [.bl k] ∧ Q (.int (if k then 1 else 0)) H) intD := cs_un1 fun i z H Q e q => .inl ⟨i, rfl, by
  cases e
  exact q⟩
abbrev gcdD := bi2 fun i j => some ((Nat.gcd i.natAbs j.natAbs : Nat) : Int)
theorem cs_gcd : CaS G E rGcd gcdD := cs_bi2 fun i j z H Q e q => ⟨i, j, rfl, by
  cases e
  exact q⟩
/-- math.comb, math.factorial -/
def rComb : List V → Hp → VK → Prop := fun vs H Q => ∃ a b : Int, vs = [.int a, .int b] ∧ 0 ≤ a ∧ 0 ≤ b ∧ a < 9000 ∧ Q (.int (PySem.W.mcComb a b)) H
def rFact : List V → Hp → VK → Prop := fun vs H Q => ∃ a : Int, vs = [.int a] ∧ 0 ≤ a ∧ a ≤ 9000 ∧ Q (.int ((Builtin.Math.factorialNat a.toNat : Nat) : Int)) H
def combD := bi2 fun i j => match decide (0 ≤ i) && (decide (0 ≤ j) && decide (i < 9000)) with
  | true => some (PySem.W.mcComb i j)
  | false => none
def factD := un1 fun i => match decide (0 ≤ i) && decide (i ≤ 9000) with
  | true => some ((Builtin.Math.factorialNat i.toNat : Nat) : Int)
  | false => none
theorem cs_comb : CaS G E rComb combD := cs_bi2 fun i j z H Q e q => by
  cases c : decide (0 ≤ i) && (decide (0 ≤ j) && decide (i < 9000)) with
  | false =>
    rw [c] at e
    cases e
  | true =>
    rw [c] at e
    cases e
    obtain ⟨c1, c2⟩ := Bool.and_eq_true_iff.mp c
    obtain ⟨c2, c3⟩ := Bool.and_eq_true_iff.mp c2
    exact ⟨i, j, rfl, of_decide_eq_true c1, of_decide_eq_true c2, of_decide_eq_true c3, q⟩
theorem cs_fact : CaS G E rFact factD := cs_un1 fun i z H Q e q => by
  cases c : decide (0 ≤ i) && decide (i ≤ 9000) with
  | false =>
    rw [c] at e
    cases e
  | true =>
    rw [c] at e
    cases e
    obtain ⟨c1, c2⟩ := Bool.and_eq_true_iff.mp c
    exact ⟨i, rfl, of_decide_eq_true c1, of_decide_eq_true c2, q⟩
end
section
variable {X : Cx}
theorem cr_comb : CallR X (.builtin "math.comb") rComb := by
  intro pins s σ H vs us Q I r h
  obtain ⟨a, b, rfl, h1, h2, h3, q⟩ := h
  obtain ⟨t, u, rfl⟩ := Vals.int2 r
  exact PySem.W.mc_comb h1 h2 (by omega) (.inr (by omega)) fun _ => ⟨.int _, H, I.tok _, ⟨_, rfl⟩, q⟩
theorem cr_fact : CallR X (.builtin "math.factorial") rFact := by
  intro pins s σ H vs us Q I r h
  obtain ⟨a, rfl, h1, h2, q⟩ := h
  cases r with
  | cons r t =>
    cases t
    obtain ⟨t, rfl⟩ := r
    exact PySem.W.mc_factorial h1 (by omega) fun _ => ⟨.int _, H, I.tok _, ⟨_, rfl⟩, q⟩
end
/-! ### -e, sum(list), tuple(list) -/
section
variable {G : Gx} {E : XK} {ι : List Addr} {H : Hp} {M : Mem} {d : Dv} {v : V}
def intsP : List PyData → Option (List Int)
  | [] => some []
  | .int i :: r => (match intsP r with
    | some l => some (i :: l)
    | none => none)
  | _ => none
theorem intsP_rp {K : PySem.W.Frag} : ∀ {vs : List V} {ds : List PyData} {l : List Int}, RpVs K H vs ds → intsP ds = some l → vs = l.map V.int
  | _, [], l, .nil, e => by
    cases e
    rfl
  | _, d :: ds, l, .cons h r, e => by
    cases d with
    | int i =>
      unfold intsP at e
      cases q : intsP ds with
      | none =>
        rw [q] at e
        cases e
      | some l' =>
        rw [q] at e
        cases e
        cases h
        rw [intsP_rp r q]
        rfl
    | _ => cases e
/-- the items of a list (locked, or in the memory) -/
def lstG' (d : Dv) : Co (List PyData) := bnd (asG d) fun x => match x with
  | .list xs => rt xs
  | _ => fl
def sumL : List Dv → Co Dv := fun ds => match ds with
  | [d] => bnd (asG d) fun x => match x with
    | .list xs => bnd (ofO (intsP xs)) fun l => rt (dI l.sum)
    | _ => fl
  | _ => fl
theorem cs_sum : CaS G E (rSum G.K) sumL := fun ι M H xs ds Q m rr p => by
  cases rr with
  | nil => exact p.elim
  | cons r1 t =>
    cases t with
    | cons _ _ => exact p.elim
    | nil =>
      obtain ⟨x, e, p⟩ := Post.asGe p
      cases x with
      | list ys =>
        obtain ⟨l, el, p⟩ := Post.ofO p
        obtain ⟨a, vs, rfl, h1, h2⟩ := asG_lst m r1 e
        rw [intsP_rp h2 el] at h1
        exact ⟨a, l, rfl, h1, Post.rt m p _ rpI⟩
      | _ => exact p.elim
def tupL : List Dv → Co Dv := fun ds => match ds with
  | [.g (.tuple xs)] => rt (.g (.tuple xs))
  | [.g (.list xs)] => rt (.g (.tuple xs))
  | [.r i] => atM i fun mo => match mo with
    | .lst xs => rt (mkT xs)
    | _ => fl
  | _ => fl
def rTup (K : PySem.W.Frag) : List V → Hp → VK → Prop := fun xs H Q => ∃ p ys, xs = [.ref p] ∧ ((SqL K H p ys ∧ ∀ l, H l = none → Q (.ref l) (upd H l (.tup ys))) ∨ (SqT K H p ys ∧ Q (.ref p) H))
theorem cs_tup : CaS G E (rTup G.K) tupL := fun ι M H xs ds Q m rr p => by
  cases rr with
  | nil => exact p.elim
  | cons r1 t =>
    cases t with
    | cons _ _ => cases r1 with
      | g r => cases r <;> exact p.elim
      | _ => exact p.elim
    | nil =>
      cases r1 with
      | g r =>
        cases r with
        | @tup a vs xs h r => exact ⟨_, _, rfl, .inr ⟨.of h, Post.rt m p _ (.g (.tup h r))⟩⟩
        | @lst a vs xs h r =>
          refine ⟨_, _, rfl, .inl ⟨h.sq, fun l hl => ?_⟩⟩
          have x2 : Ext G ι H ι M (upd H l (.tup vs)) := .new m hl
          exact Post.rt x2.mem (p.shift x2) _ (.g (.tup upd_same (r.mono x2.keep)))
        | _ => exact p.elim
      | @r a i hi =>
        obtain ⟨mo, e, p2⟩ := Post.atM p
        cases mo with
        | lst xs =>
          obtain ⟨vs, h1, h2⟩ := m.lstE hi e
          refine ⟨_, _, rfl, .inl ⟨.of h1, fun l hl => ?_⟩⟩
          have x2 : Ext G ι H ι M (upd H l (.tup vs)) := .new m hl
          exact Post.rt x2.mem (p2.shift x2) _ (mkT_rp upd_same (h2.mono x2.pre x2.keep))
        | _ => exact p2.elim
      | t h r => exact p.elim
end
section
variable {X : Cx} {G : Gx} {E : XK} {e : Expr} {f : Slots → Co Dv} {pos : Pos}
def ngD : Dv → Co Dv := fun d => bnd (ofO (asI d)) fun i => rt (dI (-i))
theorem xneg (ha : PE X e (rdE G E f)) : PE X (.UnaryOp .USub e pos) (rdE G E (b1 ngD f)) :=
  peI (pe_un un_neg ha) fun σ H Q h => by
    obtain ⟨ι, ρ, M, st, p⟩ := h
    refine ⟨ι, ρ, M, st, (Post.bnd p).mono fun d ι1 M1 H1 x1 p1 v rv => ?_⟩
    obtain ⟨i, e, p2⟩ := Post.ofO p1
    obtain ⟨rfl, rfl⟩ := asI_rp rv e
    exact ⟨i, rfl, Post.rt x1.mem p2 _ rpI⟩
/-! ### isinstance -/
def kn : PyData → String
  | .none => "NoneType"
  | .bool _ => "bool"
  | .int _ => "int"
  | .str _ => "str"
  | .list _ => "list"
  | .tuple _ => "tuple"
  | .dict _ => "dict"
/-- the type's name -/
def knD : Dv → Co String := fun d => match d with
  | .g x => rt (kn x)
  | .t _ => rt "tuple"
  | .r i => atM i fun mo => match mo with
    | .lst _ => rt "list"
    | .dct _ => rt "dict"
    | _ => fl
  | .u => fl
def kns : List String := ["NoneType", "bool", "int", "str", "list", "tuple", "dict"]
theorem kn_mem (x : PyData) : kn x ∈ kns := by cases x <;> simp [kn, kns]
/-- is a value of the type a one of the type T? -/
def isTy (T a : String) : Bool := a == T || (a == "bool" && T == "int")
def okTy (T : String) : Prop := ∀ a ∈ kns, kitB a T = some (isTy T a)
theorem ok_int : okTy "int" := by unfold okTy; decide +kernel
theorem ok_bool : okTy "bool" := by unfold okTy; decide +kernel
theorem ok_tuple : okTy "tuple" := by unfold okTy; decide +kernel
theorem ok_list : okTy "list" := by unfold okTy; decide +kernel
theorem ok_str : okTy "str" := by unfold okTy; decide +kernel
theorem ok_dict : okTy "dict" := by unfold okTy; decide +kernel
theorem knD_rp {K : PySem.W.Frag} {ι : List Addr} {H : Hp} {M : Mem} {v : V} {d : Dv} {a : String} (hK : K = G.K) (m : MemR G ι H M) (r : RpD G ι H v d) (e : knD d M = .ok a M) : TyX K H v (.type a) ∧ a ∈ kns := by
  subst hK
  cases r with
  | g r =>
    cases e
    refine ⟨?_, kn_mem _⟩
    cases r with
    | non => exact .base .non
    | bl b => exact .base (.bl b)
    | int i => exact .base (.int i)
    | str x => exact .base (.str x)
    | lst h r =>
      rcases h with ⟨o, h⟩ | ⟨o, its, n, h1, h2, _⟩
      · exact .base (.frz h)
      · exact .kList h1 h2
    | tup h r => exact .base (.tup h)
    | dct h r => exact .fDict h
  | @r x i hi =>
    unfold knD atM at e
    cases q : M[i]? with
    | none =>
      simp only [q] at e
      cases e
    | some mo =>
      simp only [q] at e
      cases mo with
      | lst xs =>
        cases e
        obtain ⟨vs, h1, _⟩ := m.lstE hi q
        exact ⟨.base (.lst h1), by simp [kns]⟩
      | dct xs =>
        cases e
        obtain ⟨vs, h1, _⟩ := m.dctE hi q
        exact ⟨.base (.dK h1), by simp [kns]⟩
      | _ => cases e
  | t h r =>
    cases e
    exact ⟨.base (.tup h), by simp [kns]⟩
theorem knD_ok {d : Dv} {M : Mem} : knD d M = .fail ∨ ∃ a, knD d M = .ok a M := by
  cases d with
  | g x => exact .inr ⟨_, rfl⟩
  | t xs => exact .inr ⟨_, rfl⟩
  | u => exact .inl rfl
  | r i =>
    show atM i _ M = _ ∨ ∃ a, atM i _ M = _
    unfold atM
    cases q : M[i]? with
    | none => exact .inl rfl
    | some mo =>
      cases mo with
      | lst xs => exact .inr ⟨_, rfl⟩
      | dct xs => exact .inr ⟨_, rfl⟩
      | _ => exact .inl rfl
def isi (T : String) (f : Slots → Co Dv) : Slots → Co Dv := fun ρ => bnd (f ρ) fun d => bnd (knD d) fun a => rt (vB (isTy T a))
theorem xisi {T : String} {x : Str} {p p2 : Pos} (hK : X.K = G.K) (hT : okTy T) (hv : bootBuiltins x = some (.type T)) (hmx : X.mg x = none) (hgx : Gl X x) (hg : Gl X "isinstance") (hm : X.mg "isinstance" = none) (he : PE X e (rdE G E f)) (hn : x ≠ "__name__" := by decide) (hd : (x == ("__debug__" : Str)) = false := by decide)
    (hs1 : starEach [e, .Name x p2] X.env = (false, eval e X.env) :: starEach [.Name x p2] X.env := by rfl) (hs2 : starEach [.Name x p2] X.env = (false, eval (.Name x p2) X.env) :: starEach [] X.env := by rfl) (hpl : (backTo pos (starEach [.Name x p2] X.env)).any (·.1) = false := by rfl) :
    PE X (.Call (.Name "isinstance" p) [e, .Name x p2] [] pos) (rdE G E (isi T f)) :=
  peI (pe_callB call_isi hg hm (show bootBuiltins "isinstance" = some (.builtin "isinstance") from rfl) (pa_cons he (pa_cons (pe_bltn (v := .ty T) hgx hmx hv rfl hn hd) pa_nil hs2) hs1) (by decide) (by decide) hs1 hpl) fun σ H Q h => by
    obtain ⟨ι, ρ, M, st, p⟩ := h
    refine ⟨ι, ρ, M, st, (Post.bnd p).mono fun d ι1 M1 H1 x1 p1 v rv => ?_⟩
    rcases knD_ok (d := d) (M := M1) with q | ⟨a, q⟩
    · have p2 := Post.bnd p1
      rw [q] at p2
      exact p2.elim
    · obtain ⟨t1, t2⟩ := knD_rp hK x1.mem rv q
      have p2 := Post.bnd p1
      rw [q] at p2
      exact ⟨v, .ty T, .type a, .type T, isTy T a, rfl, .ty T, t1, kit_ty (hT a t2), Post.rt x1.mem (p2 ι1 H1 (.refl x1.mem)) _ rpB⟩
/-- isinstance(x, (T, U)) -/
def isi2 (T U : String) (f : Slots → Co Dv) : Slots → Co Dv := fun ρ => bnd (f ρ) fun d => bnd (knD d) fun a => rt (vB (isTy T a || isTy U a))
theorem xisi2 {T U : String} {x y : Str} {p p2 p3 p4 : Pos} {kk} (hK : X.K = G.K) (hT : okTy T) (hU : okTy U) (hv : bootBuiltins x = some (.type T)) (hw : bootBuiltins y = some (.type U)) (hmx : X.mg x = none) (hmy : X.mg y = none) (hgx : Gl X x) (hgy : Gl X y) (hg : Gl X "isinstance") (hm : X.mg "isinstance" = none) (he : PE X e (rdE G E f))
    (hn : x ≠ "__name__" := by decide) (hd : (x == ("__debug__" : Str)) = false := by decide) (hn2 : y ≠ "__name__" := by decide) (hd2 : (y == ("__debug__" : Str)) = false := by decide)
    (hs1 : starEach [e, .Tuple [.Name x p2, .Name y p3] kk p4] X.env = (false, eval e X.env) :: starEach [.Tuple [.Name x p2, .Name y p3] kk p4] X.env := by rfl) (hs2 : starEach [.Tuple [.Name x p2, .Name y p3] kk p4] X.env = (false, eval (.Tuple [.Name x p2, .Name y p3] kk p4) X.env) :: starEach [] X.env := by rfl) (hpl : (backTo pos (starEach [.Tuple [.Name x p2, .Name y p3] kk p4] X.env)).any (·.1) = false := by rfl)
    (hs3 : starEach [.Name x p2, .Name y p3] X.env = (false, eval (.Name x p2) X.env) :: starEach [.Name y p3] X.env := by rfl) (hs4 : starEach [.Name y p3] X.env = (false, eval (.Name y p3) X.env) :: starEach [] X.env := by rfl) :
    PE X (.Call (.Name "isinstance" p) [e, .Tuple [.Name x p2, .Name y p3] kk p4] [] pos) (rdE G E (isi2 T U f)) :=
  peI (pe_callB call_isiT hg hm (show bootBuiltins "isinstance" = some (.builtin "isinstance") from rfl) (pa_cons he (pa_cons (pe_tup (pa_cons (pe_bltn (v := .ty T) hgx hmx hv rfl hn hd) (pa_cons (pe_bltn (v := .ty U) hgy hmy hw rfl hn2 hd2) pa_nil hs4) hs3)) pa_nil hs2) hs1) (by decide) (by decide) hs1 hpl) fun σ H Q h => by
    obtain ⟨ι, ρ, M, st, p⟩ := h
    refine ⟨ι, ρ, M, st, (Post.bnd p).mono fun d ι1 M1 H1 x1 p1 v rv => ?_⟩
    rcases knD_ok (d := d) (M := M1) with q | ⟨a, q⟩
    · have p2 := Post.bnd p1
      rw [q] at p2
      exact p2.elim
    · refine ⟨(by rw [sizeLine_eq]; show 2 ≤ 16777216; omega), fun tp htp => ?_⟩
      have x2 : Ext G ι1 H1 ι1 M1 (upd H1 tp (.tup [.ty T, .ty U])) := .new x1.mem htp
      obtain ⟨t1, t2⟩ := knD_rp hK x2.mem (rv.mono x2.pre x2.keep) q
      have p2 := Post.bnd p1
      rw [q] at p2
      refine ⟨v, tp, [.ty T, .ty U], .type a, [.type T, .type U], (isTy T a || isTy U a), rfl, upd_same, .cons (.ty T) (.cons (.ty U) .nil), t1, kitAny_cons (kit_ty (hT a t2)) (fun z => ?_) (fun z => by rw [z]; rfl), Post.rt x2.mem (p2 ι1 _ x2) _ rpB⟩
      rw [z, Bool.false_or]
      refine kitAny_cons (kit_ty (hU a t2)) (fun w => ?_) (fun w => w)
      rw [w]
      exact kitAny_nil
end
end Xt
set_option Elab.async false
set_option linter.all false
set_option maxRecDepth 100000
set_option maxHeartbeats 1000000
namespace Xt
open PySem PySem.Spec PyProof.Rows L2
/-! ### name = [..] -/
section
variable {X : Cx} {G : Gx} {E : XK} {pos p : Pos} {tg : Expr}
/-- a list made by a statement may be locked behind it -/
theorem rd_lcs {i : Nat} {src : Slots → Co (List Dv)} {tf : Dv → Slots → Co Slots} {tt : Slots → Co Bool} {te : Slots → Co Dv} {g : TG} {t : TT} {own : List Nat} (hg : TgS G E0 own g tf) (ht : PtS G E0 t tt) {σ : L2.St} {H : Hp} {D : Ends} (h : rdS G E (asg (lcX own src tf tt te) (tN i)) D σ H) :
    tLc (rdI G E src) g t (rdE G E0 te) own σ H (VF fun v H' => D.nx (σ.set i (some v)) H') := by
  obtain ⟨ι, ρ, M, st, p⟩ := h
  refine rd_lc hg ht ⟨ι, ρ, M, st, (Post.bnd p).mono fun d ι1 M1 H1 x1 p1 v rv => ?_⟩
  exact Post.rt x1.mem (Post.rt x1.mem (Post.bnd p1)) _ ((st.ext x1).set i rv)
theorem tLc_mono {src : Slots → Co (List Dv)} {g : TG} {t : TT} {te : TE} {own : List Nat} {σ : L2.St} {H : Hp} {Q Q' : VK} (h : tLc (rdI G E src) g t te own σ H Q) (k : ∀ v H, Q v H → Q' v H) : tLc (rdI G E src) g t te own σ H Q' := by
  obtain ⟨ι, ρ, M, st, p⟩ := h
  refine ⟨ι, ρ, M, st, p.mono fun ds ι1 M1 H1 x1 q J wk D hD => ?_⟩
  obtain ⟨W, w0, turn⟩ := q J wk D hD
  exact ⟨W, w0, fun i m H w => (turn i m H w).imp (fun z => ⟨z.1, k _ _ z.2⟩) id⟩
/-- name = [..] on one line, the name a plain local: the list is locked -/
theorem xsetlc {i : Nat} {y : Str} {py : Pos} {elt iter : Expr} {ifs : List Expr} {scope : Scope} {spos : Pos} {own : List (Str × Nat)} {src : Slots → Co (List Dv)} {tf : Dv → Slots → Co Slots} {tt : Slots → Co Bool} {te : Slots → Co Dv} {g : TG} {t : TT} (hc : X.calm = true) (hN : X.N.Nodup) (hy : X.N[i]? = some y) (hyl : X.env.scope.names.lookup y = some .local)
    (hsw : swapsWith (.ListComp elt [⟨tg, iter, ifs, 0⟩] scope pos) (some (.Name y py)) spos.line X.env = pure true) (hi : PI X tg iter (rdI G E src)) (ok : BlkOk X.N X.env.scope scope own)
    (tg_ : TgS G E0 (own.map (·.2)) g tf) (pt_ : PtS G E0 t tt) (hg : ∀ (s : Shared) (H : Hp) (C : Addr) (cl : List (Str × Addr)) (fp : List Addr), PG (X.blk s H scope (compEnvC scope cl C X.env) fp) tg g) (ht : ∀ (s : Shared) (H : Hp) (C : Addr) (cl : List (Str × Addr)) (fp : List Addr), PTs (X.blk s H scope (compEnvC scope cl C X.env) fp) ifs t)
    (he : ∀ (s : Shared) (H : Hp) (C : Addr) (cl : List (Str × Addr)) (fp : List Addr), PE (X.blk s H scope (compEnvC scope cl C X.env) fp) elt (rdE G E0 te)) (hs : ∀ x, foldedSetIterable iter X.env x = pure x := by intro _; rfl) :
    PS X (.Assign [.Name y py] (.ListComp elt [⟨tg, iter, ifs, 0⟩] scope pos) spos) (rdS G E (asg (lcX (own.map (·.2)) src tf tt te) (tN i))) := by
  refine ⟨fun pins s σ H D I z => ?_⟩
  have z1 := rd_lcs tg_ pt_ z
  refine thn ((ps_setLc hc hN hy hyl hsw hi ok hg ht he hs).run pins s σ H { D with nx := fun σ' H' => ∃ v, σ' = σ.set i (some v) ∧ VF (fun v H' => D.nx (σ.set i (some v)) H') v H' } I (tLc_mono z1 fun v H' q => ⟨v, rfl, q⟩)) fun f s1 q => ?_
  cases f with
  | next =>
    obtain ⟨σ1, H1, I1, v, rfl, q⟩ := q
    rcases q with q | ⟨d, u, rfl, hd, mu, q⟩
    · exact ⟨_, H1, I1, q⟩
    · obtain ⟨od, I2⟩ := I1.lock hd mu
      exact ⟨_, _, I2, q od⟩
  | brk => exact q
  | cont => exact q
  | ret u => exact q
end
/-! ### sorted(d.items()): int keys, int values -/
/-- a context in a built-in's around -/
def inX (X : Cx) : Cx := { X with A := X.A.in1 }
theorem Inv.inX {X : Cx} {pins : List (Addr × Obj)} {σ : L2.St} {H : Hp} {s : Shared} (I : Inv X pins σ H s) : Inv (Xt.inX X) pins σ H s :=
  ⟨⟨I.ok.mod, I.ok.kind, I.ok.glob, I.ok.blt, I.ok.above, I.ok.inj, I.ok.has, I.ok.cab, I.ok.hd, I.ok.frames, I.ok.stk, I.ok.exf, I.ok.bs, I.ok.bsz, I.ok.noex, I.ok.exfs, I.ok.funs, I.ok.frf⟩, I.os, I.bare, I.base, I.loc, I.cell, I.free, I.freeC, I.pin, I.hok, I.len⟩
theorem Inv.outX {X : Cx} {pins : List (Addr × Obj)} {σ : L2.St} {H : Hp} {s : Shared} (I : Inv (Xt.inX X) pins σ H s) : Inv X pins σ H s :=
  ⟨⟨I.ok.mod, I.ok.kind, I.ok.glob, I.ok.blt, I.ok.above, I.ok.inj, I.ok.has, I.ok.cab, I.ok.hd, I.ok.frames, I.ok.stk, I.ok.exf, I.ok.bs, I.ok.bsz, I.ok.noex, I.ok.exfs, I.ok.funs, I.ok.frf⟩, I.os, I.bare, I.base, I.loc, I.cell, I.free, I.freeC, I.pin, I.hok, I.len⟩
section
variable {X : Cx}
/-- the pairs by their ints -/
def entI (e : Int × Int) : Key × V := (.inl e.1, .int e.2)
def pk (e : Int × Int) : List V := [.int e.1, .int e.2]
/-- d.items() of a locked dict -/
def rItemsF : V → List V → Hp → VK → Prop := fun x xs H Q => ∃ (a : Addr) (o : Obj) (kvs : List (Key × V)), x = .ref a ∧ xs = [] ∧ H a = some (.frz o (.dK kvs)) ∧ ∀ p, H p = none → Q (.ref p) (upd H p (DX.itemsO p a))
theorem mt_itemsF : MtR X "dict.items" rItemsF := by
  intro pins s σ H x xs v us Q I rx rxs h
  obtain ⟨a, ob, kvs, rfl, rfl, ha, q⟩ := h
  cases rx
  cases rxs
  obtain ⟨z, hd, vs, rel, o, es, ep, ho, hx, hdat, _⟩ := dk_rd I.hok (.inr ⟨ob, ha⟩)
  refine DT.callItems (es := es) (ep := ep) hd ⟨o, ho, hx, hdat⟩ ?_
  have hf : H s.heap.objs.size = none := I.hok.fresh (Nat.le_refl _)
  exact ⟨.ref s.heap.objs.size, upd H s.heap.objs.size (DX.itemsO s.heap.objs.size a), I.laid (t' := s.toks) (fun b u e => Heap.get?_push_of_some _ e) (Nat.le_refl _) (DX.itemsO_ok (Heap.get?_push_size _ rfl)), rfl, q _ hf⟩
end
end Xt
set_option Elab.async false
set_option linter.all false
set_option maxRecDepth 100000
set_option maxHeartbeats 1000000
namespace Xt
open PySem PySem.Spec PyProof.Rows L2
/-! ### pairs of ints in order -/
def insP (e : Int × Int) : List (Int × Int) → List (Int × Int)
  | [] => [e]
  | x :: r => (match SrtO.lexB x e with
    | true => x :: insP e r
    | false => e :: x :: r)
def sortP : List (Int × Int) → List (Int × Int)
  | [] => []
  | e :: r => insP e (sortP r)
theorem insP_perm (e : Int × Int) : ∀ l, (insP e l).Perm (e :: l)
  | [] => List.Perm.refl _
  | x :: r => by
    unfold insP
    cases SrtO.lexB x e with
    | true => exact ((insP_perm e r).cons x).trans (List.Perm.swap e x r)
    | false => exact List.Perm.refl _
theorem sortP_perm : ∀ l, (sortP l).Perm l
  | [] => List.Perm.refl _
  | e :: r => (insP_perm e (sortP r)).trans ((sortP_perm r).cons e)
theorem lex_tr {a b c : Int × Int} (h1 : SrtO.lexB b a = false) (h2 : SrtO.lexB c b = false) : SrtO.lexB c a = false := by
  have x := SrtO.lexB_no.mp h1
  have y := SrtO.lexB_no.mp h2
  refine SrtO.lexB_no.mpr ?_
  omega
theorem lex_as {a b : Int × Int} (h : SrtO.lexB a b = true) : SrtO.lexB b a = false := by
  have x := SrtO.lexB_iff.mp h
  refine SrtO.lexB_no.mpr ?_
  omega
theorem insP_srtd (e : Int × Int) : ∀ {l}, SrtO.Srtd SrtO.lexB l → SrtO.Srtd SrtO.lexB (insP e l)
  | [], _ => List.pairwise_singleton _ _
  | x :: r, h => by
    obtain ⟨h1, h2⟩ := List.pairwise_cons.mp h
    unfold insP
    cases q : SrtO.lexB x e with
    | true =>
      refine List.pairwise_cons.mpr ⟨fun y hy => ?_, insP_srtd e h2⟩
      rcases List.mem_cons.mp ((insP_perm e r).mem_iff.mp hy) with z | z
      · rw [z]
        exact lex_as q
      · exact h1 y z
    | false =>
      refine List.pairwise_cons.mpr ⟨fun y hy => ?_, h⟩
      rcases List.mem_cons.mp hy with z | z
      · rw [z]
        exact q
      · exact lex_tr q (h1 y z)
theorem sortP_srtd : ∀ l, SrtO.Srtd SrtO.lexB (sortP l)
  | [] => List.Pairwise.nil
  | e :: r => insP_srtd e (sortP_srtd r)
theorem sortP_uniq {l m : List (Int × Int)} (h : l.Perm m) (s : SrtO.Srtd SrtO.lexB l) : l = sortP m := by
  refine List.Perm.eq_of_pairwise (fun a b _ _ h1 h2 => ?_) s (sortP_srtd m) (h.trans (sortP_perm m).symm)
  have x := SrtO.lexB_no.mp h1
  have y := SrtO.lexB_no.mp h2
  exact Prod.ext (by omega) (by omega)
/-! ### sorted(d.items()) -/
theorem Ext.more {G : Gx} {ι : List Addr} {H H' : Hp} {M : Mem} (m : MemR G ι H M) (k : ∀ b o, H b = some o → H' b = some o) : Ext G ι H ι M H' where
  pre := List.prefix_refl _
  mem := ⟨m.len, m.nd, fun i a mo h1 h2 => by
    obtain ⟨u, hu⟩ := m.at (List.mem_of_getElem? h1)
    exact (m.ob i a mo h1 h2).mono (List.prefix_refl _) ⟨fun b o u e => k b _ e, fun b xs e => k b _ e⟩ ((k a u hu).trans hu.symm), fun P hP => (m.tab P hP).to (fun ps h => k P _ h) fun c f h => k c _ h⟩
  keep := ⟨fun b o u e => k b _ e, fun b xs e => k b _ e⟩
  frame := fun b o h _ _ => k b o h
  tbl := fun b ps h => ⟨ps, k b _ h⟩
  fresh := fun a h n => absurd h n
section
variable {X : Cx}
def rSortF : List V → Hp → VK → Prop := fun vs H Q => ∃ (p a : Addr) (o : Obj) (ks : List (Int × Int)), vs = [.ref p] ∧ H p = some (DX.itemsO p a) ∧ H a = some (.frz o (.dK (ks.map entI))) ∧ ks.length ≤ 10000 ∧
  ∀ (H2 : Hp) (l : Addr) (zs : List Addr), (∀ b o, H b = some o → H2 b = some o) → H l = none → H2 l = none → zs.length = (sortP ks).length → (∀ (j : Nat) (z : Addr) (e : Int × Int), zs[j]? = some z → (sortP ks)[j]? = some e → H2 z = some (.tup (pk e))) →
    Q (.ref l) (upd H2 l (.lst (zs.map V.ref)))
theorem cr_sortedF (hc : X.calm = true) : CallR X (.builtin "sorted") rSortF := by
  intro pins s σ H xs us Q I r h
  obtain ⟨p, a, ob, ks, rfl, hp, ha, hlen, q⟩ := h
  obtain rfl := Vals.ref1 r
  have view : s.heap.IsItemsView p a := (show ObjOk X.prog X.w H s.heap p (DX.itemsO p a) from I.hok p _ hp).1
  obtain ⟨z, hd, vs, rel, o, es, ep, ho, hx, hdat, hkeys, hpairs, hnd⟩ := dk_rd I.hok (.inr ⟨ob, ha⟩)
  have l1 : (ks.map entI).length = vs.length := KV.length rel
  rw [List.length_map] at l1
  have l2 : es.size = vs.length := by
    have e := hpairs.length
    rw [Array.length_toList] at e
    exact e
  have hh : X.A.handled = none := I.ok.hd hc
  refine DT.sortedI (es := es) (ep := ep) hh view ⟨o, ho, hx, hdat⟩ (by rw [sizeLine_eq]; omega) fun h' tk as hk hlt hl hG => ?_
  have lak : as.length = ks.length := by omega
  have nd : as.Nodup := List.Pairwise.imp (fun h => Nat.ne_of_lt h) hG.rise
  -- the pairs
  have pr : ∀ (j : Nat) (b : Addr), as[j]? = some b → ∃ (e : Int × Int) (t1 t2 : Tok), ks[j]? = some e ∧ h'.get? b = some { cls := .type "tuple", data := .seq #[Value.int e.1 t1, Value.int e.2 t2] } := by
    intro j b hj
    obtain ⟨en, he, hg⟩ := hG.pairs j b hj
    have hjl : j < ks.length := by
      have := (List.getElem?_eq_some_iff.mp hj).1
      omega
    have hv : j < vs.length := by omega
    have hent : (ks.map entI)[j]? = some (entI ks[j]) := by
      rw [List.getElem?_map, List.getElem?_eq_getElem hjl]
      rfl
    obtain ⟨q0, hq0, r1, r2⟩ := DX.pget rel (List.getElem?_eq_getElem hv)
    rw [hent] at hq0
    cases hq0
    have he' : es.toList[j]? = some en := by
      rw [Array.getElem?_toList]
      exact he
    have r1' : (entI ks[j]).1 = vs[j].1 := r1
    have hvs : vs[j]? = some (vs[j].1, vs[j].2) := List.getElem?_eq_getElem hv
    obtain ⟨k1, k2⟩ := Pairs.get? hpairs he' hvs
    rw [← r1'] at k1
    obtain ⟨t1, e1⟩ := Value.isInt_shape (k := ks[j].1) (v := en.key) k1
    have r2' : RelV (V.int ks[j].2) vs[j].2 := r2
    obtain ⟨t2, e2⟩ := r2'
    refine ⟨ks[j], t1, t2, List.getElem?_eq_getElem hjl, ?_⟩
    rw [hg, e1, k2, e2]
  -- list and tuples are tracked
  have hob : (h'.push { cls := .type "list", data := .seq (as.map Value.ref).toArray }).get? h'.objs.size = some { cls := .type "list", data := .seq (as.map Value.ref).toArray } := Heap.get?_push_size _ rfl
  have kb : ∀ b o, s.heap.get? b = some o → (h'.push { cls := .type "list", data := .seq (as.map Value.ref).toArray }).get? b = some o := fun b o e => Heap.get?_push_of_some _ (hk b o e)
  have ne0 : ∀ b o, h'.get? b = some o → b ≠ h'.objs.size := fun b o e => Nat.ne_of_lt (Heap.lt_size e)
  have hn0 : H h'.objs.size = none := I.hok.fresh (Nat.le_of_lt hlt)
  have I1 : Inv X pins σ H { s with heap := h'.push { cls := .type "list", data := .seq (as.map Value.ref).toArray }, toks := tk } := I.kept (t' := tk) kb
  have hlen2 : (as.map V.ref).length ≤ sizeLine := by
    rw [List.length_map, sizeLine_eq]
    omega
  have I2 : Inv X pins σ (upd H h'.objs.size (.lst (as.map V.ref))) { s with heap := h'.push { cls := .type "list", data := .seq (as.map Value.ref).toArray }, toks := tk } :=
    I1.take (h' := h'.push { cls := .type "list", data := .seq (as.map Value.ref).toArray }) (t' := tk) (fun b ob _ e => e) (I.fpOk (Nat.le_of_lt hlt) hn0) ⟨hlen2, as.map Value.ref, 0, vals_maps V.ref Value.ref as fun _ _ => rfl, hob⟩
  obtain ⟨H2, I3, g0, qt⟩ := DX.takeT (P := fun b ws => ∃ (j : Nat) (e : Int × Int), as[j]? = some b ∧ ks[j]? = some e ∧ ws = pk e) I as _ I2 nd fun b hb => by
    obtain ⟨j, hj⟩ := List.mem_iff_getElem?.mp hb
    obtain ⟨e, t1, t2, he, hg⟩ := pr j b hj
    have hbl : s.heap.objs.size ≤ b := Nat.le_of_lt (hG.above b hb)
    refine ⟨hbl, ?_, pk e, ⟨j, e, hj, he, rfl⟩, fun H3 => ⟨(by rw [sizeLine_eq]; show 2 ≤ 16777216; omega), [Value.int e.1 t1, Value.int e.2 t2], .cons ⟨t1, rfl⟩ (.cons ⟨t2, rfl⟩ .nil), ⟨_, Heap.get?_push_of_some _ hg, rfl, 0, rfl⟩⟩⟩
    rw [upd_ne (ne0 _ _ hg)]
    exact I.hok.fresh hbl
  have g : ∀ b o, H b = some o → H2 b = some o := fun b o e => g0 b o (by rw [upd_ne (ne_of_none e hn0)]; exact e)
  have hl2 : H2 h'.objs.size = some (.lst (as.map V.ref)) := g0 _ _ upd_same
  -- the key of a pair
  have kk : ∀ (j : Nat) (b : Addr), as[j]? = some b → ∃ e, ks[j]? = some e ∧ H2 b = some (.tup (pk e)) := fun j b hj => by
    obtain ⟨ws, ⟨i, e, i1, i2, rfl⟩, hH⟩ := qt b (List.mem_of_getElem? hj)
    have eij : i = j := (List.getElem?_inj (List.getElem?_eq_some_iff.mp i1).1 nd).mp (i1.trans hj.symm)
    subst eij
    exact ⟨e, i2, hH⟩
  let kf : V → Int × Int := fun x => match x with
    | .ref b => (match H2 b with
      | some (.tup [.int i, .int j]) => (i, j)
      | _ => (0, 0))
    | _ => (0, 0)
  have kfe : ∀ (b : Addr) (e : Int × Int), H2 b = some (.tup (pk e)) → kf (.ref b) = e := fun b e h => by
    show (match H2 b with | some (.tup [.int i, .int j]) => (i, j) | _ => (0, 0)) = e
    rw [h]
    rfl
  have kfs : (as.map V.ref).map kf = ks := by
    refine List.ext_getElem? fun j => ?_
    rw [List.map_map, List.getElem?_map]
    cases ej : as[j]? with
    | none =>
      have : ks.length ≤ j := by
        rw [← lak]
        exact List.getElem?_eq_none_iff.mp ej
      rw [List.getElem?_eq_none this]
      rfl
    | some b =>
      obtain ⟨e, he, hH⟩ := kk j b ej
      rw [he]
      exact congrArg some (kfe b e hH)
  have neT : ∀ b e, H2 b = some (.tup e) → b ≠ h'.objs.size := fun b e h z => by
    rw [z, hl2] at h
    cases h
  refine thn (mt_sortPO (X := inX X) pins _ σ _ (.ref h'.objs.size) [] (.ref h'.objs.size) [] _ (Inv.inX I3) rfl .nil ⟨h'.objs.size, as.map V.ref, kf, rfl, rfl, hl2, fun y hy => ?_, fun zs hs hb => ?_⟩) fun u s' ⟨v, H', I', rv, qv⟩ => ⟨.ref h'.objs.size, H', Inv.outX I', rfl, qv⟩
  · obtain ⟨b, hb, rfl⟩ := List.mem_map.mp hy
    obtain ⟨j, hj⟩ := List.mem_iff_getElem?.mp hb
    obtain ⟨e, _, hH⟩ := kk j b hj
    refine ⟨b, rfl, ?_⟩
    rw [kfe b e hH]
    exact hH
  · -- the sorted list
    have hz : ∃ bs : List Addr, zs = bs.map V.ref := by
      have all : ∀ x ∈ zs, ∃ b, x = V.ref b := fun x hx => by
        obtain ⟨b, _, e⟩ := List.mem_map.mp (hb.perm.mem_iff.mp hx)
        exact ⟨b, e.symm⟩
      clear hs hb
      induction zs with
      | nil => exact ⟨[], rfl⟩
      | cons x r ih =>
        obtain ⟨b, rfl⟩ := all x List.mem_cons_self
        obtain ⟨bs, e⟩ := ih fun y hy => all y (List.mem_cons_of_mem _ hy)
        exact ⟨b :: bs, by rw [e]; rfl⟩
    obtain ⟨bs, rfl⟩ := hz
    have hp1 : ((bs.map V.ref).map kf).Perm ks := by
      rw [← kfs]
      exact hb.perm.map kf
    have hs1 : SrtO.Srtd SrtO.lexB ((bs.map V.ref).map kf) := List.pairwise_map.mpr hs
    have hu := sortP_uniq hp1 hs1
    have eh : upd H2 h'.objs.size (.lst (bs.map V.ref)) = upd (hid H2 h'.objs.size) h'.objs.size (.lst (bs.map V.ref)) := by
      funext b
      by_cases e : b = h'.objs.size
      · rw [e, upd_same, upd_same]
      · rw [upd_ne e, upd_ne e, hid_ne e]
    rw [eh]
    refine q (hid H2 h'.objs.size) h'.objs.size bs (fun b o e => by rw [hid_ne (ne_of_none e hn0)]; exact g b o e) hn0 hid_at ?_ fun j z e hj he => ?_
    · have e := congrArg List.length hu
      rw [List.length_map, List.length_map] at e
      exact e
    · rw [← hu, List.map_map, List.getElem?_map, hj] at he
      have he' : kf (.ref z) = e := Option.some.inj he
      have hm : V.ref z ∈ as.map V.ref := hb.perm.mem_iff.mp (List.mem_map.mpr ⟨z, List.mem_of_getElem? hj, rfl⟩)
      obtain ⟨b, hb2, eb⟩ := List.mem_map.mp hm
      cases eb
      obtain ⟨i, hi⟩ := List.mem_iff_getElem?.mp hb2
      obtain ⟨e2, _, hH⟩ := kk i z hi
      rw [kfe z e2 hH] at he'
      rw [← he', hid_ne (neT z _ hH)]
      exact hH
end
end Xt
set_option Elab.async false
set_option linter.all false
set_option maxRecDepth 100000
set_option maxHeartbeats 1000000
namespace Xt
open PySem PySem.Spec PyProof.Rows L2
section
variable {X : Cx} {G : Gx} {E : XK} {e o : Expr} {f : Slots → Co Dv} {to : TE} {pos p apos cpos : Pos}
theorem pe_itemsF (ho : PE X o to) (hbase : attributeBase o "items" X.env (eval o X.env) = eval o X.env := by rfl) (hline : (apos.endLine == cpos.line) = true := by rfl) :
    PE X (.Call (.Attribute o "items" apos) [] [] cpos) (fun σ H Q => to σ H fun x H1 => rItemsF x [] H1 Q) := by
  refine ⟨fun pins s σ H Q I h => ?_⟩
  refine wpAny_Call_method0_late hbase hline (thn (ho.run pins s σ H _ I h) fun v s1 ⟨x, H1, I1, r1, q1⟩ => ?_)
  obtain ⟨a, ob, kvs, rfl, _, ha, q⟩ := id q1
  cases r1
  obtain ⟨_, _, vs, _, oo, es, ep, e0, ex, _⟩ := dk_rd I1.hok (.inr ⟨ob, ha⟩)
  exact ⟨"dict", "dict.items", PySem.F.plainAttrs_dict, PySem.F.slot_dict_items, PySem.F.type_dict_items, ⟨oo, e0, ex.1⟩, fun b eb => (by cases eb; exact ⟨oo, e0, ex.2.1⟩), Calls.callWith_builtin rfl (PySem.evalArgs_none (mt_itemsF pins s1 σ H1 (.ref a) [] (.ref a) [] Q I1 rfl .nil q1))⟩
def intsK : List (PyData × PyData) → Option (List (Int × Int))
  | [] => some []
  | (.int i, .int j) :: r => (match intsK r with
    | some l => some ((i, j) :: l)
    | none => none)
  | _ => none
def pkD (e : Int × Int) : PyData := .tuple [.int e.1, .int e.2]
def srtI (f : Slots → Co Dv) : Slots → Co Dv := fun ρ => bnd (f ρ) fun d => match d with
  | .g (.dict kds) => bnd (ofO (intsK kds)) fun ks => chk (Nat.ble ks.length 10000) (newL ((sortP ks).map fun e => .g (pkD e)))
  | _ => fl
theorem intsK_rp {K : PySem.W.Frag} {H : Hp} : ∀ {kvs : List (Key × V)} {kds : List (PyData × PyData)} {ks : List (Int × Int)}, RpKs K H kvs kds → intsK kds = some ks → kvs = ks.map entI
  | _, [], _, .nil, e => by
    cases e
    rfl
  | _, (.int i, d) :: r, ks, .cons h q, e => by
    cases d with
    | int j =>
      unfold intsK at e
      cases z : intsK r with
      | none =>
        rw [z] at e
        cases e
      | some l =>
        rw [z] at e
        cases e
        cases h
        rw [intsK_rp q z]
        rfl
    | _ => cases e
theorem pairs_rp {ι : List Addr} {H : Hp} : ∀ {zs : List Addr} {es : List (Int × Int)}, zs.length = es.length → (∀ (j : Nat) (z : Addr) (e : Int × Int), zs[j]? = some z → es[j]? = some e → H z = some (.tup (pk e))) → RpDs G ι H (zs.map V.ref) (es.map fun e => Dv.g (pkD e))
  | [], [], _, _ => .nil
  | [], _ :: _, h, _ => by cases h
  | _ :: _, [], h, _ => by cases h
  | z :: zs, e :: es, h, k => .cons (.g (.tup (k 0 z e rfl rfl) (.cons (.int e.1) (.cons (.int e.2) .nil)))) (pairs_rp (Nat.succ.inj h) fun j z' e' h1 h2 => k (j + 1) z' e' h1 h2)
/-- sorted(e.items()) -/
theorem xsit (hc : X.calm = true) (hg : Gl X "sorted") (hm : X.mg "sorted" = none) (he : PE X e (rdE G E f)) (hbase : attributeBase e "items" X.env (eval e X.env) = eval e X.env := by rfl) (hline : (apos.endLine == cpos.line) = true := by rfl)
    (hs : starEach [.Call (.Attribute e "items" apos) [] [] cpos] X.env = (false, eval (.Call (.Attribute e "items" apos) [] [] cpos) X.env) :: starEach [] X.env := by rfl) (hpl : (backTo pos (starEach [] X.env)).any (·.1) = false := by rfl) :
    PE X (.Call (.Name "sorted" p) [.Call (.Attribute e "items" apos) [] [] cpos] [] pos) (rdE G E (srtI f)) :=
  peI (pe_callB (cr_sortedF hc) hg hm (show bootBuiltins "sorted" = some (.builtin "sorted") from rfl) (pa_cons (pe_itemsF he hbase hline) pa_nil hs) (by decide) (by decide) hs hpl) fun σ H Q h => by
    obtain ⟨ι, ρ, M, st, p⟩ := h
    refine ⟨ι, ρ, M, st, (Post.bnd p).mono fun d ι1 M1 H1 x1 p1 v rv => ?_⟩
    cases rv with
    | g rv =>
      cases rv with
      | @dct a o kvs kds h r =>
        obtain ⟨ks, ek, p2⟩ := Post.ofO p1
        obtain ⟨c, p3⟩ := Post.chk p2
        have ev := intsK_rp r ek
        subst ev
        refine ⟨a, o, _, rfl, rfl, h, fun q hq => ⟨q, a, o, ks, rfl, upd_same, ?_, Nat.le_of_ble_eq_true c, fun H2 l zs k hl1 hl2 hzl hz => ?_⟩⟩
        · rw [upd_ne (ne_of_none h hq)]
          exact h
        · have x2 : Ext G ι1 H1 ι1 M1 H2 := (Ext.new x1.mem hq).trans (.more (Ext.new x1.mem hq).mem k)
          have x3 : Ext G ι1 H2 (ι1 ++ [l]) (M1 ++ [.lst ((sortP ks).map fun e => .g (pkD e))]) (upd H2 l (.lst (zs.map V.ref))) := .alloc x2.mem hl2 ⟨_, upd_same, (pairs_rp hzl hz).mono (List.prefix_append _ _) (keep_new hl2)⟩
          refine p3 _ _ (x2.trans x3) _ (.r ?_)
          rw [← x1.mem.len]
          exact get_last _ _
      | _ => exact p1.elim
    | r _ => exact p1.elim
    | t _ _ => exact p1.elim
/-! ### comprehension tests, targets -/
theorem pts1 {c : Expr} {tt : Slots → Co Bool} (h : PT X c (rdT G E tt)) : PTs X [c] (rdT G E tt) := pts_one h
/-- a bool-valued expression, as a test -/
theorem xtv {a : Expr} (ha : PE X a (rdE G E f)) (he : ∀ whole, isTrue a X.env whole = (do let v ← whole; standAt a.pos; holding [v] (truthy v)) := by intro _; rfl) (hK : X.K = G.K) : PT X a (rdT G E (fun ρ => bnd (f ρ) tru)) := xtru hK ha he
end
end Xt
set_option Elab.async false
set_option linter.all false
set_option maxRecDepth 100000
set_option maxHeartbeats 1000000
namespace Xt
open PySem PySem.Spec PyProof.Rows L2
/-! ### defs with a table of code objects -/
structure Tb (base : Heap) (G : Gx) (x : Str) : Prop where
  tb : LamX.TabB base G.mg (He.cT G.K (x, none)).1 (He.cT G.K (x, none)).2
  mem : (He.cT G.K (x, none)).2 ∈ G.tbs ∧ G.nm (He.cT G.K (x, none)).2 = none
theorem dokT_mk {P : Program} {w : World} {base : Heap} {G : Gx} {x nm qual : Str} {params : Arguments} {body : List Stmt} {scope : Scope} {N ps : List Str} {Fn : Nat → List Dv → Co Dv} {b : Nat → Slots → Co Fl} (h0 : Fn 0 = fun _ => fl) (h1 : Fn 1 = fun _ => fl) (hs : ∀ n, Fn (n + 2) = defF N.length ps.length (b n))
    (F : ∃ fd, FunD G.K nm qual params body scope [] [] (He.fAd G.K (x, none)) fd) (hm : G.mg x = some (.ref (He.fAd G.K (x, none)))) (S : FnScope N ps scope)
    (hbd : ∀ (kV doc pm : Value) (an : Option Addr) (cdv ct : Value) (us : List Value), us.length = ps.length → bindArgs (PySem.W.fnOf nm qual params body scope .none kV doc pm an cdv ct) ⟨us, []⟩ = pure (ps.zip us))
    (hb : ∀ n, Dok P w base CX0 G x ps n (Fn n) → ∀ (A : Around) (outer : List Env) (s : Shared) (H : Hp) (E : XK), Room (n + 1) (A.deeper (envOfC qual scope s.heap.objs.size (He.fAd G.K (x, none)) (.ref (He.cT G.K (x, none)).1))) →
      PSs (cxOf CX0 P w G.K G.mg base N qual scope (He.fAd G.K (x, none)) (.ref (He.cT G.K (x, none)).1) A outer s H E).nox body (rdS G E (b n))) :
    ∀ n, Dok P w base CX0 G x ps n (Fn n) := by
  obtain ⟨fd, F⟩ := F
  have both : ∀ n, Dok P w base CX0 G x ps n (Fn n) ∧ Dok P w base CX0 G x ps (n + 1) (Fn (n + 1)) := by
    intro n
    induction n with
    | zero => exact ⟨⟨_, fd, hm, F.kp, F.bindsN hbd, by rw [h0]; exact fn_zero⟩, ⟨_, fd, hm, F.kp, F.bindsN hbd, by rw [h1]; exact fn_zero⟩⟩
    | succ n ih0 =>
    have ih := ih0.1
    refine ⟨ih0.2, ?_⟩
    refine ⟨_, fd, hm, F.kp, F.bindsN hbd, ?_⟩
    show FnOk P w G.K G.mg base CX0 (n + 2) _ fd ps (spF G (Fn (n + 2)))
    rw [hs]
    obtain ⟨oc, od, dV, kV, doc, pm, an, cdv, ct, osl, rfl, lk, hcd, _, _⟩ := id F.ex
    obtain ⟨c, rfl⟩ := He.codeIn_ref hcd
    have ec : He.codeOf G.K (x, none) = c := He.codeOf_eq lk rfl
    refine fn_of lk hcd S (fun vs H Q E h => spF_len h) fun A outer s H vs Q E hr h => ?_
    have hl := spF_len h
    obtain ⟨ι, M, ds, m, r, p⟩ := h
    obtain ⟨_, p⟩ := Post.chk p
    have hb' := hb n ih A outer s H E
    have e2 : (He.cT G.K (x, none)).1 = c := ec
    rw [e2] at hb'
    refine ⟨_, (hb' hr).nox, ι, _, M, ?_, (Post.bnd p).mono fun fl ι1 M1 H1 x1 p1 => ?_⟩
    · have e := start_st (N := N) m r
      rw [← r.length, hl] at e
      exact e
    · cases fl with
      | nx ρ => exact fun σ _ => Post.rt x1.mem p1 _ (.g .non)
      | rt d => exact Post.rt (E := E) x1.mem p1
      | _ => exact p1.elim
  exact fun n => (both n).1
/-! ### the small words -/
section
variable {X : Cx} {G : Gx} {E : XK} {e : Expr} {pos : Pos}
theorem xpw {f : Slots → Co Bool} (h : PW X e (rdT G E f)) : PT X e (rdT G E f) := ⟨fun pins s σ H Q I z => h.run (eval e X.env) pins s σ H Q I z⟩
/-- a lock ahead of a body -/
theorem pss_lock {body : List Stmt} {t : TS} (h : PSs X body t) : PSs X body (fun D σ H => t D σ H ∨ ∃ d u, H d = some u ∧ Mut (some u) ∧ ∀ od, t D σ (upd H d (.frz od u))) := by
  refine ⟨fun pins s σ H D I z => ?_⟩
  rcases z with z | ⟨d, u, hd, mu, z⟩
  · exact h.run pins s σ H D I z
  · obtain ⟨od, I2⟩ := I.lock hd mu
    exact h.run pins s σ _ D I2 (z od)
end
end Xt
set_option Elab.async false
set_option linter.all false
set_option maxRecDepth 100000
set_option maxHeartbeats 1000000
namespace Xt
open PySem PySem.Spec PyProof.Rows L2
abbrev ac0 : Slots → Co (List Dv) := fun _ => rt []
abbrev dnew : Slots → Co Dv := fun _ => newD []
abbrev ntV (f : Slots → Co Dv) : Slots → Co Dv := fun ρ => bnd (tst f ρ) fun c => rt (vB (!c))
abbrev andV (f g : Slots → Co Dv) : Slots → Co Dv := fun ρ => bnd (tst f ρ) fun c => match c with | true => g ρ | false => rt (vB false)
abbrev orV (f g : Slots → Co Dv) : Slots → Co Dv := fun ρ => bnd (tst f ρ) fun c => match c with | true => rt (vB true) | false => g ρ
abbrev trV (f : Slots → Co Dv) : Slots → Co Bool := fun ρ => bnd (f ρ) tru
abbrev nxS (s : Slots → Co (List Dv)) : Slots → Co (List Dv) := fun ρ => nox (s ρ)
theorem _root_.L2.Room.u200 {k : Nat} {A : Around} (r : Room k A) : A.units + 200 < cLine := by have := r.un; omega
theorem _root_.L2.Room.u1 {k : Nat} {A : Around} (r : Room k A) : A.units + 1 < cLine := by have := r.un; omega
end Xt
namespace Xt
open PySem PySem.Spec PyProof.Rows L2
/-- a block's names, by a look -/
def blkB (N : List Str) (out : List (Str × NameKind)) (scope : Scope) (own : List (Str × Nat)) : Bool :=
  decide (scope.kind = .function) && (scope.names.all (fun y => decide (scope.names.lookup y.1 = some y.2)) && (own.all (fun p => decide (N[p.2]? = some p.1)) &&
    (scope.names.all (fun y => !decide (y.2 = .free) || (decide (out.lookup y.1 = some .cell) || decide (out.lookup y.1 = some .free))) &&
      scope.names.all (fun y => !(decide (y.2 = .local) || decide (y.2 = .cell)) || (decide (y.1 ∈ own.map (·.1)) || !decide (y.1 ∈ N))))))
theorem blk_ok {N : List Str} {sc scope : Scope} {own : List (Str × Nat)} (h : blkB N sc.names scope own = true) : BlkOk N sc scope own := by
  obtain ⟨h1, h⟩ := Bool.and_eq_true_iff.mp h
  obtain ⟨h2, h⟩ := Bool.and_eq_true_iff.mp h
  obtain ⟨h3, h⟩ := Bool.and_eq_true_iff.mp h
  obtain ⟨h4, h5⟩ := Bool.and_eq_true_iff.mp h
  refine ⟨of_decide_eq_true h1, fun y hy => of_decide_eq_true (List.all_eq_true.mp h2 y hy), fun p hp => of_decide_eq_true (List.all_eq_true.mp h3 p hp), fun y hy e => ?_, fun y hy e => ?_⟩
  · have q := List.all_eq_true.mp h4 y hy
    rw [decide_eq_true e] at q
    rcases Bool.or_eq_true_iff.mp (show (decide (sc.names.lookup y.1 = some .cell) || decide (sc.names.lookup y.1 = some .free)) = true from q) with z | z
    · exact .inl (of_decide_eq_true z)
    · exact .inr (of_decide_eq_true z)
  · have q := List.all_eq_true.mp h5 y hy
    have z : (decide (y.2 = .local) || decide (y.2 = .cell)) = true := by
      rcases e with e | e
      · rw [decide_eq_true e]
        rfl
      · rw [decide_eq_true e, Bool.or_true]
    rw [z] at q
    rcases Bool.or_eq_true_iff.mp (show (decide (y.1 ∈ own.map (·.1)) || !decide (y.1 ∈ N)) = true from q) with z | z
    · exact .inl (of_decide_eq_true z)
    · refine .inr fun m => ?_
      rw [decide_eq_true m] at z
      cases z
/-- a generator's names, by a look -/
def gxB (N N' : List Str) (fr : List (Option Nat)) (out : List (Str × NameKind)) (scope : Scope) : Bool :=
  decide (scope.kind = .function) && (!scope.isCoroutine && (scope.names.all (fun y => !decide (y.2 = .cell)) && (decide (scope.names.lookup (".0" : Str) = some NameKind.local) &&
    (scope.names.all (fun y => !decide (y.2 = .free) || (decide (out.lookup y.1 = some .cell) || decide (out.lookup y.1 = some .free))) && (decide N'.Nodup && frOk N scope.names N' fr)))))
theorem gx_ok {N N' : List Str} {fr : List (Option Nat)} {sc scope : Scope} (h : gxB N N' fr sc.names scope = true) : GxS N N' fr sc scope := by
  obtain ⟨h1, h⟩ := Bool.and_eq_true_iff.mp h
  obtain ⟨h2, h⟩ := Bool.and_eq_true_iff.mp h
  obtain ⟨h3, h⟩ := Bool.and_eq_true_iff.mp h
  obtain ⟨h4, h⟩ := Bool.and_eq_true_iff.mp h
  obtain ⟨h5, h⟩ := Bool.and_eq_true_iff.mp h
  obtain ⟨h6, h7⟩ := Bool.and_eq_true_iff.mp h
  refine ⟨of_decide_eq_true h1, by simpa using h2, fun y hy e => ?_, of_decide_eq_true h4, fun y hy e => ?_, of_decide_eq_true h6, h7⟩
  · have q := List.all_eq_true.mp h3 y hy
    rw [decide_eq_true e] at q
    cases q
  · have q := List.all_eq_true.mp h5 y hy
    rw [decide_eq_true e] at q
    rcases Bool.or_eq_true_iff.mp (show (decide (sc.names.lookup y.1 = some .cell) || decide (sc.names.lookup y.1 = some .free)) = true from q) with z | z
    · exact .inl (of_decide_eq_true z)
    · exact .inr (of_decide_eq_true z)
end Xt
set_option Elab.async false
set_option linter.all false
set_option maxRecDepth 100000
set_option maxHeartbeats 1000000
namespace Xt
open PySem PySem.Spec PyProof.Rows L2
/-! ### the law's own def: its argument is locked ahead -/
def spL (G : Gx) : Sp := fun vs H Q _ => ∃ (a : Addr) (ns : List Int), vs = [.ref a] ∧ SqL G.K H a (ns.map V.int) ∧ (∀ P ∈ G.tbs, TbR G.nm H P) ∧ ∀ H', Q (.bl true) H'
theorem ints_rp {K : PySem.W.Frag} {H : Hp} : ∀ ns : List Int, RpVs K H (ns.map V.int) (ns.map PyData.int)
  | [] => .nil
  | n :: r => .cons (.int n) (ints_rp r)
theorem law_fn {P : Program} {w : World} {G : Gx} {base : Heap} {x nm qual : Str} {params : Arguments} {body : List Stmt} {scope : Scope} {fa : Addr} {fd : FuncData} {N : List Str} {n : Nat} {b : Slots → Co Fl} (F : FunD G.K nm qual params body scope [] [] fa fd) (S : FnScope N [x] scope)
    (hb : ∀ (cdv : Value) (A : Around) (outer : List Env) (s : Shared) (H : Hp) (E : XK), Room n (A.deeper (envOfC qual scope s.heap.objs.size fa cdv)) → PSs (cxOf CX0 P w G.K G.mg base N qual scope fa cdv A outer s H E).nox body (rdS G E b))
    (hrun : ∀ ns : List Int, ∃ M, defF N.length 1 b [.g (.list (ns.map .int))] [] = .ok (vB true) M) : FnOk P w G.K G.mg base CX0 (n + 1) fa fd [x] (spL G) := by
  refine F.ok S (fun vs H Q E h => ?_) fun cdv A outer s H vs Q E hr h => ?_
  · obtain ⟨a, ns, rfl, _⟩ := h
    rfl
  obtain ⟨a, ns, rfl, hS, hT, hQ⟩ := h
  obtain ⟨M, hM⟩ := hrun ns
  have go : ∀ H1 : Hp, RpV G.K H1 (.ref a) (.list (ns.map .int)) → (∀ P ∈ G.tbs, TbR G.nm H1 P) → rdS G E b { nx := fun _ H' => Q .non H', rt := Q } (L2.start N [.ref a]) H1 := fun H1 r t => by
    have m : MemR G [] H1 [] := ⟨rfl, List.nodup_nil, fun i a mo h _ => by simp at h, t⟩
    have p0 : Post G E [] H1 (QE G Q) (defF N.length 1 b [.g (.list (ns.map .int))] []) := by
      rw [hM]
      intro ι' H' _ v rv
      cases rv with
      | g rv =>
        cases rv
        exact hQ H'
    obtain ⟨_, p⟩ := Post.chk p0
    refine ⟨[], _, [], start_st (N := N) m (.cons (.g r) .nil), (Post.bnd p).mono fun fl ι1 M1 H2 x1 p1 => ?_⟩
    cases fl with
    | nx ρ => exact fun σ _ => Post.rt (E := E) x1.mem p1 _ (.g .non)
    | rt d => exact Post.rt (E := E) x1.mem p1
    | _ => exact p1.elim
  refine ⟨_, pss_lock (hb cdv A outer s H E hr).nox, ?_⟩
  rcases hS with (hS | ⟨o, hS⟩) | hS
  · refine .inr ⟨a, _, hS, trivial, fun od => go _ (.lst (.inl ⟨od, upd_same⟩) (ints_rp ns)) fun P hP => ?_⟩
    refine (hT P hP).to (fun ps e => ?_) fun c f e => ?_
    · rw [upd_ne (fun z => by
        rw [z, hS] at e
        cases e)]
      exact e
    · rw [upd_ne (fun z => by
        rw [z, hS] at e
        cases e)]
      exact e
  · exact .inl (go H (.lst (.inl ⟨o, hS⟩) (ints_rp ns)) hT)
  · exact .inl (go H (.lst (.inr hS) (ints_rp ns)) hT)
end Xt
set_option Elab.async false
set_option linter.all false
set_option maxRecDepth 100000
noncomputable section
namespace Xt
open PySem PySem.W PySem.Calls PyProof.Rows HandSHeadRun
/-! ### a text that opens with an import of math -/
/-- the opening, to its end -/
def impF (st : SharedT → Thread → Option (SharedT × Thread)) : Nat → SharedT → Thread → Option SharedT
  | 0, _, _ => none
  | m + 1, s, t => match t.atExitBegin with
    | some [] => some s
    | some (_ :: _) => none
    | none => (match st s t with
      | some (s', t') => frS s' fun s' => impF st m s' t'
      | none => none)
theorem impF_ok {tb : String → Option Builtin} {p : Program} {w : World} : ∀ {m : Nat} {s s' : SharedT} {t : Thread}, impF (stepT (denote tb) p w) m s t = some s' → importEnds tb p w m s.abs t = some s'.abs
  | 0, _, _, _, h => by cases h
  | m + 1, s, s', t, h => by
    unfold impF at h
    unfold importEnds
    cases ht : t.atExitBegin with
    | some l =>
      rw [ht] at h
      cases l with
      | nil =>
        cases h
        rfl
      | cons _ _ => cases h
    | none =>
      rw [ht] at h
      have h2 : (match stepT (denote tb) p w s t with
        | some (s', t') => frS s' fun s' => impF (stepT (denote tb) p w) m s' t'
        | none => none) = some s' := h
      cases hs : stepT (denote tb) p w s t with
      | none =>
        rw [hs] at h2
        cases h2
      | some r =>
        obtain ⟨s2, t2⟩ := r
        rw [hs] at h2
        have h3 : (frS s2 fun s' => impF (stepT (denote tb) p w) m s' t2) = some s' := h2
        rw [frS_eq] at h3
        have q := impF_ok h3
        show (match step (denote tb) p w s.abs t with
          | .go s' t' => importEnds tb p w m s' t'
          | .halt _ _ => none) = some s'.abs
        rw [stepT_spec hs]
        exact q
def fenceT (m : PySem.Str) (s : SharedT) : Option SharedT := match boundIn s.abs.heap sysModules m, tameNamesOf? m with
  | some (.ref a), some row => (match getT s a with
    | some o => (match o.dict with
      | some D => (match getT s D, s.tree.get D with
        | some od, some _ => (match fenceDict? m row od with
          | some od' => some { s with tree := s.tree.set D fun _ => od' }
          | none => none)
        | _, _ => none)
      | none => none)
    | none => none)
  | _, _ => none
theorem fenceT_ok {m : PySem.Str} {s s' : SharedT} (h : fenceT m s = some s') : fenceModule? m s.abs = some s'.abs := by
  unfold fenceT at h
  unfold fenceModule?
  split at h
  · rename_i a row e1 e2
    rw [e1, e2]
    rw [getT_eq] at h
    cases e3 : s.abs.heap.get? a with
    | none =>
      rw [e3] at h
      cases h
    | some o =>
      rw [e3] at h
      cases e4 : o.dict with
      | none =>
        simp only [e4] at h
        cases h
      | some D =>
        simp only [e4] at h
        rw [getT_eq] at h
        cases e5 : s.abs.heap.get? D with
        | none =>
          rw [e5] at h
          cases h
        | some od =>
          rw [e5] at h
          cases e6 : s.tree.get D with
          | none =>
            simp only [e6] at h
            cases h
          | some od2 =>
            simp only [e6] at h
            cases e7 : fenceDict? m row od with
            | none =>
              rw [e7] at h
              cases h
            | some od' =>
              rw [e7] at h
              cases h
              simp only [e3, e4, e5, e7, Option.map_some]
              have q := absHeap_set (n := s.n) (life := s.life) (f := fun _ => od') e6
              show some ({ s.abs with heap := (absHeap s.tree s.n s.life).update D fun _ => od' } : Shared) = some _
              rw [← q]
              rfl
  · cases h
def startT (p : Program) : SharedT := ⟨.nil, 0, ({} : Heap).life, #[], {}, 1, (start (opening p)).1.os⟩
theorem startT_abs (p : Program) : (startT p).abs = (start (opening p)).1 := rfl
/-- the state behind the opening -/
def openF (st : SharedT → Thread → Option (SharedT × Thread)) (M : Nat) (m : PySem.Str) (p : Program) : Option SharedT := match impF st M (startT p) (start (opening p)).2 with
  | some s1 => fenceT m s1
  | none => none
/-- .. and behind the top -/
def endI (st1 st2 : SharedT → Thread → Option (SharedT × Thread)) (M : Nat) (m : PySem.Str) (p : Program) : Option (SharedT × SharedT) := match openF st1 M m p with
  | some s2 => frS s2 fun s2 => frNat s2.n fun n0 => (match s2.abs.heap.nsMap mainGlobals "__annotations__" with
    | none => (goF st2 n0 none M s2 (topStub p)).map fun s => (s2, s)
    | some v => (goF st2 n0 (some v) M s2 (topStub p)).map fun s => (s2, s))
  | none => none
theorem importEnds_more {tb : String → Option Builtin} {p : Program} {w : World} {n N : Nat} {s r : Shared} {t : Thread} (h : importEnds tb p w n s t = some r) (le : n ≤ N) : importEnds tb p w N s t = some r := by
  have m := importEnds_mono (N - n) _ _ _ _ h
  rw [show n + (N - n) = N by omega] at m
  exact m
theorem left_imp {p q : Program} {loose : List PySem.Str} {Xt : Shared → Bool} {α : Type} {Yf : Shared → α} {Ya : World → α} {M : Nat} {m : PySem.Str}
    (hm : importedModules p.main.body = [m]) (hn : p.main.body.any namesNumpy = false)
    (run : ∀ (w : World), (endI (stepT (denote treeTable) (opening p) w) (stepT (denote treeTable) p w) M m p).map (fun z => (z.1.abs.heap.isNs mainGlobals && z.1.gens.size == 0, looksF p z.1.abs.heap z.2.abs, openSeen q loose (importedModules p.main.body) Xt true z.2.abs, Yf z.2.abs)) = some (true, true, openGood q loose, Ya w)) :
    LeftO p q loose Xt Yf Ya M true := fun w => by
  obtain ⟨⟨s2, s⟩, hs, hv⟩ := Option.map_eq_some_iff.mp (run w)
  obtain ⟨l0, l1, l2, l3⟩ : _ ∧ _ ∧ _ ∧ _ := by simpa only [Prod.mk.injEq] using hv
  unfold endI at hs
  cases e2 : openF (stepT (denote treeTable) (opening p) w) M m p with
  | none =>
    rw [e2] at hs
    cases hs
  | some s3 =>
    rw [e2] at hs
    have hs2 : (frS s3 fun s2 => frNat s2.n fun n0 => (match s2.abs.heap.nsMap mainGlobals "__annotations__" with
      | none => (goF (stepT (denote treeTable) p w) n0 none M s2 (topStub p)).map fun s => (s2, s)
      | some v => (goF (stepT (denote treeTable) p w) n0 (some v) M s2 (topStub p)).map fun s => (s2, s))) = some (s2, s) := hs
    rw [frS_eq, frNat_eq] at hs2
    have hs3 : (goF (stepT (denote treeTable) p w) s3.n (s3.abs.heap.nsMap mainGlobals "__annotations__") M s3 (topStub p)).map (fun s => (s3, s)) = some (s2, s) := by
      cases ea : s3.abs.heap.nsMap mainGlobals "__annotations__" with
      | none =>
        rw [ea] at hs2
        exact hs2
      | some v =>
        rw [ea] at hs2
        exact hs2
    obtain ⟨s', hg, he⟩ := Option.map_eq_some_iff.mp hs3
    cases he
    -- the opening
    unfold openF at e2
    cases e1 : impF (stepT (denote treeTable) (opening p) w) M (startT p) (start (opening p)).2 with
    | none =>
      rw [e1] at e2
      cases e2
    | some s1 =>
      rw [e1] at e2
      have hf := fenceT_ok (show fenceT m s1 = some s2 from e2)
      have hi := impF_ok e1
      rw [startT_abs] at hi
      have fo : fencedOpening treeTable p w M = some s2.abs := by
        unfold fencedOpening
        rw [hi]
        show fenceModules? p s1.abs = _
        unfold fenceModules?
        rw [hm, hn]
        show (fenceAll? [m] s1.abs).bind _ = _
        unfold fenceAll?
        rw [hf]
        rfl
      have hsz : s2.abs.heap.objs.size = s2.n := absHeap_size _ _ _
      have r := goF_ok hg
      have t : topFrom treeTable p w M s2.abs = some s.abs := by
        unfold topFrom
        have l0' : (s2.abs.heap.isNs mainGlobals && s2.abs.gens.size == 0) = true := l0
        rw [l0', hsz]
        show (topRun treeTable p w s2.n _ M s2.abs (topStub p)).bind _ = _
        rw [r]
        have l1' : (staticsOk (importedModules p.main.body) s2.abs.heap s.abs.heap && namesBound p s.abs.heap && gensDone s.abs && laidKept s2.abs.heap s.abs.heap) = true := l1
        show (match staticsOk (importedModules p.main.body) s2.abs.heap s.abs.heap && namesBound p s.abs.heap && gensDone s.abs && laidKept s2.abs.heap s.abs.heap with | true => some s.abs | false => none) = _
        rw [l1']
      unfold openEnds
      rw [fo]
      show (topFrom treeTable p w M _).map _ = _
      rw [t]
      exact congrArg some (Prod.ext l2 l3)
/-- the run's equation at a world, the text's import within -/
def RunI (r : OpenRow) (q : Program) (H : Hook) (ob : SharedT → H.α) (M : Nat) (m : PySem.Str) (loose : List PySem.Str) (w : World) : Prop :=
  (endI (stepQ (denQ tabQ) (opening r.prog) w) (stepQ (denQ tabQ) r.prog w) M m r.prog).map (fun z => (z.1.abs.heap.isNs mainGlobals && z.1.gens.size == 0, looksF r.prog z.1.abs.heap z.2.abs, seenQ q loose (importedModules r.prog.main.body) (fun s => xlAt q [] s && recOk r.toRowW.records s) z.2.abs, ob z.2)) = some (true, true, openGood q loose, H.val w)
theorem head_imp {r : OpenRow} {q : Program} {H : Hook} {ob : SharedT → H.α} {M : Nat} {m : PySem.Str} {loose : List PySem.Str} {d : DefRec} {kwd : List (PySem.Str × PySem.Expr)} (ho : ∀ s : SharedT, ob s = H.obs s.abs)
    (hm : importedModules r.prog.main.body = [m]) (hn : r.prog.main.body.any namesNumpy = false) (run : ∀ w, RunI r q H ob M m loose w)
    (hdef : defOf q r.name = some (d, kwd)) (hp : r.prog.theDef r.name = some (d.params, d.body, d.scope)) (hk : kwWritten? d.params.kwonlyargs d.params.kw_defaults = some kwd)
    (hwr : (!r.writes || r.records.isEmpty) = true) (k1 : r.wellSaid = true) (ok : (chainsOk q && opensWell r.prog && (frees r.toRowW && r.within.isEmpty)) = true) (hb : r.prog.bare) (hw : r.toRowW.promised)
    (call : WalkO q loose (XL q []) H.says r.toRowW d kwd fun f vs => PySem.call f vs) : r.Holds := by
  have left : LeftO r.prog q loose (fun s => xlAt q [] s && recOk r.toRowW.records s) H.obs H.val M true :=
    left_imp (M := M) (m := m) hm hn fun w => by
      have z := run w
      have eo : ob = fun s => H.obs s.abs := funext ho
      unfold RunI at z
      rw [eo, ← stepQ_eq, ← denQ_eq, ← tabQ_eq] at z
      simp only [seenQ_eq]
      exact z
  exact holds_open (r := r) (q := q) (loose := loose) (XP := XL q []) (YP := H.says) (d := d) (kwd := kwd) left H.of H.keeps (fun s z => xl_of s (Bool.and_eq_true_iff.mp z).1) XL.keeps hdef hp hk (fun s z => recFacts_of (Bool.and_eq_true_iff.mp z).2) hwr k1 ok hb hw call
end Xt
end
set_option Elab.async false
set_option linter.all false
set_option maxRecDepth 100000
set_option maxHeartbeats 1000000
namespace Xt
open PySem PySem.Spec PyProof.Rows L2
/-! ### slices -/
def cutD {α : Type} (xs : List α) (lo hi : Option Int) : List α := (xs.drop (HT.sIx xs.length 0 lo)).take (HT.sIx xs.length xs.length hi - HT.sIx xs.length 0 lo)
section
variable {G : Gx} {E : XK} {ι : List Addr} {H : Hp} {M : Mem} {d : Dv} {v : V}
theorem RpVs.take' {K : PySem.W.Frag} : ∀ {vs : List V} {ds : List PyData} (n : Nat), RpVs K H vs ds → RpVs K H (vs.take n) (ds.take n)
  | _, _, 0, _ => .nil
  | _, _, _ + 1, .nil => .nil
  | _, _, n + 1, .cons h r => .cons h (RpVs.take' n r)
theorem RpVs.drop' {K : PySem.W.Frag} : ∀ {vs : List V} {ds : List PyData} (n : Nat), RpVs K H vs ds → RpVs K H (vs.drop n) (ds.drop n)
  | _, _, 0, h => h
  | _, _, _ + 1, .nil => .nil
  | _, _, n + 1, .cons _ r => RpVs.drop' n r
theorem RpVs.cut {K : PySem.W.Frag} {vs : List V} {ds : List PyData} (r : RpVs K H vs ds) (lo hi : Option Int) : RpVs K H (cutV vs lo hi) (cutD ds lo hi) := by
  unfold cutV cutD
  rw [r.length]
  exact (r.drop' _).take' _
def slV (d : Dv) (l u : Option Int) : Co Dv := match d with
  | .g (.tuple xs) => rt (.g (.tuple (cutD xs l u)))
  | d => bnd (asG d) fun x => match x with
    | .list xs => rt (.g (.list (cutD xs l u)))
    | _ => fl
def slcG (f : Slots → Co Dv) (lo hi : Slots → Co (Option Int)) : Slots → Co Dv := fun ρ => bnd (f ρ) fun d => bnd (lo ρ) fun l => bnd (hi ρ) fun u => slV d l u
def pn0 : Slots → Co (Option Int) := fun _ => rt none
def pn1 (f : Slots → Co Dv) : Slots → Co (Option Int) := fun ρ => bnd (f ρ) fun d => bnd (ofO (asI d)) fun i => rt (some i)
def rdO (G : Gx) (E : XK) (f : Slots → Co (Option Int)) : TO := fun σ H Q => ∃ ι ρ M, StR G H σ ι ρ M ∧ Post G E ι H (fun o _ _ H' => Q o H') (f ρ M)
theorem slV_rp {Q : VK} {l u : Option Int} (m : MemR G ι H M) (r : RpD G ι H v d) (p : Post G E ι H (QE G Q) (slV d l u M)) : (rSlL G.K v l u H (VF Q) ∨ rSlA G.K v l u H (VF Q)) := by
  have gen : ∀ {d}, RpD G ι H v d → Post G E ι H (QE G Q) ((bnd (asG d) fun x => match x with
    | .list xs => rt (.g (.list (cutD xs l u)))
    | _ => fl) M) → rSlL G.K v l u H (VF Q) := fun {d} r p => by
    obtain ⟨x, e, p⟩ := Post.asGe p
    cases x with
    | list xs =>
      obtain ⟨a, vs, rfl, h1, h2⟩ := asG_lst m r e
      exact ⟨a, vs, rfl, h1, lockF m (h2.cut l u) p⟩
    | _ => exact p.elim
  cases r with
  | g r =>
    cases r with
    | @tup a vs xs h1 r1 =>
      refine .inr ⟨a, vs, rfl, .of h1, fun z => .inl ?_, fun _ q hq => .inl ?_⟩
      · have e : cutD xs l u = xs := by
          unfold cutD
          rw [← r1.length, z.1, z.2, List.drop_zero, Nat.sub_zero, r1.length, List.take_length]
        have p1 : Post G E ι H (QE G Q) (rt (.g (.tuple (cutD xs l u))) M) := p
        rw [e] at p1
        exact Post.rt m p1 _ (.g (.tup h1 r1))
      · have x2 : Ext G ι H ι M (upd H q (.tup (cutV vs l u))) := .new m hq
        have p1 : Post G E ι H (QE G Q) (rt (.g (.tuple (cutD xs l u))) M) := p
        exact Post.rt x2.mem (p1.shift x2) _ (.g (.tup upd_same ((r1.cut l u).mono x2.keep)))
    | lst h r => exact .inl (gen (.g (.lst h r)) p)
    | non => exact .inl (gen (.g .non) p)
    | bl b => exact .inl (gen (.g (.bl b)) p)
    | int i => exact .inl (gen (.g (.int i)) p)
    | str x => exact .inl (gen (.g (.str x)) p)
    | dct h r => exact .inl (gen (.g (.dct h r)) p)
  | r h => exact .inl (gen (.r h) p)
  | t h r => exact .inl (gen (.t h r) p)
end
section
variable {X : Cx} {G : Gx} {E : XK} {e e1 e2 : Expr} {es : List Expr} {f g : Slots → Co Dv} {gs : Slots → Co (List Dv)} {lo hi : Slots → Co (Option Int)} {pos p p2 : Pos} {le ue : Option Expr}
theorem poI {e : Option Expr} {t t' : TO} (h : PO X e t) (k : ∀ σ H Q, t' σ H Q → t σ H Q) : PO X e t' := ⟨fun pins s σ H Q I z => h.run pins s σ H Q I (k σ H Q z)⟩
theorem xpo0 : PO X none (rdO G E pn0) := poI po_none fun σ H Q h => by
  obtain ⟨ι, ρ, M, st, p⟩ := h
  exact Post.rt st.mem p
theorem xpo1 (h : PE X e (rdE G E f)) : PO X (some e) (rdO G E (pn1 f)) := poI (po_some h) fun σ H Q h => by
  obtain ⟨ι, ρ, M, st, p⟩ := h
  refine ⟨ι, ρ, M, st, (Post.bnd p).mono fun d ι1 M1 H1 x1 p1 v rv => ?_⟩
  obtain ⟨i, ei, p2⟩ := Post.ofO p1
  obtain ⟨rfl, rfl⟩ := asI_rp rv ei
  exact ⟨i, rfl, Post.rt x1.mem p2⟩
theorem xslc (hK : X.K = G.K) (he : PE X e (rdE G E f)) (hl : PO X le (rdO G E lo)) (hu : PO X ue (rdO G E hi)) : PE X (.Subscript e (.Slice le ue none p2) pos) (rdE G E (slcG f lo hi)) :=
  peI (pe_frz (pe_slice (SlR.or sl_list sl_tupA) he hl hu)) fun σ H Q h => by
    obtain ⟨ι, ρ, M, st, p⟩ := h
    refine ⟨ι, ρ, M, st, (Post.bnd p).mono fun d ι1 M1 H1 x1 p1 v rv => ?_⟩
    refine ⟨ι1, ρ, M1, st.ext x1, (Post.bnd p1).mono fun l ι2 M2 H2 x2 p2 => ?_⟩
    refine ⟨ι2, ρ, M2, (st.ext x1).ext x2, (Post.bnd p2).mono fun u ι3 M3 H3 x3 p3 => ?_⟩
    rw [hK]
    exact slV_rp x3.mem ((rv.mono x2.pre x2.keep).mono x3.pre x3.keep) p3
/-- e[::-1] -/
def rvD : Dv → Co Dv := fun d => bnd (asG d) fun x => match x with
  | .list xs => rt (.g (.list xs.reverse))
  | _ => fl
theorem RpVs.rev {K : PySem.W.Frag} {H : Hp} : ∀ {vs : List V} {ds : List PyData}, RpVs K H vs ds → RpVs K H vs.reverse ds.reverse
  | _, _, .nil => .nil
  | _, _, .cons h r => by
    rw [List.reverse_cons, List.reverse_cons]
    exact (RpVs.rev r).snoc h
theorem xrev {k : Nat} {p1 p3 p4 : Pos} (hK : X.K = G.K) (he : PE X e (rdE G E f)) : PE X (.Subscript e (.Slice none none (some (.UnaryOp .USub (.Constant (.int 1) k p1) p3)) p4) pos) (rdE G E (b1 rvD f)) :=
  peI (pe_frz (pe_revL he)) fun σ H Q h => by
    obtain ⟨ι, ρ, M, st, p⟩ := h
    refine ⟨ι, ρ, M, st, (Post.bnd p).mono fun d ι1 M1 H1 x1 p1 v rv => ?_⟩
    obtain ⟨x, e, p⟩ := Post.asGe p1
    cases x with
    | list xs =>
      obtain ⟨a, vs, rfl, h1, h2⟩ := asG_lst x1.mem rv e
      rw [hK]
      exact ⟨a, vs, rfl, h1, lockF x1.mem h2.rev p⟩
    | _ => exact p.elim
end
/-! ### in, not in, index, count: equality of data at any depth -/
def inOk (x : PyData) (xs : List PyData) : Bool := PyData.canLay0 x && (PyData.canLayAll0 xs && Nat.ble (min (PyData.depthAll xs) x.depth) 190)
theorem inOk_ok {x : PyData} {xs : List PyData} (h : inOk x xs = true) : x.canLay0 = true ∧ PyData.canLayAll0 xs = true ∧ min (PyData.depthAll xs) x.depth ≤ 190 := by
  obtain ⟨h1, h2⟩ := Bool.and_eq_true_iff.mp h
  obtain ⟨h3, h4⟩ := Bool.and_eq_true_iff.mp h2
  exact ⟨h1, h3, Nat.le_of_ble_eq_true h4⟩
/-- the items of a list or a tuple -/
def itsP : PyData → Option (List PyData)
  | .list xs => some xs
  | .tuple xs => some xs
  | _ => none
def inD (neg : Bool) : Dv → Dv → Co Dv := fun d e => bnd (asG d) fun x => bnd (asG e) fun y => bnd (ofO (itsP y)) fun xs => chk (inOk x xs) (rt (vB (if neg then !xs.any fun z => PyData.eqv z x else xs.any fun z => PyData.eqv z x)))
def rInX (K : PySem.W.Frag) (A : Around) (neg : Bool) : R2 := fun x y H Q => ∃ d ds, Dp K H x d ∧ (Dp K H y (.list ds) ∨ Dp K H y (.tuple ds)) ∧ d.canLay0 = true ∧ PyData.canLayAll0 ds = true ∧ A.units + 1 + min (PyData.depthAll ds) d.depth < cLine ∧ Q (.bl (if neg then !ds.any fun z => PyData.eqv z d else ds.any fun z => PyData.eqv z d)) H
section
variable {X : Cx}
theorem op_inX : OpR X (compareOp .In) (rInX X.K X.A false) := by
  intro pins s σ H x y v u Q I rx ry h
  obtain ⟨d, ds, hd, he, sd, se, hr, q⟩ := h
  obtain ⟨as, r1⟩ := Dp.reads I d x v hd rx
  rcases he with he | he
  · obtain ⟨bs, r2⟩ := Dp.reads I (.list ds) y u he ry
    exact SeqAt.in_list_reads r2 r1 se sd hr ⟨.bl _, H, I, rfl, q⟩
  · obtain ⟨bs, r2⟩ := Dp.reads I (.tuple ds) y u he ry
    exact SeqAt.in_tuple_reads r2 r1 se sd hr ⟨.bl _, H, I, rfl, q⟩
theorem op_notInX : OpR X (compareOp .NotIn) (rInX X.K X.A true) := by
  intro pins s σ H x y v u Q I rx ry h
  obtain ⟨d, ds, hd, he, sd, se, hr, q⟩ := h
  obtain ⟨as, r1⟩ := Dp.reads I d x v hd rx
  rcases he with he | he
  · obtain ⟨bs, r2⟩ := Dp.reads I (.list ds) y u he ry
    exact SeqAt.notIn_list_reads r2 r1 se sd hr ⟨.bl _, H, I, rfl, q⟩
  · obtain ⟨bs, r2⟩ := Dp.reads I (.tuple ds) y u he ry
    exact SeqAt.notIn_tuple_reads r2 r1 se sd hr ⟨.bl _, H, I, rfl, q⟩
end
section
variable {G : Gx} {E : XK}
theorem itsP_dp {K : PySem.W.Frag} {H : Hp} {y : V} {z : PyData} {xs : List PyData} (h : noDct z = true → Dp K H y z) (e : itsP z = some xs) (c : PyData.canLayAll0 xs = true) : Dp K H y (.list xs) ∨ Dp K H y (.tuple xs) := by
  cases z with
  | list ys =>
    cases e
    exact .inl (h (noDct_of _ (by simpa [PyData.canLay0] using c)))
  | tuple ys =>
    cases e
    exact .inr (h (noDct_of _ (by simpa [PyData.canLay0] using c)))
  | _ => cases e
theorem os_in {A : Around} {neg : Bool} (hu : A.units + 200 < cLine) : OpS G E (rInX G.K A neg) (inD neg) := fun ι M H x y d e Q m rx ry p => by
  obtain ⟨a, h1, p⟩ := Post.asG m rx p
  obtain ⟨b, h2, p⟩ := Post.asG m ry p
  obtain ⟨xs, e1, p⟩ := Post.ofO p
  obtain ⟨c, p⟩ := Post.chk p
  obtain ⟨c1, c2, c3⟩ := inOk_ok c
  exact ⟨a, xs, h1 (noDct_of _ c1), itsP_dp h2 e1 c2, c1, c2, by omega, Post.rt m p _ rpB⟩
end
/-! ### methods of lists and tuples that only read -/
/-- the first place of an equal one -/
def ixP (d : PyData) : List PyData → Option Nat
  | [] => none
  | z :: r => if PyData.eqv z d then some 0 else (ixP d r).map (· + 1)
theorem ixP_ok {d : PyData} : ∀ {ds : List PyData} {j : Nat}, ixP d ds = some j → ∃ z, ds[j]? = some z ∧ PyData.eqv z d = true ∧ ∀ (m : Nat) (z' : PyData), m < j → ds[m]? = some z' → PyData.eqv z' d = false
  | [], _, h => by cases h
  | z :: r, j, h => by
    unfold ixP at h
    cases e : PyData.eqv z d with
    | true =>
      rw [e] at h
      cases h
      exact ⟨z, rfl, e, fun m _ hm _ => absurd hm (Nat.not_lt_zero m)⟩
    | false =>
      rw [e] at h
      cases q : ixP d r with
      | none =>
        rw [q] at h
        cases h
      | some k =>
        rw [q] at h
        cases h
        obtain ⟨z1, h1, h2, h3⟩ := ixP_ok q
        refine ⟨z1, h1, h2, fun m z' hm e' => ?_⟩
        cases m with
        | zero =>
          cases e'
          exact e
        | succ m => exact h3 m z' (Nat.lt_of_succ_lt_succ hm) e'
/-- a method that reads its list or tuple (whose items are data) and one argument -/
def rMd (K : PySem.W.Frag) (A : Around) (tu : Bool) (F : List PyData → PyData → Option Int) : V → List V → Hp → VK → Prop := fun x xs H Q => ∃ (a : Addr) (y : V) (d : PyData) (ds : List PyData) (i : Int), x = V.ref a ∧ xs = [y] ∧ Dp K H (V.ref a) (if tu then .tuple ds else .list ds) ∧ Dp K H y d ∧
  d.canLay0 = true ∧ PyData.canLayAll0 ds = true ∧ A.units + 1 + min (PyData.depthAll ds) d.depth < cLine ∧ F ds d = some i ∧ Q (.int i) H
def ixF : List PyData → PyData → Option Int := fun ds d => Option.map (fun j : Nat => (j : Int)) (ixP d ds)
def ctF : List PyData → PyData → Option Int := fun ds d => some (ds.countP fun z => PyData.eqv z d : Nat)
section
variable {X : Cx}
theorem mt_indexL : MtR X "list.index" (rMd X.K X.A false ixF) := by
  intro pins s σ H x xs v us Q I rx rxs h
  obtain ⟨a, y, d, ds, i, rfl, rfl, hl, hy, sd, hxs, hroom, hi, q⟩ := h
  obtain ⟨j, hj0, rfl⟩ := Option.map_eq_some_iff.mp hi
  obtain ⟨z, hz, hzj, hno⟩ := ixP_ok hj0
  have hl' : Dp X.K H (V.ref a) (.list ds) := hl
  cases rx
  cases rxs with
  | cons ry rt =>
    rename_i uy ut
    cases rt
    obtain ⟨bs, r1⟩ := Dp.reads I d y uy hy ry
    cases hl' with
    | lst hs ha =>
      obtain ⟨its, rv, ⟨⟨cls, dd, data, sls⟩, n, ho, hc, hdn, hdt⟩, hlen⟩ := I.list hs
      simp only at hc hdt
      subst hc hdt
      obtain ⟨as, h4⟩ := Dp.readsAll I ds _ its ha rv
      have hn : its.length = ds.length := SeqAt.ReadsAll.length ds its as h4
      have hmap : its.map (SeqAt.readOf s.heap) = ds := SeqAt.readsAll_map ds its as hxs h4
      have hvl := rv.length
      have hsl := sizeLine_eq
      obtain ⟨hjd, _⟩ := List.getElem?_eq_some_iff.mp hz
      have hjl : j < its.length := by omega
      have hj : j < its.toArray.size := by simpa using hjl
      have at_ : ∀ (m : Nat) (hm : m < its.toArray.size) (z' : PyData), ds[m]? = some z' → SeqAt.readOf s.heap its.toArray[m] = z' := by
        intro m hm z' hz'
        have hml : m < its.length := by simpa using hm
        rw [← hmap, List.getElem?_map, List.getElem?_eq_getElem hml] at hz'
        have e1 : SeqAt.readOf s.heap its[m] = z' := Option.some.inj (show some (SeqAt.readOf s.heap its[m]) = some z' from hz')
        simpa using e1
      refine call_meets PySem.F.slot_list_index ⟨_, ho, rfl⟩ PySem.F.entry_list_index (PySem.F.args_list_index_2 _ _)
        (SeqAt.list_indexAt a its.toArray n dd sls uy (fun u => PyData.eqv (SeqAt.readOf s.heap u) d) j hj (by omega) ?_ ?_) ⟨ho, SeqAt.items_eqAt (vs := its.toArray) (show ReadsAll s.heap its.toArray.toList ds as from h4) r1 hxs sd hroom, ?_⟩
      · show PyData.eqv (SeqAt.readOf s.heap its.toArray[j]) d = true
        rw [at_ j hj z hz]
        exact hzj
      · intro m hm hmj
        have hmd : m < ds.length := by omega
        have hz' : ds[m]? = some ds[m] := List.getElem?_eq_getElem hmd
        show PyData.eqv (SeqAt.readOf s.heap its.toArray[m]) d = false
        rw [at_ m hm _ hz']
        exact hno m _ hmj hz'
      · exact ⟨.int (j : Nat), H, I.tok _, ⟨_, rfl⟩, q⟩
theorem mt_countL : MtR X "list.count" (rMd X.K X.A false ctF) := by
  intro pins s σ H x xs v us Q I rx rxs h
  obtain ⟨a, y, d, ds, i, rfl, rfl, hl, hy, sd, hxs, hroom, hi, q⟩ := h
  cases hi
  have hl' : Dp X.K H (V.ref a) (.list ds) := hl
  cases rx
  cases rxs with
  | cons ry rt =>
    rename_i uy ut
    cases rt
    obtain ⟨bs, r1⟩ := Dp.reads I d y uy hy ry
    cases hl' with
    | lst hs ha =>
      obtain ⟨its, rv, ⟨⟨cls, dd, data, sls⟩, n, ho, hc, hdn, hdt⟩, hlen⟩ := I.list hs
      simp only at hc hdt
      subst hc hdt
      obtain ⟨as, h4⟩ := Dp.readsAll I ds _ its ha rv
      have hmap : its.map (SeqAt.readOf s.heap) = ds := SeqAt.readsAll_map ds its as hxs h4
      refine call_meets PySem.F.slot_list_count ⟨_, ho, rfl⟩ PySem.F.entry_list_count (PySem.F.args_list_count_2 _ _)
        (SeqAt.list_countAt a its.toArray n dd sls uy (fun u => PyData.eqv (SeqAt.readOf s.heap u) d)) ⟨ho, SeqAt.items_eqAt (vs := its.toArray) (show ReadsAll s.heap its.toArray.toList ds as from h4) r1 hxs sd hroom, ?_⟩
      have ec : its.toArray.toList.countP (fun u => PyData.eqv (SeqAt.readOf s.heap u) d) = ds.countP fun z => PyData.eqv z d := by
        rw [← hmap, List.countP_map]
        rfl
      refine ⟨.int (ds.countP fun z => PyData.eqv z d : Nat), H, I.tok _, ⟨s.toks, ?_⟩, q⟩
      show Value.int ((its.toArray.toList.countP (fun u => PyData.eqv (SeqAt.readOf s.heap u) d) : Nat) : Int) s.toks = Value.int ((ds.countP fun z => PyData.eqv z d : Nat) : Int) s.toks
      rw [ec]
end

def lsP : PyData → Option (List PyData)
  | .list xs => some xs
  | _ => none
theorem lsP_eq {x : PyData} {xs : List PyData} (h : lsP x = some xs) : x = .list xs := by
  cases x with
  | list ys =>
    cases h
    rfl
  | _ => cases h
def mdF (F : List PyData → PyData → Option Int) (f g : Slots → Co Dv) : Slots → Co Dv := fun ρ => bnd (f ρ) fun d => bnd (asG d) fun x0 => bnd (ofO (lsP x0)) fun _ => bnd (g ρ) fun e => bnd (asG d) fun x => bnd (asG e) fun y => bnd (ofO (lsP x)) fun xs => chk (inOk y xs) (bnd (ofO (F xs y)) fun i => rt (dI i))
section
variable {X : Cx} {G : Gx} {E : XK} {e e1 e2 : Expr} {es : List Expr} {f g : Slots → Co Dv} {pos : Pos} {F : List PyData → PyData → Option Int} {name : Str} {id : String}
theorem xmd {apos cpos : Pos} (hu : X.A.units + 200 < cLine) (hK : X.K = G.K) (slot : Slot "list" name id) (hty : typeOf (.builtin id) = pure (.type "method_descriptor")) (hm : MtR X id (rMd X.K X.A false F)) (ho : PE X e1 (rdE G E f)) (ha : PE X e2 (rdE G E g))
    (hbase : attributeBase e1 name X.env (eval e1 X.env) = eval e1 X.env := by rfl)
    (hfew : ((backTo cpos (starEach [e2] X.env)).all (fun x => !x.1) && (backToKw cpos (keywordEach [] X.env)).all (fun x => x.1.isSome)
      && decide (([e2] : List Expr).length + ([] : List Keyword).length + (if ([] : List Keyword).isEmpty then 0 else 1) < 30)) = true := by rfl)
    (hline : (apos.endLine == cpos.line) = true := by rfl) (hs : starEach [e2] X.env = (false, eval e2 X.env) :: starEach [] X.env := by rfl) (hplain : (backTo cpos (starEach [] X.env)).any (·.1) = false := by rfl) :
    PE X (.Call (.Attribute e1 name apos) [e2] [] cpos) (rdE G E (mdF F f g)) :=
  peI (pe_bm PySem.F.plainAttrs_list slot hty hm ho (pa_cons ha pa_nil hs) hbase hfew hline hs hplain) fun σ H Q h => by
    obtain ⟨ι, ρ, M, st, p⟩ := h
    refine ⟨ι, ρ, M, st, (Post.bnd p).mono fun d ι1 M1 H1 x1 p1 v rv => ?_⟩
    obtain ⟨x0, ex, p2⟩ := Post.asGe p1
    obtain ⟨xs0, e0, p3⟩ := Post.ofO p2
    have e00 := lsP_eq e0
    subst e00
    obtain ⟨a, vs, rfl, h1, h2⟩ := asG_lst x1.mem rv ex
    refine ⟨.inl ⟨rfl, vs, by rw [hK]; exact h1⟩, ?_⟩
    refine ⟨ι1, ρ, M1, st.ext x1, (Post.bnd p3).mono fun e ι2 M2 H2 x2 p4 w rw_ => ?_⟩
    obtain ⟨x, q1, p5⟩ := Post.asG x2.mem (rv.mono x2.pre x2.keep) p4
    obtain ⟨y, q2, p6⟩ := Post.asG x2.mem rw_ p5
    obtain ⟨xs, e4, p7⟩ := Post.ofO p6
    have e5 := lsP_eq e4
    subst e5
    obtain ⟨c, p8⟩ := Post.chk p7
    obtain ⟨i, ei, p9⟩ := Post.ofO p8
    obtain ⟨c1, c2, c3⟩ := inOk_ok c
    rw [hK]
    exact ⟨a, w, y, xs, i, rfl, rfl, q1 (noDct_of _ (by simpa [PyData.canLay0] using c2)), q2 (noDct_of _ c1), c1, c2, by omega, ei, Post.rt x2.mem p9 _ rpI⟩
end
end Xt
set_option Elab.async false
set_option linter.all false
set_option maxRecDepth 100000
set_option maxHeartbeats 1000000
namespace Xt
open PySem PySem.Spec PyProof.Rows L2
/-! ### calls whose new list is locked -/
def CaSF (G : Gx) (E : XK) (r : List V → Hp → VK → Prop) (F : List Dv → Co Dv) : Prop := ∀ (ι : List Addr) (M : Mem) (H : Hp) (xs : List V) (ds : List Dv) (Q : VK), MemR G ι H M → RpDs G ι H xs ds → Post G E ι H (QE G Q) (F ds M) → r xs H (VF Q)
section
variable {X : Cx} {G : Gx} {E : XK} {e e1 e2 : Expr} {es : List Expr} {f g : Slots → Co Dv} {pos : Pos}
theorem rd_cBF {r : List V → Hp → VK → Prop} {F : List Dv → Co Dv} {gs : Slots → Co (List Dv)} (hF : CaSF G E r F) {σ : L2.St} {H : Hp} {Q : VK} (h : rdE G E (cB F gs) σ H Q) : tCB r (rdA G E gs) σ H (VF Q) := by
  obtain ⟨ι, ρ, M, st, p⟩ := h
  exact ⟨ι, ρ, M, st, (Post.bnd p).mono fun ds ι1 M1 H1 x1 p1 vs rv => hF ι1 M1 H1 vs ds Q x1.mem rv p1⟩
theorem xcbF {x : Str} {p : Pos} {id : String} {r : List V → Hp → VK → Prop} {F : List Dv → Co Dv} {gs : Slots → Co (List Dv)} (hc : CallR X (.builtin id) r) (hF : CaSF G E r F) (hg : Gl X x) (hm : X.mg x = none) (hv : bootBuiltins x = some (.builtin id)) (ha : PA X (e :: es) (rdA G E gs))
    (hn : x ≠ "__name__" := by decide) (hdb : (x == ("__debug__" : Str)) = false := by decide) (he : starEach (e :: es) X.env = (false, eval e X.env) :: starEach es X.env := by rfl) (hpl : (backTo pos (starEach es X.env)).any (·.1) = false := by rfl) :
    PE X (.Call (.Name x p) (e :: es) [] pos) (rdE G E (cB F gs)) := peI (pe_frz (pe_callB hc hg hm hv ha hn hdb he hpl)) fun _ _ _ h => rd_cBF hF h
theorem xctF {x : Str} {p : Pos} {T : String} {r : List V → Hp → VK → Prop} {F : List Dv → Co Dv} {gs : Slots → Co (List Dv)} (hc : CallR X (.type T) r) (hF : CaSF G E r F) (hg : Gl X x) (hm : X.mg x = none) (hv : bootBuiltins x = some (.type T)) (ha : PA X (e :: es) (rdA G E gs))
    (hn : x ≠ "__name__" := by decide) (hdb : (x == ("__debug__" : Str)) = false := by decide) (he : starEach (e :: es) X.env = (false, eval e X.env) :: starEach es X.env := by rfl) (hpl : (backTo pos (starEach es X.env)).any (·.1) = false := by rfl) :
    PE X (.Call (.Name x p) (e :: es) [] pos) (rdE G E (cB F gs)) := peI (pe_frz (pe_callTy hc hg hm hv ha hn hdb he hpl)) fun _ _ _ h => rd_cBF hF h
end
section
variable {G : Gx} {E : XK} {ι : List Addr} {H : Hp} {M : Mem} {d : Dv} {v : V}
/-- the one argument -/
def one1 (k : PyData → Co Dv) : List Dv → Co Dv := fun ds => match ds with
  | [d] => bnd (asG d) k
  | _ => fl
theorem one1_ok {k : PyData → Co Dv} {Q : VK} {xs : List V} {ds : List Dv} (m : MemR G ι H M) (rr : RpDs G ι H xs ds) (p : Post G E ι H (QE G Q) (one1 k ds M)) : ∃ v d x, xs = [v] ∧ RpD G ι H v d ∧ asGp d M = some x ∧ Post G E ι H (QE G Q) (k x M) := by
  cases rr with
  | nil => exact p.elim
  | cons r1 t =>
    cases t with
    | cons _ _ => exact p.elim
    | nil =>
      obtain ⟨x, e, p⟩ := Post.asGe p
      exact ⟨_, _, x, rfl, r1, e, p⟩
theorem asG_tup {xs : List PyData} (m : MemR G ι H M) (r : RpD G ι H v d) (e : asGp d M = some (.tuple xs)) : ∃ a vs, v = .ref a ∧ SqT G.K H a vs ∧ RpVs G.K H vs xs := by
  cases r with
  | g r =>
    cases e
    cases r with
    | tup h r => exact ⟨_, _, rfl, .of h, r⟩
  | @r a i hi =>
    obtain ⟨ds, xs, e1, e2, e3⟩ := asGp_r e
    cases e3
  | t _ _ => cases e
/-! ### list(x) -/
def lstL : List Dv → Co Dv := one1 fun x => bnd (ofO (itsP x)) fun xs => rt (.g (.list xs))
def rLst (K : PySem.W.Frag) : List V → Hp → VK → Prop := fun xs H Q => ∃ p ys, xs = [.ref p] ∧ (SqL K H p ys ∨ SqT K H p ys) ∧ ∀ l, H l = none → Q (.ref l) (upd H l (.lst ys))
theorem cs_lst : CaSF G E (rLst G.K) lstL := fun ι M H xs ds Q m rr p => by
  obtain ⟨v, d, x, rfl, r1, e, p⟩ := one1_ok m rr p
  obtain ⟨ys, e2, p⟩ := Post.ofO p
  cases x with
  | list zs =>
    cases e2
    obtain ⟨a, vs, rfl, h1, h2⟩ := asG_lst m r1 e
    exact ⟨a, vs, rfl, .inl h1, lockF m h2 p⟩
  | tuple zs =>
    cases e2
    obtain ⟨a, vs, rfl, h1, h2⟩ := asG_tup m r1 e
    exact ⟨a, vs, rfl, .inr h1, lockF m h2 p⟩
  | _ => cases e2
theorem cr_lst {X : Cx} : CallR X (.type "list") (rLst X.K) := call_list_of
/-! ### sorted(xs), max(xs), min(xs) of ints -/
def insI (e : Int) : List Int → List Int
  | [] => [e]
  | x :: r => (match decide (x < e) with
    | true => x :: insI e r
    | false => e :: x :: r)
def sortI : List Int → List Int
  | [] => []
  | e :: r => insI e (sortI r)
theorem insI_perm (e : Int) : ∀ l, (insI e l).Perm (e :: l)
  | [] => List.Perm.refl _
  | x :: r => by
    unfold insI
    cases decide (x < e) with
    | true => exact ((insI_perm e r).cons x).trans (List.Perm.swap e x r)
    | false => exact List.Perm.refl _
theorem sortI_perm : ∀ l, (sortI l).Perm l
  | [] => List.Perm.refl _
  | e :: r => (insI_perm e (sortI r)).trans ((sortI_perm r).cons e)
theorem insI_srtd (e : Int) : ∀ {l : List Int}, l.Pairwise (· ≤ ·) → (insI e l).Pairwise (· ≤ ·)
  | [], _ => List.pairwise_singleton _ _
  | x :: r, h => by
    obtain ⟨h1, h2⟩ := List.pairwise_cons.mp h
    unfold insI
    cases q : decide (x < e) with
    | true =>
      have q1 := of_decide_eq_true q
      refine List.pairwise_cons.mpr ⟨fun y hy => ?_, insI_srtd e h2⟩
      rcases List.mem_cons.mp ((insI_perm e r).mem_iff.mp hy) with z | z
      · omega
      · exact h1 y z
    | false =>
      have q1 := of_decide_eq_false q
      refine List.pairwise_cons.mpr ⟨fun y hy => ?_, h⟩
      rcases List.mem_cons.mp hy with z | z
      · omega
      · have := h1 y z
        omega
theorem sortI_srtd : ∀ l : List Int, (sortI l).Pairwise (· ≤ ·)
  | [] => List.Pairwise.nil
  | e :: r => insI_srtd e (sortI_srtd r)
theorem sortI_uniq {l m : List Int} (h : l.Perm m) (s : l.Pairwise (· ≤ ·)) : l = sortI m :=
  List.Perm.eq_of_pairwise (fun a b _ _ h1 h2 => by omega) s (sortI_srtd m) (h.trans (sortI_perm m).symm)
def srtL : List Dv → Co Dv := one1 fun x => bnd (ofO (lsP x)) fun xs => bnd (ofO (intsP xs)) fun ns => rt (.g (.list ((sortI ns).map .int)))
theorem rpVs_ints {K : PySem.W.Frag} {H : Hp} : ∀ ns : List Int, RpVs K H (ns.map V.int) (ns.map PyData.int)
  | [] => .nil
  | n :: r => .cons (.int n) (rpVs_ints r)
theorem cs_srt : CaSF G E (rSortedI G.K) srtL := fun ι M H xs ds Q m rr p => by
  obtain ⟨v, d, x, rfl, r1, e, p⟩ := one1_ok m rr p
  obtain ⟨ys, e2, pa⟩ := Post.ofO p
  have e3 := lsP_eq e2
  subst e3
  obtain ⟨ns, e4, p⟩ := Post.ofO pa
  obtain ⟨a, vs, rfl, h1, h2⟩ := asG_lst m r1 e
  rw [intsP_rp h2 e4] at h1
  refine ⟨a, ns, rfl, h1, fun ns' p1 pm so hp => ?_⟩
  rw [sortI_uniq pm so]
  exact lockF m (rpVs_ints _) p p1 hp
def maxI : Int → List Int → Int
  | x, [] => x
  | x, y :: r => maxI (match decide (x < y) with
    | true => y
    | false => x) r
def minI : Int → List Int → Int
  | x, [] => x
  | x, y :: r => minI (match decide (y < x) with
    | true => y
    | false => x) r
theorem maxI_ok : ∀ (r : List Int) (x : Int), maxI x r ∈ x :: r ∧ ∀ y ∈ x :: r, y ≤ maxI x r
  | [], x => ⟨List.mem_cons_self .., fun y hy => by
    have := List.mem_singleton.mp hy
    show y ≤ x
    omega⟩
  | y :: r, x => by
    unfold maxI
    cases q : decide (x < y) with
    | true =>
      have q1 := of_decide_eq_true q
      obtain ⟨h1, h2⟩ := maxI_ok r y
      refine ⟨List.mem_cons_of_mem _ h1, fun z hz => ?_⟩
      rcases List.mem_cons.mp hz with k | k
      · have := h2 y (List.mem_cons_self ..)
        show z ≤ maxI y r
        omega
      · exact h2 z k
    | false =>
      have q1 := of_decide_eq_false q
      obtain ⟨h1, h2⟩ := maxI_ok r x
      refine ⟨?_, fun z hz => ?_⟩
      · rcases List.mem_cons.mp h1 with k | k
        · exact List.mem_cons.mpr (.inl k)
        · exact List.mem_cons_of_mem _ (List.mem_cons_of_mem _ k)
      · rcases List.mem_cons.mp hz with k | k
        · exact k ▸ h2 x (List.mem_cons_self ..)
        · rcases List.mem_cons.mp k with k | k
          · have := h2 x (List.mem_cons_self ..)
            show z ≤ maxI x r
            omega
          · exact h2 z (List.mem_cons_of_mem _ k)
theorem minI_ok : ∀ (r : List Int) (x : Int), minI x r ∈ x :: r ∧ ∀ y ∈ x :: r, minI x r ≤ y
  | [], x => ⟨List.mem_cons_self .., fun y hy => by
    have := List.mem_singleton.mp hy
    show x ≤ y
    omega⟩
  | y :: r, x => by
    unfold minI
    cases q : decide (y < x) with
    | true =>
      have q1 := of_decide_eq_true q
      obtain ⟨h1, h2⟩ := minI_ok r y
      refine ⟨List.mem_cons_of_mem _ h1, fun z hz => ?_⟩
      rcases List.mem_cons.mp hz with k | k
      · have := h2 y (List.mem_cons_self ..)
        show minI y r ≤ z
        omega
      · exact h2 z k
    | false =>
      have q1 := of_decide_eq_false q
      obtain ⟨h1, h2⟩ := minI_ok r x
      refine ⟨?_, fun z hz => ?_⟩
      · rcases List.mem_cons.mp h1 with k | k
        · exact List.mem_cons.mpr (.inl k)
        · exact List.mem_cons_of_mem _ (List.mem_cons_of_mem _ k)
      · rcases List.mem_cons.mp hz with k | k
        · exact k ▸ h2 x (List.mem_cons_self ..)
        · rcases List.mem_cons.mp k with k | k
          · have := h2 x (List.mem_cons_self ..)
            show minI x r ≤ z
            omega
          · exact h2 z (List.mem_cons_of_mem _ k)
def mxL (F : Int → List Int → Int) : List Dv → Co Dv := one1 fun x => bnd (ofO (lsP x)) fun xs => bnd (ofO (intsP xs)) fun ns => match ns with
  | [] => fl
  | n :: r => rt (dI (F n r))
theorem mx_go {F : Int → List Int → Int} {Q : VK} {xs : List V} {ds : List Dv} (m : MemR G ι H M) (rr : RpDs G ι H xs ds) (p : Post G E ι H (QE G Q) (mxL F ds M)) : ∃ a n r, xs = [.ref a] ∧ SqL G.K H a ((n :: r).map V.int) ∧ Q (.int (F n r)) H := by
  obtain ⟨v, d, x, rfl, r1, e, p⟩ := one1_ok m rr p
  obtain ⟨ys, e2, pa⟩ := Post.ofO p
  have e3 := lsP_eq e2
  subst e3
  obtain ⟨ns, e4, p⟩ := Post.ofO pa
  obtain ⟨a, vs, rfl, h1, h2⟩ := asG_lst m r1 e
  rw [intsP_rp h2 e4] at h1
  cases ns with
  | nil => exact p.elim
  | cons n r => exact ⟨a, n, r, rfl, h1, Post.rt m p _ rpI⟩
theorem cs_maxL : CaS G E (rMax G.K) (mxL maxI) := fun ι M H xs ds Q m rr p => by
  obtain ⟨a, n, r, rfl, h1, q⟩ := mx_go m rr p
  refine ⟨a, n :: r, rfl, h1, Nat.succ_pos _, fun k hk h => ?_⟩
  obtain ⟨z1, z2⟩ := maxI_ok r n
  have e : k = maxI n r := Int.le_antisymm (z2 k hk) (h _ z1)
  rw [e]
  exact q
theorem cs_minL : CaS G E (rMin G.K) (mxL minI) := fun ι M H xs ds Q m rr p => by
  obtain ⟨a, n, r, rfl, h1, q⟩ := mx_go m rr p
  refine ⟨a, n :: r, rfl, h1, Nat.succ_pos _, fun k hk h => ?_⟩
  obtain ⟨z1, z2⟩ := minI_ok r n
  have e : k = minI n r := Int.le_antisymm (h _ z1) (z2 k hk)
  rw [e]
  exact q
end
/-! ### list(range(..)) -/
def rgD (a b : Int) : List PyData := (List.range (b - a).toNat).map fun i => .int (a + (i : Nat))
theorem rgD_rp {K : PySem.W.Frag} {H : Hp} {a b : Int} : RpVs K H (rgV a b) (rgD a b) := by
  unfold rgV rgD
  generalize List.range (b - a).toNat = l
  induction l with
  | nil => exact .nil
  | cons x l ih => exact .cons (.int _) ih
def rgOk (a b : Int) : Bool := decide (0 ≤ a) && (decide (b ≤ 16777216) && (decide (a ≤ 16777216) && decide (0 ≤ b)))
theorem rgOk_ok {a b : Int} (h : rgOk a b = true) : RgOk a b := by
  obtain ⟨h1, h2⟩ := Bool.and_eq_true_iff.mp h
  obtain ⟨h3, h4⟩ := Bool.and_eq_true_iff.mp h2
  obtain ⟨h5, h6⟩ := Bool.and_eq_true_iff.mp h4
  exact RgOk.of_le (of_decide_eq_true h1) (of_decide_eq_true h3) (of_decide_eq_true h5) (of_decide_eq_true h6)
def lrg1 (f : Slots → Co Dv) : Slots → Co Dv := fun ρ => bnd (f ρ) fun d => bnd (ofO (asI d)) fun b => chk (rgOk 0 b) (rt (.g (.list (rgD 0 b))))
def lrg2 (f g : Slots → Co Dv) : Slots → Co Dv := fun ρ => bnd (f ρ) fun d => bnd (ofO (asI d)) fun a => bnd (g ρ) fun e => bnd (ofO (asI e)) fun b => chk (rgOk a b) (rt (.g (.list (rgD a b))))
section
variable {X : Cx} {G : Gx} {E : XK} {e e1 e2 : Expr} {es : List Expr} {f g : Slots → Co Dv} {gs : Slots → Co (List Dv)} {p pos p2 p3 : Pos}
theorem xlrg1 (hc : X.calm = true) (hg : Gl X "list") (hm : X.mg "list" = none) (hg2 : Gl X "range") (hm2 : X.mg "range" = none) (he : PE X e (rdE G E f)) (n2 : starEach [e] X.env = (false, eval e X.env) :: starEach [] X.env := by rfl) :
    PE X (.Call (.Name "list" p) [.Call (.Name "range" p2) [e] [] p3] [] pos) (rdE G E (lrg1 f)) :=
  peI (pe_frz (pe_listRg hc hg hm (prg_1 hg2 hm2 he n2))) fun σ H Q h => by
    obtain ⟨ι, ρ, M, st, p⟩ := h
    refine ⟨ι, ρ, M, st, (Post.bnd p).mono fun d ι1 M1 H1 x1 p1 v rv => ?_⟩
    obtain ⟨i, ei, p⟩ := Post.ofO p1
    obtain ⟨c, p⟩ := Post.chk p
    obtain ⟨rfl, rfl⟩ := asI_rp rv ei
    exact ⟨_, rfl, rgOk_ok c, lockF x1.mem rgD_rp p⟩
theorem xlrg2 (hc : X.calm = true) (hg : Gl X "list") (hm : X.mg "list" = none) (hg2 : Gl X "range") (hm2 : X.mg "range" = none) (he : PE X e1 (rdE G E f)) (he2 : PE X e2 (rdE G E g)) (n2 : starEach [e1, e2] X.env = (false, eval e1 X.env) :: starEach [e2] X.env := by rfl)
    (n3 : starEach [e2] X.env = (false, eval e2 X.env) :: starEach [] X.env := by rfl) (n4 : (backTo p3 (starEach [e2] X.env)).any (·.1) = false := by rfl) :
    PE X (.Call (.Name "list" p) [.Call (.Name "range" p2) [e1, e2] [] p3] [] pos) (rdE G E (lrg2 f g)) :=
  peI (pe_frz (pe_listRg hc hg hm (prg_2 hg2 hm2 he he2 n2 n3 n4))) fun σ H Q h => by
    obtain ⟨ι, ρ, M, st, p⟩ := h
    refine ⟨ι, ρ, M, st, (Post.bnd p).mono fun d ι1 M1 H1 x1 p1 v rv => ?_⟩
    obtain ⟨i, ei, p⟩ := Post.ofO p1
    obtain ⟨rfl, rfl⟩ := asI_rp rv ei
    refine ⟨ι1, ρ, M1, st.ext x1, (Post.bnd p).mono fun d2 ι2 M2 H2 x2 p2 w rw => ?_⟩
    obtain ⟨j, ej, p⟩ := Post.ofO p2
    obtain ⟨c, p⟩ := Post.chk p
    obtain ⟨rfl, rfl⟩ := asI_rp rw ej
    exact ⟨_, _, rfl, rfl, rgOk_ok c, lockF x2.mem rgD_rp p⟩
/-- [.., *e, ..] -/
def acS (f : Slots → Co Dv) (gs : Slots → Co (List Dv)) : Slots → Co (List Dv) := fun ρ => bnd (f ρ) fun d => bnd (asG d) fun x => bnd (ofO (lsP x)) fun xs => bnd (gs ρ) fun ys => rt (xs.map Dv.g ++ ys)
theorem rpVs_g {ι : List Addr} {H : Hp} : ∀ {vs : List V} {xs : List PyData}, RpVs G.K H vs xs → RpDs G ι H vs (xs.map Dv.g)
  | _, _, .nil => .nil
  | _, _, .cons h r => .cons (.g h) (rpVs_g r)
theorem RpDs.app {ι : List Addr} {H : Hp} : ∀ {vs : List V} {xs : List Dv} {ws : List V} {ys : List Dv}, RpDs G ι H vs xs → RpDs G ι H ws ys → RpDs G ι H (vs ++ ws) (xs ++ ys)
  | _, _, _, _, .nil, h => h
  | _, _, _, _, .cons h r, q => .cons h (RpDs.app r q)
theorem xaS (hK : X.K = G.K) (he : PE X e (rdE G E f)) (hr : PA X es (rdA G E gs)) (hs : starEach (.Starred e p :: es) X.env = (true, eval e X.env) :: starEach es X.env := by rfl) : PA X (.Starred e p :: es) (rdA G E (acS f gs)) :=
  paI (StX.pa_star he hr hs) fun σ H Q h => by
    obtain ⟨ι, ρ, M, st, p⟩ := h
    refine ⟨ι, ρ, M, st, (Post.bnd p).mono fun d ι1 M1 H1 x1 p1 v rv => ?_⟩
    obtain ⟨x, ex, p2⟩ := Post.asGe p1
    obtain ⟨xs, e0, p3⟩ := Post.ofO p2
    have e00 := lsP_eq e0
    subst e00
    obtain ⟨a, vs, rfl, h1, h2⟩ := asG_lst x1.mem rv ex
    refine ⟨a, vs, rfl, .inr (by rw [hK]; exact h1), ?_⟩
    refine ⟨ι1, ρ, M1, st.ext x1, (Post.bnd p3).mono fun ds ι2 M2 H2 x2 p4 ws rw => ?_⟩
    exact Post.rt x2.mem p4 _ (RpDs.app (rpVs_g (h2.mono x2.keep)) rw)
end
end Xt
set_option Elab.async false
set_option linter.all false
set_option maxRecDepth 100000
set_option maxHeartbeats 4000000
namespace Xt
open PySem PySem.Spec PyProof.Rows L2
/-! ### sets of ints: len(set(x)), sorted(set(x)) -/
/-- the ints of a list, each once -/
def ddI : List Int → List Int → List Int
  | a, [] => a
  | a, k :: r => (match a.any fun j => decide (j = k) with
    | true => ddI a r
    | false => ddI (a ++ [k]) r)
theorem ddI_ok : ∀ (r a : List Int), a.Nodup → (ddI a r).Nodup ∧ ∀ k, k ∈ ddI a r ↔ k ∈ a ∨ k ∈ r
  | [], a, h => ⟨h, fun k => by
    show k ∈ a ↔ _
    simp⟩
  | x :: r, a, h => by
    unfold ddI
    cases e : a.any fun j => decide (j = x) with
    | true =>
      have hx : x ∈ a := by simpa using e
      obtain ⟨h1, h2⟩ := ddI_ok r a h
      refine ⟨h1, fun k => ?_⟩
      rw [h2 k]
      constructor
      · rintro (q | q)
        · exact .inl q
        · exact .inr (List.mem_cons_of_mem _ q)
      · rintro (q | q)
        · exact .inl q
        · rcases List.mem_cons.mp q with z | z
          · subst z
            exact .inl hx
          · exact .inr z
    | false =>
      have hx : x ∉ a := fun q => (List.any_eq_false.mp e x q) (decide_eq_true rfl)
      have hn : (a ++ [x]).Nodup := by
        refine List.nodup_append.mpr ⟨h, by simp, fun b hb c hc => ?_⟩
        have hc2 := List.mem_singleton.mp hc
        subst hc2
        exact fun z => hx (z ▸ hb)
      obtain ⟨h1, h2⟩ := ddI_ok r (a ++ [x]) hn
      refine ⟨h1, fun k => ?_⟩
      rw [h2 k]
      simp [or_assoc]
theorem dd_card {S : Int → Bool} {w : World} {h : Heap} {a : Addr} {c : Nat} {ns : List Int} (R : SetR w h a S c) (hS : ∀ k, S k = decide (k ∈ ns)) : c = (ddI [] ns).length := by
  obtain ⟨o, es, ep, t, _, _, _, _, nd, hm, _, _, hn, _⟩ := R
  obtain ⟨h1, h2⟩ := ddI_ok ns [] List.nodup_nil
  have pm : (es.toList.map keyOf).Perm (ddI [] ns) := (List.perm_ext_iff_of_nodup nd h1).mpr fun k => by
    rw [← hm k, hS k, h2 k]
    simp
  have := pm.length_eq
  rw [List.length_map, Array.length_toList] at this
  omega
section
variable {P : Program} {w : World} {A : Around} {E : Value → Shared → Prop} {s : Shared}
/-- a set as it is born -/
abbrev bornS (w : World) : Obj := { cls := .type "set", dict := none, data := .set #[] 0 (.fresh 0 0 (!w.params.followText "set-order")) }
/-- set(xs), xs a list of ints -/
theorem set_of_list {l : Addr} {its : Array Value} (ns : List Int) {Q : Value → Shared → Prop} (hh : A.handled = none) (hl : s.heap.IsList l its) (hit : IntsAre its.toList ns) (hb : ns.length + 1 < scanBound)
    (h : ∀ (h' : Heap) (tk c : Nat), SetR w h' s.heap.objs.size (fun j => decide (j ∈ ns)) c → c ≤ ns.length → (∀ b o, s.heap.get? b = some o → h'.get? b = some o) → Q (.ref s.heap.objs.size) { s with heap := h', toks := tk }) :
    wpAny (model P w) A (call (.type "set") [.ref l]) Q E s := by
  have hlen : its.size = ns.length := (Array.length_toList ..).symm.trans (IntsAre.length hit)
  have f0 := F.called_set.mro
  obtain ⟨c0, t0, f0⟩ := f0
  have f1 := F.called_set.made
  have f2 := F.called_set.sub
  have f3 := F.called_set.notType
  have f4 := F.called_set.canCreate
  have f5 := F.typeCall_set_1 (.ref l)
  refine wpAny_call (codeAny_of_tree (show wpAny _ _ (callAny (.type "set") _) _ _ _ from wpAny_pure ⟨Code.quiet_builtin _ (by decide +kernel), codeAny_builtin PySem.F.entry_type_call ?_⟩))
  rw [Around.under_plain (weight_type_call_type "set" [.ref l] []) rfl]
  repeat (any_goals (first | assumption | wp_step))
  refine codeAny_mono (code_set_led1 (E := E) (.ref l) (Q₁ := fun x z => x = .ref s.heap.objs.size ∧ z = { s with heap := s.heap.push (bornS w) }) ⟨rfl, rfl⟩) fun r z hr => ?_
  match r, hr with
  | .error e, hr => exact hr
  | .ok (.ret x), hr =>
    obtain ⟨rfl, rfl⟩ := hr
    have g0 : (s.heap.push (bornS w)).get? s.heap.objs.size = some (bornS w) := Heap.get?_push_size _ rfl
    have gT : Shared.TypeIs { s with heap := s.heap.push (bornS w) } (.ref s.heap.objs.size) "set" := ⟨_, g0, rfl⟩
    have g1 := F.called_set.init.lookup
    have g2 := F.called_set.init.bind (.ref s.heap.objs.size)
    repeat (any_goals (first | assumption | wp_step))
    refine codeAny_mono (codeAny_call_builtin (R := wants (fun r z => r = .none ∧ ∃ h' tk c, z = { s with heap := h', toks := tk } ∧ SetR w h' s.heap.objs.size (fun j => decide (j ∈ ns)) c ∧ c ≤ ns.length ∧ (∀ b o, s.heap.get? b = some o → h'.get? b = some o)) E)
      F.called_set.init.plain F.entry_set_init (check_set_init_1 gT ?_)) fun r2 z2 hr2 => ?_
    · obtain ⟨⟨oc, od, oda, osl⟩, k1, k2, k3, k4⟩ := hl
      dsimp only at k2 k4
      subst k2 k4
      have k1' : (s.heap.push (bornS w)).get? l = some { cls := .type "list", dict := od, data := .seq its k3, slots := osl } := Heap.get?_push_of_some _ k1
      have m1 := F.sub_list_set
      have m2 := F.sub_list_frozenset
      have m3 : (Value.type "list" == Value.type "dict") = false := by decide
      have m4 : (s.heap.push (bornS w)).IsList l its := ⟨_, k1', rfl, k3, rfl⟩
      unfold Builtin.«set.__init__» noKeywords Builtin.Frozenset.updateFrom
      generalize e0 : pyIter = PI
      wp_walk
      subst e0
      refine wpAny_pyIter_list m4 (wpAny_bind (wpAny_runValue ?_))
      have lt0 : l < s.heap.objs.size := Heap.lt_size k1
      have sz : (s.heap.push (bornS w)).objs.size = s.heap.objs.size + 1 := Heap.size_push ..
      have hnone : A.in1.in1.in1.handled = none := by simp [hh]
      have ne1 : l ≠ (s.heap.push (bornS w)).objs.size := Nat.ne_of_lt (sz ▸ Nat.lt_succ_of_lt lt0)
      have nin : s.heap.objs.size ∉ [(s.heap.push (bornS w)).objs.size, l] := by
        intro q
        rw [sz] at q
        rcases List.mem_cons.mp q with q | q
        · exact Nat.ne_of_lt (Nat.lt_succ_self _) q
        · exact Nat.ne_of_gt lt0 (List.mem_singleton.mp q)
      have vals : ∀ (i : Nat) (v : Value), its[i]? = some v → ∃ k t, ns[i]? = some k ∧ v = .int k t := fun i v hv => by
        have hi : i < ns.length := hlen ▸ (Array.getElem?_eq_some_iff.mp hv).1
        obtain ⟨t, e⟩ := IntsAre.int_at hit i v ((Array.getElem?_toList ..).trans hv)
        have e2 : ns[i]? = some ns[i] := List.getElem?_eq_getElem hi
        rw [List.getD_eq_getElem?_getD, e2] at e
        exact ⟨ns[i], t, e2, e⟩
      refine set_update_ints ((Walks.list hnone _ l ne1 its).toS) s.heap.objs.size nin ns hlen hb vals its.size 0 _ rfl (Nat.zero_le _) ⟨⟨_, Heap.get?_push_size _ rfl, rfl, rfl⟩, m4.push _⟩ ⟨0, Nat.le_refl 0, setR_new_at (Heap.get?_push_of_some _ g0)⟩ fun z3 c3 mv le3 R3 => ?_
      obtain ⟨h3, gn3, dr3, tk3, os3⟩ := z3
      have q1 : gn3 = s.gens := mv.gens
      have q2 : dr3 = s.drawn := mv.drawn
      have q3 : os3 = s.os := mv.os
      subst q1 q2 q3
      refine wpAny_pure (show wpAny _ _ (PySem.ret Value.none) _ _ _ from wpAny_pure ⟨rfl, h3, tk3, c3, rfl, R3, by omega, fun b o eb => ?_⟩)
      have b0 : b < s.heap.objs.size := Heap.lt_size eb
      refine mv.heap b o (fun q => ?_) (Heap.get?_push_of_some _ (Heap.get?_push_of_some _ eb))
      rcases List.mem_cons.mp q with q | q
      · exact Nat.ne_of_lt b0 q
      · rw [sz] at q
        exact Nat.ne_of_lt (Nat.lt_succ_of_lt b0) (List.mem_singleton.mp q)
    · match r2, hr2 with
      | .error e, hr2 => exact hr2
      | .ok (.ret x), hr2 =>
        obtain ⟨rfl, h3, tk3, c3, rfl, R3, le3, kp⟩ := hr2
        repeat (any_goals (first | assumption | wp_step))
        exact h _ _ _ R3 le3 kp
end
end Xt
set_option Elab.async false
set_option linter.all false
set_option maxRecDepth 100000
set_option maxHeartbeats 4000000
namespace Xt
open PySem PySem.Spec PyProof.Rows L2
/-- len(set(f)), f a list or a tuple of ints -/
def lnS (f : Slots → Co Dv) : Slots → Co Dv := fun ρ => bnd (f ρ) fun d => bnd (asG d) fun x => bnd (ofO (itsP x)) fun xs => bnd (ofO (intsP xs)) fun ns => chk (Nat.ble ns.length 4000) (rt (dI ((ddI [] ns).length : Nat)))
/-- sorted(set(f)) -/
def srS (f : Slots → Co Dv) : Slots → Co Dv := fun ρ => bnd (f ρ) fun d => bnd (asG d) fun x => bnd (ofO (itsP x)) fun xs => bnd (ofO (intsP xs)) fun ns => chk (Nat.ble ns.length 4000 && Nat.blt (ddI [] ns).length 64) (rt (.g (.list ((sortI (ddI [] ns)).map .int))))
section
variable {X : Cx} {G : Gx} {E : XK} {a : Expr} {f : Slots → Co Dv} {p p2 q pos : Pos}
/-- the ints of a list or a tuple, at the library's level -/
def tLS (K : PySem.W.Frag) (ta : TE) : TE := fun σ H Q => ta σ H fun x H1 => ∃ (l : Addr) (ns : List Int), x = .ref l ∧ (SqL K H1 l (ns.map V.int) ∨ SqT K H1 l (ns.map V.int)) ∧ ns.length ≤ 4000 ∧ Q (.int ((ddI [] ns).length : Nat)) H1
def tSS (K : PySem.W.Frag) (ta : TE) : TE := fun σ H Q => ta σ H fun x H1 => ∃ (l : Addr) (ns : List Int), x = .ref l ∧ (SqL K H1 l (ns.map V.int) ∨ SqT K H1 l (ns.map V.int)) ∧ ns.length ≤ 4000 ∧ (ddI [] ns).length < 64 ∧
  ∀ r, H1 r = none → Q (.ref r) (upd H1 r (.lst ((sortI (ddI [] ns)).map V.int)))
theorem of_either {pins : List (Addr × Obj)} {σ : L2.St} {H : Hp} {s : Shared} {l : Addr} {ns : List Int} {E : Value → Shared → Prop} {Q : Value → Shared → Prop} {A : Around} (hh : A.handled = none) (I : Inv X pins σ H s) (hq : SqL X.K H l (ns.map V.int) ∨ SqT X.K H l (ns.map V.int)) (hn : ns.length ≤ 4000)
    (h : ∀ s2 : Shared, SetR X.w s2.heap s.heap.objs.size (fun j => decide (j ∈ ns)) (ddI [] ns).length → Inv X pins σ H s2 → Q (.ref s.heap.objs.size) s2) :
    wpAny (model X.prog X.w) A (call (.type "set") [.ref l]) Q E s := by
  have hb : ns.length + 1 < scanBound := by unfold scanBound; omega
  rcases hq with hq | hq
  · obtain ⟨its, r, pl, hz⟩ := I.list hq
    refine set_of_list ns hh pl.isList (by simpa using RZ.intsAre_vals r) hb fun h' tk c R hc hk => ?_
    have e := dd_card R fun _ => rfl
    subst e
    exact h _ R (I.kept hk)
  · obtain ⟨its, r, pl, hz⟩ := I.tuple hq
    refine call_set_tupI ns hh pl (by simpa using RZ.intsAre_vals r) hb fun h' tk c R hc hk => ?_
    have e := dd_card R fun _ => rfl
    subst e
    exact h _ R (I.kept hk)
theorem pe_lnS (hc : X.calm = true) (hg : Gl X "len") (hm : X.mg "len" = none) (hg2 : Gl X "set") (hm2 : X.mg "set" = none) {ta : TE} (ha : PE X a ta)
    (na : starEach [a] X.env = (false, eval a X.env) :: starEach [] X.env := by rfl) : PE X (.Call (.Name "len" p) [.Call (.Name "set" p2) [a] [] q] [] pos) (tLS X.K ta) :=
  ⟨fun pins s σ H Q I h => Call_ (ld_blt I hg hm boot_len (PyProof.Rows.callWith_builtin1 (PyProof.Rows.args_cons (Call_ (ld_blt I hg2 hm2 boot_set (PyProof.Rows.callWith_type1 (PyProof.Rows.args_cons (thn (ha.run pins s σ H _ I h) fun v s1 ⟨x, H1, I1, r1, q1⟩ => PyProof.Rows.args_nil (by
    obtain ⟨l, ns, rfl, hq, hn, q1⟩ := q1
    cases r1
    refine of_either (I1.ok.hd hc) I1 hq hn fun s2 R I2 => PyProof.Rows.args_nil ?_
    have S := R.setOf (P := X.prog)
    obtain ⟨o, es, ep, t, ho, hex, hd, _, _, _, hf, hz⟩ := S
    have lt : (ddI [] ns).length < 2 ^ 62 := by
      obtain ⟨o2, es2, ep2, t2, _, _, _, _, _, _, hb2, _, hz2, _⟩ := R
      unfold scanBound at hb2
      omega
    exact call_len_set ho hex hd hf (by omega) ⟨.int ((ddI [] ns).length : Nat), H1, I2.tok _, ⟨_, by rw [hz]⟩, q1⟩)) na) na rfl))) rfl) rfl rfl))⟩
theorem pe_srS (hc : X.calm = true) (hg : Gl X "sorted") (hm : X.mg "sorted" = none) (hg2 : Gl X "set") (hm2 : X.mg "set" = none) {ta : TE} (ha : PE X a ta)
    (na : starEach [a] X.env = (false, eval a X.env) :: starEach [] X.env := by rfl) : PE X (.Call (.Name "sorted" p) [.Call (.Name "set" p2) [a] [] q] [] pos) (tSS X.K ta) :=
  ⟨fun pins s σ H Q I h => Call_ (ld_blt I hg hm boot_sorted (PyProof.Rows.callWith_builtin1 (PyProof.Rows.args_cons (Call_ (ld_blt I hg2 hm2 boot_set (PyProof.Rows.callWith_type1 (PyProof.Rows.args_cons (thn (ha.run pins s σ H _ I h) fun v s1 ⟨x, H1, I1, r1, q1⟩ => PyProof.Rows.args_nil (by
    obtain ⟨l, ns, rfl, hq, hn, h64, q1⟩ := q1
    cases r1
    refine of_either (I1.ok.hd hc) I1 hq hn fun s2 R I2 => PyProof.Rows.args_nil ?_
    refine sorted_set R (I1.ok.hd hc) h64 fun z pz out c ns2 k g o hp hg0 hi so mem len => ?_
    have eq : ns2 = sortI (ddI [] ns) := by
      obtain ⟨d1, d2⟩ := ddI_ok ns [] List.nodup_nil
      have nd : ns2.Nodup := so.imp (fun h => by omega)
      refine sortI_uniq ((List.perm_ext_iff_of_nodup nd d1).mpr fun j => ?_) (so.imp fun h => by omega)
      rw [mem j, d2 j]
      simp
    subst eq
    have nn : H1 pz = none := I2.hok.fresh hp
    have ez : z = { s2 with heap := z.heap, gens := z.gens, drawn := z.drawn, toks := z.toks } := by
      cases z
      cases s2
      cases o
      rfl
    have J : Inv X pins σ (upd H1 pz (.lst ((sortI (ddI [] ns)).map V.int))) { s2 with heap := z.heap, gens := z.gens, drawn := z.drawn, toks := z.toks } :=
      I2.call (ch := []) (Un.laid k hp nn) (I2.hok.laid k hp ⟨by rw [List.length_map, len, sizeLine_eq]; omega, out.toList, c, vals_of_ints hi, hg0⟩) (by rw [g]; exact I2.bare) (fun _ z => nomatch z)
    rw [ez]
    exact ⟨.ref pz, _, J, rfl, q1 pz nn⟩)) na) na rfl))) rfl) rfl rfl))⟩
theorem tLS_of {K : PySem.W.Frag} (hK : K = G.K) {σ : L2.St} {H : Hp} {Q : VK} (h : rdE G E (lnS f) σ H Q) : tLS K (rdE G E f) σ H Q := by
  obtain ⟨ι, ρ, M, st, p⟩ := h
  refine ⟨ι, ρ, M, st, (Post.bnd p).mono fun d ι1 M1 H1 x1 p1 v rv => ?_⟩
  obtain ⟨x, e, p2⟩ := Post.asGe p1
  obtain ⟨xs, e2, p3⟩ := Post.ofO p2
  obtain ⟨ns, e4, p4⟩ := Post.ofO p3
  obtain ⟨c, p5⟩ := Post.chk p4
  have q := Post.rt x1.mem p5 _ rpI
  cases x with
  | list zs =>
    cases e2
    obtain ⟨l, vs, rfl, h1, h2⟩ := asG_lst x1.mem rv e
    rw [intsP_rp h2 e4] at h1
    exact ⟨l, ns, rfl, .inl (hK ▸ h1), Nat.le_of_ble_eq_true c, q⟩
  | tuple zs =>
    cases e2
    obtain ⟨l, vs, rfl, h1, h2⟩ := asG_tup x1.mem rv e
    rw [intsP_rp h2 e4] at h1
    exact ⟨l, ns, rfl, .inr (hK ▸ h1), Nat.le_of_ble_eq_true c, q⟩
  | _ => cases e2
theorem tSS_of {K : PySem.W.Frag} (hK : K = G.K) {σ : L2.St} {H : Hp} {Q : VK} (h : rdE G E (srS f) σ H Q) : tSS K (rdE G E f) σ H (VF Q) := by
  obtain ⟨ι, ρ, M, st, p⟩ := h
  refine ⟨ι, ρ, M, st, (Post.bnd p).mono fun d ι1 M1 H1 x1 p1 v rv => ?_⟩
  obtain ⟨x, e, p2⟩ := Post.asGe p1
  obtain ⟨xs, e2, p3⟩ := Post.ofO p2
  obtain ⟨ns, e4, p4⟩ := Post.ofO p3
  obtain ⟨c, p5⟩ := Post.chk p4
  obtain ⟨c1, c2⟩ := Bool.and_eq_true_iff.mp c
  have q := lockF x1.mem (rpVs_ints (sortI (ddI [] ns))) p5
  have c3 : (ddI [] ns).length < 64 := Nat.le_of_ble_eq_true c2
  cases x with
  | list zs =>
    cases e2
    obtain ⟨l, vs, rfl, h1, h2⟩ := asG_lst x1.mem rv e
    rw [intsP_rp h2 e4] at h1
    exact ⟨l, ns, rfl, .inl (hK ▸ h1), Nat.le_of_ble_eq_true c1, c3, q⟩
  | tuple zs =>
    cases e2
    obtain ⟨l, vs, rfl, h1, h2⟩ := asG_tup x1.mem rv e
    rw [intsP_rp h2 e4] at h1
    exact ⟨l, ns, rfl, .inr (hK ▸ h1), Nat.le_of_ble_eq_true c1, c3, q⟩
  | _ => cases e2
theorem xlnS (hc : X.calm = true) (hg : Gl X "len") (hm : X.mg "len" = none) (hg2 : Gl X "set") (hm2 : X.mg "set" = none) (ha : PE X a (rdE G E f))
    (na : starEach [a] X.env = (false, eval a X.env) :: starEach [] X.env := by rfl) (hK : X.K = G.K := by rfl) : PE X (.Call (.Name "len" p) [.Call (.Name "set" p2) [a] [] q] [] pos) (rdE G E (lnS f)) := peI (pe_lnS hc hg hm hg2 hm2 ha na) fun _ _ _ h => tLS_of hK h
theorem xsrS (hc : X.calm = true) (hg : Gl X "sorted") (hm : X.mg "sorted" = none) (hg2 : Gl X "set") (hm2 : X.mg "set" = none) (ha : PE X a (rdE G E f))
    (na : starEach [a] X.env = (false, eval a X.env) :: starEach [] X.env := by rfl) (hK : X.K = G.K := by rfl) : PE X (.Call (.Name "sorted" p) [.Call (.Name "set" p2) [a] [] q] [] pos) (rdE G E (srS f)) := peI (pe_frz (pe_srS hc hg hm hg2 hm2 ha na)) fun _ _ _ h => tSS_of hK h
end
end Xt
set_option Elab.async false
set_option linter.all false
set_option maxRecDepth 100000
set_option maxHeartbeats 4000000
namespace Xt
open PySem PySem.Spec PyProof.Rows L2
/-! ### raising -/
/-- raise c() -/
def rsC (c : Str) : Slots → Co Fl := fun _ M => .ex ⟨c, none⟩ M
/-- what the head tells of an own exception class -/
structure ExF (G : Gx) (x : Str) (C : Addr) : Prop where
  gC : G.mg x = some (.ref C)
  exc : PySem.W.excIn G.K C He.veBase "ValueError.__new__" = true
  kp : PySem.W.keepIn G.K (.ref C) = true
  sb : PySem.W.subIn G.K (.ref C) (.type "BaseException") = some true
  ty : PySem.W.typeIn G.K (.ref C) = some (.type "type")
section
variable {X : Cx} {G : Gx} {E : XK} {x : Str} {C : Addr} {p pos pos2 : Pos}
theorem pmk_0 (hK : X.K = G.K) (hm : X.mg = G.mg) (F : ExF G x C) (hg : Gl X x) (hdb : (x == ("__debug__" : Str)) = false := by decide) : PMk X (.Call (.Name x p) [] [] pos) (fun _ H Q => Q (.ref C) none H) := by
  intro pins s σ H Q I h
  have gC : X.mg x = some (.ref C) := by rw [hm]; exact F.gC
  have kC : PySem.W.keepIn X.K (.ref C) = true := by rw [hK]; exact F.kp
  have q : PySem.W.excIn X.K C He.veBase "ValueError.__new__" = true := by rw [hK]; exact F.exc
  have r : Raises X (.ref C) := raises_own (by rw [hK]; exact F.sb) (by rw [hK]; exact F.ty)
  refine wpAny_Call_Name_kw (ld_glob I hg gC (PySem.W.callWith_K0 I.kIn kC ?_) hdb)
  show wpAny _ _ (call (.ref C) []) _ _ _
  obtain ⟨bm, N, nm, qn, bs, hdct, sn, sub, ab, col, dd, k0, k1, k2, k3, k5, mN, hC, hN, hni, T⟩ := exc_obj I.kIn q
  exact wpAny_call_exc_subT PySem.F.excBase_ValueError T hC hN hni (fun h' e hm => mk_of I hm r h (I.hok.gone hm.new)) (by show 0 ≤ sizeLine; exact Nat.zero_le _)
theorem xrz {W : WX} (hc : X.calm = true) (tk : Takes X W) (hW : ∀ cls d σ H, E cls d H → W cls d σ H) (hK : X.K = G.K) (hm : X.mg = G.mg) (F : ExF G x C) (hg : Gl X x) (hdb : (x == ("__debug__" : Str)) = false := by decide) :
    PS X (.Raise (some (.Call (.Name x p) [] [] pos)) none pos2) (rdS G E (rsC x)) := psI (ps_raise hc tk (pmk_0 hK hm F hg hdb)) fun D σ H h => by
  obtain ⟨ι, ρ, M, st, q⟩ := h
  exact hW _ _ _ _ (q ι H (.ref C) none (.refl st.mem) ⟨⟨C, F.gC, rfl⟩, rfl⟩)
/-- a callee's exceptions are let through, or are none -/
theorem px1 {W : WX} (tk : Takes X W) (hW : ∀ cls d σ H, E cls d H → W cls d σ H) : Passes (L2.CX X.prog X.w) X E := passes_call tk hW
theorem pxN : Passes (L2.CX X.prog X.w) X E0 := fun _ _ _ _ _ _ _ c => by
  obtain ⟨_, _, _, _, _, _, _, _, _, _, _, _, z⟩ := c
  exact z.elim
theorem tk_of {P : Program} {w : World} {K : PySem.W.Frag} {mg : Str → Option Value} {base : Heap} {N : List Str} {q : Str} {sc : Scope} {f : Addr} {cdv : Value} {A : Around} {outer : List Env} {s : Shared} {H : Hp} : Takes (cxOf (L2.CX P w) P w K mg base N q sc f cdv A outer s H E) (fun cls d _ H => E cls d H) := takes_of rfl rfl rfl rfl
end
end Xt
set_option Elab.async false
set_option linter.all false
set_option maxRecDepth 100000
set_option maxHeartbeats 4000000
namespace Xt
open PySem PySem.Spec PyProof.Rows L2
section
variable {P : Program} {w : World} {K : PySem.W.Frag} {mg : Str → Option Value} {base : Heap} {N : List Str} {q : Str} {sc : Scope} {f : Addr} {cdv : Value} {A : Around} {outer : List Env} {s : Shared} {H : Hp} {E : XK} {G : Gx} {x : Str} {C : Addr} {p pos pos2 : Pos}
theorem pxX : Passes (L2.CX P w) (cxOf (L2.CX P w) P w K mg base N q sc f cdv A outer s H E) E := px1 tk_of fun _ _ _ _ h => h
theorem pxNX {CX : CXT} : Passes (L2.CX P w) (cxOf CX P w K mg base N q sc f cdv A outer s H E).nox E0 := pxN
theorem xrX (F : ExF G x C) (hg : Gl (cxOf (L2.CX P w) P w G.K G.mg base N q sc f cdv A outer s H E) x) (hdb : (x == ("__debug__" : Str)) = false := by decide) :
    PS (cxOf (L2.CX P w) P w G.K G.mg base N q sc f cdv A outer s H E) (.Raise (some (.Call (.Name x p) [] [] pos)) none pos2) (rdS G E (rsC x)) := xrz rfl tk_of (fun _ _ _ _ h => h) rfl rfl F hg hdb
end
theorem Tx.ex {fa : List He.Fa} {fn : List He.DefD} {G : Gx} (T : Tx fa fn G) {x : Str} (i j : Nat) (h : fa[i]? = some (.glo x) := by rfl) (h2 : fa[j]? = some (.exc x) := by rfl) : ExF G x (He.ga G.K x) := by
  have g := T.glo i h
  have e := T.says.fact j h2
  obtain ⟨e1, e2⟩ := Bool.and_eq_true_iff.mp e
  obtain ⟨e3, e4⟩ := Bool.and_eq_true_iff.mp e2
  obtain ⟨e5, e6⟩ := Bool.and_eq_true_iff.mp e4
  exact ⟨g, e1, e3, of_decide_eq_true e5, of_decide_eq_true e6⟩
/-- a def that may raise -/
theorem dokX_mk {P : Program} {w : World} {base : Heap} {G : Gx} {x nm qual : Str} {params : Arguments} {body : List Stmt} {scope : Scope} {fa : Addr} {N ps : List Str} {Fn : Nat → List Dv → Co Dv} {b : Nat → Slots → Co Fl} (h0 : Fn 0 = fun _ => fl) (hs : ∀ n, Fn (n + 1) = defF N.length ps.length (b n))
    (F : ∃ fd, FunD G.K nm qual params body scope [] [] fa fd) (hm : G.mg x = some (.ref fa)) (S : FnScope N ps scope)
    (hbd : ∀ (kV doc pm : Value) (an : Option Addr) (cdv ct : Value) (us : List Value), us.length = ps.length → bindArgs (PySem.W.fnOf nm qual params body scope .none kV doc pm an cdv ct) ⟨us, []⟩ = pure (ps.zip us))
    (hb : ∀ n, Dok P w base (L2.CX P w) G x ps n (Fn n) → ∀ (cdv : Value) (A : Around) (outer : List Env) (s : Shared) (H : Hp) (E : XK), Room n (A.deeper (envOfC qual scope s.heap.objs.size fa cdv)) → PSs (cxOf (L2.CX P w) P w G.K G.mg base N qual scope fa cdv A outer s H E) body (rdS G E (b n))) :
    ∀ n, Dok P w base (L2.CX P w) G x ps n (Fn n) := by
  obtain ⟨fd, F⟩ := F
  intro n
  induction n with
  | zero => exact ⟨fa, fd, hm, F.kp, F.bindsN hbd, by rw [h0]; exact fn_zero⟩
  | succ n ih => exact ⟨fa, fd, hm, F.kp, F.bindsN hbd, by
      rw [hs]
      exact xdef F S fun cdv A outer s H E hr => hb n ih cdv A outer s H E hr⟩
/-- .. with a table of code objects -/
theorem dokTX_mk {P : Program} {w : World} {base : Heap} {G : Gx} {x nm qual : Str} {params : Arguments} {body : List Stmt} {scope : Scope} {N ps : List Str} {Fn : Nat → List Dv → Co Dv} {b : Nat → Slots → Co Fl} (h0 : Fn 0 = fun _ => fl) (h1 : Fn 1 = fun _ => fl) (hs : ∀ n, Fn (n + 2) = defF N.length ps.length (b n))
    (F : ∃ fd, FunD G.K nm qual params body scope [] [] (He.fAd G.K (x, none)) fd) (hm : G.mg x = some (.ref (He.fAd G.K (x, none)))) (S : FnScope N ps scope)
    (hbd : ∀ (kV doc pm : Value) (an : Option Addr) (cdv ct : Value) (us : List Value), us.length = ps.length → bindArgs (PySem.W.fnOf nm qual params body scope .none kV doc pm an cdv ct) ⟨us, []⟩ = pure (ps.zip us))
    (hb : ∀ n, Dok P w base (L2.CX P w) G x ps n (Fn n) → ∀ (A : Around) (outer : List Env) (s : Shared) (H : Hp) (E : XK), Room (n + 1) (A.deeper (envOfC qual scope s.heap.objs.size (He.fAd G.K (x, none)) (.ref (He.cT G.K (x, none)).1))) →
      PSs (cxOf (L2.CX P w) P w G.K G.mg base N qual scope (He.fAd G.K (x, none)) (.ref (He.cT G.K (x, none)).1) A outer s H E) body (rdS G E (b n))) :
    ∀ n, Dok P w base (L2.CX P w) G x ps n (Fn n) := by
  obtain ⟨fd, F⟩ := F
  have both : ∀ n, Dok P w base (L2.CX P w) G x ps n (Fn n) ∧ Dok P w base (L2.CX P w) G x ps (n + 1) (Fn (n + 1)) := by
    intro n
    induction n with
    | zero => exact ⟨⟨_, fd, hm, F.kp, F.bindsN hbd, by rw [h0]; exact fn_zero⟩, ⟨_, fd, hm, F.kp, F.bindsN hbd, by rw [h1]; exact fn_zero⟩⟩
    | succ n ih0 =>
    have ih := ih0.1
    refine ⟨ih0.2, ?_⟩
    refine ⟨_, fd, hm, F.kp, F.bindsN hbd, ?_⟩
    show FnOk P w G.K G.mg base (L2.CX P w) (n + 2) _ fd ps (spF G (Fn (n + 2)))
    rw [hs]
    obtain ⟨oc, od, dV, kV, doc, pm, an, cdv, ct, osl, rfl, lk, hcd, _, _⟩ := id F.ex
    obtain ⟨c, rfl⟩ := He.codeIn_ref hcd
    have ec : He.codeOf G.K (x, none) = c := He.codeOf_eq lk rfl
    refine fn_of lk hcd S (fun vs H Q E h => spF_len h) fun A outer s H vs Q E hr h => ?_
    have hl := spF_len h
    obtain ⟨ι, M, ds, m, r, p⟩ := h
    obtain ⟨_, p⟩ := Post.chk p
    have hb' := hb n ih A outer s H E
    have e2 : (He.cT G.K (x, none)).1 = c := ec
    rw [e2] at hb'
    refine ⟨_, hb' hr, ι, _, M, ?_, (Post.bnd p).mono fun fl ι1 M1 H1 x1 p1 => ?_⟩
    · have e := start_st (N := N) m r
      rw [← r.length, hl] at e
      exact e
    · cases fl with
      | nx ρ => exact fun σ _ => Post.rt x1.mem p1 _ (.g .non)
      | rt d => exact Post.rt (E := E) x1.mem p1
      | _ => exact p1.elim
  exact fun n => (both n).1
end Xt
set_option Elab.async false
set_option linter.all false
set_option maxRecDepth 100000
set_option maxHeartbeats 4000000
namespace Xt
open PySem PySem.Spec PyProof.Rows L2 LamX
/-! ### a lambda handed to a def -/
/-- all stays but the table at P -/
def Stp (P : Addr) (H H' : Hp) : Prop := ∀ b o, H b = some o → b ≠ P → H' b = some o
section
variable {X : Cx} {pins : List (Addr × Obj)} {σ : L2.St} {H : Hp} {s : Shared}
theorem lam3 {nm : Addr → Option Str} {c P : Addr} {params : Arguments} {body : Expr} {scope : Scope} {pos : Pos} {E Q : Value → Shared → Prop} (I : Inv X pins σ H s) (TB : TabB X.base X.mg c P) (hcode : X.env.code = .ref c) (hnm : nm P = some (X.env.qual ++ "<lambda>")) (hT : TbR nm H P)
    (hdef : defaultsOf params X.env = ([], [])) (hfree : ∀ y ∈ scope.names, y.2 = .free → ∃ c, X.env.cells.lookup y.1 = some c)
    (h : ∀ (f c' : Addr) (pm ctv : Value) (H1 : Hp) (s' : Shared), Inv X pins σ H1 s' → Stp P H H1 → TbR nm H1 P →
      s'.heap.get? f = some (PySem.W.kla_obj "<lambda>" (X.env.qual ++ "<lambda>") params body scope (cloFrom X.env.cells scope.names []) pm c' ctv) → H1 f = none → f ∉ frs X.stack → H1 c' = some (CodeO c' (X.env.qual ++ "<lambda>")) → Q (.ref f) s') :
    wpAny (model X.prog X.w) X.A (eval (.Lambda params body scope pos) X.env) Q E s := by
  obtain ⟨ps, hP, trip, names⟩ := hT
  have hold : s.heap.get? P = some { cls := .none, data := .fields ps } := I.hok P _ hP
  have far : ∀ f, s.heap.objs.size ≤ f → f ∉ frs X.stack := fun f hf z => (List.mem_cons.mp (I.stkSub _ z)).elim (fun e => Nat.lt_irrefl _ (Nat.lt_of_lt_of_le (e ▸ I.lt) hf)) fun e => I.nofs hf e
  refine PySem.W.kla_eval hdef ?_
  cases hc : codeAmong pos ps.toList with
  | some cv =>
    obtain ⟨c', rfl, hco⟩ := names _ hnm pos cv hc
    refine PySem.W.kla_makeFunctionHit (c := c) (P := P) (ps := ps) (mg := X.mg) (closure_ok hfree) I.ok.glob (I.mod.glob.keeps I.bk) hcode (TB.code.keeps I.bk) hold trip hc (TB.bm.keeps I.bk) fun ctv h' tk up big => ?_
    exact h h'.objs.size c' ((X.mg "__name__").getD .none) ctv H _ (I.kept (t' := tk) fun b o e => Heap.get?_push_of_some _ (up b o e)) (fun _ _ e _ => e) ⟨ps, hP, trip, names⟩ (Heap.get?_push_size _ rfl) (I.hok.fresh big) (far _ big) hco
  | none =>
    refine PySem.W.kla_makeFunction (c := c) (P := P) (ps := ps) (mg := X.mg) (closure_ok hfree) I.ok.glob (I.mod.glob.keeps I.bk) hcode (TB.code.keeps I.bk) hold trip hc TB.gP (TB.bm.keeps I.bk) fun c' ctv h' tk up lo hi rec_ at_ => ?_
    obtain ⟨c2, oc, vs, t, ec, o1, o2, o3⟩ := rec_
    cases ec
    have big : s.heap.objs.size ≤ h'.objs.size := Nat.le_trans lo (Nat.le_of_lt hi)
    have nC : H c' = none := I.hok.fresh lo
    have PC : P ≠ c' := ne_of_none hP nC
    let new : HO := .tbl (ps ++ #[rawInt pos.line, rawInt pos.col, .ref c'])
    have J := inv_table (t' := tk) (q := X.env.qual ++ "<lambda>") (more := #[rawInt pos.line, rawInt pos.col, .ref c']) (h' := h'.push (PySem.W.kla_obj "<lambda>" (X.env.qual ++ "<lambda>") params body scope (cloFrom X.env.cells scope.names []) ((X.mg "__name__").getD .none) c' ctv)) I hP
      (fun b o hb e => Heap.get?_push_of_some _ (up b o hb e)) (Heap.get?_push_of_some _ at_) lo ⟨oc, vs, t, Heap.get?_push_of_some _ o1, o2, o3⟩
    have st : Stp P H (upd (upd H P new) c' (CodeO c' (X.env.qual ++ "<lambda>"))) := fun b o e ne => by rw [upd_ne (ne_of_none e nC), upd_ne ne]; exact e
    have eL : (ps ++ #[rawInt pos.line, rawInt pos.col, .ref c']).toList = ps.toList ++ [rawInt pos.line, rawInt pos.col, .ref c'] := by simp
    refine h h'.objs.size c' ((X.mg "__name__").getD .none) ctv _ _ J st ⟨_, by rw [upd_ne PC, upd_same], by rw [eL]; exact PySem.TriplesOk_snoc _ _ _ _ trip, fun q hq pos' cv hcv => ?_⟩ (Heap.get?_push_size _ rfl) ?_ (far _ big) upd_same
    · have eq : q = X.env.qual ++ "<lambda>" := Option.some.inj (hq.symm.trans hnm)
      rw [eL] at hcv
      rcases among_app _ trip hcv with z | z
      · obtain ⟨c0, e1, e2⟩ := names q hq pos' cv z
        have ne0 : c0 ≠ P := fun z => by
          rw [z, hP] at e2
          cases e2
        exact ⟨c0, e1, st _ _ e2 ne0⟩
      · exact ⟨c', z, by rw [eq]; exact upd_same⟩
    · rw [upd_ne (Nat.ne_of_gt hi), upd_ne (Nat.ne_of_gt (Nat.lt_of_lt_of_le (Heap.lt_size hold) big))]
      exact I.hok.fresh big
end
/-- from one heap to the next where a lambda was made -/
theorem Ext.lam {G : Gx} {ι : List Addr} {H H1 : Hp} {M : Mem} {P : Addr} (m : MemR G ι H M) (t0 : TbR G.nm H P) (st : Stp P H H1) (t1 : TbR G.nm H1 P) : Ext G ι H ι M H1 := by
  obtain ⟨ps, hP, _, _⟩ := t0
  have nt : ∀ b o, H b = some o → isTbl o = false → b ≠ P := fun b o e z q => by
    rw [q, hP] at e
    cases e
    cases z
  have kp : Keep H H1 := ⟨fun b o u e => st b _ e (nt b _ e rfl), fun b xs e => st b _ e (nt b _ e rfl)⟩
  refine ⟨List.prefix_refl _, ⟨m.len, m.nd, fun i a mo h1 h2 => ?_, fun Q hQ => ?_⟩, kp, fun b o e z _ => st b o e (nt b o e z), fun b qs e => ?_, fun a h n => absurd h n⟩
  · have q := m.ob i a mo h1 h2
    obtain ⟨u, hu, hz⟩ : ∃ u, H a = some u ∧ isTbl u = false := by
      cases mo with
      | lst xs => obtain ⟨vs, e, _⟩ := q; exact ⟨_, e, rfl⟩
      | dct xs => obtain ⟨vs, e, _⟩ := q; exact ⟨_, e, rfl⟩
      | ins c xs => obtain ⟨C, dx, vs, _, e, _⟩ := q; exact ⟨_, e, rfl⟩
      | dead => exact q
    exact q.mono (List.prefix_refl _) kp ((st a u hu (nt a u hu hz)).trans hu.symm)
  · by_cases e : Q = P
    · rw [e]
      exact t1
    · exact (m.tab Q hQ).to (fun ps h => st Q _ h e) fun c f h => st c _ h (nt c _ h rfl)
  · by_cases z : b = P
    · rw [z]
      obtain ⟨qs', e1, _⟩ := t1
      exact ⟨qs', e1⟩
    · exact ⟨qs, st b _ e z⟩
end Xt
set_option Elab.async false
set_option linter.all false
set_option maxRecDepth 100000
set_option maxHeartbeats 4000000
namespace Xt
open PySem PySem.Spec PyProof.Rows L2 LamX
/-- what the told def makes of it: None, or what wd says of the exception -/
def TTold (G : Gx) (wd : Exn → Option PyData) : (XK → Hp → VK → Prop) → Hp → VK → Prop := fun tl H Q =>
  tl (fun cls dx H' => ∃ c y, wd c = some y ∧ ExR G H' c cls dx ∧ MemR G [] H' [] ∧ ∀ v ι2 M2 H2, Ext G [] H' ι2 M2 H2 → RpV G.K H2 v y → Q v H2) H fun _ H' => Q .non H'
/-- the def that got the lambda calls it by its parameter's name -/
def Gives3 (X : Cx) (Ng : List Str) (x : Str) (sg : Scope) (g : Addr) (cdg : Value) (bg : List Stmt) (a q : Str) (TT : (XK → Hp → VK → Prop) → Hp → VK → Prop) : Prop :=
  ∀ (f c' : Addr) (s : Shared) (H : Hp) (Q : VK) (tl : XK → Hp → VK → Prop), Room 1 (X.A.deeper (envOfC x sg s.heap.objs.size g cdg)) →
    (∀ (W : WX) (pn : List (Addr × Obj)) (xe : Value → Shared → Prop) (E : XK) (p1 p2 : Pos), (∀ cls d σ' H', E cls d H' → W cls d σ' H') → Takes ((cxOf C8.CX0 X.prog X.w X.K X.mg X.base Ng x sg g cdg X.A X.stack s H C8.E0).tr pn xe) W →
      PE ((cxOf C8.CX0 X.prog X.w X.K X.mg X.base Ng x sg g cdg X.A X.stack s H C8.E0).tr pn xe) (.Call (.Name a p1) [] [] p2) fun σZ HZ Q => σZ[0]? = some (some (.ref f)) ∧ HZ c' = some (CodeO c' q) ∧ tl E HZ Q) →
    H c' = some (CodeO c' q) → TT tl H Q → ∃ t, PSs (cxOf C8.CX0 X.prog X.w X.K X.mg X.base Ng x sg g cdg X.A X.stack s H C8.E0) bg t ∧ t { nx := fun _ H' => Q .non H', rt := Q } (L2.start Ng [.ref f]) H
def told (wd : Exn → Option PyData) (f : Slots → Co Dv) : Slots → Co Dv := fun ρ M => match f ρ M with
  | .ok _ M' => .ok (.g .none) M'
  | .ex c M' => (match wd c with
    | some y => .ok (.g y) M'
    | none => .fail)
  | .fail => .fail
/-- the def that is told: where it stands, and what it does with what it got -/
structure ToldD (P : Program) (w : World) (base : Heap) (G : Gx) (x a : Str) (wd : Exn → Option PyData) (Ng : List Str) (g : Addr) (sg : Scope) (bg : List Stmt) (cdg : Value) : Prop where
  mg : G.mg x = some (.ref g)
  kp : PySem.W.keepIn G.K (.ref g) = true
  fn : ∃ (oc : Value) (od : Option Addr) (pg : Arguments) (dV kV doc pm ct : Value) (an : Option Addr) (osl : Array (Option Value)), G.K.lookup g = some ⟨oc, od, .func (PySem.W.fnOf x x pg bg sg dV kV doc pm an cdg ct), osl⟩ ∧ L2.Binds G.K (PySem.W.fnOf x x pg bg sg dV kV doc pm an cdg ct) [a] []
  cd : PySem.W.codeIn G.K cdg x = true
  sc : FnScope Ng [a] sg
  n0 : Ng[0]? = some a
  vis : Vis sg a
  gives : ∀ (X : Cx), X.prog = P → X.w = w → X.K = G.K → X.mg = G.mg → X.base = base → ∀ q, Gives3 X Ng x sg g cdg bg a q (TTold G wd)
section
variable {X : Cx} {G : Gx}
theorem pe_lam3 {TT : (XK → Hp → VK → Prop) → Hp → VK → Prop} {x a : Str} {g c P : Addr} {k : Nat} {pg : Arguments} {bg : List Stmt} {sg : Scope} {dV kV doc pm cdv ct oc : Value} {an od : Option Addr} {osl : Array (Option Value)} {Ng : List Str} {nm : Addr → Option Str}
    {params : Arguments} {body : Expr} {scope : Scope} {t : XK → TE} {p lpos pos : Pos} (hg : Gl X x) (hm : X.mg x = some (.ref g)) (hk : PySem.W.keepIn X.K (.ref g) = true)
    (lk : X.K.lookup g = some ⟨oc, od, .func (PySem.W.fnOf x x pg bg sg dV kV doc pm an cdv ct), osl⟩) (hcg : PySem.W.codeIn X.K cdv x = true) (hb : L2.Binds X.K (PySem.W.fnOf x x pg bg sg dV kV doc pm an cdv ct) [a] []) (Sg : FnScope Ng [a] sg) (hNg : Ng[0]? = some a) (hva : Vis sg a)
    (hG : Gives3 X Ng x sg g cdv bg a (X.env.qual ++ "<lambda>") TT) (TB : TabB X.base X.mg c P) (hcode : X.env.code = .ref c) (hnm : nm P = some (X.env.qual ++ "<lambda>")) (hr : Room (k + 2) X.A) (L : LamS X.env.scope scope) (hdef : defaultsOf params X.env = ([], []))
    (hbind : ∀ (q : Str) (cl : List (Str × Addr)) (pm cv ctv : Value), bindArgs (PySem.W.kla_fn "<lambda>" q params body scope cl pm cv ctv) ⟨[], []⟩ = pure [])
    (hbody : ∀ (A : Around) (outer : List Env) (s : Shared) (H : Hp) (E : XK) (f c' : Addr), Room k (A.deeper (lamEnv X scope s.heap.objs.size f c')) → PE (lamCx X A outer s H E scope f c') body (t E))
    (hdb : (x == ("__debug__" : Str)) = false) (hd : (a == ("__debug__" : Str)) = false) (hcd : (a == ("__classdict__" : Str)) = false) :
    PE X (.Call (.Name x p) [.Lambda params body scope lpos] [] pos) (fun σ H Q => TbR nm H P ∧ ∀ H1, Stp P H H1 → TbR nm H1 P → TT (fun E H' Q' => t E σ H' Q') H1 Q) := by
  refine ⟨fun pins s σ H Q I ⟨hT, h⟩ => wpAny_Call_Name_kw (ld_glob I hg hm (PySem.W.callWith_K (h₀ := X.base) I.ok.mod.kin hk ?_ (by rfl) (by rfl)) hdb)⟩
  show wpAny _ _ (spliced ((false, eval (.Lambda params body scope lpos) X.env) :: backTo pos (starEach [] X.env))) _ _ s
  refine Calls.spliced_cons (lam3 I TB hcode hnm hT hdef (L.has I.ok) fun f c' pm' ctv H1 s' I1 st T1 e1 e2 e3 e4 => Calls.spliced_nil ⟨I1.kIn, ?_⟩)
  refine wpAny_call (codeAny_mono (R := CR C8.CX0 X.stack X.prog X.w H1 s' Q C8.E0) (run_ofS (vs := [.ref f]) (us := [.ref f]) (ps := [a]) (N := Ng) lk hcg Sg hr I1.env0 (hb s' [.ref f] I1.kIn rfl) (.cons rfl .nil) rfl fun hr' => ?_) fun r s2 hq => ?_)
  · exact hG f c' s' H1 Q (fun E H' Q' => t E σ H' Q') (hr'.mono (by omega)) (fun W pn xe E p1 p2 hW tk => pe_act (i := 0) I1 L e1 e2 e3 (hbind _ _ _ _ _) tk hW hr' (fun A outer s H hr2 => hbody A outer s H E f c' hr2) hNg hva hd hcd) e4 (h H1 st T1)
  · match r, hq with
    | .error e, hq => exact (show False from hq).elim
    | .ok (.ret u), hq => exact I1.after hq
theorem xtold {E : XK} {x a : Str} {wd : Exn → Option PyData} {Ng : List Str} {g c Pt : Addr} {sg : Scope} {bg : List Stmt} {cdg : Value} {k : Nat} {params : Arguments} {body : Expr} {scope : Scope} {p lpos pos : Pos} {f : Slots → Co Dv}
    (D : ToldD X.prog X.w X.base G x a wd Ng g sg bg cdg) (hK : X.K = G.K) (hmg : X.mg = G.mg) (hg : Gl X x) (TB : TabB X.base X.mg c Pt) (hPt : Pt ∈ G.tbs) (hcode : X.env.code = .ref c) (hnm : G.nm Pt = some (X.env.qual ++ "<lambda>")) (hr : Room (k + 2) X.A) (L : LamS X.env.scope scope) (hdef : defaultsOf params X.env = ([], []))
    (hbind : ∀ (q : Str) (cl : List (Str × Addr)) (pm cv ctv : Value), bindArgs (PySem.W.kla_fn "<lambda>" q params body scope cl pm cv ctv) ⟨[], []⟩ = pure [])
    (hbody : ∀ (A : Around) (outer : List Env) (s : Shared) (H : Hp) (E : XK) (f' c' : Addr), Room k (A.deeper (lamEnv X scope s.heap.objs.size f' c')) → PE (lamCx X A outer s H E scope f' c') body (rdE G E f))
    (hdb : (x == ("__debug__" : Str)) = false := by decide) (hd : (a == ("__debug__" : Str)) = false := by decide) (hcd : (a == ("__classdict__" : Str)) = false := by decide) :
    PE X (.Call (.Name x p) [.Lambda params body scope lpos] [] pos) (rdE G E (told wd f)) := by
  obtain ⟨oc, od, pg, dV, kV, doc, pm, ct, an, osl, lk, hb⟩ := D.fn
  refine peI (pe_lam3 (t := fun E => rdE G E f) (nm := G.nm) hg (by rw [hmg]; exact D.mg) (by rw [hK]; exact D.kp) (by rw [hK]; exact lk) (by rw [hK]; exact D.cd) (by rw [hK]; exact hb) D.sc D.n0 D.vis (D.gives X rfl rfl hK hmg rfl _) TB hcode hnm hr L hdef hbind hbody hdb hd hcd) fun σ H Q h => ?_
  obtain ⟨ι, ρ, M, st, q⟩ := h
  have t0 := st.mem.tab Pt hPt
  refine ⟨t0, fun H1 sp t1 => ?_⟩
  have x0 := Ext.lam st.mem t0 sp t1
  have q1 := q.shift x0
  refine ⟨ι, ρ, M, st.ext x0, ?_⟩
  unfold told at q1
  cases e : f ρ M with
  | fail =>
    rw [e] at q1
    exact q1.elim
  | ok d M' =>
    rw [e] at q1
    exact fun ι' H' x1 v _ => q1 ι' H' x1 .non (.g .non)
  | ex c0 M' =>
    rw [e] at q1
    cases e2 : wd c0 with
    | none =>
      simp only [e2] at q1
      exact q1.elim
    | some y =>
      simp only [e2] at q1
      refine fun ι' H' cls dx x1 er => ⟨c0, y, e2, er, ⟨rfl, List.nodup_nil, fun i a mo h _ => by simp at h, x1.mem.tab⟩, fun v ι2 M2 H2 up rv => ?_⟩
      exact q1 ι' H2 (x1.trans (Ext.pure x1.mem up)) v (.g rv)
end
end Xt
set_option Elab.async false
set_option linter.all false
set_option maxRecDepth 100000
set_option maxHeartbeats 4000000
namespace Xt
open PySem PySem.Spec PyProof.Rows L2 LamX
/-! ### the suite that asks what was caught -/
/-- what isinstance asks of an exception's class -/
def excCB (K : PySem.W.Frag) (D : Addr) : Bool :=
  He.eqO (PySem.W.findIn K (.ref D) "__getattribute__") (some (some (.builtin "BaseException.__getattribute__"))) && (He.eqO (PySem.W.findIn K (.ref D) "__getattr__") (some none) && (decide (PySem.W.subIn K (.ref D) (.type "BaseException") = some true) && (PySem.W.hasDictIn K D &&
    (He.eqO (PySem.W.findIn K (.ref D) "__class__") (some (some (.builtin "object.__class__"))) && (He.eqO (PySem.W.specialIn K (.builtin "object.__class__") "__get__") (some (some (.builtin "getset_descriptor.__get__"))) && (decide (PySem.W.takesIn K (.builtin "object.__class__") = some true) && decide (PySem.W.mroIn K D (.type "object") = some true)))))))
theorem excCB_ok {K : PySem.W.Frag} {D : Addr} (h : excCB K D = true) : ExcC K D := by
  obtain ⟨h1, h⟩ := Bool.and_eq_true_iff.mp h
  obtain ⟨h2, h⟩ := Bool.and_eq_true_iff.mp h
  obtain ⟨h3, h⟩ := Bool.and_eq_true_iff.mp h
  obtain ⟨h4, h⟩ := Bool.and_eq_true_iff.mp h
  obtain ⟨h5, h⟩ := Bool.and_eq_true_iff.mp h
  obtain ⟨h6, h⟩ := Bool.and_eq_true_iff.mp h
  obtain ⟨h7, h8⟩ := Bool.and_eq_true_iff.mp h
  exact ⟨He.eqO_ok h1, He.eqO_ok h2, of_decide_eq_true h3, h4, He.eqO_ok h5, He.eqO_ok h6, of_decide_eq_true h7, of_decide_eq_true h8⟩
section
variable {X : Cx} {G : Gx} {a D : Addr} {oe : Obj} {pn : List (Addr × Obj)} {n : Str}
/-- some answers, the exception standing in slot 1 -/
def tBs (a : Addr) (bs : List Bool) : TA := fun σ H Q => σ[1]? = some (some (.ref a)) ∧ Q (bs.map V.bl) H
theorem pBs0 : PA X [] (tBs a []) := paI pa_nil fun _ _ _ h => h.2
theorem pIs {x : Str} {C : Addr} {b : Bool} {p p1 p2 pos : Pos} (F : ExcC X.K D) (hz : Zc (.ref D) none oe) (hf : ∃ vs, oe.data = .fields vs) (hN : X.N[1]? = some n) (hv : Vis X.env.scope n) (hgi : Gl X "isinstance") (hmi : X.mg "isinstance" = none) (hg : Gl X x) (hm : X.mg x = some (.ref C)) (hb : PySem.W.kitOne X.K (.ref D) (.ref C) = some b)
    (hd : (n == ("__debug__" : Str)) = false := by decide) (hcd : (n == ("__classdict__" : Str)) = false := by decide) (hdx : (x == ("__debug__" : Str)) = false := by decide)
    (hs1 : starEach [.Name n p1, .Name x p2] X.env = (false, eval (.Name n p1) X.env) :: starEach [.Name x p2] X.env := by rfl) (hs2 : starEach [.Name x p2] X.env = (false, eval (.Name x p2) X.env) :: starEach [] X.env := by rfl) (hpl : (backTo pos (starEach [.Name x p2] X.env)).any (·.1) = false := by rfl) :
    PE (X.suite a ((a, oe) :: pn)) (.Call (.Name "isinstance" p) [.Name n p1, .Name x p2] [] pos) (fun σ H Q => σ[1]? = some (some (.ref a)) ∧ Q (.bl b) H) :=
  peI (pe_callB (X := X.suite a ((a, oe) :: pn)) (call_isE F hz hf) hgi hmi (show bootBuiltins "isinstance" = some (.builtin "isinstance") from rfl) (pa_cons (pe_var (i := 1) hN hv hd hcd) (pa_cons (pe_glob (v := .ref C) hg hm rfl hdx) pa_nil hs2) hs1) (by decide) (by decide) hs1 hpl) fun σ H Q h =>
    ⟨_, h.1, .ref C, .ref C, b, rfl, fun _ e => e, hb, h.2⟩
theorem pBs1 {X' : Cx} {e : Expr} {es : List Expr} {b : Bool} {bs : List Bool} (h : PE X' e (fun σ H Q => σ[1]? = some (some (.ref a)) ∧ Q (.bl b) H)) (hr : PA X' es (tBs a bs)) (hs : starEach (e :: es) X'.env = (false, eval e X'.env) :: starEach es X'.env := by rfl) : PA X' (e :: es) (tBs a (b :: bs)) :=
  paI (pa_cons h hr hs) fun _ _ _ z => ⟨z.1, z.1, z.2⟩
/-- the list of them, locked -/
theorem pBl {X' : Cx} {es : List Expr} {bs : List Bool} {pos : Pos} (h : PA X' es (tBs a bs)) (hl : bs.length ≤ 100) : PE X' (.List es pos) (fun σ H Q => σ[1]? = some (some (.ref a)) ∧ ∀ p, H p = none → ∀ od, Q (.ref p) (upd H p (.frz od (.lst (bs.map V.bl))))) :=
  peI (pe_frz (pe_lst h)) fun σ H Q z => ⟨z.1, by rw [List.length_map, sizeLine_eq]; omega, fun p hp => .inr ⟨p, _, rfl, upd_same, trivial, fun od => by rw [upd2]; exact z.2 p hp od⟩⟩
theorem rpVs_bl {K : PySem.W.Frag} {H : Hp} : ∀ bs : List Bool, RpVs K H (bs.map V.bl) (bs.map PyData.bool)
  | [] => .nil
  | b :: r => .cons (.bl b) (rpVs_bl r)
/-- the answers' list, in two statements, then the rest -/
theorem suite2 {X' : Cx} {es es2 : List Expr} {bs bs2 : List Bool} {m : Str} {p1 p2 p3 p4 p5 p6 p7 p8 : Pos} {rest : List Stmt} {k : Nat} {f3 : Slots → Co Fl} (hK : X'.K = G.K) (hNd : X'.N.Nodup) (hi : X'.N[2]? = some m) (hx : X'.env.scope.names.lookup m = some .local)
    (h1 : PA X' es (tBs a bs)) (h2 : PA X' es2 (tBs a bs2)) (hl : bs.length ≤ 100) (hl2 : bs2.length ≤ 100) (hr : PSs X' rest (rdS G E0 f3)) (hd : (m == ("__debug__" : Str)) = false) (hcd : (m == ("__classdict__" : Str)) = false)
    (hs1 : swapsWith (.List es p2) (some (.Name m p1)) p3.line X'.env = pure false) (hs2 : swapsWith (.BinOp (.Name m p5) .Add (.List es2 p6) p7) (some (.Name m p4)) p8.line X'.env = pure false) :
    PSs X' (.Assign [.Name m p1] (.List es p2) p3 :: .Assign [.Name m p4] (.BinOp (.Name m p5) .Add (.List es2 p6) p7) p8 :: rest)
      (fun Dn σ H => σ.length = 3 + k ∧ σ[1]? = some (some (.ref a)) ∧ MemR G [] H [] ∧ Post G E0 [] H (QS G Dn) (f3 (.u :: .u :: .g (.list ((bs ++ bs2).map .bool)) :: List.replicate k .u) [])) := by
  have s1 := ps_set (pos := p3) (pos' := p1) (i := 2) hNd hi (.inl hx) (pBl (pos := p2) h1 hl) hs1 (.inr hx)
  have s2 := ps_set (pos := p8) (pos' := p4) (i := 2) hNd hi (.inl hx) (pe_frz (pe_op (pos := p7) op_addX (pe_var (pos := p5) (i := 2) hi (.inl hx) hd hcd) (pBl (pos := p6) h2 hl2))) hs2 (.inr hx)
  refine pssI (pss_cons s1 (pss_cons s2 hr)) fun Dn σ H h => ?_
  obtain ⟨hlen, ha, mm, po⟩ := h
  refine ⟨ha, fun p hp od => ?_⟩
  have x1 : Ext G [] H [] [] (upd H p (.frz od (.lst (bs.map V.bl)))) := .new mm hp
  have l2 : 2 < σ.length := by omega
  refine ⟨_, List.getElem?_set_self l2, by rw [List.getElem?_set_ne (by decide)]; exact ha, fun q hq od2 => ?_⟩
  have x2 : Ext G [] _ [] [] (upd (upd H p (.frz od (.lst (bs.map V.bl)))) q (.frz od2 (.lst (bs2.map V.bl)))) := .new x1.mem hq
  have r1 : RpD G [] (upd (upd H p (.frz od (.lst (bs.map V.bl)))) q (.frz od2 (.lst (bs2.map V.bl)))) (.ref p) (.g (.list (bs.map .bool))) := .g (.lst (.inl ⟨od, by rw [upd_ne (ne_of_none upd_same hq)]; exact upd_same⟩) (rpVs_bl bs))
  have r2 : RpD G [] (upd (upd H p (.frz od (.lst (bs.map V.bl)))) q (.frz od2 (.lst (bs2.map V.bl)))) (.ref q) (.g (.list (bs2.map .bool))) := .g (.lst (.inl ⟨od2, upd_same⟩) (rpVs_bl bs2))
  have z : szOk ((bs.map PyData.bool).length + (bs2.map PyData.bool).length) = true := Nat.ble_eq_true_of_le (by simp; omega)
  have fin : ∀ v H3, Ext G [] (upd (upd H p (.frz od (.lst (bs.map V.bl)))) q (.frz od2 (.lst (bs2.map V.bl)))) [] [] H3 → RpD G [] H3 v (.g (.list (bs.map .bool ++ bs2.map .bool))) → rdS G E0 f3 Dn ((σ.set 2 (some (.ref p))).set 2 (some v)) H3 := fun v H3 x3 rv => by
    refine ⟨[], _, [], ⟨by simp [hlen]; omega, x3.mem, fun i d hi hu => ?_⟩, po.shift ((x1.trans x2).trans x3)⟩
    match i with
    | 0 => cases hi; exact absurd rfl hu
    | 1 => cases hi; exact absurd rfl hu
    | 2 =>
      cases hi
      refine ⟨v, List.getElem?_set_self (by simpa using l2), ?_⟩
      rw [List.map_append]
      exact rv
    | i + 3 =>
      have q2 : (List.replicate k Dv.u)[i]? = some d := hi
      rw [List.getElem?_replicate] at q2
      split at q2
      · cases q2
        exact absurd rfl hu
      · cases q2
  have pp : Post G E0 [] (upd (upd H p (.frz od (.lst (bs.map V.bl)))) q (.frz od2 (.lst (bs2.map V.bl)))) (QE G fun v H3 => rdS G E0 f3 Dn ((σ.set 2 (some (.ref p))).set 2 (some v)) H3) (addD (.g (.list (bs.map .bool))) (.g (.list (bs2.map .bool))) []) := by
    show Post G E0 [] _ _ (chk (szOk _) (rt (Dv.g (.list (bs.map .bool ++ bs2.map .bool)))) [])
    rw [z]
    intro ι' H3 x3 v rv
    have e : ι' = [] := List.length_eq_zero_iff.mp x3.mem.len
    subst e
    exact fin v H3 x3 rv
  have w := of_add (E := E0) [] [] _ _ _ _ _ _ x2.mem r1 r2 pp
  rw [← hK] at w
  exact w
end
end Xt
set_option Elab.async false
set_option linter.all false
set_option maxRecDepth 100000
set_option maxHeartbeats 4000000
namespace Xt
open PySem PySem.Spec PyProof.Rows L2 LamX
/-- what the head tells of the classes that the told def asks for -/
def toldB (K : PySem.W.Frag) (cs : List Str) (h : Str) : Bool := cs.all fun c => excCB K (He.ga K c) && (decide (PySem.W.exmOne K (.ref (He.ga K c)) (.ref (He.ga K h)) = some true) && cs.all fun d => decide (PySem.W.kitOne K (.ref (He.ga K c)) (.ref (He.ga K d)) = some (decide (c = d))))
theorem toldB_ok {K : PySem.W.Frag} {cs : List Str} {h : Str} (t : toldB K cs h = true) {c : Str} (hc : c ∈ cs) : ExcC K (He.ga K c) ∧ PySem.W.exmOne K (.ref (He.ga K c)) (.ref (He.ga K h)) = some true ∧ ∀ d ∈ cs, PySem.W.kitOne K (.ref (He.ga K c)) (.ref (He.ga K d)) = some (decide (c = d)) := by
  have q := List.all_eq_true.mp t c hc
  obtain ⟨q1, q⟩ := Bool.and_eq_true_iff.mp q
  obtain ⟨q2, q3⟩ := Bool.and_eq_true_iff.mp q
  exact ⟨excCB_ok q1, of_decide_eq_true q2, fun d hd => of_decide_eq_true (List.all_eq_true.mp q3 d hd)⟩
/-- the suite answers y -/
def SuiteY (X : Cx) (G : Gx) (suite : List Stmt) (C : Addr) (y : PyData) : Prop := ∀ (a : Addr) (oe : Obj) (pn : List (Addr × Obj)), Zc (.ref C) none oe → (∃ vs, oe.data = .fields vs) →
  PSs (X.suite a ((a, oe) :: pn)) suite fun Dn σ H => σ.length = X.N.length ∧ σ[1]? = some (some (.ref a)) ∧ MemR G [] H [] ∧ ∀ v ι2 M2 H2, Ext G [] H ι2 M2 H2 → RpV G.K H2 v y → Dn.rt v H2
theorem takesF {X : Cx} : Takes X (fun _ _ _ _ => False) := L2.takes0
theorem gives_try {X : Cx} {G : Gx} {wd : Exn → Option PyData} {Ng : List Str} {x a e n q : Str} {sg : Scope} {g CS : Addr} {cdg : Value} {b0 : Stmt} {suite : List Stmt} {j : Nat} {p1 p2 p3 p4 p6 p8 p9 p10 : Pos}
    (hge : sg.names.lookup e = some .globalImplicit) (hme : X.mg e = some (.ref CS)) (hde : (e == ("__debug__" : Str)) = false) (hNd : Ng.Nodup) (h1 : Ng[1]? = some n) (hn : sg.names.lookup n = some .local) (hl : 1 < Ng.length) (h0 : ∀ f : Addr, (L2.start Ng [V.ref f])[0]? = some (some (V.ref f)))
    (hex : ∀ c y, wd c = some y → c.ix = none ∧ ∀ C, G.mg c.cls = some (.ref C) → PySem.W.exmOne X.K (.ref C) (.ref CS) = some true)
    (hsu : ∀ c y C, wd c = some y → G.mg c.cls = some (.ref C) → ∀ (s : Shared) (H : Hp), Room 1 (X.A.deeper (envOfC x sg s.heap.objs.size g cdg)) → SuiteY (cxOf C8.CX0 X.prog X.w X.K X.mg X.base Ng x sg g cdg X.A X.stack s H C8.E0) G (b0 :: suite) C y) :
    Gives3 X Ng x sg g cdg [.Try [.Expr (.Call (.Name a p1) [] [] p2) p3] [.ExceptHandler (some (.Name e p4)) (some n) (b0 :: suite) p6] [] [] p8, .Return (some (.Constant .none j p9)) p10] a q (TTold G wd) := by
  intro f c' s H Q tl hr act hc h
  let XX : Cx := cxOf C8.CX0 X.prog X.w X.K X.mg X.base Ng x sg g cdg X.A X.stack s H C8.E0
  have hgl : Gl XX e := hge
  let ts : Addr → Value → Option Addr → TS := fun a cls d Dn σ H' => ∃ (c : Exn) (y : PyData) (C : Addr) (σ0 : L2.St), wd c = some y ∧ G.mg c.cls = some (.ref C) ∧ cls = .ref C ∧ d = none ∧ σ = σ0.set 1 (some (.ref a)) ∧ MemR G [] H' [] ∧ ∀ v ι2 M2 H2, Ext G [] H' ι2 M2 H2 → RpV G.K H2 v y → Dn.rt v H2
  refine ⟨_, pss_cons (ps_try_as (X := XX) (i := 1) (c := .ref CS) (ts := ts) (Wout := fun _ _ _ _ => False)
    (tb := fun W D σ H => ∃ Ech : XK, (∀ cls d σ' H', Ech cls d H' → W cls d σ' H') ∧ σ[0]? = some (some (.ref f)) ∧ H c' = some (CodeO c' q) ∧ tl Ech H fun _ H' => D.nx σ H')
    rfl rfl hNd h1 hn ⟨hgl, hde, .inl hme⟩ takesF (fun W pn xe tk _ => ?_) (fun a oe cls d pn hz hf => ?_)) (pss_one (ps_ret pe_non)), ?_⟩
  · refine ⟨fun pins s' σ H' D I ⟨Ech, hW, z1, z2, z3⟩ => ?_⟩
    exact (pss_one (ps_expr (pos := p3) (act W pn xe Ech p1 p2 hW tk) (by rfl))).run pins s' σ H' D I ⟨z1, z2, z3⟩
  · refine ⟨fun pins s' σ H' D I ⟨c, y, C, σ0, w1, w2, w3, w4, w5, w6, w7⟩ => ?_⟩
    subst w3 w4
    refine (hsu c y C w1 w2 s H hr a oe pn hz hf).run pins s' σ H' D I ⟨I.len, ?_, w6, w7⟩
    have len : σ.length = Ng.length := I.len
    rw [w5] at len ⊢
    exact List.getElem?_set_self (by simpa using (by rw [List.length_set] at len; omega : 1 < σ0.length))
  · refine ⟨fun cls dx H' => ∃ c y, wd c = some y ∧ ExR G H' c cls dx ∧ MemR G [] H' [] ∧ ∀ v ι2 M2 H2, Ext G [] H' ι2 M2 H2 → RpV G.K H2 v y → Q v H2, fun cls d σ' H' ⟨c, y, w1, er, mm, fin⟩ => ?_, h0 f, hc, ?_⟩
    · obtain ⟨⟨C, e1, rfl⟩, e2⟩ := er
      obtain ⟨i1, i2⟩ := hex c y w1
      rw [i1] at e2
      exact ⟨true, i2 C e1, fun _ a _ => ⟨c, y, C, σ', w1, e1, rfl, e2, rfl, mm, fin⟩, fun z => nomatch z⟩
    · exact h
end Xt
set_option Elab.async false
set_option linter.all false
set_option maxRecDepth 100000
set_option maxHeartbeats 4000000
namespace Xt
open PySem PySem.Spec PyProof.Rows L2 LamX
theorem pxL {X : Cx} {A : Around} {outer : List Env} {s : Shared} {H : Hp} {E : XK} {scope : Scope} {f c' : Addr} : Passes (L2.CX X.prog X.w) (lamCx X A outer s H E scope f c') E := px1 (X := lamCx X A outer s H E scope f c') (takes_of (X := lamCx X A outer s H E scope f c') rfl rfl rfl rfl) fun _ _ _ _ h => h
/-- a body that catches all -/
theorem pss_nox {X : Cx} {G : Gx} {E : XK} {body : List Stmt} {b : Slots → Co Fl} (h : PSs X body (rdS G E0 b)) : PSs X body (rdS G E fun ρ => nox (b ρ)) := pssI h fun D σ H z => by
  obtain ⟨ι, ρ, M, st, p⟩ := z
  exact ⟨ι, ρ, M, st, rd_nox p⟩
/-- a def in which lambdas are made -/
theorem dokL_mk {P : Program} {w : World} {base : Heap} {G : Gx} {x nm qual : Str} {params : Arguments} {body : List Stmt} {scope : Scope} {N ps : List Str} {Fn : Nat → List Dv → Co Dv} {b : Nat → Slots → Co Fl} (h0 : Fn 0 = fun _ => fl) (h1 : Fn 1 = fun _ => fl) (h2 : Fn 2 = fun _ => fl) (hs : ∀ n, Fn (n + 3) = defF N.length ps.length (b n))
    (F : ∃ fd, FunD G.K nm qual params body scope [] [] (He.fAd G.K (x, none)) fd) (hm : G.mg x = some (.ref (He.fAd G.K (x, none)))) (S : FnScope N ps scope)
    (hbd : ∀ (kV doc pm : Value) (an : Option Addr) (cdv ct : Value) (us : List Value), us.length = ps.length → bindArgs (PySem.W.fnOf nm qual params body scope .none kV doc pm an cdv ct) ⟨us, []⟩ = pure (ps.zip us))
    (hb : ∀ n, ∀ (A : Around) (outer : List Env) (s : Shared) (H : Hp) (E : XK), Room (n + 2) (A.deeper (envOfC qual scope s.heap.objs.size (He.fAd G.K (x, none)) (.ref (He.cT G.K (x, none)).1))) →
      PSs (cxOf (L2.CX P w) P w G.K G.mg base N qual scope (He.fAd G.K (x, none)) (.ref (He.cT G.K (x, none)).1) A outer s H E) body (rdS G E (b n))) :
    ∀ n, Dok P w base (L2.CX P w) G x ps n (Fn n) := by
  obtain ⟨fd, F⟩ := F
  have zero : ∀ k, FnOk P w G.K G.mg base (L2.CX P w) k (He.fAd G.K (x, none)) fd ps (spF G fun _ => fl) := fun k => fn_zero
  intro n
  match n with
  | 0 => exact ⟨_, fd, hm, F.kp, F.bindsN hbd, by rw [h0]; exact zero _⟩
  | 1 => exact ⟨_, fd, hm, F.kp, F.bindsN hbd, by rw [h1]; exact zero _⟩
  | 2 => exact ⟨_, fd, hm, F.kp, F.bindsN hbd, by rw [h2]; exact zero _⟩
  | n + 3 =>
    refine ⟨_, fd, hm, F.kp, F.bindsN hbd, ?_⟩
    show FnOk P w G.K G.mg base (L2.CX P w) (n + 3) _ fd ps (spF G (Fn (n + 3)))
    rw [hs]
    obtain ⟨oc, od, dV, kV, doc, pm, an, cdv, ct, osl, rfl, lk, hcd, _, _⟩ := id F.ex
    obtain ⟨c, rfl⟩ := He.codeIn_ref hcd
    have ec : He.codeOf G.K (x, none) = c := He.codeOf_eq lk rfl
    refine fn_of lk hcd S (fun vs H Q E h => spF_len h) fun A outer s H vs Q E hr h => ?_
    have hl := spF_len h
    obtain ⟨ι, M, ds, m, r, p⟩ := h
    obtain ⟨_, p⟩ := Post.chk p
    have hb' := hb n A outer s H E
    have e2 : (He.cT G.K (x, none)).1 = c := ec
    rw [e2] at hb'
    refine ⟨_, hb' hr, ι, _, M, ?_, (Post.bnd p).mono fun fl ι1 M1 H1 x1 p1 => ?_⟩
    · have e := start_st (N := N) m r
      rw [← r.length, hl] at e
      exact e
    · cases fl with
      | nx ρ => exact fun σ _ => Post.rt x1.mem p1 _ (.g .non)
      | rt d => exact Post.rt (E := E) x1.mem p1
      | _ => exact p1.elim
/-! ### [..] * k -/
def repG (gs : Slots → Co (List Dv)) (k : Nat) : Slots → Co Dv := fun ρ => bnd (gs ρ) fun ds => chk (Nat.ble ds.length 1000 && Nat.ble k 1000) (bnd (ofO (grd ds)) fun xs => rt (.g (.list (List.replicate k xs).flatten)))
theorem xrepG {X : Cx} {G : Gx} {E : XK} {es : List Expr} {gs : Slots → Co (List Dv)} {k j : Nat} {p1 p2 pos : Pos} (h : PA X es (rdA G E gs)) : PE X (.BinOp (.List es p1) .Mult (.Constant (.int k) j p2) pos) (rdE G E (repG gs k)) :=
  peI (pe_frz (pe_op op_rep (pe_lst h) pe_int)) fun σ H Q h => by
    obtain ⟨ι, ρ, M, st, p⟩ := h
    refine ⟨ι, ρ, M, st, (Post.bnd p).mono fun ds ι1 M1 H1 x1 p1 vs rv => ?_⟩
    obtain ⟨c, p2⟩ := Post.chk p1
    obtain ⟨c1, c2⟩ := Bool.and_eq_true_iff.mp c
    obtain ⟨xs, e, p3⟩ := Post.ofO p2
    have l1 := Nat.le_of_ble_eq_true c1
    have l2 := Nat.le_of_ble_eq_true c2
    have lv := rv.length
    refine ⟨by rw [lv, sizeLine_eq]; omega, fun a ha => ⟨a, k, vs, rfl, rfl, upd_same, by omega, by omega, ?_, fun q hq => ?_⟩⟩
    · have : vs.length * (k : Int).toNat ≤ 1000 * 1000 := Nat.mul_le_mul (by omega) (by omega)
      rw [sizeLine_eq]
      omega
    · have x2 : Ext G ι1 H1 ι1 M1 (upd H1 a (.lst vs)) := .new x1.mem ha
      exact lockL x2.mem hq (((rv.grd e).mono x2.keep).rep k) (p3.shift x2)
/-- a def whose table holds its lambdas -/
structure Tl (base : Heap) (G : Gx) (x q : Str) : Prop where
  tb : LamX.TabB base G.mg (He.cT G.K (x, none)).1 (He.cT G.K (x, none)).2
  mem : (He.cT G.K (x, none)).2 ∈ G.tbs
  nm : G.nm (He.cT G.K (x, none)).2 = some q
/-- x() -/
theorem xcP0 {X : Cx} {G : Gx} {E : XK} {CX : CXT} {x : Str} {n : Nat} {F : List Dv → Co Dv} {p pos : Pos} (d : Dok X.prog X.w X.base CX G x [] n F) (hK : X.K = G.K) (hm : X.mg = G.mg) (hr : Room n X.A) (hx : Passes CX X E) (hg : Gl X x := by rfl)
    (hdb : (x == ("__debug__" : Str)) = false := by decide) : PE X (.Call (.Name x p) [] [] pos) (rdE G E (cB (pureC F) ac0)) := by
  obtain ⟨fa, fd, h1, h2, h3, h4⟩ := d
  rw [← hK, ← hm] at h4
  rw [← hm] at h1
  rw [← hK] at h2 h3
  refine peI (pe_call0 h4 hr hg h1 h2 h3 .nil hx hdb) fun σ H Q h => ?_
  obtain ⟨ι, ρ, M, st, q⟩ := rd_callP h
  exact q ι H (.refl st.mem) [] .nil
end Xt
set_option Elab.async false
set_option linter.all false
set_option maxRecDepth 100000
set_option maxHeartbeats 4000000
namespace Xt
open PySem PySem.Spec PyProof.Rows L2
/-! ### objects: fields -/
/-- the class c with its field f -/
structure FlF (G : Gx) (c f : Str) (C : Addr) : Prop where
  mg : G.mg c = some (.ref C)
  cl : Cls G.K C
  na : NoAttr G.K C f
/-- d.f, d an object of the class c -/
def fldD (c f : Str) : Dv → Co Dv := fun d => match d with
  | .r i => atM i fun mo => match mo with
    | .ins c' fs => chk (decide (c' = c)) (bnd (ofO (fs.lookup f)) fun d => rt d)
    | _ => fl
  | _ => fl
def putD (f : Str) (d : Dv) : List (Str × Dv) → List (Str × Dv)
  | [] => [(f, d)]
  | (g, x) :: r => (match decide (g = f) with
    | true => (g, d) :: r
    | false => (g, x) :: putD f d r)
/-- d.f = e -/
def stF (c f : Str) (d e : Dv) : Co Unit := match d with
  | .r i => atM i fun mo => match mo with
    | .ins c' fs => chk (decide (c' = c) && Nat.blt fs.length 1000) fun M => .ok () (M.set i (.ins c' (putD f e fs)))
    | _ => fl
  | _ => fl
section
variable {G : Gx} {E : XK} {ι : List Addr} {H : Hp} {M : Mem}
theorem RpF.look {f : Str} : ∀ {vs : List (Str × V)} {ds : List (Str × Dv)} {d : Dv}, RpF G ι H vs ds → ds.lookup f = some d → ∃ v, vs.lookup f = some v ∧ RpD G ι H v d
  | _, _, _, .nil, e => nomatch e
  | (g, v) :: vs, (_, d0) :: ds, d, .cons h r, e => by
    rw [List.lookup_cons] at e
    rw [List.lookup_cons]
    cases q : f == g with
    | true =>
      rw [q] at e
      cases e
      exact ⟨v, rfl, h⟩
    | false =>
      rw [q] at e
      exact RpF.look r e
theorem RpF.put {f : Str} {v : V} {d : Dv} (h : RpD G ι H v d) : ∀ {vs : List (Str × V)} {ds : List (Str × Dv)}, RpF G ι H vs ds → RpF G ι H (putF f v vs) (putD f d ds)
  | _, _, .nil => .cons h .nil
  | (g, x) :: vs, (_, y) :: ds, .cons h0 r => by
    unfold putF putD
    by_cases q : g = f
    · rw [if_pos q, decide_eq_true q]
      exact .cons h r
    · rw [if_neg q, decide_eq_false q]
      exact .cons h0 (RpF.put h r)
theorem RpF.length : ∀ {vs : List (Str × V)} {ds : List (Str × Dv)}, RpF G ι H vs ds → vs.length = ds.length
  | _, _, .nil => rfl
  | _, _, .cons _ r => by rw [List.length_cons, List.length_cons, RpF.length r]
end
section
variable {X : Cx} {G : Gx} {E : XK} {e o : Expr} {F V1 : Slots → Co Dv} {c f : Str} {C : Addr} {pos : Pos}
theorem xfld (hK : X.K = G.K) (fl_ : FlF G c f C) (he : PE X e (rdE G E F)) (hb : attributeBase e f X.env (eval e X.env) = eval e X.env := by rfl) : PE X (.Attribute e f pos) (rdE G E (b1 (fldD c f) F)) :=
  peI (pe_fld he hb) fun σ H Q h => by
    obtain ⟨ι, ρ, M, st, p⟩ := h
    refine ⟨ι, ρ, M, st, (Post.bnd p).mono fun d ι1 M1 H1 x1 p1 v rv => ?_⟩
    cases rv with
    | @r a i hi =>
      obtain ⟨mo, q, p2⟩ := Post.atM p1
      have ob := x1.mem.ob i a mo hi q
      cases mo with
      | ins c' fs =>
        obtain ⟨k, p3⟩ := Post.chk p2
        have ec := of_decide_eq_true k
        subst ec
        obtain ⟨d2, l, p4⟩ := Post.ofO p3
        obtain ⟨C', dx, fvs, g1, g2, g3⟩ := ob
        have eC : C' = C := by
          rw [fl_.mg] at g1
          cases g1
          rfl
        subst eC
        obtain ⟨v2, l2, r2⟩ := g3.look l
        exact ⟨a, C', dx, fvs, v2, rfl, g2, by rw [hK]; exact fl_.cl, by rw [hK]; exact fl_.na, l2, Post.rt x1.mem p4 _ r2⟩
      | _ => exact p2.elim
    | g _ => exact p1.elim
    | t _ _ => exact p1.elim
/-- o.f = value -/
def sfl (c f : Str) (F V1 : Slots → Co Dv) : Slots → Co Fl := fun ρ => bnd (V1 ρ) fun e => bnd (F ρ) fun d => bnd (stF c f d e) fun _ => rt (.nx ρ)
theorem of_stF {σ : L2.St} {ι : List Addr} {H : Hp} {M : Mem} {v y : V} {d e : Dv} {R : L2.St → Hp → Prop} {ρ : Slots} (fl_ : FlF G c f C) (st : StR G H σ ι ρ M) (rv : RpD G ι H v d) (ry : RpD G ι H y e)
    {β : Type} {k : Unit → Co β} {Q : β → List Addr → Mem → Hp → Prop} (p : Post G E ι H Q (bnd (stF c f d e) k M)) (hk : ∀ ι' M' H', StR G H' σ ι' ρ M' → Post G E ι' H' Q (k () M') → R σ H') :
    ∃ a dx fs, v = .ref a ∧ H a = some (.ins C dx fs) ∧ fs.length < 1000 ∧ R σ (upd H a (.ins C dx (putF f y fs))) := by
  have p2 := Post.bnd p
  cases rv with
  | @r a i hi =>
    obtain ⟨mo, q, p3⟩ := Post.atM p2
    have ob := st.mem.ob i a mo hi q
    cases mo with
    | ins c' fs =>
      obtain ⟨C', dx, fvs, g1, g2, g3⟩ := ob
      obtain ⟨cc, p4⟩ := Post.chk p3
      obtain ⟨c1, c2⟩ := Bool.and_eq_true_iff.mp cc
      have ec := of_decide_eq_true c1
      subst ec
      have eC : C' = C := by
        rw [fl_.mg] at g1
        cases g1
        rfl
      subst eC
      have ll := g3.length
      have l3 : fs.length < 1000 := Nat.le_of_ble_eq_true c2
      refine ⟨a, dx, fvs, rfl, g2, by omega, ?_⟩
      have x2 : Ext G ι H ι (M.set i (.ins c' (putD f e fs))) (upd H a (.ins C' dx (putF f y fvs))) := .store st.mem hi g2 rfl ⟨C', dx, _, fl_.mg, upd_same, (g3.put ry).mono (List.prefix_refl _) (keep_store g2 rfl)⟩
      exact hk ι _ _ (st.ext x2) (p4 _ _ x2)
    | _ => exact p3.elim
  | g _ => exact p2.elim
  | t _ _ => exact p2.elim
theorem xsfl {pos' : Pos} (hK : X.K = G.K) (fl_ : FlF G c f C) (ho : PE X o (rdE G E F)) (hv : PE X e (rdE G E V1)) (hs : swapsWith e (some (.Attribute o f pos')) pos.line X.env = pure false := by rfl) : PS X (.Assign [.Attribute o f pos'] e pos) (rdS G E (sfl c f F V1)) :=
  psI (ps_fld ho hv hs) fun D σ H h => by
    obtain ⟨ι, ρ, M, st, p⟩ := h
    refine ⟨ι, ρ, M, st, (Post.bnd p).mono fun d ι1 M1 H1 x1 p1 y ry => ?_⟩
    refine ⟨ι1, ρ, M1, st.ext x1, (Post.bnd p1).mono fun d2 ι2 M2 H2 x2 p2 v rv => ?_⟩
    obtain ⟨a, dx, fs, e1, e2, e3, e4⟩ := of_stF (R := fun σ H => D.nx σ H) fl_ ((st.ext x1).ext x2) rv (ry.mono x2.pre x2.keep) p2 fun ι' M' H' s' p' => Post.rt s'.mem p' σ s'
    exact ⟨a, C, dx, fs, e1, e2, by rw [hK]; exact fl_.cl, by rw [hK]; exact fl_.na, e3, e4⟩
end
end Xt
set_option Elab.async false
set_option linter.all false
set_option maxRecDepth 100000
set_option maxHeartbeats 4000000
namespace Xt
open PySem PySem.Spec PyProof.Rows L2
/-! ### objects: a field as a target, making, methods -/
section
variable {X : Cx} {G : Gx} {E : XK} {e o : Expr} {es : List Expr} {F : Slots → Co Dv} {c f : Str} {C : Addr} {pos : Pos}
def gFld (K : PySem.W.Frag) (to : TE) (f : Str) : TG := fun v σ H Q => to σ H fun x H1 => ∃ a C dx fs, x = .ref a ∧ H1 a = some (.ins C dx fs) ∧ Cls K C ∧ NoAttr K C f ∧ fs.length < 1000 ∧ Q σ (upd H1 a (.ins C dx (putF f v fs)))
theorem pg_fld {to : TE} (ho : PE X o to) : PG X (.Attribute o f pos) (gFld X.K to f) := by
  refine ⟨fun pins s σ H v u Q I r h => ?_⟩
  rw [assign_Attribute]
  refine wpAny_bind (wpAny_holding (thn (ho.run pins s σ H _ I h) fun ov s1 ⟨x, H1, I1, rx, a, C, dx, fs, ex, ea, cl, n, l, q⟩ => ?_))
  subst ex
  obtain rfl : ov = Value.ref a := rx
  refine wpAny_bind (wpAny_standAt (wpAny_bind (wpAny_holding (setattr_ok I1 ea cl n l r fun s2 I2 => ?_))))
  exact wpAny_release ⟨σ, _, I2, q⟩
def tFl (c f : Str) (F : Slots → Co Dv) : Dv → Slots → Co Slots := fun e ρ => bnd (F ρ) fun d => bnd (stF c f d e) fun _ => rt ρ
theorem xgfl (hK : X.K = G.K) (fl_ : FlF G c f C) (ho : PE X o (rdE G E F)) : PG X (.Attribute o f pos) (rdG G E (tFl c f F)) :=
  pgI (pg_fld ho) fun v σ H Q h => by
    obtain ⟨ι, ρ, M, d, st, r, p⟩ := h
    refine ⟨ι, ρ, M, st, (Post.bnd p).mono fun o1 ι1 M1 H1 x1 p1 ov ro => ?_⟩
    obtain ⟨a, dx, fs, e1, e2, e3, e4⟩ := of_stF (R := fun σ H => Q σ H) fl_ (st.ext x1) ro (r.mono x1.pre x1.keep) p1 fun ι' M' H' s' p' => Post.rt s'.mem p' σ s'
    exact ⟨a, C, dx, fs, e1, e2, by rw [hK]; exact fl_.cl, by rw [hK]; exact fl_.na, e3, e4⟩
/-- the method m of the class c -/
def DokM (P : Program) (w : World) (base : Heap) (CX : CXT) (G : Gx) (c m : Str) (ps : List Str) (n : Nat) (F : List Dv → Co Dv) : Prop :=
  ∃ (C fa : Addr) (fd : FuncData), G.mg c = some (.ref C) ∧ Cls G.K C ∧ Meth G.K C m fa ∧ Binds G.K fd ps [] ∧ FnOk P w G.K G.mg base CX n fa fd ps (spF G F)
/-- o.m(..): o an object of the class c without an own m -/
def mtC (c m : Str) (F : List Dv → Co Dv) (f : Slots → Co Dv) (gs : Slots → Co (List Dv)) : Slots → Co Dv := fun ρ => bnd (f ρ) fun d => match d with
  | .r i => bnd (atM i fun mo => match mo with
    | .ins c' fs => chk (decide (c' = c) && (fs.lookup m).isNone) (rt ())
    | _ => fl) fun _ => bnd (gs ρ) fun ds => F (.r i :: ds)
  | _ => fl
theorem RpF.nolook {ι : List Addr} {H : Hp} {f : Str} : ∀ {vs : List (Str × V)} {ds : List (Str × Dv)}, RpF G ι H vs ds → ds.lookup f = none → vs.lookup f = none
  | _, _, .nil, _ => rfl
  | (g, v) :: vs, (_, d0) :: ds, .cons h r, e => by
    rw [List.lookup_cons] at e ⊢
    cases q : f == g with
    | true =>
      rw [q] at e
      cases e
    | false =>
      rw [q] at e
      exact RpF.nolook r e
theorem rd_mt {m : Str} {Fm : List Dv → Co Dv} {gs : Slots → Co (List Dv)} {σ : L2.St} {H : Hp} {Q : VK} (mg : G.mg c = some (.ref C)) (h : rdE G E (mtC c m Fm F gs) σ H Q) : tMeth C m (spF G Fm) [] E (rdE G E F) (rdA G E gs) σ H Q := by
  obtain ⟨ι, ρ, M, st, p⟩ := h
  refine ⟨ι, ρ, M, st, (Post.bnd p).mono fun d ι1 M1 H1 x1 p1 v rv => ?_⟩
  cases rv with
  | @r a i hi =>
    obtain ⟨mo, q, p3⟩ := Post.atM (Post.bnd p1)
    have ob := x1.mem.ob i a mo hi q
    cases mo with
    | ins c' fs =>
      obtain ⟨C', dx, fvs, g1, g2, g3⟩ := ob
      obtain ⟨cc, p4⟩ := Post.chk p3
      obtain ⟨c1, c2⟩ := Bool.and_eq_true_iff.mp cc
      have ec := of_decide_eq_true c1
      subst ec
      have eC : C' = C := by
        rw [mg] at g1
        cases g1
        rfl
      subst eC
      have ln : fs.lookup m = none := by simpa using c2
      have p5 := p4 ι1 H1 (.refl x1.mem)
      refine ⟨a, dx, fvs, rfl, g2, g3.nolook ln, ι1, ρ, M1, st.ext x1, (Post.bnd p5).mono fun ds ι2 M2 H2 x2 p6 vs rs => ?_⟩
      show spF G Fm (.ref a :: (vs ++ [])) H2 Q E
      rw [List.append_nil]
      exact ⟨ι2, M2, .r i :: ds, x2.mem, .cons (.r (pre_get x2.pre hi)) rs, p6⟩
    | _ => exact p3.elim
  | g _ => exact p1.elim
  | t _ _ => exact p1.elim
theorem xmt {CX : CXT} {n : Nat} {m : Str} {ps : List Str} {Fm : List Dv → Co Dv} {gs : Slots → Co (List Dv)} {e1 : Expr} {apos : Pos} {pl : Sem Bool} (d : DokM X.prog X.w X.base CX G c m ps n Fm) (hK : X.K = G.K) (hm : X.mg = G.mg) (hr : Room n X.A) (hx : Passes CX X E) (ho : PE X o (rdE G E F)) (ha : PA X (e1 :: es) (rdA G E gs))
    (hst : starEach (e1 :: es) X.env = (false, eval e1 X.env) :: starEach es X.env := by rfl) (hpl : (backTo pos (starEach es X.env)).any (·.1) = false := by rfl)
    (ht : eval (.Call (.Attribute o m apos) (e1 :: es) [] pos) X.env = (do
      let ov ← eval o X.env
      standAt apos.atName
      let (f, first) ← holding [ov] (getMethod ov m pl)
      callWith pos f first (backTo pos (starEach (e1 :: es) X.env)) (backToKw pos (keywordEach [] X.env))) := by rfl) :
    PE X (.Call (.Attribute o m apos) (e1 :: es) [] pos) (rdE G E (mtC c m Fm F gs)) := by
  obtain ⟨C, fa, fd, h1, h2, h3, h4, h5⟩ := d
  rw [← hK, ← hm] at h5
  rw [← hK] at h2 h3 h4
  exact peI (pe_meth ho h2 h3 h5 hr h4 .nil hx ha hst hpl ht) fun _ _ _ h => rd_mt h1 h
theorem rdA0 {σ : L2.St} {H : Hp} {R : List V → Hp → Prop} (h : rdA G E ac0 σ H R) : tNil σ H R := by
  obtain ⟨ι, ρ, M, st, p⟩ := h
  exact p ι H (.refl st.mem) [] .nil
theorem xmt0 {CX : CXT} {n : Nat} {m : Str} {ps : List Str} {Fm : List Dv → Co Dv} {apos : Pos} {pl : Sem Bool} (d : DokM X.prog X.w X.base CX G c m ps n Fm) (hK : X.K = G.K) (hm : X.mg = G.mg) (hr : Room n X.A) (hx : Passes CX X E) (ho : PE X o (rdE G E F))
    (ht : eval (.Call (.Attribute o m apos) [] [] pos) X.env = (do
      let ov ← eval o X.env
      standAt apos.atName
      let (f, first) ← holding [ov] (getMethod ov m pl)
      callWith pos f first (backTo pos (starEach [] X.env)) (backToKw pos (keywordEach [] X.env))) := by rfl) :
    PE X (.Call (.Attribute o m apos) [] [] pos) (rdE G E (mtC c m Fm F ac0)) := by
  obtain ⟨C, fa, fd, h1, h2, h3, h4, h5⟩ := d
  rw [← hK, ← hm] at h5
  rw [← hK] at h2 h3 h4
  refine peI (pe_meth0 ho h2 h3 h5 hr h4 .nil hx ht) fun σ H Q h => ?_
  obtain ⟨ι, ρ, M, st, p⟩ := rd_mt h1 h
  exact ⟨ι, ρ, M, st, p.mono fun _ _ _ _ _ q v rv => by
    obtain ⟨a, dx, fs, w1, w2, w3, w4⟩ := q v rv
    exact ⟨a, dx, fs, w1, w2, w3, rdA0 w4⟩⟩
/-- c(..): a new object, then its __init__ -/
def mkC (c : Str) (Fi : List Dv → Co Dv) (gs : Slots → Co (List Dv)) : Slots → Co Dv := fun ρ => bnd (gs ρ) fun ds M => bnd (Fi (.r M.length :: ds)) (fun d => match d with
  | .g .none => rt (.r M.length)
  | _ => fl) (M ++ [.ins c []])
/-- what the head tells of making -/
def DokI (P : Program) (w : World) (base : Heap) (CX : CXT) (G : Gx) (c : Str) (ps : List Str) (n : Nat) (F : List Dv → Co Dv) : Prop :=
  ∃ (C fa : Addr) (fd : FuncData), G.mg c = some (.ref C) ∧ Mk G.K C fa ∧ Binds G.K fd ps [] ∧ FnOk P w G.K G.mg base CX n fa fd ps (spF G F)
theorem rd_mk {Fi : List Dv → Co Dv} {gs : Slots → Co (List Dv)} {σ : L2.St} {H : Hp} {Q : VK} (mg : G.mg c = some (.ref C)) (h : rdE G E (mkC c Fi gs) σ H Q) : tMake C (spF G Fi) [] E (rdA G E gs) σ H Q := by
  obtain ⟨ι, ρ, M, st, p⟩ := h
  refine ⟨ι, ρ, M, st, (Post.bnd p).mono fun ds ι1 M1 H1 x1 p1 vs rs => fun x dx hx hdx ne => ?_⟩
  show spF G Fi (.ref x :: (vs ++ [])) _ _ E
  rw [List.append_nil]
  have y1 : Ext G ι1 H1 ι1 M1 (upd H1 dx (.own x)) := .new x1.mem hdx
  have hx2 : upd H1 dx (.own x) x = none := by rw [upd_ne (Ne.symm ne)]; exact hx
  have y2 : Ext G ι1 (upd H1 dx (.own x)) (ι1 ++ [x]) (M1 ++ [.ins c []]) (upd (upd H1 dx (.own x)) x (.ins C dx [])) := .alloc y1.mem hx2 ⟨C, dx, [], mg, upd_same, .nil⟩
  have y := y1.trans y2
  have hi : (ι1 ++ [x])[M1.length]? = some x := by
    rw [← x1.mem.len]
    exact get_last _ _
  refine ⟨ι1 ++ [x], _, .r M1.length :: ds, y2.mem, .cons (.r hi) ((rs.mono y1.pre y1.keep).mono y2.pre y2.keep), ((Post.bnd (p1.shift y))).mono fun d ι3 M3 H3 x3 p3 v rv => ?_⟩
  cases d with
  | g z =>
    cases z with
    | none =>
      cases rv with
      | g rv =>
        cases rv
        exact ⟨rfl, Post.rt x3.mem p3 _ (.r (pre_get x3.pre hi))⟩
    | _ => exact p3.elim
  | _ => exact p3.elim
theorem xmk {CX : CXT} {n : Nat} {ps : List Str} {Fi : List Dv → Co Dv} {gs : Slots → Co (List Dv)} {e1 : Expr} {p : Pos} (d : DokI X.prog X.w X.base CX G c ps n Fi) (hK : X.K = G.K) (hm : X.mg = G.mg) (hr : Room (n + 1) X.A) (hx : Passes CX X E) (ha : PA X (e1 :: es) (rdA G E gs)) (hg : Gl X c := by rfl)
    (hdb : (c == ("__debug__" : Str)) = false := by decide) (he : starEach (e1 :: es) X.env = (false, eval e1 X.env) :: starEach es X.env := by rfl) (hpl : (backTo pos (starEach es X.env)).any (·.1) = false := by rfl) :
    PE X (.Call (.Name c p) (e1 :: es) [] pos) (rdE G E (mkC c Fi gs)) := by
  obtain ⟨C, fa, fd, h1, h2, h3, h4⟩ := d
  have h1' : X.mg c = some (.ref C) := by rw [hm]; exact h1
  rw [← hK, ← hm] at h4
  rw [← hK] at h2 h3
  exact peI (pe_make h2 h4 hr hg h1' h3 .nil hx ha hdb he hpl) fun _ _ _ h => rd_mk h1 h
end
end Xt
set_option Elab.async false
set_option linter.all false
set_option maxRecDepth 100000
set_option maxHeartbeats 4000000
namespace Xt
open PySem PySem.Spec PyProof.Rows L2
section
variable {fa : List He.Fa} {fn : List He.DefD} {G : Gx}
theorem cls_of {K : PySem.W.Frag} {c : Str} (h : (He.Fa.cls c).ok K = true) : Cls K (He.ga K c) := by
  obtain ⟨h1, h⟩ := Bool.and_eq_true_iff.mp h
  obtain ⟨h2, h⟩ := Bool.and_eq_true_iff.mp h
  obtain ⟨h3, h4⟩ := Bool.and_eq_true_iff.mp h
  exact ⟨h1, h2, h3, He.eqO_ok h4⟩
theorem Tx.cls (T : Tx fa fn G) {c : Str} (j : Nat) (h : fa[j]? = some (.cls c) := by rfl) : Cls G.K (He.ga G.K c) := cls_of (T.says.fact j h)
/-- a field of a class -/
theorem Tx.fl (T : Tx fa fn G) {c f : Str} (i j k : Nat) (h : fa[i]? = some (.glo c) := by rfl) (h2 : fa[j]? = some (.cls c) := by rfl) (h3 : fa[k]? = some (.noat c f) := by rfl) : FlF G c f (He.ga G.K c) :=
  ⟨T.glo i h, T.cls j h2, He.eqO_ok (T.says.fact k h3)⟩
theorem Tx.meth (T : Tx fa fn G) {c m : Str} (j : Nat) (h : fa[j]? = some (.meth c m) := by rfl) : Meth G.K (He.ga G.K c) m (He.ma G.K (He.ga G.K c) m) := by
  obtain ⟨h1, h2⟩ := Bool.and_eq_true_iff.mp (T.says.fact j h)
  obtain ⟨h3, h4⟩ := Bool.and_eq_true_iff.mp h2
  exact ⟨He.eqO_ok h1, h3, h4⟩
theorem Tx.mkr (T : Tx fa fn G) {c : Str} (j : Nat) (h : fa[j]? = some (.mkr c) := by rfl) : Mk G.K (He.ga G.K c) (He.ma G.K (He.ga G.K c) "__init__") := by
  obtain ⟨h1, h2⟩ := Bool.and_eq_true_iff.mp (T.says.fact j h)
  obtain ⟨h3, h4⟩ := Bool.and_eq_true_iff.mp h2
  obtain ⟨h5, h6⟩ := Bool.and_eq_true_iff.mp h4
  exact ⟨h1, He.eqO_ok h3, h5, h6⟩
end
/-- a method of the text, by its body -/
theorem dokM_mk {P : Program} {w : World} {base : Heap} {G : Gx} {c m nm qual : Str} {params : Arguments} {body : List Stmt} {scope : Scope} {C fa : Addr} {N ps : List Str} {Fn : Nat → List Dv → Co Dv} {b : Nat → Slots → Co Fl} (h0 : Fn 0 = fun _ => fl) (hs : ∀ n, Fn (n + 1) = defF N.length ps.length (b n))
    (F : ∃ fd, FunD G.K nm qual params body scope [] [] fa fd) (hc : G.mg c = some (.ref C)) (cl : Cls G.K C) (me : Meth G.K C m fa) (S : FnScope N ps scope)
    (hbd : ∀ (kV doc pm : Value) (an : Option Addr) (cdv ct : Value) (us : List Value), us.length = ps.length → bindArgs (PySem.W.fnOf nm qual params body scope .none kV doc pm an cdv ct) ⟨us, []⟩ = pure (ps.zip us))
    (hb : ∀ n, DokM P w base CX0 G c m ps n (Fn n) → ∀ (cdv : Value) (A : Around) (outer : List Env) (s : Shared) (H : Hp) (E : XK), Room n (A.deeper (envOfC qual scope s.heap.objs.size fa cdv)) → PSs (cxOf CX0 P w G.K G.mg base N qual scope fa cdv A outer s H E).nox body (rdS G E (b n))) :
    ∀ n, DokM P w base CX0 G c m ps n (Fn n) := by
  obtain ⟨fd, F⟩ := F
  intro n
  induction n with
  | zero => exact ⟨C, fa, fd, hc, cl, me, F.bindsN hbd, by rw [h0]; exact fn_zero⟩
  | succ n ih => exact ⟨C, fa, fd, hc, cl, me, F.bindsN hbd, by
      rw [hs]
      exact xdef F S fun cdv A outer s H E hr => (hb n ih cdv A outer s H E hr).nox⟩
/-- an __init__ of the text -/
theorem dokI_mk {P : Program} {w : World} {base : Heap} {G : Gx} {c nm qual : Str} {params : Arguments} {body : List Stmt} {scope : Scope} {C fa : Addr} {N ps : List Str} {Fn : Nat → List Dv → Co Dv} {b : Nat → Slots → Co Fl} (h0 : Fn 0 = fun _ => fl) (hs : ∀ n, Fn (n + 1) = defF N.length ps.length (b n))
    (F : ∃ fd, FunD G.K nm qual params body scope [] [] fa fd) (hc : G.mg c = some (.ref C)) (mk : Mk G.K C fa) (S : FnScope N ps scope)
    (hbd : ∀ (kV doc pm : Value) (an : Option Addr) (cdv ct : Value) (us : List Value), us.length = ps.length → bindArgs (PySem.W.fnOf nm qual params body scope .none kV doc pm an cdv ct) ⟨us, []⟩ = pure (ps.zip us))
    (hb : ∀ n, ∀ (cdv : Value) (A : Around) (outer : List Env) (s : Shared) (H : Hp) (E : XK), Room n (A.deeper (envOfC qual scope s.heap.objs.size fa cdv)) → PSs (cxOf CX0 P w G.K G.mg base N qual scope fa cdv A outer s H E).nox body (rdS G E (b n))) :
    ∀ n, DokI P w base CX0 G c ps n (Fn n) := by
  obtain ⟨fd, F⟩ := F
  intro n
  cases n with
  | zero => exact ⟨C, fa, fd, hc, mk, F.bindsN hbd, by rw [h0]; exact fn_zero⟩
  | succ n => exact ⟨C, fa, fd, hc, mk, F.bindsN hbd, by
      rw [hs]
      exact xdef F S fun cdv A outer s H E hr => (hb n cdv A outer s H E hr).nox⟩
end Xt
set_option Elab.async false
set_option linter.all false
set_option maxRecDepth 100000
set_option maxHeartbeats 4000000
namespace Xt
open PySem PySem.Spec PyProof.Rows L2
/-! ### dicts of the memory: d[k], k in d -/
def dgI (f g : Slots → Co Dv) : Slots → Co Dv := fun ρ => bnd (f ρ) fun d => bnd (g ρ) fun k => bnd (ofO (asI k)) fun n => match d with
  | .r i => atM i fun mo => match mo with
    | .dct kvs => bnd (ofO (dvV kvs n)) fun v => rt v
    | _ => fl
  | _ => fl
def dinI (neg : Bool) (g f : Slots → Co Dv) : Slots → Co Dv := fun ρ => bnd (g ρ) fun k => bnd (f ρ) fun d => bnd (ofO (asI k)) fun n => match d with
  | .r i => atM i fun mo => match mo with
    | .dct kvs => rt (vB (if neg then !(dvV kvs n).isSome else (dvV kvs n).isSome))
    | _ => fl
  | _ => fl
section
variable {X : Cx} {G : Gx} {E : XK} {e1 e2 : Expr} {f g : Slots → Co Dv} {pos : Pos}
theorem xdg (hu : X.A.units + 1 < cLine) (ho : PE X e1 (rdE G E f)) (hi : PE X e2 (rdE G E g)) (hs : NoSl e2 := by intro _ _; rfl) : PE X (.Subscript e1 e2 pos) (rdE G E (dgI f g)) :=
  peI (pe_dget hu ho hi hs) fun σ H Q h => by
    obtain ⟨ι, ρ, M, st, p⟩ := h
    refine ⟨ι, ρ, M, st, (Post.bnd p).mono fun d ι1 M1 H1 x1 p1 v rv => ?_⟩
    refine ⟨ι1, ρ, M1, st.ext x1, (Post.bnd p1).mono fun k ι2 M2 H2 x2 p2 kv rk => ?_⟩
    obtain ⟨n, en, p3⟩ := Post.ofO p2
    obtain ⟨rfl, rfl⟩ := asI_rp rk en
    cases rv with
    | @r a i hi =>
      obtain ⟨mo, e, p4⟩ := Post.atM p3
      cases mo with
      | dct kvs =>
        obtain ⟨kws, h1, h2⟩ := x2.mem.dctE (pre_get x2.pre hi) e
        obtain ⟨w, e5, p5⟩ := Post.ofO p4
        have q := h2.valV n
        rw [e5] at q
        obtain ⟨v, q1, q2⟩ := q
        refine ⟨a, v, rfl, ?_, Post.rt x2.mem p5 _ q2⟩
        rw [← q1]
        exact DGet.k (k := .inl n) h1
      | _ => exact p4.elim
    | g _ => exact p3.elim
    | t _ _ => exact p3.elim
theorem rd_din {neg : Bool} {σ : L2.St} {H : Hp} {Q : VK} (h : rdE G E (dinI neg g f) σ H Q) : (rdE G E g) σ H fun y H1 => (rdE G E f) σ H1 fun x H2 => ∃ a o, x = .ref a ∧ DGet H2 a y o ∧ Q (.bl (if neg then !o.isSome else o.isSome)) H2 := by
  obtain ⟨ι, ρ, M, st, p⟩ := h
  refine ⟨ι, ρ, M, st, (Post.bnd p).mono fun k ι1 M1 H1 x1 p1 kv rk => ?_⟩
  refine ⟨ι1, ρ, M1, st.ext x1, (Post.bnd p1).mono fun d ι2 M2 H2 x2 p2 v rv => ?_⟩
  obtain ⟨n, en, p3⟩ := Post.ofO p2
  obtain ⟨rfl, rfl⟩ := asI_rp rk en
  cases rv with
  | @r a i hi =>
    obtain ⟨mo, e, p4⟩ := Post.atM p3
    cases mo with
    | dct kvs =>
      obtain ⟨kws, h1, h2⟩ := x2.mem.dctE hi e
      refine ⟨a, _, rfl, DGet.k (k := .inl n) h1, ?_⟩
      have q := h2.valV n
      have es : (L2.valV kws (.inl n)).isSome = (dvV kvs n).isSome := by
        cases e5 : dvV kvs n with
        | none =>
          rw [e5] at q
          rw [show L2.valV kws (.inl n) = none from q]
          rfl
        | some w =>
          rw [e5] at q
          obtain ⟨v, q1, _⟩ := q
          rw [q1]
          rfl
      rw [es]
      exact Post.rt x2.mem p4 _ (.g (.bl _))
    | _ => exact p4.elim
  | g _ => exact p3.elim
  | t _ _ => exact p3.elim
theorem cdin (hu : X.A.units + 1 < cLine) (hi : PE X e1 (rdE G E g)) (ho : PE X e2 (rdE G E f)) : PC X .In e1 e2 (rdE G E (dinI false g f)) := ⟨fun pins s σ H Q I h => (pc_din hu hi ho).run pins s σ H Q I (rd_din h)⟩
theorem cdnotin (hu : X.A.units + 1 < cLine) (hi : PE X e1 (rdE G E g)) (ho : PE X e2 (rdE G E f)) : PC X .NotIn e1 e2 (rdE G E (dinI true g f)) := ⟨fun pins s σ H Q I h => (pc_dnotin hu hi ho).run pins s σ H Q I (rd_din h)⟩
end
end Xt
set_option Elab.async false
set_option linter.all false
set_option maxRecDepth 100000
set_option maxHeartbeats 4000000
namespace Xt
open PySem PySem.Spec PyProof.Rows L2
theorem wp_anyB {α : Type} {Mo : Model} {A : Around} {F : Bool → Sem α} {Q : α → Shared → Prop} {E : Value → Shared → Prop} {s : Shared} (h : ∀ b, wpAny Mo A (F b) Q E s) (b : Bool) : wpAny Mo A (F b) Q E s := h b
theorem meets_enumerate_newT (t : Addr) (items : Array Value) : Meets (Builtin.«enumerate.__new__» { pos := [Value.type "enumerate", Value.ref t] }) fun x R s => s.heap.IsTuple t items ∧
    R (Except.ok (Flow.ret (Value.ref (s.heap.push { cls := Value.type "tuple_iterator", data := Data.fields #[Value.ref t, Value.int 0 0] }).objs.size)))
      { heap := (s.heap.push { cls := Value.type "tuple_iterator", data := Data.fields #[Value.ref t, Value.int 0 0] }).push { cls := Value.type "enumerate", data := Data.fields #[Value.none, Value.bool false, Value.ref s.heap.objs.size, rawInt 0, Value.none, Value.none] }, gens := s.gens, drawn := s.drawn, toks := s.toks, os := s.os } :=
  Meets.of_wp fun prog w A R s h => by
    obtain ⟨hp, g, d, tk, os⟩ := s
    obtain ⟨hl, h⟩ := h
    have hsub := sub_enumerate
    refine wpAny_bind (wpAny_bind (wpAny_pure (wpAny_ite_false rfl (wpAny_bind (wpAny_of_eq hsub (wpAny_ite_false rfl (wpAny_pure (wpAny_ite_true rfl (wpAny_bind (wpAny_bind (wpAny_stack_any fun st => wpAny_pure ?_))))))))))) 
    have fin : wpAny (model prog w) A.in1 (do
              let __do_lift ← pyIter (.ref t)
              let __do_lift ←
                Builtin.SmallTypes.newRecord (Value.type "enumerate")
                    (Builtin.SmallTypes.ownedTupleFields ++ [__do_lift, rawInt 0, Value.none, Value.none])
              PySem.ret __do_lift) (fun fin s' => ∃ v, fin = Fin.done (Flow.ret v) ∧ R (Except.ok (Flow.ret v)) s') (fun e s' => R (Except.error e) s') { heap := hp, gens := g, drawn := d, toks := tk, os := os } := by
      refine wpAny_bind (wpAny_pyIter_tuple hl (wpAny_bind ?_))
      unfold Builtin.SmallTypes.newRecord
      dsimp only
      unfold newObj
      refine wpAny_ite_false rfl ?_
      refine wpAny_bind (wpAny_alloc' (wpAny_pure ?_))
      exact wpAny_pure ⟨_, rfl, h⟩
    have both : ∀ b : Bool, b = true ∨ b = false := fun b => by cases b <;> simp
    split
    · rename_i c _ _ _ _ _
      rcases both (c == Value.type "enumerate") with e | e
      · rw [e]
        exact wpAny_ite_true rfl (wpAny_bind (wpAny_pure fin))
      · rw [e]
        exact wpAny_ite_false rfl (wpAny_bind (show wpAny (model prog w) A.in1 (pure (Value.ref t, (none : Option Value))) _ _ _ from wpAny_pure fin))
    · exact wpAny_ite_false rfl (wpAny_bind (show wpAny (model prog w) A.in1 (pure (Value.ref t, (none : Option Value))) _ _ _ from wpAny_pure fin))
theorem call_enumerate_tup {prog : Program} {w : World} {A : Around} {E : Value → Shared → Prop} {s : Shared} {t : Addr} {items : Array Value} {Q : Value → Shared → Prop} (ht : s.heap.IsTuple t items)
    (h : ∀ h' : Heap, IsEnum h' (s.heap.objs.size + 1) s.heap.objs.size 0 Value.none → h'.IsTupleIter s.heap.objs.size t 0 → h'.objs.size = s.heap.objs.size + 2 → (∀ b o, s.heap.get? b = some o → h'.get? b = some o) →
      Q (Value.ref (s.heap.objs.size + 1)) { s with heap := h' }) : wpAny (model prog w) A (call (Value.type "enumerate") [Value.ref t]) Q E s := by
  have hz := Heap.size_push s.heap { cls := Value.type "tuple_iterator", data := Data.fields #[Value.ref t, Value.int 0 0] }
  refine callType_new F.called_enumerate (by decide) (F.typeCall_enumerate_1 _) (F.newCall_enumerate_1 _) (fun obj => F.args_object_init_2 obj _) F.entry_enumerate_new (meets_enumerate_newT t items) ⟨ht, ?_⟩
  rw [hz]
  have he := Heap.get?_push_size (s.heap.push { cls := Value.type "tuple_iterator", data := Data.fields #[Value.ref t, Value.int 0 0] }) (o := { cls := Value.type "enumerate", data := Data.fields #[Value.none, Value.bool false, Value.ref s.heap.objs.size, rawInt 0, Value.none, Value.none] }) rfl
  rw [hz] at he
  refine ⟨⟨_, he, rfl⟩, h _ he ⟨_, Heap.get?_push_of_some _ (Heap.get?_push_size _ rfl), rfl, rfl⟩ ?_ fun b o e => Heap.get?_push_of_some _ (Heap.get?_push_of_some _ e)⟩
  rw [Heap.size_push, hz]

def Itet (K : PySem.W.Frag) (a : Addr) : It where
  go := fun i H => ∃ xs x, SqT K H a xs ∧ xs[i]? = some x
  yld := fun i H v H' => ∃ T x, v = V.ref T ∧ H T = none ∧ H' = upd H T (HO.tup [V.int i, x]) ∧ ∀ xs : List V, SqT K H a xs → xs[i]? = some x
  stop := fun i H => ∃ xs, SqT K H a xs ∧ xs.length = i
theorem sqt_uniq {X : Cx} {pins : List (Addr × Obj)} {σ : L2.St} {H : Hp} {s : Shared} {a : Addr} {xs ys : List V} (I : Inv X pins σ H s) (h1 : SqT X.K H a xs) (h2 : SqT X.K H a ys) : xs = ys := by
  obtain ⟨its, r1, ⟨o1, g1, _, n1, d1⟩, _⟩ := I.tuple h1
  obtain ⟨jts, r2, ⟨o2, g2, _, n2, d2⟩, _⟩ := I.tuple h2
  rw [g1] at g2
  cases g2
  rw [d1] at d2
  injection d2 with e _
  have e2 : its = jts := by simpa using e
  subst e2
  exact Vals.inj r1 r2
theorem turn_enumT {P : Program} {w : World} {K : PySem.W.Frag} {elts : List Expr} {kk : Nat} {tpos : Pos} (a e it : Addr) : Turn P w K (.Tuple elts kk tpos) (Itet K a) [e, it] e fun i h => (∃ old, IsEnum h e it (i : Nat) old) ∧ h.IsTupleIter it a i ∧ e ≠ it where
  mem := by simp
  obj := fun i h st b hb => by
    obtain ⟨⟨old, he⟩, ⟨o, ho, hc, hd⟩, hne⟩ := st
    have e' : b = e ∨ b = it := by simpa using hb
    rcases e' with rfl | rfl
    · exact ⟨_, he, fun v q => nomatch q⟩
    · exact ⟨o, ho, fun v q => by rw [hd] at q; cases q⟩
  keep := fun i h h' st k => by
    obtain ⟨⟨old, he⟩, hit, hne⟩ := st
    exact ⟨⟨old, k e (by simp) _ he⟩, hit.at fun o q => k it (by simp) o q, hne⟩
  item := fun X hP hw hK hc i pins s σ H E I hf st hg => by
    subst hP hw hK
    obtain ⟨⟨old, he⟩, hit, hne⟩ := st
    obtain ⟨xs, x, hq, hx⟩ := hg
    obtain ⟨its, rv, p, hz⟩ := I.tuple hq
    obtain ⟨u, hu, ru⟩ := Vals.get rv hx
    have p' : s.heap.IsTuple a its.toArray := p
    have hat : a ≠ it := by
      rintro rfl
      obtain ⟨o1, h1, h2, _⟩ := p'
      obtain ⟨o2, h3, h4, _⟩ := hit
      rw [h1] at h3
      cases h3
      rw [h2] at h4
      exact absurd h4 (by decide)
    have hae : e ≠ a := by
      rintro rfl
      obtain ⟨o1, h1, h2, _⟩ := p'
      have he' := he
      unfold IsEnum at he'
      rw [h1] at he'
      cases he'
      exact absurd (show (Value.type "enumerate") = Value.type "tuple" from h2) (by decide)
    have hh : X.A.in1.handled = none := by exact I.ok.hd hc
    have G := GoesN.enumFrom (prog := X.prog) (w := X.w) (A := X.A) (elts := elts) (x1 := kk) (pos := tpos) 0 (Draws.tuple (prog := X.prog) (w := X.w) (A := X.A.in1) hh it a hat its.toArray) e hne (by simp [hne, hae]) (by simp)
    have hi : i < its.toArray.size := by
      have := (List.getElem?_eq_some_iff.mp hu).1
      simpa using this
    refine G.goes i s _ _ hi ⟨⟨old, by rw [Int.zero_add]; exact he⟩, hit, p'⟩ fun v h' tk y st' keep htk => ?_
    obtain ⟨T, t, x', rfl, hT, hx', o, ho, hcl, n, hd⟩ := y
    have ex : x' = u := by
      have h9 : its[i]? = some x' := by simpa using hx'
      rw [hu] at h9
      cases h9
      rfl
    subst ex
    obtain ⟨⟨old', he'⟩, hit', _⟩ := st'
    have hTn : H T = none := I.hok.fresh hT
    refine ⟨V.ref T, upd H T (.tup [.int i, x]), I.turnedNew keep hf hT ?_, rfl, ⟨T, x, rfl, hTn, rfl, fun ys hy => by rw [sqt_uniq I hy hq]; exact hx⟩, ⟨⟨old', ?_⟩, hit', hne⟩, fun b hb => ?_⟩
    · refine ⟨by rw [sizeLine_eq]; show 2 ≤ 16777216; omega, [Value.int i t, x'], .cons ⟨t, rfl⟩ (.cons ru .nil), o, ho, hcl, n, ?_⟩
      rw [hd, Int.zero_add]
    · rw [Int.zero_add] at he'
      exact he'
    · have hb' : b < s.heap.objs.size := by
        have e' : b = e ∨ b = it := by simpa using hb
        rcases e' with rfl | rfl
        · exact Heap.lt_size he
        · obtain ⟨o2, h3, _⟩ := hit
          exact Heap.lt_size h3
      rw [upd_ne (Nat.ne_of_lt (Nat.lt_of_lt_of_le hb' hT))]
      exact (hf b hb).1
  done := fun X hP hw hK hc i pins s σ H E I hf st hg => by
    subst hP hw hK
    obtain ⟨⟨old, he⟩, hit, hne⟩ := st
    obtain ⟨xs, hq, hx⟩ := hg
    obtain ⟨its, rv, p, hz⟩ := I.tuple hq
    have p' : s.heap.IsTuple a its.toArray := p
    have hat : a ≠ it := by
      rintro rfl
      obtain ⟨o1, h1, h2, _⟩ := p'
      obtain ⟨o2, h3, h4, _⟩ := hit
      rw [h1] at h3
      cases h3
      rw [h2] at h4
      exact absurd h4 (by decide)
    have hae : e ≠ a := by
      rintro rfl
      obtain ⟨o1, h1, h2, _⟩ := p'
      have he' := he
      unfold IsEnum at he'
      rw [h1] at he'
      cases he'
      exact absurd (show (Value.type "enumerate") = Value.type "tuple" from h2) (by decide)
    have hh : X.A.in1.handled = none := by exact I.ok.hd hc
    have G := GoesN.enumFrom (prog := X.prog) (w := X.w) (A := X.A) (elts := elts) (x1 := kk) (pos := tpos) 0 (Draws.tuple (prog := X.prog) (w := X.w) (A := X.A.in1) hh it a hat its.toArray) e hne (by simp [hne, hae]) (by simp)
    have hi : i = its.toArray.size := by
      have := Vals.length rv
      simp only [List.size_toArray]
      omega
    subst hi
    exact G.stops s _ _ ⟨⟨old, by rw [Int.zero_add]; exact he⟩, hit, p'⟩ fun h' tk keep htk => I.turnedL keep hf
  self := fun A i s Q E st h => by
    obtain ⟨⟨old, he⟩, _⟩ := st
    exact wpAny_pyIter_enum he h
/-- enumerate(t), t a tuple -/
def iEnumT (K : PySem.W.Frag) (ta : TA) : TI := fun σ H R => ta σ H fun vs H1 => ∃ a xs, vs = [V.ref a] ∧ SqT K H1 a xs ∧ R (Itet K a) H1
theorem pi_enumT {X : Cx} {e : Expr} {ta : TA} {p pos tpos : Pos} {elts : List Expr} {kk : Nat} (hg : Gl X "enumerate") (hm : X.mg "enumerate" = none) (ha : PA X [e] ta) (hs : starEach [e] X.env = [(false, eval e X.env)] := by rfl) :
    PI X (.Tuple elts kk tpos) (.Call (.Name "enumerate" p) [e] [] pos) (iEnumT X.K ta) := ⟨fun pins s σ H R I h => by
  refine PyProof.Rows.Call_ (ld_blt I hg hm PyProof.Rows.boot_enumerate (PyProof.Rows.callWith_type1 (thn (ha.run pos pins s σ H _ I h) fun us s1 ⟨vs, H1, I1, r1, q1⟩ => ?_) hs rfl) (by decide) (by decide)) rfl
  obtain ⟨a, xs, rfl, hq, q⟩ := q1
  obtain rfl := Vals.ref1 r1
  obtain ⟨its, rv, p', hz⟩ := I1.tuple hq
  refine call_enumerate_tup p' fun h' he hit hsz hk => wpAny_pyIter_enum he ?_
  have hn : ∀ b, s1.heap.objs.size ≤ b → FpOk X pins H1 b := fun b hb => I1.fpOk hb (I1.hok.fresh hb)
  refine ⟨_, [s1.heap.objs.size + 1, s1.heap.objs.size], _, Itet X.K a, H1, rfl, I1.kept hk, turn_enumT a _ s1.heap.objs.size, ⟨⟨_, he⟩, hit, Nat.succ_ne_self _⟩, fun b hb => ?_, q⟩
  have e' : b = s1.heap.objs.size + 1 ∨ b = s1.heap.objs.size := by simpa using hb
  rcases e' with rfl | rfl
  · exact hn _ (Nat.le_succ _)
  · exact hn _ (Nat.le_refl _)⟩
/-- the pairs -/
def enT : Nat → List Dv → List Dv
  | _, [] => []
  | i, d :: r => mkT [dI i, d] :: enT (i + 1) r
def srcE (gs : Slots → Co (List Dv)) : Slots → Co (List Dv) := fun ρ => bnd (gs ρ) fun ds => match ds with
  | [d] => bnd (ofO (asT d)) fun xs => rt (enT 0 xs)
  | _ => fl
theorem enT_len : ∀ (i : Nat) (xs : List Dv), (enT i xs).length = xs.length
  | _, [] => rfl
  | i, _ :: r => by rw [enT, List.length_cons, List.length_cons, enT_len (i + 1) r]
theorem enT_get : ∀ (j : Nat) (xs : List Dv) (i : Nat) (d : Dv), xs[i]? = some d → (enT j xs)[i]? = some (mkT [dI (j + i : Nat), d])
  | _, [], _, _, h => by simp at h
  | j, x :: r, 0, d, h => by
    simp at h
    subst h
    rfl
  | j, x :: r, i + 1, d, h => by
    rw [enT, List.getElem?_cons_succ, enT_get (j + 1) r i d (by simpa using h)]
    congr 5
    omega
section
variable {X : Cx} {G : Gx} {E : XK} {e : Expr} {gs : Slots → Co (List Dv)} {p pos tpos : Pos} {elts : List Expr} {kk : Nat}
theorem xien (hK : X.K = G.K) (hg : Gl X "enumerate") (hm : X.mg "enumerate" = none) (ha : PA X [e] (rdA G E gs)) (hs : starEach [e] X.env = [(false, eval e X.env)] := by rfl) :
    PI X (.Tuple elts kk tpos) (.Call (.Name "enumerate" p) [e] [] pos) (rdI G E (srcE gs)) :=
  piI (pi_enumT hg hm ha hs) fun σ H R h => by
    obtain ⟨ι, ρ, M, st, pp⟩ := h
    refine ⟨ι, ρ, M, st, (Post.bnd pp).mono fun ds ι1 M1 H1 x1 p1 vs rv => ?_⟩
    cases rv with
    | nil => exact p1.elim
    | @cons v _ d _ r1 rv =>
      cases rv with
      | cons _ _ => exact p1.elim
      | nil =>
        obtain ⟨xs, e1, p2⟩ := Post.ofO p1
        obtain ⟨a, vs, rfl, h1, h2⟩ := asT_rp r1 e1
        refine ⟨a, vs, rfl, .of h1, Post.rt x1.mem p2 _ ⟨fun i H2 k hi => ?_, fun H2 k => ?_, fun i H2 x H3 k hi y => ?_⟩⟩
        · rw [enT_len, ← h2.length] at hi
          exact ⟨vs, vs[i], .of (k.tup _ _ h1), List.getElem?_eq_getElem hi⟩
        · exact ⟨vs, .of (k.tup _ _ h1), by rw [enT_len, h2.length]⟩
        · obtain ⟨T, x', rfl, hT, rfl, q⟩ := y
          have q2 := q vs (.of (k.tup _ _ h1))
          rw [enT_len] at hi
          obtain ⟨w, g1, g2⟩ := h2.get (List.getElem?_eq_getElem hi)
          rw [q2] at g1
          cases g1
          refine ⟨_, enT_get 0 xs i _ (List.getElem?_eq_getElem hi), ?_, .inr ⟨T, _, hT, rfl⟩⟩
          rw [Nat.zero_add]
          refine mkT_rp upd_same (.cons rpI (.cons ?_ .nil))
          exact (g2.mono (List.prefix_refl _) k).mono (List.prefix_refl _) (keep_new hT)
end
end Xt
set_option Elab.async false
set_option linter.all false
set_option maxRecDepth 100000
set_option maxHeartbeats 4000000
namespace Xt
open PySem PySem.Spec PyProof.Rows L2
/-! ### dicts of the memory: tests, pop, list, min, items -/
section
variable {X : Cx} {G : Gx} {E : XK} {e e1 e2 : Expr} {f g : Slots → Co Dv} {gs : Slots → Co (List Dv)} {pos p : Pos} {tg : Expr}
theorem rd_tru {t : TE} {h : Slots → Co Dv} (k : ∀ σ H Q, rdE G E h σ H Q → t σ H Q) {σ : L2.St} {H : Hp} {Q : Bool → Hp → Prop} (z : rdT G E (tst h) σ H Q) : t σ H fun x H' => ∃ b, x = V.bl b ∧ Q b H' := k σ H _ (rd_tst z)
theorem xin_ (hu : X.A.units + 1 < cLine) (hi : PE X e1 (rdE G E g)) (ho : PE X e2 (rdE G E f)) (h1 : behindInMarks .In e2 = false := by rfl) : PE X (.Compare e1 [.In] [e2] pos) (rdE G E (dinI false g f)) := pe_cmp (h1 := h1) (cdin hu hi ho)
theorem xnin (hu : X.A.units + 1 < cLine) (hi : PE X e1 (rdE G E g)) (ho : PE X e2 (rdE G E f)) (h1 : behindInMarks .NotIn e2 = false := by rfl) : PE X (.Compare e1 [.NotIn] [e2] pos) (rdE G E (dinI true g f)) := pe_cmp (h1 := h1) (cdnotin hu hi ho)
theorem xtin_ (hu : X.A.units + 1 < cLine) (hi : PE X e1 (rdE G E g)) (ho : PE X e2 (rdE G E f)) (h1 : behindInMarks .In e2 = false := by rfl) : PT X (.Compare e1 [.In] [e2] pos) (rdT G E (tst (dinI false g f))) := ptI (pt_cmp (h1 := h1) (cdin hu hi ho)) fun σ H Q h => rd_tst h
theorem xtnin (hu : X.A.units + 1 < cLine) (hi : PE X e1 (rdE G E g)) (ho : PE X e2 (rdE G E f)) (h1 : behindInMarks .NotIn e2 = false := by rfl) : PT X (.Compare e1 [.NotIn] [e2] pos) (rdT G E (tst (dinI true g f))) := ptI (pt_cmp (h1 := h1) (cdnotin hu hi ho)) fun σ H Q h => rd_tst h
end
/-- d.pop(k), k is there -/
def dvX (kvs : List (Int × Dv)) (k : Int) : List (Int × Dv) := match kvs with
  | [] => []
  | (j, d) :: r => (match decide (j = k) with
    | true => dvX r k
    | false => (j, d) :: dvX r k)
def dpopI (f g : Slots → Co Dv) : Slots → Co Dv := fun ρ => bnd (f ρ) fun d => bnd (dctOf d) fun i => bnd (g ρ) fun k => bnd (ofO (asI k)) fun n => atM i fun mo => match mo with
  | .dct kvs => bnd (ofO (dvV kvs n)) fun v => fun M => .ok v (M.set i (.dct (dvX kvs n)))
  | _ => fl
section
variable {G : Gx} {E : XK} {ι : List Addr} {H : Hp}
theorem RpI.drop (n : Int) : ∀ {kws : List (Key × V)} {kvs : List (Int × Dv)}, RpI G ι H kws kvs → RpI G ι H (dropK kws (.inl n)) (dvX kvs n)
  | _, _, .nil => .nil
  | _, _, @RpI.cons _ _ _ i v kws d kds h r => by
    unfold dvX
    by_cases e : i = n
    · subst e
      rw [dropK_pos (p := ((.inl i : Key), v)) rfl, decide_eq_true rfl]
      exact RpI.drop i r
    · rw [dropK_neg (p := ((.inl i : Key), v)) (fun z => e (by cases z; rfl)), decide_eq_false e]
      exact .cons h (RpI.drop n r)
end
section
variable {X : Cx} {G : Gx} {E : XK} {e e1 e2 : Expr} {f g : Slots → Co Dv} {gs : Slots → Co (List Dv)} {pos p : Pos} {tg : Expr}
theorem xdpop {apos cpos : Pos} (ho : PE X e1 (rdE G E f)) (ha : PE X e2 (rdE G E g)) (m : M1 X e1 "pop" apos e2 cpos := by exact ⟨rfl, rfl, rfl, rfl⟩) : PE X (.Call (.Attribute e1 "pop" apos) [e2] [] cpos) (rdE G E (dpopI f g)) :=
  peI (pe_dpop1 ho ha m) fun σ H Q h => by
    obtain ⟨ι, ρ, M, st, p⟩ := h
    refine ⟨ι, ρ, M, st, (Post.bnd p).mono fun d ι1 M1 H1 x1 p1 v rv => ?_⟩
    obtain ⟨i, xs, rfl, hm, p1⟩ := Post.dctOf p1
    cases rv with
    | @r a _ hi =>
      obtain ⟨vs, h1, h2⟩ := x1.mem.dctE hi hm
      refine ⟨a, rfl, .inl ⟨_, .inl h1⟩, ι1, ρ, M1, st.ext x1, (Post.bnd p1).mono fun k ι2 M2 H2 x2 p2 kv rk => ?_⟩
      obtain ⟨n, en, p3⟩ := Post.ofO p2
      obtain ⟨rfl, rfl⟩ := asI_rp rk en
      obtain ⟨mo, e, p4⟩ := Post.atM p3
      cases mo with
      | dct kvs =>
        have hi2 := pre_get x2.pre hi
        obtain ⟨kws, g1, g2⟩ := x2.mem.dctE hi2 e
        obtain ⟨w, e5, p5⟩ := Post.ofO p4
        have q := g2.valV n
        rw [e5] at q
        obtain ⟨u, q1, q2⟩ := q
        have x3 : Ext G ι2 H2 ι2 (M2.set i (.dct (dvX kvs n))) (upd H2 a (.dK (dropK kws (.inl n)))) := .store x2.mem hi2 g1 rfl ⟨_, upd_same, (g2.drop n).mono (List.prefix_refl _) (keep_store g1 rfl)⟩
        exact ⟨kws, .inl n, u, g1, rfl, q1, p5 _ _ x3 _ (q2.mono x3.pre x3.keep)⟩
      | _ => exact p4.elim
/-- list(..): a dict's keys too -/
def lstX : List Dv → Co Dv := fun ds => match ds with
  | [.r i] => atM i fun mo => match mo with
    | .dct kvs => rt (.g (.list (kvs.map fun kv => .int kv.1)))
    | _ => lstL [.r i]
  | ds => lstL ds
def rLstX (K : PySem.W.Frag) : List V → Hp → VK → Prop := fun xs H Q => rLst K xs H Q ∨ rListD xs H Q
theorem cr_lstX (hc : X.calm = true) : CallR X (.type "list") (rLstX X.K) := fun pins s σ H xs us Q I r h => h.elim (cr_lst pins s σ H xs us Q I r) (call_list_dK hc pins s σ H xs us Q I r)
theorem RpI.keys {ι : List Addr} {H : Hp} : ∀ {kws : List (Key × V)} {kvs : List (Int × Dv)}, RpI G ι H kws kvs → RpVs G.K H (kws.map fun kv => kV kv.1) (kvs.map fun kv => PyData.int kv.1)
  | _, _, .nil => .nil
  | _, _, .cons (i := i) _ r => .cons (.int i) (RpI.keys r)
theorem cs_lstX : CaSF G E (rLstX G.K) lstX := fun ι M H xs ds Q m rr p => by
  have gen : ∀ {ds}, RpDs G ι H xs ds → Post G E ι H (QE G Q) (lstL ds M) → rLstX G.K xs H (VF Q) := fun {ds} rr p => .inl (cs_lst (E := E) ι M H xs ds Q m rr p)
  cases rr with
  | nil => exact gen .nil p
  | @cons v vs d ds r1 rr =>
    cases rr with
    | cons r2 rr =>
      cases r1 with
      | r hi => exact gen (.cons (.r hi) (.cons r2 rr)) p
      | g h => exact gen (.cons (.g h) (.cons r2 rr)) p
      | t h1 h2 => exact gen (.cons (.t h1 h2) (.cons r2 rr)) p
    | nil =>
      cases r1 with
      | g h => exact gen (.cons (.g h) .nil) p
      | t h1 h2 => exact gen (.cons (.t h1 h2) .nil) p
      | @r a i hi =>
        obtain ⟨mo, e, p2⟩ := Post.atM p
        cases mo with
        | dct kvs =>
          obtain ⟨kws, h1, h2⟩ := m.dctE hi e
          exact .inr ⟨a, kws, rfl, h1, fun q hq => lockL m hq h2.keys p2⟩
        | lst _ => exact gen (.cons (.r hi) .nil) p2
        | ins _ _ => exact gen (.cons (.r hi) .nil) p2
        | dead => exact gen (.cons (.r hi) .nil) p2
/-- min(d) -/
def mnD : List Dv → Co Dv := fun ds => match ds with
  | [.r i] => atM i fun mo => match mo with
    | .dct ((k, _) :: r) => rt (dI (minI k (r.map (·.1))))
    | _ => fl
  | _ => fl
theorem RpI.keysI {ι : List Addr} {H : Hp} : ∀ {kws : List (Key × V)} {kvs : List (Int × Dv)}, RpI G ι H kws kvs → kws.map (·.1) = (kvs.map (·.1)).map Sum.inl
  | _, _, .nil => rfl
  | _, _, .cons (i := i) _ r => by rw [List.map_cons, List.map_cons, List.map_cons, RpI.keysI r]
theorem cs_mnD : CaS G E rMinK mnD := fun ι M H xs ds Q m rr p => by
  cases rr with
  | nil => exact p.elim
  | cons r1 rr =>
    cases rr with
    | cons _ _ =>
      cases r1 <;> exact p.elim
    | nil =>
      cases r1 with
      | @r a i hi =>
        obtain ⟨mo, e, p2⟩ := Post.atM p
        cases mo with
        | dct kvs =>
          obtain ⟨kws, h1, h2⟩ := m.dctE hi e
          cases kvs with
          | nil => exact p2.elim
          | cons q r =>
            obtain ⟨k, d⟩ := q
            refine ⟨a, kws, _, rfl, h1, h2.keysI, by simp, fun n hn hl => ?_⟩
            obtain ⟨z1, z2⟩ := minI_ok (r.map (·.1)) k
            have en : n = minI k (r.map (·.1)) := Int.le_antisymm (hl _ z1) (z2 n hn)
            subst en
            exact Post.rt m p2 _ rpI
        | _ => exact p2.elim
      | g h => exact p.elim
      | t h1 h2 => exact p.elim
/-- the pairs of a dict of the memory, which is locked and given up for it -/
def dItm : List (Int × Dv) → List Dv
  | [] => []
  | (k, d) :: r => mkT [dI k, d] :: dItm r
theorem dItm_len : ∀ kvs : List (Int × Dv), (dItm kvs).length = kvs.length
  | [] => rfl
  | (_, _) :: r => by rw [dItm, List.length_cons, List.length_cons, dItm_len r]
def srcM (f : Slots → Co Dv) : Slots → Co (List Dv) := fun ρ => bnd (f ρ) fun d => bnd (dctOf d) fun i => atM i fun mo => match mo with
  | .dct kvs => fun M => .ok (dItm kvs) (M.set i .dead)
  | _ => fl
theorem dItm_get {ι : List Addr} {H : Hp} : ∀ {kws : List (Key × V)} {kvs : List (Int × Dv)} {i : Nat}, RpI G ι H kws kvs → i < kvs.length → ∃ k d j v, (dItm kvs)[i]? = some (mkT [dI k, d]) ∧ kws[i]? = some (j, v) ∧ j = .inl k ∧ RpD G ι H v d
  | _, _, _, .nil, h => absurd h (Nat.not_lt_zero _)
  | _, _, 0, .cons h _, _ => ⟨_, _, _, _, rfl, rfl, rfl, h⟩
  | _, _, i + 1, .cons _ r, h => by
    obtain ⟨k, x, j, v, h1, h2, h3⟩ := dItm_get (i := i) r (Nat.lt_of_succ_lt_succ h)
    exact ⟨k, x, j, v, h1, h2, h3⟩
theorem xidM {apos cpos tpos : Pos} {elts : List Expr} {kk : Nat} (he : PE X e (rdE G E f)) (hb : attributeBase e (Str.ofString "items") X.env (eval e X.env) = eval e X.env := by rfl) (hl : (apos.endLine == cpos.line) = true := by rfl) :
    PI X (.Tuple elts kk tpos) (.Call (.Attribute e "items" apos) [] [] cpos) (rdI G E (srcM f)) :=
  piI (pi_items (pe_frz he) hb hl) fun σ H R h => by
    obtain ⟨ι, ρ, M, st, p⟩ := h
    refine ⟨ι, ρ, M, st, (Post.bnd p).mono fun d ι1 M1 H1 x1 p1 v rv => ?_⟩
    obtain ⟨i, xs, rfl, hm, p1⟩ := Post.dctOf p1
    cases rv with
    | @r a _ hi =>
      obtain ⟨mo, e2, p2⟩ := Post.atM p1
      rw [hm] at e2
      cases e2
      obtain ⟨kws, h1, h2⟩ := x1.mem.dctE hi hm
      refine .inr ⟨a, _, rfl, h1, trivial, fun od => ?_⟩
      have x2 : Ext G ι1 H1 ι1 (M1.set i .dead) (upd H1 a (.frz od (.dK kws))) := .store x1.mem hi h1 rfl ⟨_, upd_same, rfl⟩
      have r2 := h2.mono x2.pre x2.keep
      refine ⟨a, od, kws, rfl, upd_same, p2 _ _ x2 _ ⟨fun i H2 k hi => ⟨k.frz _ _ _ upd_same, ?_⟩, fun H2 k => ⟨k.frz _ _ _ upd_same, ?_⟩, fun i H2 x H3 k hi y => ?_⟩⟩
      · rw [dItm_len] at hi
        rw [r2.length]
        exact hi
      · rw [dItm_len, r2.length]
        exact Nat.le_refl _
      · obtain ⟨T, kk, w, e1, rfl, hT, rfl⟩ := y
        rw [dItm_len] at hi
        obtain ⟨k2, z, j, v2, g1, g2, g3, g4⟩ := dItm_get r2 hi
        rw [g2] at e1
        cases e1
        refine ⟨_, g1, mkT_rp upd_same (.cons ?_ (.cons ?_ .nil)), .inr ⟨T, _, hT, rfl⟩⟩
        · rw [g3]
          exact rpI
        · exact (g4.mono (List.prefix_refl _) k).mono (List.prefix_refl _) (keep_new hT)
end
/-! ### a heap without the dict that is being made -/
section
variable {G : Gx} {E : XK} {ι : List Addr} {H H' : Hp} {M : Mem} {D : Addr} {vs : List (Key × V)}
theorem keep_dnD (hD : H D = some (.dK vs)) : Keep H (hid H D) :=
  ⟨fun a o u h => by rw [hid_ne (fun e => by rw [e, hD] at h; cases h)]; exact h, fun a xs h => by rw [hid_ne (fun e => by rw [e, hD] at h; cases h)]; exact h⟩
theorem MemR.dnD (hD : H D = some (.dK vs)) (hn : D ∉ ι) (m : MemR G ι H M) : MemR G ι (hid H D) M :=
  ⟨m.len, m.nd, fun i a mo h1 h2 => by
    have ne : a ≠ D := fun e => hn (by rw [← e]; exact List.mem_of_getElem? h1)
    exact (m.ob i a mo h1 h2).mono (List.prefix_refl _) (keep_dnD hD) (hid_ne ne), fun P hP => (m.tab P hP).to (fun ps h => by rw [hid_ne (fun e => by rw [e, hD] at h; cases h)]; exact h) fun c f h => by rw [hid_ne (fun e => by rw [e, hD] at h; cases h)]; exact h⟩
theorem Ext.hidD {ι' : List Addr} {M' : Mem} (hD : H D = some (.dK vs)) (hn : D ∉ ι) (x : Ext G ι H ι' M' H') : Ext G ι (Xt.hid H D) ι' M' (Xt.hid H' D) ∧ H' D = some (.dK vs) ∧ D ∉ ι' := by
  have hn' : D ∉ ι' := fun z => by
    have e := x.fresh D z hn
    rw [hD] at e
    cases e
  have hD' : H' D = some (.dK vs) := x.frame D _ hD rfl hn
  refine ⟨⟨x.pre, x.mem.dnD hD' hn', (keep_up.trans x.keep).trans (keep_dnD hD'), fun b o h1 h2 h3 => ?_, fun b ps h => ?_, fun a h n => ?_⟩, hD', hn'⟩
  · obtain ⟨ne, h⟩ := hid_some h1
    rw [hid_ne ne]
    exact x.frame b o h h2 h3
  · obtain ⟨ne, h⟩ := hid_some h
    rw [hid_ne ne]
    exact x.tbl b ps h
  · by_cases e : a = D
    · rw [e]
      exact hid_at
    · rw [hid_ne e]
      exact x.fresh a h n
theorem Post.hidD {α : Type} {E' : XK} {c : Co α} {Q : α → List Addr → Mem → Hp → Prop} (hD : H D = some (.dK vs)) (hn : D ∉ ι) (p : Post G E ι (Xt.hid H D) Q (nox c M)) :
    Post G E' ι H (fun a ι' M' H' => Q a ι' M' (Xt.hid H' D) ∧ H' D = some (.dK vs) ∧ D ∉ ι') (c M) := by
  unfold nox at p
  cases e : c M with
  | fail =>
    rw [e] at p
    exact p.elim
  | ex _ _ =>
    rw [e] at p
    exact p.elim
  | ok a M' =>
    rw [e] at p
    intro ι' H' x
    obtain ⟨y, h1, h2⟩ := x.hidD hD hn
    exact ⟨p ι' _ y, h1, h2⟩
/-- the entries of a dict comprehension -/
def dcL (tf : Dv → Slots → Co Slots) (tt : Slots → Co Bool) (tk tv : Slots → Co Dv) (ρ : Slots) : List Dv → List (Int × Dv) → Co (List (Int × Dv))
  | [], acc => rt acc
  | d :: r, acc => bnd (nox (tf d ρ)) fun ρ1 => bnd (nox (tt ρ1)) fun q => match q with
    | true => bnd (nox (tk ρ1)) fun k => bnd (nox (tv ρ1)) fun v => bnd (ofO (asI k)) fun i => dcL tf tt tk tv ρ r (dvP acc i v)
    | false => dcL tf tt tk tv ρ r acc
def dcX (own : List Nat) (src : Slots → Co (List Dv)) (tf : Dv → Slots → Co Slots) (tt : Slots → Co Bool) (tk tv : Slots → Co Dv) : Slots → Co Dv := fun ρ => bnd (src ρ) fun ds => chk (szOk ds.length) (bnd (dcL tf tt tk tv (wip ρ own) ds []) newD)
theorem dvR_len (k : Int) (v : Dv) : ∀ kvs : List (Int × Dv), (dvR kvs k v).length = kvs.length
  | [] => rfl
  | (j, d) :: r => by
    unfold dvR
    split
    · rw [List.length_cons, List.length_cons, dvR_len k v r]
    · rw [List.length_cons, List.length_cons, dvR_len k v r]
theorem dvP_len (kvs : List (Int × Dv)) (k : Int) (v : Dv) : (dvP kvs k v).length ≤ kvs.length + 1 := by
  unfold dvP
  split
  · rw [dvR_len]
    omega
  · simp
theorem rd_dc {src : Slots → Co (List Dv)} {tf : Dv → Slots → Co Slots} {tt : Slots → Co Bool} {tk tv : Slots → Co Dv} {g : TG} {t : TT} {own : List Nat} (hg : TgS G E0 own g tf) (ht : PtS G E0 t tt) {σ : L2.St} {H : Hp} {Q : VK} (h : rdE G E (dcX own src tf tt tk tv) σ H Q) :
    tDc (rdI G E src) g t (rdE G E0 tk) (rdE G E0 tv) own σ H Q := by
  obtain ⟨ι, ρ, M, st, p⟩ := h
  refine ⟨ι, ρ, M, st, (Post.bnd p).mono fun ds ι1 M1 H1 x1 p1 J wk D hD => ?_⟩
  obtain ⟨sz, p2⟩ := Post.chk p1
  have hn : D ∉ ι1 := fun z => by
    obtain ⟨o, ho⟩ := x1.mem.at z
    rw [hD] at ho
    cases ho
  have h0 : hid (upd H1 D (.dK [])) D = H1 := by
    funext b
    by_cases e : b = D
    · rw [e, hid_at, hD]
    · rw [hid_ne e, upd_ne e]
  refine ⟨fun i m Hc => i + m = ds.length ∧ Keep H1 Hc ∧ ∃ ι2 M2 xs vs, ι1 <+: ι2 ∧ D ∉ ι2 ∧ Hc D = some (.dK vs) ∧ RpI G ι2 Hc vs xs ∧ xs.length ≤ i ∧ StR G (hid Hc D) σ ι2 ρ M2 ∧
    Post G E ι2 (hid Hc D) (QE G Q) (bnd (dcL tf tt tk tv (wip ρ own) (ds.drop i) xs) newD M2), ⟨ds.length, Nat.zero_add _, keep_new hD, ι1, M1, [], [], List.prefix_refl _, hn, upd_same, .nil, Nat.le_refl _, by rw [h0]; exact st.ext x1, by rw [h0]; exact p2⟩, ?_⟩
  rintro i m Hc ⟨him, kc, ι2, M2, xs, vs, pr2, hn2, hDc, rxs, hlen, st2, p3⟩
  by_cases hlt : i < ds.length
  · right
    obtain ⟨m', rfl⟩ : ∃ m', m = m' + 1 := ⟨m - 1, by omega⟩
    refine ⟨wk.go i Hc kc hlt, _, fun Hn z => ⟨m', Nat.lt_succ_self _, z⟩, fun x H3 y => ?_⟩
    obtain ⟨d, e1, rd, new⟩ := wk.yld i Hc x H3 kc hlt y
    have e2 : ds.drop i = d :: ds.drop (i + 1) := by
      rw [List.drop_eq_getElem_cons hlt]
      rw [List.getElem?_eq_getElem hlt] at e1
      cases e1
      rfl
    have hD3 : H3 D = some (.dK vs) := by
      rcases new with rfl | ⟨T, ws, hT, rfl⟩
      · exact hDc
      · rw [upd_ne (ne_of_none hDc hT)]
        exact hDc
    have x3 : Ext G ι2 (hid Hc D) ι2 M2 (hid H3 D) := by
      rcases new with rfl | ⟨T, ws, hT, rfl⟩
      · exact .refl st2.mem
      · have e : hid (upd Hc T (.tup ws)) D = upd (hid Hc D) T (.tup ws) := by
          funext b
          by_cases e : b = D
          · rw [e, hid_at, upd_ne (ne_of_none hDc hT), hid_at]
          · by_cases e2 : b = T
            · rw [e2, hid_ne (fun z => e (e2.trans z)), upd_same, upd_same]
            · rw [hid_ne e, upd_ne e2, upd_ne e2, hid_ne e]
        rw [e]
        refine .new st2.mem ?_
        by_cases e2 : T = D
        · rw [e2]
          exact hid_at
        · rw [hid_ne e2]
          exact hT
    have k3 : Keep Hc H3 := by
      rcases new with rfl | ⟨T, ws, hT, rfl⟩
      · exact .refl _
      · exact keep_new hT
    have p4 := p3.shift x3
    rw [e2, dcL, bnd_assoc] at p4
    have st3 := (wip_st (st2.ext x3) own).up
    refine hg ι2 _ M2 _ H3 x d _ st3 (rd.mono pr2 (.refl _)) ((Post.hidD hD3 hn2 (Post.bnd p4)).mono fun ρ1 ι4 M4 H4 x4 ⟨p5, hD4, hn4⟩ σ4 st4 hw => ⟨hw.trans (wipe_wipe σ own), ?_⟩)
    rw [bnd_assoc] at p5
    refine ht ι4 ρ1 M4 σ4 H4 _ st4 ((Post.hidD hD4 hn4 (Post.bnd p5)).mono fun q ι5 M5 H5 x5 ⟨p6, hD5, hn5⟩ => ?_)
    have y4 := (x4.hidD hD3 hn2).1
    have y5 := (x5.hidD hD4 hn4).1
    have st5 : StR G (hid H5 D) σ ι5 ρ M5 := ((st2.ext x3).ext y4).ext y5
    have k5 : Keep H1 H5 := (((kc.trans k3).trans x4.keep).trans x5.keep)
    have pr5 : ι1 <+: ι5 := (pr2.trans x4.pre).trans x5.pre
    have r5 : RpI G ι5 H5 vs xs := ((rxs.mono (List.prefix_refl _) k3).mono x4.pre x4.keep).mono x5.pre x5.keep
    cases q with
    | false =>
      refine iteF ⟨by omega, k5, ι5, M5, xs, vs, pr5, hn5, hD5, r5, by omega, st5, p6⟩
    | true =>
      refine iteT ?_
      rw [bnd_assoc] at p6
      refine ⟨ι5, ρ1, M5, (st4.ext x5), (Post.hidD hD5 hn5 (Post.bnd p6)).mono fun d6 ι6 M6 H6 x6 ⟨p7, hD6, hn6⟩ v6 rv6 => ?_⟩
      rw [bnd_assoc] at p7
      refine ⟨ι6, ρ1, M6, (st4.ext x5).ext x6, (Post.hidD hD6 hn6 (Post.bnd p7)).mono fun d7 ι7 M7 H7 x7 ⟨p8, hD7, hn7⟩ v7 rv7 => ?_⟩
      rw [bnd_assoc] at p8
      obtain ⟨n, en, p9⟩ := Post.ofO p8
      obtain ⟨rfl, rfl⟩ := asI_rp rv6 en
      have r7 : RpI G ι7 H7 vs xs := (r5.mono x6.pre x6.keep).mono x7.pre x7.keep
      have y6 := (x6.hidD hD5 hn5).1
      have y7 := (x7.hidD hD6 hn6).1
      have h7 : ∀ u, hid (upd H7 D u) D = hid H7 D := fun u => by
        funext b
        by_cases e : b = D
        · rw [e, hid_at, hid_at]
        · rw [hid_ne e, hid_ne e, upd_ne e]
      have ks : Keep H7 (upd H7 D (.dK (putK vs (.inl n) v7))) := keep_store hD7 rfl
      refine ⟨vs, .inl n, rfl, hD7, ?_, by omega, ((k5.trans x6.keep).trans x7.keep).trans ks, ι7, M7, dvP xs n d7, _, (pr5.trans x6.pre).trans x7.pre, hn7, upd_same, (r7.put (k := n) rv7).mono (List.prefix_refl _) ks, ?_, ?_, ?_⟩
      · have h9 := szOk_le sz
        rw [rxs.length]
        omega
      · have := dvP_len xs n d7
        omega
      · rw [h7]
        exact (st5.ext y6).ext y7
      · rw [h7]
        exact p9
  · left
    have hi : i = ds.length := by omega
    subst hi
    rw [List.drop_length, dcL, bnd_rt] at p3
    refine ⟨wk.stop Hc kc, ?_⟩
    have e : Hc = upd (hid Hc D) D (.dK vs) := by
      funext b
      by_cases e : b = D
      · rw [e, upd_same, hDc]
      · rw [upd_ne e, hid_ne e]
    have x9 : Ext G ι2 (hid Hc D) (ι2 ++ [D]) (M2 ++ [.dct xs]) (upd (hid Hc D) D (.dK vs)) := .alloc st2.mem hid_at ⟨vs, upd_same, (rxs.mono (List.prefix_refl _) (keep_dnD hDc)).mono (List.prefix_append _ _) (keep_new hid_at)⟩
    have z := p3 _ _ x9 (.ref D) (.r (by rw [← st2.mem.len]; exact get_last _ _))
    rw [← e] at z
    exact z
end
section
variable {X : Cx} {G : Gx} {E : XK} {pos : Pos} {tg : Expr}
theorem xdc {kx vx iter : Expr} {ifs : List Expr} {scope : Scope} {own : List (Str × Nat)} {src : Slots → Co (List Dv)} {tf : Dv → Slots → Co Slots} {tt : Slots → Co Bool} {tk tv : Slots → Co Dv} {g : TG} {t : TT} (hc : X.calm = true) (hN : X.N.Nodup) (hi : PI X tg iter (rdI G E src)) (ok : BlkOk X.N X.env.scope scope own)
    (tg_ : TgS G E0 (own.map (·.2)) g tf) (pt_ : PtS G E0 t tt) (hg : ∀ (s : Shared) (H : Hp) (C : Addr) (cl : List (Str × Addr)) (fp : List Addr), PG (X.blk s H scope (compEnvC scope cl C X.env) fp) tg g) (ht : ∀ (s : Shared) (H : Hp) (C : Addr) (cl : List (Str × Addr)) (fp : List Addr), PTs (X.blk s H scope (compEnvC scope cl C X.env) fp) ifs t)
    (hk : ∀ (s : Shared) (H : Hp) (C : Addr) (cl : List (Str × Addr)) (fp : List Addr), PE (X.blk s H scope (compEnvC scope cl C X.env) fp) kx (rdE G E0 tk)) (hv : ∀ (s : Shared) (H : Hp) (C : Addr) (cl : List (Str × Addr)) (fp : List Addr), PE (X.blk s H scope (compEnvC scope cl C X.env) fp) vx (rdE G E0 tv)) (hs : ∀ x, foldedSetIterable iter X.env x = pure x := by intro _; rfl) :
    PE X (.DictComp kx vx [⟨tg, iter, ifs, 0⟩] scope pos) (rdE G E (dcX (own.map (·.2)) src tf tt tk tv)) :=
  peI (pe_dc hc hN hi ok hg ht hk hv hs) fun _ _ _ h => rd_dc tg_ pt_ h
end
end Xt
set_option Elab.async false
set_option linter.all false
set_option maxRecDepth 100000
set_option maxHeartbeats 4000000
namespace Xt
open PySem PySem.Spec PyProof.Rows L2
/-! ### defs that make objects: two levels a call -/
theorem dokC_mk {P : Program} {w : World} {base : Heap} {G : Gx} {x nm qual : Str} {params : Arguments} {body : List Stmt} {scope : Scope} {fa : Addr} {N ps : List Str} {Fn : Nat → List Dv → Co Dv} {b : Nat → Slots → Co Fl} (h0 : Fn 0 = fun _ => fl) (h1 : Fn 1 = fun _ => fl) (hs : ∀ n, Fn (n + 2) = defF N.length ps.length (b n))
    (F : ∃ fd, FunD G.K nm qual params body scope [] [] fa fd) (hm : G.mg x = some (.ref fa)) (S : FnScope N ps scope)
    (hbd : ∀ (kV doc pm : Value) (an : Option Addr) (cdv ct : Value) (us : List Value), us.length = ps.length → bindArgs (PySem.W.fnOf nm qual params body scope .none kV doc pm an cdv ct) ⟨us, []⟩ = pure (ps.zip us))
    (hb : ∀ n, Dok P w base CX0 G x ps n (Fn n) → ∀ (cdv : Value) (A : Around) (outer : List Env) (s : Shared) (H : Hp) (E : XK), Room (n + 1) (A.deeper (envOfC qual scope s.heap.objs.size fa cdv)) → PSs (cxOf CX0 P w G.K G.mg base N qual scope fa cdv A outer s H E).nox body (rdS G E (b n))) :
    ∀ n, Dok P w base CX0 G x ps n (Fn n) := by
  obtain ⟨fd, F⟩ := F
  have both : ∀ n, Dok P w base CX0 G x ps n (Fn n) ∧ Dok P w base CX0 G x ps (n + 1) (Fn (n + 1)) := by
    intro n
    induction n with
    | zero => exact ⟨⟨_, fd, hm, F.kp, F.bindsN hbd, by rw [h0]; exact fn_zero⟩, ⟨_, fd, hm, F.kp, F.bindsN hbd, by rw [h1]; exact fn_zero⟩⟩
    | succ n ih0 =>
      refine ⟨ih0.2, fa, fd, hm, F.kp, F.bindsN hbd, ?_⟩
      show FnOk P w G.K G.mg base CX0 (n + 2) _ fd ps (spF G (Fn (n + 2)))
      rw [hs]
      exact xdef F S fun cdv A outer s H E hr => (hb n ih0.1 cdv A outer s H E hr).nox
  exact fun n => (both n).1
theorem dokMC_mk {P : Program} {w : World} {base : Heap} {G : Gx} {c m nm qual : Str} {params : Arguments} {body : List Stmt} {scope : Scope} {C fa : Addr} {N ps : List Str} {Fn : Nat → List Dv → Co Dv} {b : Nat → Slots → Co Fl} (h0 : Fn 0 = fun _ => fl) (h1 : Fn 1 = fun _ => fl) (hs : ∀ n, Fn (n + 2) = defF N.length ps.length (b n))
    (F : ∃ fd, FunD G.K nm qual params body scope [] [] fa fd) (hc : G.mg c = some (.ref C)) (cl : Cls G.K C) (me : Meth G.K C m fa) (S : FnScope N ps scope)
    (hbd : ∀ (kV doc pm : Value) (an : Option Addr) (cdv ct : Value) (us : List Value), us.length = ps.length → bindArgs (PySem.W.fnOf nm qual params body scope .none kV doc pm an cdv ct) ⟨us, []⟩ = pure (ps.zip us))
    (hb : ∀ n, ∀ (cdv : Value) (A : Around) (outer : List Env) (s : Shared) (H : Hp) (E : XK), Room (n + 1) (A.deeper (envOfC qual scope s.heap.objs.size fa cdv)) → PSs (cxOf CX0 P w G.K G.mg base N qual scope fa cdv A outer s H E).nox body (rdS G E (b n))) :
    ∀ n, DokM P w base CX0 G c m ps n (Fn n) := by
  obtain ⟨fd, F⟩ := F
  intro n
  match n with
  | 0 => exact ⟨C, fa, fd, hc, cl, me, F.bindsN hbd, by rw [h0]; exact fn_zero⟩
  | 1 => exact ⟨C, fa, fd, hc, cl, me, F.bindsN hbd, by rw [h1]; exact fn_zero⟩
  | n + 2 =>
    refine ⟨C, fa, fd, hc, cl, me, F.bindsN hbd, ?_⟩
    rw [hs]
    exact xdef F S fun cdv A outer s H E hr => (hb n cdv A outer s H E hr).nox
/-- the body of a class -/
def clsBody : Stmt → List Stmt
  | .ClassDef _ _ _ b _ _ _ _ _ _ _ => b
  | _ => []
/-! ### name = {k: v for ..} -/
section
variable {X : Cx} {tg : Expr}
theorem ps_setDc {i : Nat} {y : Str} {py : Pos} {kx vx iter : Expr} {ifs : List Expr} {scope : Scope} {own : List (Str × Nat)} {pos spos : Pos} {wi : TI} {g : TG} {tt : TT} {tk tv : TE} (hc : X.calm = true) (hN : X.N.Nodup) (hy : X.N[i]? = some y) (hyl : X.env.scope.names.lookup y = some .local)
    (hsw : swapsWith (.DictComp kx vx [⟨tg, iter, ifs, 0⟩] scope pos) (some (.Name y py)) spos.line X.env = pure true) (hi : PI X tg iter wi) (ok : BlkOk X.N X.env.scope scope own)
    (hg : ∀ (s : Shared) (H : Hp) (C : Addr) (cl : List (Str × Addr)) (fp : List Addr), PG (X.blk s H scope (compEnvC scope cl C X.env) fp) tg g) (ht : ∀ (s : Shared) (H : Hp) (C : Addr) (cl : List (Str × Addr)) (fp : List Addr), PTs (X.blk s H scope (compEnvC scope cl C X.env) fp) ifs tt)
    (hk : ∀ (s : Shared) (H : Hp) (C : Addr) (cl : List (Str × Addr)) (fp : List Addr), PE (X.blk s H scope (compEnvC scope cl C X.env) fp) kx tk) (hv : ∀ (s : Shared) (H : Hp) (C : Addr) (cl : List (Str × Addr)) (fp : List Addr), PE (X.blk s H scope (compEnvC scope cl C X.env) fp) vx tv) (hs : ∀ x, foldedSetIterable iter X.env x = pure x := by intro _; rfl) :
    PS X (.Assign [.Name y py] (.DictComp kx vx [⟨tg, iter, ifs, 0⟩] scope pos) spos) (tAsg (tDc wi g tt tk tv (own.map (·.2))) (gName i)) := ⟨fun pins s σ H D I h => by
  rw [exec_Assign_Name_used y py _ spos hsw]
  refine wpAny_bind (wpAny_standAt (wpAny_bind ?_))
  unfold evalThenUse
  refine wpAny_bind (thn (dc_core hc hN I hi ok hg ht hk hv hs h fun L C s' m H' I' q hn f => ?_) fun x s' hq => wpAny_pure (wpAny_pure hq))
  show wpAny _ _ (assign (Expr.Name y py) X.env (Value.ref L)) _ _ _
  refine wpAny_assign_Name (store_ok2 (v := .ref L) I' hN hy (.inl hyl) rfl (fun s2 I2 ⟨a, sb, ha⟩ => ?_) (.inr hyl))
  obtain ⟨f0, f1, f2, f3, f4, f5⟩ := f
  have haC : C ≠ a := by
    rcases ha with z | z
    · rw [z]
      exact f1
    · exact fun e => f4 y a z e.symm
  exact ⟨m, hn.sameBut sb haC, fun h3 sb3 => ⟨_, H', I2.turned (fun b o hb e => (sb3.2 b hb).trans e) f0 f1 f3 f4 f5, q⟩⟩⟩
theorem sw_trueD {kx vx : Expr} {gs : List Comprehension} {scope : Scope} {pos py : Pos} {y : Str} {l : Nat} {env : PySem.Env} (hk : env.scope.kind = .function) (hy : env.scope.names.lookup y = some .local) (hl : (py.line == pos.line) = true)
    (ha : (scope.names.any fun x => match x with | (n, k) => n == y && (k == NameKind.local || k == NameKind.cell)) = false) : swapsWith (.DictComp kx vx gs scope pos) (some (.Name y py)) l env = pure true :=
  (sw_true (elt := kx) (gs := gs) (scope := scope) (pos := pos) (py := py) (y := y) (l := l) (env := env) hk hy hl ha : swapsWith (.ListComp kx gs scope pos) (some (.Name y py)) l env = pure true)
theorem xsetdc {G : Gx} {E : XK} {i : Nat} {y : Str} {py : Pos} {kx vx iter : Expr} {ifs : List Expr} {scope : Scope} {spos : Pos} {own : List (Str × Nat)} {src : Slots → Co (List Dv)} {tf : Dv → Slots → Co Slots} {tt : Slots → Co Bool} {tk tv : Slots → Co Dv} {g : TG} {t : TT} (hc : X.calm = true) (hN : X.N.Nodup) (hy : X.N[i]? = some y) (hyl : X.env.scope.names.lookup y = some .local)
    (hsw : swapsWith (.DictComp kx vx [⟨tg, iter, ifs, 0⟩] scope pos) (some (.Name y py)) spos.line X.env = pure true) (hi : PI X tg iter (rdI G E src)) (ok : BlkOk X.N X.env.scope scope own)
    (tg_ : TgS G E0 (own.map (·.2)) g tf) (pt_ : PtS G E0 t tt) (hg : ∀ (s : Shared) (H : Hp) (C : Addr) (cl : List (Str × Addr)) (fp : List Addr), PG (X.blk s H scope (compEnvC scope cl C X.env) fp) tg g) (ht : ∀ (s : Shared) (H : Hp) (C : Addr) (cl : List (Str × Addr)) (fp : List Addr), PTs (X.blk s H scope (compEnvC scope cl C X.env) fp) ifs t)
    (hk : ∀ (s : Shared) (H : Hp) (C : Addr) (cl : List (Str × Addr)) (fp : List Addr), PE (X.blk s H scope (compEnvC scope cl C X.env) fp) kx (rdE G E0 tk)) (hv : ∀ (s : Shared) (H : Hp) (C : Addr) (cl : List (Str × Addr)) (fp : List Addr), PE (X.blk s H scope (compEnvC scope cl C X.env) fp) vx (rdE G E0 tv)) (hs : ∀ x, foldedSetIterable iter X.env x = pure x := by intro _; rfl) :
    PS X (.Assign [.Name y py] (.DictComp kx vx [⟨tg, iter, ifs, 0⟩] scope pos) spos) (rdS G E (asg (dcX (own.map (·.2)) src tf tt tk tv) (tN i))) :=
  psI (ps_setDc hc hN hy hyl hsw hi ok hg ht hk hv hs) fun D σ H z => by
    refine rd_dc tg_ pt_ ?_
    obtain ⟨ι, ρ, M, st, p⟩ := z
    refine ⟨ι, ρ, M, st, (Post.bnd p).mono fun d ι1 M1 H1 x1 p1 v rv => ?_⟩
    exact Post.rt x1.mem (Post.rt x1.mem (Post.bnd p1)) _ ((st.ext x1).set i rv)
end
end Xt
set_option Elab.async false
set_option linter.all false
set_option maxRecDepth 100000
set_option maxHeartbeats 4000000
/-! ### sorted(a tuple of ints) -/
namespace SrtO
open PySem PySem.W PySem.Spec PyProof.Rows Srt
variable {prog : Program} {w : World} {A : Around} {E : Value → Shared → Prop} {s : Shared}
/-- the heap behind the items of a tuple are taken into a list -/
abbrev clH (h : Heap) (xs : Array Value) : Heap := (h.push { cls := .type "list", data := .seq ([] : List Value).toArray }).update h.objs.size (Obj.mapSeq (· ++ xs))
theorem collect_tupH {Q : List Value → Shared → Prop} {t : Addr} {o : Obj} {xs : Array Value} {n : Nat} (ho : s.heap.get? t = some o) (hc : o.cls = .type "tuple") (hd : o.data = .seq xs n) (hz : xs.size ≤ sizeLine) (q : Q xs.toList { s with heap := clH s.heap xs }) :
    wpAny (model prog w) A (collect (.ref t)) Q E s := by
  have g0 := Heap.get?_push_size s.heap (o := { cls := .type "list", data := .seq ([] : List Value).toArray }) rfl
  have g1 := Heap.get?_update_self (Obj.mapSeq (· ++ xs)) g0 rfl
  have tail : wpAny (model prog w) A (match Value.ref s.heap.objs.size with
      | Value.ref a => do
        match (← load a).data with
          | Data.seq ys _ => pure ys.toList
          | _ => unsupported "internal:collect"
      | _ => unsupported "internal:collect") Q E { s with heap := clH s.heap xs } := by
    show wpAny _ A (load s.heap.objs.size >>= _) _ _ _
    refine wpAny_bind (wpAny_load g1 (wpAny_pure ?_))
    have e : ((#[] : Array Value) ++ xs).toList = xs.toList := by simp
    exact e ▸ q
  have both : ∀ {r : Except Value Flow} {s' : Shared}, (r = .ok (.ret (.ref s.heap.objs.size)) ∧ s' = { s with heap := clH s.heap xs }) → s' = { s with heap := clH s.heap xs } := fun h => h.2
  unfold collect
  refine wpAny_bind (wpAny_runValue (codeAny_builtin PySem.F.entry_proto_collect ?_))
  rw [Around.under_plainId PySem.F.plain_proto_collect _]
  show wpAny _ _ (newList [] >>= fun c => again (.builtin "list.__iadd__" ⟨[c, .ref t], []⟩)) _ _ s
  refine wpAny_bind (wpAny_newObj_type (wpAny_pure ⟨plainId_quiet PySem.F.plain_list_iadd _, codeAny_builtin PySem.F.entry_list_iadd ?_⟩))
  rw [Around.under_plainId PySem.F.plain_list_iadd _]
  show wpAny _ _ (Builtin.List.listExtendWith (.ref s.heap.objs.size) (.ref t) _) _ _ _
  refine wpAny_mono (wpAny_extend_seq (hsz := hz) (A := A) (R := fun r s' => r = .ok (.ret (.ref s.heap.objs.size)) ∧ s' = { s with heap := clH s.heap xs }) (s := { s with heap := s.heap.push { cls := .type "list", data := .seq ([] : List Value).toArray } }) _ t _ 0 (.inr rfl) g0 (Heap.get?_push_of_some _ ho) hc hd ⟨rfl, rfl⟩) (fun f s' h => ?_) (fun e s' h => nomatch h.1)
  cases f with
  | done f =>
    obtain ⟨e, rfl⟩ := h
    cases e
    exact tail
  | again c =>
    refine ⟨h.1, codeAny_mono h.2 fun r s2 hr => ?_⟩
    obtain ⟨rfl, rfl⟩ := hr
    exact tail
theorem sorted_ordT {l : Addr} {vs : List Value} {ltv : Value → Value → Bool} {Q : Value → Shared → Prop} {o : Obj} {n : Nat} (O : Swo ltv) (ho : s.heap.get? l = some o) (hc : o.cls = .type "tuple") (hd : o.data = .seq vs.toArray n) (hz : vs.length ≤ sizeLine)
    (hS : 2 ≤ vs.length → ∀ (s1 : Shared) (a : Addr), SortableO prog w A.in1.in1 s1 a vs ltv)
    (h : ∀ out : List Value, Srtd ltv out → Stb ltv out vs → ∀ (h' : Heap) (d : Addr), (∀ b o, s.heap.get? b = some o → h'.get? b = some o) → s.heap.objs.size ≤ d → (∃ n, h'.get? d = some (seqObj "list" out.toArray n)) → Q (.ref d) { s with heap := h' }) :
    wpAny (model prog w) A (call (.builtin "sorted") [.ref l]) Q E s := by
  refine Calls.call_function_entry kind_sorted plain_sorted entry_sorted (args_sorted1 _) ?_
  unfold Builtin.«sorted»
  refine wpAny_bind (m := checkCount "sorted" 1 1 _) (wpAny_pure (wpAny_bind (collect_tupH ho hc hd (by simpa using hz) ?_)))
  refine wpAny_bind (wpAny_newList ?_ (by simpa using hz))
  have sz : (clH s.heap vs.toArray).objs.size = s.heap.objs.size + 1 := by rw [Heap.size_update, size_push']
  have keep : ∀ b o, s.heap.get? b = some o → b < s.heap.objs.size ∧ (clH s.heap vs.toArray).get? b = some o := fun b o q => by
    have lt := Heap.lt_size q
    exact ⟨lt, (Heap.get?_update_ne _ _ _ _ (Nat.ne_of_lt lt)).trans (Heap.get?_push_of_some _ q)⟩
  have hoL : ((clH s.heap vs.toArray).push (seqObj "list" vs.toArray 0)).get? (clH s.heap vs.toArray).objs.size = some (seqObj "list" vs.toArray 0) := Heap.get?_push_size _ rfl
  show wpAny _ _ _ _ _ { s with heap := (clH s.heap vs.toArray).push (seqObj "list" vs.toArray 0) }
  have fin := fun (out : List Value) (hs : Srtd ltv out) (hb : Stb ltv out vs) => h out hs hb (sortedHeap ((clH s.heap vs.toArray).push (seqObj "list" vs.toArray 0)) (clH s.heap vs.toArray).objs.size vs out.toArray) (clH s.heap vs.toArray).objs.size
    (fun b o q => (sortedHeap_old (Nat.ne_of_lt (by rw [sz]; exact Nat.lt_succ_of_lt (keep b o q).1)) (by rw [size_push', sz]; exact Nat.lt_succ_of_lt (Nat.lt_succ_of_lt (keep b o q).1))).trans (Heap.get?_push_of_some _ (keep b o q).2))
    (by rw [sz]; exact Nat.le_succ _) (sortedHeap_at hoL)
  refine wpAny_bind (wpAny_holding (wpAny_call_entry slot_list_sort ⟨_, hoL, rfl⟩ entry_list_sort
    (list_sort_ord O hoL hz (fun h2 => hS h2 _ _) fun out hs hb => ⟨_, rfl, wpAny_pure ⟨_, rfl, fin out hs hb⟩⟩) (args_list_sort _)))
end SrtO
namespace L2
open PySem PySem.Spec PyProof.Rows
/-- sorted(t), t a tuple of ints -/
def rSortedTI (K : PySem.W.Frag) : List V → Hp → VK → Prop := fun vs H Q => ∃ (a : Addr) (ns : List Int), vs = [V.ref a] ∧ SqT K H a (ns.map V.int) ∧ ∀ (ns' : List Int) (p : Addr), ns'.Perm ns → ns'.Pairwise (· ≤ ·) → H p = none → Q (.ref p) (upd H p (.lst (ns'.map V.int)))
theorem cr_sortedTI {X : Cx} : CallR X (.builtin "sorted") (rSortedTI X.K) := by
  intro pins s σ H vs us Q I r h
  obtain ⟨a, ns, rfl, hs, q⟩ := h
  obtain ⟨its, rv, ⟨o, ho, hc, n, hd⟩, hz⟩ := I.tuple hs
  rw [Vals.ref1 r]
  have hi := rv.ints
  refine SrtO.sorted_ordT SrtO.swo_int ho hc hd (by rw [← rv.length]; exact hz) (fun h2 s1 a => SrtO.ints_sortable hi h2) fun out h1 h2 h' d k hd' he => ?_
  obtain ⟨k1, k2, k3⟩ := SrtO.ints_out hi h1 h2
  obtain ⟨ep, he⟩ := he
  have hl : ((out.map SrtO.iv).map V.int).length ≤ sizeLine := by
    rw [List.length_map, k2.length_eq, ← List.length_map (f := V.int)]
    exact hz
  exact ⟨.ref d, upd H d (.lst ((out.map SrtO.iv).map V.int)), I.laid (t' := s.toks) k hd' ⟨hl, out, ep, vals_of_ints k1, he⟩, rfl, q _ _ k2 k3 (I.hok.fresh hd')⟩
end L2
namespace Xt
open PySem PySem.Spec PyProof.Rows L2
/-- sorted(..), a list or a tuple of ints -/
def srtX : List Dv → Co Dv := one1 fun x => bnd (ofO (itsP x)) fun xs => bnd (ofO (intsP xs)) fun ns => rt (.g (.list ((sortI ns).map .int)))
def rSortedX (K : PySem.W.Frag) : List V → Hp → VK → Prop := fun vs H Q => rSortedI K vs H Q ∨ rSortedTI K vs H Q
theorem cr_sortedX {X : Cx} : CallR X (.builtin "sorted") (rSortedX X.K) := fun pins s σ H vs us Q I r h => h.elim (cr_sortedI pins s σ H vs us Q I r) (cr_sortedTI pins s σ H vs us Q I r)
section
variable {G : Gx} {E : XK}
theorem cs_srtX : CaSF G E (rSortedX G.K) srtX := fun ι M H xs ds Q m rr p => by
  obtain ⟨v, d, x, rfl, r1, e, p0⟩ := one1_ok m rr p
  obtain ⟨ys, e2, pa⟩ := Post.ofO p0
  obtain ⟨ns, e4, pb⟩ := Post.ofO pa
  clear p p0 pa
  cases x with
  | list zs =>
    cases e2
    obtain ⟨a, vs, rfl, h1, h2⟩ := asG_lst m r1 e
    rw [intsP_rp h2 e4] at h1
    refine .inl ⟨a, ns, rfl, h1, fun ns' p1 pm so hp => ?_⟩
    rw [sortI_uniq pm so]
    exact lockF m (rpVs_ints _) pb p1 hp
  | tuple zs =>
    cases e2
    obtain ⟨a, vs, rfl, h1, h2⟩ := asG_tup m r1 e
    rw [intsP_rp h2 e4] at h1
    refine .inr ⟨a, ns, rfl, h1, fun ns' p1 pm so hp => ?_⟩
    rw [sortI_uniq pm so]
    exact lockF m (rpVs_ints _) pb p1 hp
  | _ => cases e2
end
end Xt
set_option Elab.async false
set_option linter.all false
set_option maxRecDepth 100000
set_option maxHeartbeats 2000000
namespace K07
open PySem PySem.Spec PyProof.Rows L2 Xt
def top (i : Nat) : Stmt := PySem.Challenge.pw_turnheaps_k07_whole_weavings.main.body.getD i (.Pass ⟨0, 0, 0, 0⟩)
def b_q_taken : Slots → Co Fl :=
  (sq (ifs (tst (b2 gtD (b2 ixD (sl 0) (kk (.int 3))) (kk (.int 0)))) (sq (asg (b2 modD (cB intD (ac (b2 ixD (sl 0) (kk (.int 3))) ac0)) (sl 1)) (tN 2))
    (sq (asg (b2 fdivD (b2 ixD (sl 0) (kk (.int 3))) (sl 1)) (tSub (sl 0) (kk (.int 3))))
    (sq (ret (sl 2))
    skp))) skp)
    (sq (asg (b2 addD (b2 ixD (sl 0) (kk (.int 1))) (kk (.int 1))) (tSub (sl 0) (kk (.int 1))))
    (sq (ifs (tst (b2 gtD (b2 ixD (sl 0) (kk (.int 1))) (cB lenD (ac (b2 ixD (sl 0) (kk (.int 0))) ac0)))) (sq (asg (b2 modD (cB intD (ac (b2 addD (b2 mulD (b2 ixD (sl 0) (kk (.int 2))) (kk (.int 48271))) (kk (.int 11))) ac0)) (kk (.int 2147483647))) (tSub (sl 0) (kk (.int 2))))
    (sq (ret (b2 modD (cB intD (ac (b2 fdivD (b2 ixD (sl 0) (kk (.int 2))) (kk (.int 7))) ac0)) (sl 1)))
    skp)) skp)
    (sq (asg (b2 ixD (b2 ixD (sl 0) (kk (.int 0))) (b2 subD (b2 ixD (sl 0) (kk (.int 1))) (kk (.int 1)))) (tN 3))
    (sq (asg (b2 modD (cB intD (ac (b2 addD (b2 addD (b2 mulD (b2 ixD (sl 0) (kk (.int 2))) (kk (.int 48271))) (sl 3)) (kk (.int 11))) ac0)) (kk (.int 2147483647))) (tSub (sl 0) (kk (.int 2))))
    (sq (ifs (tst (b2 geD (sl 3) (b2 powD (kk (.int 10)) (kk (.int 18))))) (sq (asg (b2 fdivD (sl 3) (sl 1)) (tSub (sl 0) (kk (.int 3))))
    skp) skp)
    (sq (ret (b2 modD (cB intD (ac (sl 3) ac0)) (sl 1)))
    skp)))))))
def F_q_taken : Nat → List Dv → Co Dv
  | 0 => fun _ => fl
  | n + 1 => defF 4 2 (b_q_taken )
def b_q_any (c_q_any : List Dv → Co Dv) (c_q_taken : List Dv → Co Dv) : Slots → Co Fl :=
  (sq (ifs (tst (b2 (eqD false) (sl 1) (lstG ac0))) (sq (ret (kk .none))
    skp) skp)
    (sq (par2 2 3 (ac (lstR ac0) (ac (lstR ac0) ac0)))
    (sq (forX (srcS (slcG (sl 1) (pn1 (kk (.int 1))) pn0)) (tN 4) (sq (ifs (tst (b2 (eqD false) (cB c_q_taken (ac (sl 0) (ac (kk (.int 2)) ac0))) (kk (.int 0)))) (sq (drp (app (sl 2) (sl 4)))
    skp) (sq (drp (app (sl 3) (sl 4)))
    skp))
    skp))
    (sq (ret (tup (ac (b2 ixD (sl 1) (kk (.int 0))) (ac (cB c_q_any (ac (sl 0) (ac (sl 2) ac0))) (ac (cB c_q_any (ac (sl 0) (ac (sl 3) ac0))) ac0)))))
    skp))))
def F_q_any : Nat → List Dv → Co Dv
  | 0 => fun _ => fl
  | n + 1 => defF 5 2 (b_q_any (F_q_any n) (F_q_taken n))
def b_q_pick (c_q_taken : List Dv → Co Dv) : Slots → Co Fl :=
  (sq (ret (b2 ixD (sl 1) (cB c_q_taken (ac (sl 0) (ac (cB lenD (ac (sl 1) ac0)) ac0)))))
    skp)
def F_q_pick : Nat → List Dv → Co Dv
  | 0 => fun _ => fl
  | n + 1 => defF 2 2 (b_q_pick (F_q_taken n))
def b_q_order (c_q_pick : List Dv → Co Dv) (c_q_taken : List Dv → Co Dv) : Slots → Co Fl :=
  (sq (par2 2 3 (ac (cB c_q_taken (ac (sl 0) (ac (b2 addD (sl 1) (kk (.int 1))) ac0))) (ac (tup ac0) ac0)))
    (sq (asg (lcX [7] (srcR1 (ac (sl 2) ac0)) (tN 7) yes (b2 subD (b2 mulD (kk (.int 3)) (sl 7)) (kk (.int 4)))) (tN 4))
    (sq (forX (srcR1 (ac (sl 2) ac0)) (tN 5) (sq (asg (cB c_q_pick (ac (sl 0) (ac (sl 4) ac0))) (tN 6))
    (sq (par2 3 4 (ac (b2 addD (sl 3) (tup (ac (sl 6) ac0))) (ac (lcX [8] (srcS (sl 4)) (tN 8) (tst (b2 (eqD true) (sl 8) (sl 6))) (sl 8)) ac0)))
    skp)))
    (sq (ret (sl 3))
    skp))))
def F_q_order : Nat → List Dv → Co Dv
  | 0 => fun _ => fl
  | n + 1 => defF 9 2 (b_q_order (F_q_pick n) (F_q_taken n))
def b_q_keys (c_q_keys : List Dv → Co Dv) : Slots → Co Fl :=
  (sq (ret (iff (tst (b1 (isN false) (sl 0))) (lstG ac0) (b2 addD (b2 addD (lstG (ac (b2 ixD (sl 0) (kk (.int 0))) ac0)) (cB (pureC c_q_keys) (ac (b2 ixD (sl 0) (kk (.int 1))) ac0))) (cB (pureC c_q_keys) (ac (b2 ixD (sl 0) (kk (.int 2))) ac0)))))
    skp)
def F_q_keys : Nat → List Dv → Co Dv
  | 0 => fun _ => fl
  | n + 1 => defF 1 1 (b_q_keys (F_q_keys n))
def b_q_is_hole : Slots → Co Fl :=
  (sq (ret (andV (b1 (isN true) (sl 0)) (b2 (eqD false) (b2 ixD (sl 0) (kk (.int 0))) (kk (.str "hole")))))
    skp)
def F_q_is_hole : Nat → List Dv → Co Dv
  | 0 => fun _ => fl
  | n + 1 => defF 1 1 (b_q_is_hole )
def b_q_put_in (c_q_put_in : List Dv → Co Dv) : Slots → Co Fl :=
  (sq (ifs (tst (b1 (isN false) (sl 0))) (sq (ret (kk .none))
    skp) skp)
    (sq (ifs (tst (b2 (eqD false) (b2 ixD (sl 0) (kk (.int 0))) (kk (.str "hole")))) (sq (ret (iff (tst (b2 (eqD false) (b2 ixD (sl 0) (kk (.int 1))) (sl 1))) (sl 2) (sl 0)))
    skp) skp)
    (sq (ret (tup (ac (b2 ixD (sl 0) (kk (.int 0))) (ac (cB (pureC c_q_put_in) (ac (b2 ixD (sl 0) (kk (.int 1))) (ac (sl 1) (ac (sl 2) ac0)))) (ac (cB (pureC c_q_put_in) (ac (b2 ixD (sl 0) (kk (.int 2))) (ac (sl 1) (ac (sl 2) ac0)))) ac0)))))
    skp)))
def F_q_put_in : Nat → List Dv → Co Dv
  | 0 => fun _ => fl
  | n + 1 => defF 3 3 (b_q_put_in (F_q_put_in n))
def b_q_fill (c_q_put_in : List Dv → Co Dv) : Slots → Co Fl :=
  (sq (asg (cB (pureC c_q_put_in) (ac (b2 ixD (sl 0) (kk (.int 0))) (ac (sl 1) (ac (sl 2) ac0)))) (tSub (sl 0) (kk (.int 0))))
    (sq (forX (srcS (cB lstX (ac (b2 ixD (sl 0) (kk (.int 2))) ac0))) (tN 3) (sq (asg (dgI (b2 ixD (sl 0) (kk (.int 2))) (sl 3)) (tT 3 (tC (tN 4) (tC (tN 5) (tC (tN 6) tZ)))))
    (sq (asg (tup (ac (sl 4) (ac (cB (pureC c_q_put_in) (ac (sl 5) (ac (sl 1) (ac (sl 2) ac0)))) (ac (cB (pureC c_q_put_in) (ac (sl 6) (ac (sl 1) (ac (sl 2) ac0)))) ac0)))) (tSub (b2 ixD (sl 0) (kk (.int 2))) (sl 3)))
    skp)))
    skp))
def F_q_fill : Nat → List Dv → Co Dv
  | 0 => fun _ => fl
  | n + 1 => defF 7 3 (b_q_fill (F_q_put_in n))
def b_q_step (c_q_fill : List Dv → Co Dv) (c_q_is_hole : List Dv → Co Dv) : Slots → Co Fl :=
  (sq (asg (dgI (b2 ixD (sl 0) (kk (.int 2))) (sl 1)) (tT 3 (tC (tN 2) (tC (tN 3) (tC (tN 4) tZ)))))
    (sq (ifs (tor (trV (cB (pureC c_q_is_hole) (ac (sl 3) ac0))) (trV (cB (pureC c_q_is_hole) (ac (sl 4) ac0)))) (sq retN
    skp) skp)
    (sq (ifs (tor (tst (b1 (isN false) (sl 3))) (tst (b1 (isN false) (sl 4)))) (sq (drp (dpopI (b2 ixD (sl 0) (kk (.int 2))) (sl 1)))
    (sq (drp (cB c_q_fill (ac (sl 0) (ac (sl 2) (ac (iff (tst (b1 (isN false) (sl 4))) (sl 3) (sl 4)) ac0)))))
    (sq retN
    skp))) skp)
    (sq (ifs (tst (b2 ltD (b2 ixD (sl 4) (kk (.int 0))) (b2 ixD (sl 3) (kk (.int 0))))) (sq (par2 3 4 (ac (sl 4) (ac (sl 3) ac0)))
    skp) skp)
    (sq (asg (b2 addD (b2 ixD (sl 0) (kk (.int 4))) (kk (.int 1))) (tSub (sl 0) (kk (.int 4))))
    (sq (asg (b2 ixD (sl 0) (kk (.int 4))) (tN 5))
    (sq (asg (tup (ac (sl 5) (ac (b2 ixD (sl 3) (kk (.int 2))) (ac (sl 4) ac0)))) (tSub (b2 ixD (sl 0) (kk (.int 2))) (sl 1)))
    (sq (drp (cB c_q_fill (ac (sl 0) (ac (sl 2) (ac (tup (ac (b2 ixD (sl 3) (kk (.int 0))) (ac (tup (ac (kk (.str "hole")) (ac (sl 5) ac0))) (ac (b2 ixD (sl 3) (kk (.int 1))) ac0)))) ac0)))))
    skp))))))))
def F_q_step : Nat → List Dv → Co Dv
  | 0 => fun _ => fl
  | n + 1 => defF 6 2 (b_q_step (F_q_fill n) (F_q_is_hole n))
def b_q_enter (c_q_step : List Dv → Co Dv) (c_q_is_hole : List Dv → Co Dv) : Slots → Co Fl :=
  (sq (asg (b2 ixD (sl 0) (kk (.int 0))) (tN 2))
    (sq (ifs (trV (cB (pureC c_q_is_hole) (ac (sl 2) ac0))) (sq retN
    skp) skp)
    (sq (ifs (tst (b2 (eqD false) (b2 ixD (sl 1) (kk (.int 0))) (kk (.str "put")))) (sq (asg (b2 addD (b2 ixD (sl 0) (kk (.int 4))) (kk (.int 1))) (tSub (sl 0) (kk (.int 4))))
    (sq (asg (tup (ac (b2 ixD (sl 0) (kk (.int 4))) (ac (sl 2) (ac (tup (ac (b2 ixD (sl 1) (kk (.int 1))) (ac (kk .none) (ac (kk .none) ac0)))) ac0)))) (tSub (b2 ixD (sl 0) (kk (.int 2))) (b2 ixD (sl 0) (kk (.int 1)))))
    (sq (asg (tup (ac (tup (ac (kk (.str "hole")) (ac (b2 ixD (sl 0) (kk (.int 4))) ac0))) (ac (b2 addD (b2 ixD (sl 0) (kk (.int 1))) (kk (.int 1))) ac0))) (tT 2 (tC (tSub (sl 0) (kk (.int 0))) (tC (tSub (sl 0) (kk (.int 1))) tZ))))
    (sq (drp (cB c_q_step (ac (sl 0) (ac (b2 subD (b2 ixD (sl 0) (kk (.int 1))) (kk (.int 1))) ac0))))
    skp)))) (sq (ifs (tst (b1 (isN false) (sl 2))) (sq (asg (b2 addD (b2 ixD (sl 0) (kk (.int 1))) (kk (.int 1))) (tSub (sl 0) (kk (.int 1))))
    (sq (drp (app (b2 ixD (sl 0) (kk (.int 3))) (kk .none)))
    skp)) (sq (ifs (tand (tnt (trV (cB (pureC c_q_is_hole) (ac (b2 ixD (sl 2) (kk (.int 1))) ac0)))) (tnt (trV (cB (pureC c_q_is_hole) (ac (b2 ixD (sl 2) (kk (.int 2))) ac0))))) (sq (drp (app (b2 ixD (sl 0) (kk (.int 3))) (b2 ixD (sl 2) (kk (.int 0)))))
    (sq (ifs (tor (tst (b1 (isN false) (b2 ixD (sl 2) (kk (.int 1))))) (tst (b1 (isN false) (b2 ixD (sl 2) (kk (.int 2)))))) (sq (asg (iff (tst (b1 (isN false) (b2 ixD (sl 2) (kk (.int 1))))) (b2 ixD (sl 2) (kk (.int 2))) (b2 ixD (sl 2) (kk (.int 1)))) (tSub (sl 0) (kk (.int 0))))
    skp) (sq (asg (b2 addD (b2 ixD (sl 0) (kk (.int 4))) (kk (.int 1))) (tSub (sl 0) (kk (.int 4))))
    (sq (asg (tup (ac (b2 ixD (sl 0) (kk (.int 4))) (ac (b2 ixD (sl 2) (kk (.int 1))) (ac (b2 ixD (sl 2) (kk (.int 2))) ac0)))) (tSub (b2 ixD (sl 0) (kk (.int 2))) (b2 ixD (sl 0) (kk (.int 1)))))
    (sq (asg (tup (ac (kk (.str "hole")) (ac (b2 ixD (sl 0) (kk (.int 4))) ac0))) (tSub (sl 0) (kk (.int 0))))
    skp))))
    (sq (asg (b2 addD (b2 ixD (sl 0) (kk (.int 1))) (kk (.int 1))) (tSub (sl 0) (kk (.int 1))))
    skp))) skp)
    skp))
    skp))
    skp)))
def F_q_enter : Nat → List Dv → Co Dv
  | 0 => fun _ => fl
  | n + 1 => defF 3 2 (b_q_enter (F_q_step n) (F_q_is_hole n))
def b_q_alike (c_q_alike : List Dv → Co Dv) : Slots → Co Fl :=
  (sq (ifs (trV (isi2 "tuple" "list" (sl 1))) (sq (ifs (tor (tnt (trV (isi2 "tuple" "list" (sl 0)))) (tst (b2 (eqD true) (isi "list" (sl 0)) (isi "list" (sl 1))))) (sq (ret (kk (.bool false)))
    skp) skp)
    (sq (ifs (tst (b2 (eqD true) (cB lenD (ac (sl 0) ac0)) (cB lenD (ac (sl 1) ac0)))) (sq (ret (kk (.bool false)))
    skp) skp)
    (sq (ret (b2 (eqD false) (lcX [2] (srcR1 (ac (cB lenD (ac (sl 1) ac0)) ac0)) (tN 2) (tnt (trV (cB (pureC c_q_alike) (ac (b2 ixD (sl 0) (sl 2)) (ac (b2 ixD (sl 1) (sl 2)) ac0))))) (sl 2)) (lstG ac0)))
    skp))) skp)
    (sq (ifs (tor (tst (b1 (isN false) (sl 1))) (trV (isi "str" (sl 1)))) (sq (ret (andV (b2 (eqD false) (sl 0) (sl 1)) (b2 (eqD false) (isi "str" (sl 0)) (isi "str" (sl 1)))))
    skp) skp)
    (sq (ret (andV (isi "int" (sl 0)) (andV (b2 (eqD false) (isi "bool" (sl 0)) (isi "bool" (sl 1))) (b2 (eqD false) (sl 0) (sl 1)))))
    skp)))
def F_q_alike : Nat → List Dv → Co Dv
  | 0 => fun _ => fl
  | n + 1 => defF 3 2 (b_q_alike (F_q_alike n))
def b_is_in : Slots → Co Fl :=
  (sq (ret (andV (isi "int" (sl 0)) (andV (ntV (isi "bool" (sl 0))) (ch leD leD (sl 1) (sl 0) (sl 2)))))
    skp)
def F_is_in : Nat → List Dv → Co Dv
  | 0 => fun _ => fl
  | n + 1 => defF 3 3 (b_is_in )
def b_is_key (c_is_in : List Dv → Co Dv) : Slots → Co Fl :=
  (sq (ret (cB (pureC c_is_in) (ac (sl 0) (ac (b2 subD (kk (.int 0)) (kk (.int 1000000))) (ac (kk (.int 1000000)) ac0)))))
    skp)
def F_is_key : Nat → List Dv → Co Dv
  | 0 => fun _ => fl
  | n + 1 => defF 1 1 (b_is_key (F_is_in n))
def b_has_form (c_has_form : List Dv → Co Dv) (c_is_key : List Dv → Co Dv) : Slots → Co Fl :=
  (sq (ifs (tst (b1 (isN false) (sl 0))) (sq (ret (kk (.bool true)))
    skp) skp)
    (sq (ifs (tor (tst (b2 (eqD false) (sl 2) (kk (.int 0)))) (tor (tnt (trV (isi "tuple" (sl 0)))) (tor (tst (b2 (eqD true) (cB lenD (ac (sl 0) ac0)) (kk (.int 3)))) (tor (tnt (trV (cB (pureC c_is_key) (ac (b2 ixD (sl 0) (kk (.int 0))) ac0)))) (tst (b2 leD (b2 ixD (sl 0) (kk (.int 0))) (sl 1))))))) (sq (ret (kk (.bool false)))
    skp) skp)
    (sq (ret (andV (cB (pureC c_has_form) (ac (b2 ixD (sl 0) (kk (.int 1))) (ac (b2 ixD (sl 0) (kk (.int 0))) (ac (b2 subD (sl 2) (kk (.int 1))) ac0)))) (cB (pureC c_has_form) (ac (b2 ixD (sl 0) (kk (.int 2))) (ac (b2 ixD (sl 0) (kk (.int 0))) (ac (b2 subD (sl 2) (kk (.int 1))) ac0))))))
    skp)))
def F_has_form : Nat → List Dv → Co Dv
  | 0 => fun _ => fl
  | n + 1 => defF 3 3 (b_has_form (F_has_form n) (F_is_key n))
def b_key_list (c_key_list : List Dv → Co Dv) : Slots → Co Fl :=
  (sq (ret (iff (tst (b1 (isN false) (sl 0))) (lstG ac0) (lstG (ac (b2 ixD (sl 0) (kk (.int 0))) (acS (cB (pureC c_key_list) (ac (b2 ixD (sl 0) (kk (.int 1))) ac0)) (acS (cB (pureC c_key_list) (ac (b2 ixD (sl 0) (kk (.int 2))) ac0)) ac0))))))
    skp)
def F_key_list : Nat → List Dv → Co Dv
  | 0 => fun _ => fl
  | n + 1 => defF 1 1 (b_key_list (F_key_list n))
def b_is_heap (c_key_list : List Dv → Co Dv) (c_has_form : List Dv → Co Dv) : Slots → Co Fl :=
  (sq (ifs (tnt (trV (cB (pureC c_has_form) (ac (sl 0) (ac (b2 subD (b2 subD (kk (.int 0)) (kk (.int 1000000))) (kk (.int 1))) (ac (kk (.int 200)) ac0)))))) (sq (ret (kk (.bool false)))
    skp) skp)
    (sq (asg (cB (pureC c_key_list) (ac (sl 0) ac0)) (tN 1))
    (sq (ret (andV (b2 leD (cB lenD (ac (sl 1) ac0)) (kk (.int 200))) (b2 (eqD false) (lnS (sl 1)) (cB lenD (ac (sl 1) ac0)))))
    skp)))
def F_is_heap : Nat → List Dv → Co Dv
  | 0 => fun _ => fl
  | n + 1 => defF 2 1 (b_is_heap (F_key_list n) (F_has_form n))
def b_need_heap (c_is_heap : List Dv → Co Dv) : Slots → Co Fl :=
  (sq (ifs (tnt (trV (cB (pureC c_is_heap) (ac (sl 0) ac0)))) (sq nvr
    skp) skp)
    skp)
def F_need_heap : Nat → List Dv → Co Dv
  | 0 => fun _ => fl
  | n + 1 => defF 1 1 (b_need_heap (F_is_heap n))
def b_is_deed (c_is_key : List Dv → Co Dv) : Slots → Co Fl :=
  (sq (ifs (tor (tnt (trV (isi "tuple" (sl 0)))) (tor (tnt (trV (sl 0))) (tnt (trV (isi "str" (b2 ixD (sl 0) (kk (.int 0)))))))) (sq (ret (kk (.bool false)))
    skp) skp)
    (sq (ifs (tst (b2 (eqD false) (b2 ixD (sl 0) (kk (.int 0))) (kk (.str "take")))) (sq (ret (b2 (eqD false) (cB lenD (ac (sl 0) ac0)) (kk (.int 1))))
    skp) skp)
    (sq (ret (andV (b2 (eqD false) (b2 ixD (sl 0) (kk (.int 0))) (kk (.str "put"))) (andV (b2 (eqD false) (cB lenD (ac (sl 0) ac0)) (kk (.int 2))) (cB (pureC c_is_key) (ac (b2 ixD (sl 0) (kk (.int 1))) ac0)))))
    skp)))
def F_is_deed : Nat → List Dv → Co Dv
  | 0 => fun _ => fl
  | n + 1 => defF 1 1 (b_is_deed (F_is_key n))
def b_need_deeds (c_is_deed : List Dv → Co Dv) (c_key_list : List Dv → Co Dv) : Slots → Co Fl :=
  (sq (ifs (tor (tnt (trV (isi "tuple" (sl 1)))) (tst (b2 gtD (cB lenD (ac (sl 1) ac0)) (kk (.int 40))))) (sq nvr
    skp) skp)
    (sq (asg (dcX [5] (srcS (cB (pureC c_key_list) (ac (sl 0) ac0))) (tN 5) yes (sl 5) (kk (.bool true))) (tN 2))
    (sq (forX (srcE (ac (sl 1) ac0)) (tT 2 (tC (tN 3) (tC (tN 4) tZ))) (sq (ifs (tnt (trV (cB (pureC c_is_deed) (ac (sl 4) ac0)))) (sq nvr
    skp) skp)
    (sq (ifs (tst (b2 (eqD false) (b2 ixD (sl 4) (kk (.int 0))) (kk (.str "put")))) (sq (ifs (tor (tst (dinI false (b2 ixD (sl 4) (kk (.int 1))) (sl 2))) (tst (b2 (eqD false) (cB lenD (ac (sl 2) ac0)) (kk (.int 200))))) (sq nvr
    skp) skp)
    (sq (asg (kk (.bool true)) (tSub (sl 2) (b2 ixD (sl 4) (kk (.int 1)))))
    skp)) skp)
    skp)))
    skp)))
def F_need_deeds : Nat → List Dv → Co Dv
  | 0 => fun _ => fl
  | n + 1 => defF 6 2 (b_need_deeds (F_is_deed n) (F_key_list n))
def b_Place_init : Slots → Co Fl :=
  (sq (sfl "Place" "key" (sl 0) (sl 1))
    (sq (sfl "Place" "mark" (sl 0) (sl 2))
    (sq (sfl "Place" "left" (sl 0) (kk .none))
    (sq (sfl "Place" "right" (sl 0) (kk .none))
    skp))))
def F_Place_init : Nat → List Dv → Co Dv
  | 0 => fun _ => fl
  | n + 1 => defF 3 3 (b_Place_init )
def b_opened (c_opened : List Dv → Co Dv) (c_Place_init : List Dv → Co Dv) : Slots → Co Fl :=
  (sq (ifs (tst (b1 (isN false) (sl 0))) (sq (ret (kk .none))
    skp) skp)
    (sq (asg (mkC "Place" c_Place_init (ac (b2 ixD (sl 0) (kk (.int 0))) (ac (kk (.int 0)) ac0))) (tN 1))
    (sq (asg (tup (ac (cB c_opened (ac (b2 ixD (sl 0) (kk (.int 1))) ac0)) (ac (cB c_opened (ac (b2 ixD (sl 0) (kk (.int 2))) ac0)) ac0))) (tT 2 (tC (tFl "Place" "left" (sl 1)) (tC (tFl "Place" "right" (sl 1)) tZ))))
    (sq (ret (sl 1))
    skp))))
def F_opened : Nat → List Dv → Co Dv
  | 0 => fun _ => fl
  | 1 => fun _ => fl
  | n + 2 => defF 2 1 (b_opened (F_opened n) (F_Place_init n))
def b_Weaving_init (c_opened : List Dv → Co Dv) : Slots → Co Fl :=
  (sq (sfl "Weaving" "top" (sl 0) (cB c_opened (ac (sl 1) ac0)))
    (sq (sfl "Weaving" "deeds" (sl 0) (sl 2))
    (sq (sfl "Weaving" "entered" (sl 0) (kk (.int 0)))
    (sq (sfl "Weaving" "work" (sl 0) (fun _ => newD []))
    (sq (sfl "Weaving" "taken" (sl 0) (lstR ac0))
    (sq (sfl "Weaving" "marks" (sl 0) (kk (.int 0)))
    skp))))))
def F_Weaving_init : Nat → List Dv → Co Dv
  | 0 => fun _ => fl
  | n + 1 => defF 3 3 (b_Weaving_init (F_opened n))
def b_is_hole : Slots → Co Fl :=
  (sq (ret (andV (b1 (isN true) (sl 0)) (b1 (isN false) (b1 (fldD "Place" "key") (sl 0)))))
    skp)
def F_is_hole : Nat → List Dv → Co Dv
  | 0 => fun _ => fl
  | n + 1 => defF 1 1 (b_is_hole )
def b_laid (c_laid : List Dv → Co Dv) (c_is_hole : List Dv → Co Dv) : Slots → Co Fl :=
  (sq (ifs (tst (b1 (isN false) (sl 0))) (sq (ret (kk .none))
    skp) skp)
    (sq (ifs (trV (cB c_is_hole (ac (sl 0) ac0))) (sq (ret (iff (tst (b2 (eqD false) (b1 (fldD "Place" "mark") (sl 0)) (sl 1))) (sl 2) (sl 0)))
    skp) skp)
    (sq (sfl "Place" "left" (sl 0) (cB c_laid (ac (b1 (fldD "Place" "left") (sl 0)) (ac (sl 1) (ac (sl 2) ac0)))))
    (sq (sfl "Place" "right" (sl 0) (cB c_laid (ac (b1 (fldD "Place" "right") (sl 0)) (ac (sl 1) (ac (sl 2) ac0)))))
    (sq (ret (sl 0))
    skp)))))
def F_laid : Nat → List Dv → Co Dv
  | 0 => fun _ => fl
  | n + 1 => defF 3 3 (b_laid (F_laid n) (F_is_hole n))
def b_Weaving_fill (c_laid : List Dv → Co Dv) : Slots → Co Fl :=
  (sq (sfl "Weaving" "top" (sl 0) (cB c_laid (ac (b1 (fldD "Weaving" "top") (sl 0)) (ac (sl 1) (ac (sl 2) ac0)))))
    (sq (asg (fun _ => newD []) (tN 3))
    (sq (forX (srcM (b1 (fldD "Weaving" "work") (sl 0))) (tT 2 (tC (tN 4) (tC (tT 3 (tC (tN 5) (tC (tN 6) (tC (tN 7) tZ)))) tZ))) (sq (asg (tup (ac (sl 5) (ac (cB c_laid (ac (sl 6) (ac (sl 1) (ac (sl 2) ac0)))) (ac (cB c_laid (ac (sl 7) (ac (sl 1) (ac (sl 2) ac0)))) ac0)))) (tSub (sl 3) (sl 4)))
    skp))
    (sq (sfl "Weaving" "work" (sl 0) (sl 3))
    skp))))
def F_Weaving_fill : Nat → List Dv → Co Dv
  | 0 => fun _ => fl
  | n + 1 => defF 8 3 (b_Weaving_fill (F_laid n))
def b_Weaving_hole (c_Place_init : List Dv → Co Dv) : Slots → Co Fl :=
  (sq (sfl "Weaving" "marks" (sl 0) (b2 addD (b1 (fldD "Weaving" "marks") (sl 0)) (kk (.int 1))))
    (sq (ret (mkC "Place" c_Place_init (ac (kk .none) (ac (b1 (fldD "Weaving" "marks") (sl 0)) ac0))))
    skp))
def F_Weaving_hole : Nat → List Dv → Co Dv
  | 0 => fun _ => fl
  | 1 => fun _ => fl
  | n + 2 => defF 1 1 (b_Weaving_hole (F_Place_init n))
def b_Weaving_step (c_Weaving_fill : List Dv → Co Dv) (c_Weaving_hole : List Dv → Co Dv) (c_is_hole : List Dv → Co Dv) : Slots → Co Fl :=
  (sq (asg (dgI (b1 (fldD "Weaving" "work") (sl 0)) (sl 1)) (tT 3 (tC (tN 2) (tC (tN 3) (tC (tN 4) tZ)))))
    (sq (ifs (tor (trV (cB c_is_hole (ac (sl 3) ac0))) (trV (cB c_is_hole (ac (sl 4) ac0)))) (sq retN
    skp) skp)
    (sq (ifs (tor (tst (b1 (isN false) (sl 3))) (tst (b1 (isN false) (sl 4)))) (sq (sfl "Weaving" "work" (sl 0) (dcX [7, 8] (srcM (b1 (fldD "Weaving" "work") (sl 0))) (tT 2 (tC (tN 7) (tC (tN 8) tZ))) (tst (b2 (eqD true) (sl 7) (sl 1))) (sl 7) (sl 8)))
    (sq (drp (mtC "Weaving" "fill" c_Weaving_fill (sl 0) (ac (sl 2) (ac (iff (tst (b1 (isN false) (sl 4))) (sl 3) (sl 4)) ac0))))
    (sq retN
    skp))) skp)
    (sq (ifs (tst (b2 ltD (b1 (fldD "Place" "key") (sl 4)) (b1 (fldD "Place" "key") (sl 3)))) (sq (par2 3 4 (ac (sl 4) (ac (sl 3) ac0)))
    skp) skp)
    (sq (par2 5 6 (ac (mtC "Weaving" "hole" c_Weaving_hole (sl 0) ac0) (ac (b1 (fldD "Place" "right") (sl 3)) ac0)))
    (sq (asg (tup (ac (sl 5) (ac (b1 (fldD "Place" "left") (sl 3)) ac0))) (tT 2 (tC (tFl "Place" "left" (sl 3)) (tC (tFl "Place" "right" (sl 3)) tZ))))
    (sq (drp (mtC "Weaving" "fill" c_Weaving_fill (sl 0) (ac (sl 2) (ac (sl 3) ac0))))
    (sq (asg (tup (ac (b1 (fldD "Place" "mark") (sl 5)) (ac (sl 6) (ac (sl 4) ac0)))) (tSub (b1 (fldD "Weaving" "work") (sl 0)) (sl 1)))
    skp))))))))
def F_Weaving_step : Nat → List Dv → Co Dv
  | 0 => fun _ => fl
  | n + 1 => defF 9 2 (b_Weaving_step (F_Weaving_fill n) (F_Weaving_hole n) (F_is_hole n))
def b_Weaving_begin (c_Weaving_hole : List Dv → Co Dv) : Slots → Co Fl :=
  (sq (sfl "Weaving" "top" (sl 0) (mtC "Weaving" "hole" c_Weaving_hole (sl 0) ac0))
    (sq (asg (tup (ac (b1 (fldD "Place" "mark") (b1 (fldD "Weaving" "top") (sl 0))) (ac (sl 1) (ac (sl 2) ac0)))) (tSub (b1 (fldD "Weaving" "work") (sl 0)) (b1 (fldD "Weaving" "entered") (sl 0))))
    (sq (sfl "Weaving" "entered" (sl 0) (b2 addD (b1 (fldD "Weaving" "entered") (sl 0)) (kk (.int 1))))
    skp)))
def F_Weaving_begin : Nat → List Dv → Co Dv
  | 0 => fun _ => fl
  | n + 1 => defF 3 3 (b_Weaving_begin (F_Weaving_hole n))
def b_Weaving_enter (c_Weaving_step : List Dv → Co Dv) (c_Weaving_begin : List Dv → Co Dv) (c_Place_init : List Dv → Co Dv) (c_is_hole : List Dv → Co Dv) : Slots → Co Fl :=
  (sq (asg (b1 (fldD "Weaving" "top") (sl 0)) (tN 2))
    (sq (ifs (trV (cB c_is_hole (ac (sl 2) ac0))) (sq retN
    skp) skp)
    (sq (ifs (tst (b2 (eqD false) (b2 ixD (sl 1) (kk (.int 0))) (kk (.str "put")))) (sq (drp (mtC "Weaving" "begin" c_Weaving_begin (sl 0) (ac (sl 2) (ac (mkC "Place" c_Place_init (ac (b2 ixD (sl 1) (kk (.int 1))) (ac (kk (.int 0)) ac0))) ac0))))
    (sq (drp (mtC "Weaving" "step" c_Weaving_step (sl 0) (ac (b2 subD (b1 (fldD "Weaving" "entered") (sl 0)) (kk (.int 1))) ac0)))
    skp)) (sq (ifs (tst (b1 (isN false) (sl 2))) (sq (sfl "Weaving" "entered" (sl 0) (b2 addD (b1 (fldD "Weaving" "entered") (sl 0)) (kk (.int 1))))
    (sq (drp (app (b1 (fldD "Weaving" "taken") (sl 0)) (kk .none)))
    skp)) (sq (ifs (tand (tnt (trV (cB c_is_hole (ac (b1 (fldD "Place" "left") (sl 2)) ac0)))) (tnt (trV (cB c_is_hole (ac (b1 (fldD "Place" "right") (sl 2)) ac0))))) (sq (drp (app (b1 (fldD "Weaving" "taken") (sl 0)) (b1 (fldD "Place" "key") (sl 2))))
    (sq (ifs (tor (tst (b1 (isN false) (b1 (fldD "Place" "left") (sl 2)))) (tst (b1 (isN false) (b1 (fldD "Place" "right") (sl 2))))) (sq (sfl "Weaving" "top" (sl 0) (iff (tst (b1 (isN false) (b1 (fldD "Place" "left") (sl 2)))) (b1 (fldD "Place" "right") (sl 2)) (b1 (fldD "Place" "left") (sl 2))))
    (sq (sfl "Weaving" "entered" (sl 0) (b2 addD (b1 (fldD "Weaving" "entered") (sl 0)) (kk (.int 1))))
    skp)) (sq (drp (mtC "Weaving" "begin" c_Weaving_begin (sl 0) (ac (b1 (fldD "Place" "left") (sl 2)) (ac (b1 (fldD "Place" "right") (sl 2)) ac0))))
    skp))
    skp)) skp)
    skp))
    skp))
    skp)))
def F_Weaving_enter : Nat → List Dv → Co Dv
  | 0 => fun _ => fl
  | 1 => fun _ => fl
  | n + 2 => defF 3 2 (b_Weaving_enter (F_Weaving_step n) (F_Weaving_begin n) (F_Place_init n) (F_is_hole n))
def b_Weaving_turn (c_Weaving_step : List Dv → Co Dv) (c_Weaving_enter : List Dv → Co Dv) : Slots → Co Fl :=
  (sq (ifs (tst (dinI false (sl 1) (b1 (fldD "Weaving" "work") (sl 0)))) (sq (drp (mtC "Weaving" "step" c_Weaving_step (sl 0) (ac (sl 1) ac0)))
    skp) (sq (ifs (tst (b2 (eqD false) (sl 1) (b1 (fldD "Weaving" "entered") (sl 0)))) (sq (drp (mtC "Weaving" "enter" c_Weaving_enter (sl 0) (ac (b2 ixD (b1 (fldD "Weaving" "deeds") (sl 0)) (sl 1)) ac0)))
    skp) skp)
    skp))
    skp)
def F_Weaving_turn : Nat → List Dv → Co Dv
  | 0 => fun _ => fl
  | n + 1 => defF 2 2 (b_Weaving_turn (F_Weaving_step n) (F_Weaving_enter n))
def b_closed (c_closed : List Dv → Co Dv) : Slots → Co Fl :=
  (sq (ret (iff (tst (b1 (isN false) (sl 0))) (kk .none) (tup (ac (b1 (fldD "Place" "key") (sl 0)) (ac (cB c_closed (ac (b1 (fldD "Place" "left") (sl 0)) ac0)) (ac (cB c_closed (ac (b1 (fldD "Place" "right") (sl 0)) ac0)) ac0))))))
    skp)
def F_closed : Nat → List Dv → Co Dv
  | 0 => fun _ => fl
  | n + 1 => defF 1 1 (b_closed (F_closed n))
def b_woven (c_closed : List Dv → Co Dv) (c_Weaving_step : List Dv → Co Dv) (c_Weaving_turn : List Dv → Co Dv) (c_is_in : List Dv → Co Dv) (c_Weaving_init : List Dv → Co Dv) (c_need_deeds : List Dv → Co Dv) (c_need_heap : List Dv → Co Dv) : Slots → Co Fl :=
  (sq (drp (cB (pureC c_need_heap) (ac (sl 0) ac0)))
    (sq (drp (cB (pureC c_need_deeds) (ac (sl 0) (ac (sl 1) ac0))))
    (sq (ifs (tor (tnt (trV (isi "tuple" (sl 2)))) (tst (b2 gtD (cB lenD (ac (sl 2) ac0)) (kk (.int 2000))))) (sq nvr
    skp) skp)
    (sq (asg (mkC "Weaving" c_Weaving_init (ac (sl 0) (ac (sl 1) ac0))) (tN 3))
    (sq (forX (srcE (ac (sl 2) ac0)) (tT 2 (tC (tN 4) (tC (tN 5) tZ))) (sq (ifs (tnt (trV (cB (pureC c_is_in) (ac (sl 5) (ac (kk (.int 0)) (ac (cB min2D (ac (b1 (fldD "Weaving" "entered") (sl 3)) (ac (b2 subD (cB lenD (ac (sl 1) ac0)) (kk (.int 1))) ac0))) ac0)))))) (sq nvr
    skp) skp)
    (sq (drp (mtC "Weaving" "turn" c_Weaving_turn (sl 3) (ac (sl 5) ac0)))
    skp)))
    (sq (asg (cB lenD (ac (b1 (fldD "Weaving" "work") (sl 3)) ac0)) (tN 6))
    (sq (whl (trV (b1 (fldD "Weaving" "work") (sl 3))) (sq (drp (mtC "Weaving" "step" c_Weaving_step (sl 3) (ac (cB mnD (ac (b1 (fldD "Weaving" "work") (sl 3)) ac0)) ac0)))
    skp) 1000)
    (sq (ret (tup (ac (cB c_closed (ac (b1 (fldD "Weaving" "top") (sl 3)) ac0)) (ac (cB tupL (ac (b1 (fldD "Weaving" "taken") (sl 3)) ac0)) (ac (sl 6) ac0)))))
    skp))))))))
def F_woven : Nat → List Dv → Co Dv
  | 0 => fun _ => fl
  | 1 => fun _ => fl
  | n + 2 => defF 7 3 (b_woven (F_closed n) (F_Weaving_step n) (F_Weaving_turn n) (F_is_in n) (F_Weaving_init n) (F_need_deeds n) (F_need_heap n))
def law_s0 (c_q_alike : List Dv → Co Dv) (c_woven : List Dv → Co Dv) (c_q_step : List Dv → Co Dv) (c_q_taken : List Dv → Co Dv) (c_q_enter : List Dv → Co Dv) (c_q_keys : List Dv → Co Dv) (c_q_pick : List Dv → Co Dv) (c_q_any : List Dv → Co Dv) (c_q_order : List Dv → Co Dv) : Slots → Co Fl :=
  (asg (lstR (ac (sl 0) (ac (kk (.int 0)) (ac (kk (.int 14507)) (ac (kk (.int 0)) ac0))))) (tN 1))
def law_s1 (c_q_alike : List Dv → Co Dv) (c_woven : List Dv → Co Dv) (c_q_step : List Dv → Co Dv) (c_q_taken : List Dv → Co Dv) (c_q_enter : List Dv → Co Dv) (c_q_keys : List Dv → Co Dv) (c_q_pick : List Dv → Co Dv) (c_q_any : List Dv → Co Dv) (c_q_order : List Dv → Co Dv) : Slots → Co Fl :=
  (par2 2 3 (ac (cB c_q_any (ac (sl 1) (ac (cB srtX (ac (cB c_q_order (ac (sl 1) (ac (kk (.int 10)) ac0))) ac0)) ac0))) (ac (tup ac0) ac0)))
def law_s2 (c_q_alike : List Dv → Co Dv) (c_woven : List Dv → Co Dv) (c_q_step : List Dv → Co Dv) (c_q_taken : List Dv → Co Dv) (c_q_enter : List Dv → Co Dv) (c_q_keys : List Dv → Co Dv) (c_q_pick : List Dv → Co Dv) (c_q_any : List Dv → Co Dv) (c_q_order : List Dv → Co Dv) : Slots → Co Fl :=
  (forX (srcR1 (ac (cB c_q_taken (ac (sl 1) (ac (kk (.int 9)) ac0))) ac0)) (tN 4) (sq (asg (b2 addD (sl 3) (iff (tst (b2 (eqD false) (cB c_q_taken (ac (sl 1) (ac (kk (.int 3)) ac0))) (kk (.int 0)))) (tup (ac (tup (ac (kk (.str "take")) ac0)) ac0)) (tup (ac (tup (ac (kk (.str "put")) (ac (cB c_q_pick (ac (sl 1) (ac (lstG (ac (b2 addD (sl 4) (kk (.int 60))) (ac (b2 subD (b1 ngD (kk (.int 20))) (sl 4)) (ac (b2 subD (b2 mulD (kk (.int 3)) (sl 4)) (kk (.int 3))) ac0)))) ac0))) ac0))) ac0)))) (tN 3))
    skp))
def law_s3 (c_q_alike : List Dv → Co Dv) (c_woven : List Dv → Co Dv) (c_q_step : List Dv → Co Dv) (c_q_taken : List Dv → Co Dv) (c_q_enter : List Dv → Co Dv) (c_q_keys : List Dv → Co Dv) (c_q_pick : List Dv → Co Dv) (c_q_any : List Dv → Co Dv) (c_q_order : List Dv → Co Dv) : Slots → Co Fl :=
  (par2 5 6 (ac (cB (pureC c_q_keys) (ac (sl 2) ac0)) (ac (tup ac0) ac0)))
def law_s4 (c_q_alike : List Dv → Co Dv) (c_woven : List Dv → Co Dv) (c_q_step : List Dv → Co Dv) (c_q_taken : List Dv → Co Dv) (c_q_enter : List Dv → Co Dv) (c_q_keys : List Dv → Co Dv) (c_q_pick : List Dv → Co Dv) (c_q_any : List Dv → Co Dv) (c_q_order : List Dv → Co Dv) : Slots → Co Fl :=
  (forX (srcS (sl 3)) (tN 7) (sq (ifs (tor (tst (b2 (eqD false) (b2 ixD (sl 7) (kk (.int 0))) (kk (.str "take")))) (tst (b2 (inD true) (b2 ixD (sl 7) (kk (.int 1))) (sl 5)))) (sq (par2 6 5 (ac (b2 addD (sl 6) (tup (ac (sl 7) ac0))) (ac (b2 addD (sl 5) (iff (tst (b2 (eqD false) (b2 ixD (sl 7) (kk (.int 0))) (kk (.str "put")))) (lstG (ac (b2 ixD (sl 7) (kk (.int 1))) ac0)) (lstG ac0))) ac0)))
    skp) skp)
    skp))
def law_s5 (c_q_alike : List Dv → Co Dv) (c_woven : List Dv → Co Dv) (c_q_step : List Dv → Co Dv) (c_q_taken : List Dv → Co Dv) (c_q_enter : List Dv → Co Dv) (c_q_keys : List Dv → Co Dv) (c_q_pick : List Dv → Co Dv) (c_q_any : List Dv → Co Dv) (c_q_order : List Dv → Co Dv) : Slots → Co Fl :=
  (asg (sl 6) (tN 3))
def law_s6 (c_q_alike : List Dv → Co Dv) (c_woven : List Dv → Co Dv) (c_q_step : List Dv → Co Dv) (c_q_taken : List Dv → Co Dv) (c_q_enter : List Dv → Co Dv) (c_q_keys : List Dv → Co Dv) (c_q_pick : List Dv → Co Dv) (c_q_any : List Dv → Co Dv) (c_q_order : List Dv → Co Dv) : Slots → Co Fl :=
  (par2 8 9 (ac (lstR (ac (sl 2) (ac (kk (.int 0)) (ac (fun _ => newD []) (ac (lstR ac0) (ac (kk (.int 0)) ac0)))))) (ac (tup ac0) ac0)))
def law_s7 (c_q_alike : List Dv → Co Dv) (c_woven : List Dv → Co Dv) (c_q_step : List Dv → Co Dv) (c_q_taken : List Dv → Co Dv) (c_q_enter : List Dv → Co Dv) (c_q_keys : List Dv → Co Dv) (c_q_pick : List Dv → Co Dv) (c_q_any : List Dv → Co Dv) (c_q_order : List Dv → Co Dv) : Slots → Co Fl :=
  (forX (srcR1 (ac (iff (tst (b2 (eqD true) (sl 3) (tup ac0))) (cB c_q_taken (ac (sl 1) (ac (kk (.int 40)) ac0))) (kk (.int 0))) ac0)) (tN 10) (sq (asg (iff (tst (b2 (eqD false) (cB c_q_taken (ac (sl 1) (ac (kk (.int 2)) ac0))) (kk (.int 0)))) (cB c_q_taken (ac (sl 1) (ac (b2 addD (cB min2D (ac (b2 ixD (sl 8) (kk (.int 1))) (ac (b2 subD (cB lenD (ac (sl 3) ac0)) (kk (.int 1))) ac0))) (kk (.int 1))) ac0))) (cB min2D (ac (b2 ixD (sl 8) (kk (.int 1))) (ac (b2 subD (cB lenD (ac (sl 3) ac0)) (kk (.int 1))) ac0)))) (tN 11))
    (sq (asg (b2 addD (sl 9) (tup (ac (sl 11) ac0))) (tN 9))
    (sq (ifs (tst (dinI false (sl 11) (b2 ixD (sl 8) (kk (.int 2))))) (sq (drp (cB c_q_step (ac (sl 8) (ac (sl 11) ac0))))
    skp) (sq (ifs (tst (b2 (eqD false) (sl 11) (b2 ixD (sl 8) (kk (.int 1))))) (sq (drp (cB c_q_enter (ac (sl 8) (ac (b2 ixD (sl 3) (sl 11)) ac0))))
    skp) skp)
    skp))
    skp))))
def law_s8 (c_q_alike : List Dv → Co Dv) (c_woven : List Dv → Co Dv) (c_q_step : List Dv → Co Dv) (c_q_taken : List Dv → Co Dv) (c_q_enter : List Dv → Co Dv) (c_q_keys : List Dv → Co Dv) (c_q_pick : List Dv → Co Dv) (c_q_any : List Dv → Co Dv) (c_q_order : List Dv → Co Dv) : Slots → Co Fl :=
  (asg (cB lenD (ac (b2 ixD (sl 8) (kk (.int 2))) ac0)) (tN 12))
def law_s9 (c_q_alike : List Dv → Co Dv) (c_woven : List Dv → Co Dv) (c_q_step : List Dv → Co Dv) (c_q_taken : List Dv → Co Dv) (c_q_enter : List Dv → Co Dv) (c_q_keys : List Dv → Co Dv) (c_q_pick : List Dv → Co Dv) (c_q_any : List Dv → Co Dv) (c_q_order : List Dv → Co Dv) : Slots → Co Fl :=
  (forX (srcR1 (ac (kk (.int 400)) ac0)) (tN 10) (sq (ifs (tst (b2 (eqD true) (cB lstX (ac (b2 ixD (sl 8) (kk (.int 2))) ac0)) (lstG ac0))) (sq (drp (cB c_q_step (ac (sl 8) (ac (cB (mxL minI) (ac (cB lstX (ac (b2 ixD (sl 8) (kk (.int 2))) ac0)) ac0)) ac0))))
    skp) skp)
    skp))
def law_s10 (c_q_alike : List Dv → Co Dv) (c_woven : List Dv → Co Dv) (c_q_step : List Dv → Co Dv) (c_q_taken : List Dv → Co Dv) (c_q_enter : List Dv → Co Dv) (c_q_keys : List Dv → Co Dv) (c_q_pick : List Dv → Co Dv) (c_q_any : List Dv → Co Dv) (c_q_order : List Dv → Co Dv) : Slots → Co Fl :=
  (ret (cB (pureC c_q_alike) (ac (cB (pureC c_woven) (ac (sl 2) (ac (sl 3) (ac (sl 9) ac0)))) (ac (tup (ac (b2 ixD (sl 8) (kk (.int 0))) (ac (cB tupL (ac (b2 ixD (sl 8) (kk (.int 3))) ac0)) (ac (sl 12) ac0)))) ac0))))
def b_law (c_q_alike : List Dv → Co Dv) (c_woven : List Dv → Co Dv) (c_q_step : List Dv → Co Dv) (c_q_taken : List Dv → Co Dv) (c_q_enter : List Dv → Co Dv) (c_q_keys : List Dv → Co Dv) (c_q_pick : List Dv → Co Dv) (c_q_any : List Dv → Co Dv) (c_q_order : List Dv → Co Dv) : Slots → Co Fl :=
  (sq (law_s0 c_q_alike c_woven c_q_step c_q_taken c_q_enter c_q_keys c_q_pick c_q_any c_q_order) (sq (law_s1 c_q_alike c_woven c_q_step c_q_taken c_q_enter c_q_keys c_q_pick c_q_any c_q_order) (sq (law_s2 c_q_alike c_woven c_q_step c_q_taken c_q_enter c_q_keys c_q_pick c_q_any c_q_order) (sq (law_s3 c_q_alike c_woven c_q_step c_q_taken c_q_enter c_q_keys c_q_pick c_q_any c_q_order) (sq (law_s4 c_q_alike c_woven c_q_step c_q_taken c_q_enter c_q_keys c_q_pick c_q_any c_q_order) (sq (law_s5 c_q_alike c_woven c_q_step c_q_taken c_q_enter c_q_keys c_q_pick c_q_any c_q_order) (sq (law_s6 c_q_alike c_woven c_q_step c_q_taken c_q_enter c_q_keys c_q_pick c_q_any c_q_order) (sq (law_s7 c_q_alike c_woven c_q_step c_q_taken c_q_enter c_q_keys c_q_pick c_q_any c_q_order) (sq (law_s8 c_q_alike c_woven c_q_step c_q_taken c_q_enter c_q_keys c_q_pick c_q_any c_q_order) (sq (law_s9 c_q_alike c_woven c_q_step c_q_taken c_q_enter c_q_keys c_q_pick c_q_any c_q_order) (sq (law_s10 c_q_alike c_woven c_q_step c_q_taken c_q_enter c_q_keys c_q_pick c_q_any c_q_order) skp)))))))))))
def F_law : Nat → List Dv → Co Dv
  | 0 => fun _ => fl
  | n + 1 => defF 13 1 (b_law (F_q_alike n) (F_woven n) (F_q_step n) (F_q_taken n) (F_q_enter n) (F_q_keys n) (F_q_pick n) (F_q_any n) (F_q_order n))
abbrev lw10 (n : Nat) : Slots → Co Fl := law_s10 (F_q_alike n) (F_woven n) (F_q_step n) (F_q_taken n) (F_q_enter n) (F_q_keys n) (F_q_pick n) (F_q_any n) (F_q_order n)
abbrev lw9 (n : Nat) : Slots → Co Fl := law_s9 (F_q_alike n) (F_woven n) (F_q_step n) (F_q_taken n) (F_q_enter n) (F_q_keys n) (F_q_pick n) (F_q_any n) (F_q_order n)
abbrev lw8 (n : Nat) : Slots → Co Fl := law_s8 (F_q_alike n) (F_woven n) (F_q_step n) (F_q_taken n) (F_q_enter n) (F_q_keys n) (F_q_pick n) (F_q_any n) (F_q_order n)
abbrev lw7 (n : Nat) : Slots → Co Fl := law_s7 (F_q_alike n) (F_woven n) (F_q_step n) (F_q_taken n) (F_q_enter n) (F_q_keys n) (F_q_pick n) (F_q_any n) (F_q_order n)
abbrev lw6 (n : Nat) : Slots → Co Fl := law_s6 (F_q_alike n) (F_woven n) (F_q_step n) (F_q_taken n) (F_q_enter n) (F_q_keys n) (F_q_pick n) (F_q_any n) (F_q_order n)
abbrev lw5 (n : Nat) : Slots → Co Fl := law_s5 (F_q_alike n) (F_woven n) (F_q_step n) (F_q_taken n) (F_q_enter n) (F_q_keys n) (F_q_pick n) (F_q_any n) (F_q_order n)
abbrev lw4 (n : Nat) : Slots → Co Fl := law_s4 (F_q_alike n) (F_woven n) (F_q_step n) (F_q_taken n) (F_q_enter n) (F_q_keys n) (F_q_pick n) (F_q_any n) (F_q_order n)
abbrev lw3 (n : Nat) : Slots → Co Fl := law_s3 (F_q_alike n) (F_woven n) (F_q_step n) (F_q_taken n) (F_q_enter n) (F_q_keys n) (F_q_pick n) (F_q_any n) (F_q_order n)
abbrev lw2 (n : Nat) : Slots → Co Fl := law_s2 (F_q_alike n) (F_woven n) (F_q_step n) (F_q_taken n) (F_q_enter n) (F_q_keys n) (F_q_pick n) (F_q_any n) (F_q_order n)
abbrev lw1 (n : Nat) : Slots → Co Fl := law_s1 (F_q_alike n) (F_woven n) (F_q_step n) (F_q_taken n) (F_q_enter n) (F_q_keys n) (F_q_pick n) (F_q_any n) (F_q_order n)
abbrev lw0 (n : Nat) : Slots → Co Fl := law_s0 (F_q_alike n) (F_woven n) (F_q_step n) (F_q_taken n) (F_q_enter n) (F_q_keys n) (F_q_pick n) (F_q_any n) (F_q_order n)
theorem F_law_eq (n : Nat) : F_law (n + 1) = defF 13 1 (sq (lw0 n) (sq (lw1 n) (sq (lw2 n) (sq (lw3 n) (sq (lw4 n) (sq (lw5 n) (sq (lw6 n) (sq (lw7 n) (sq (lw8 n) (sq (lw9 n) (sq (lw10 n) skp))))))))))) := rfl
abbrev s_q_taken : Stmt := top 27
abbrev s_q_any : Stmt := top 35
abbrev s_q_pick : Stmt := top 28
abbrev s_q_order : Stmt := top 33
abbrev s_q_keys : Stmt := top 32
abbrev s_q_is_hole : Stmt := top 39
abbrev s_q_put_in : Stmt := top 38
abbrev s_q_fill : Stmt := top 40
abbrev s_q_step : Stmt := top 41
abbrev s_q_enter : Stmt := top 42
abbrev s_q_alike : Stmt := top 29
abbrev s_is_in : Stmt := top 8
abbrev s_is_key : Stmt := top 9
abbrev s_has_form : Stmt := top 10
abbrev s_key_list : Stmt := top 11
abbrev s_is_heap : Stmt := top 12
abbrev s_need_heap : Stmt := top 13
abbrev s_is_deed : Stmt := top 23
abbrev s_need_deeds : Stmt := top 24
abbrev s_Place_init : Stmt := (clsBody (top 17)).getD 0 (.Pass ⟨0, 0, 0, 0⟩)
abbrev s_opened : Stmt := top 21
abbrev s_Weaving_init : Stmt := (clsBody (top 18)).getD 0 (.Pass ⟨0, 0, 0, 0⟩)
abbrev s_is_hole : Stmt := top 19
abbrev s_laid : Stmt := top 20
abbrev s_Weaving_fill : Stmt := (clsBody (top 18)).getD 6 (.Pass ⟨0, 0, 0, 0⟩)
abbrev s_Weaving_hole : Stmt := (clsBody (top 18)).getD 3 (.Pass ⟨0, 0, 0, 0⟩)
abbrev s_Weaving_step : Stmt := (clsBody (top 18)).getD 5 (.Pass ⟨0, 0, 0, 0⟩)
abbrev s_Weaving_begin : Stmt := (clsBody (top 18)).getD 4 (.Pass ⟨0, 0, 0, 0⟩)
abbrev s_Weaving_enter : Stmt := (clsBody (top 18)).getD 2 (.Pass ⟨0, 0, 0, 0⟩)
abbrev s_Weaving_turn : Stmt := (clsBody (top 18)).getD 1 (.Pass ⟨0, 0, 0, 0⟩)
abbrev s_closed : Stmt := top 22
abbrev s_woven : Stmt := top 25
abbrev s_law : Stmt := top 43
def d0_q_taken : He.DefD := ⟨("_law_taken", none), "_law_taken", "_law_taken", defArgs s_q_taken, defBody s_q_taken, defScope s_q_taken, [], []⟩
def d0_q_any : He.DefD := ⟨("_law_any", none), "_law_any", "_law_any", defArgs s_q_any, defBody s_q_any, defScope s_q_any, [], []⟩
def d0_q_pick : He.DefD := ⟨("_law_pick", none), "_law_pick", "_law_pick", defArgs s_q_pick, defBody s_q_pick, defScope s_q_pick, [], []⟩
def d0_q_order : He.DefD := ⟨("_law_order", none), "_law_order", "_law_order", defArgs s_q_order, defBody s_q_order, defScope s_q_order, [], []⟩
def d0_q_keys : He.DefD := ⟨("_law_keys", none), "_law_keys", "_law_keys", defArgs s_q_keys, defBody s_q_keys, defScope s_q_keys, [], []⟩
def d0_q_is_hole : He.DefD := ⟨("_law_is_hole", none), "_law_is_hole", "_law_is_hole", defArgs s_q_is_hole, defBody s_q_is_hole, defScope s_q_is_hole, [], []⟩
def d0_q_put_in : He.DefD := ⟨("_law_put_in", none), "_law_put_in", "_law_put_in", defArgs s_q_put_in, defBody s_q_put_in, defScope s_q_put_in, [], []⟩
def d0_q_fill : He.DefD := ⟨("_law_fill", none), "_law_fill", "_law_fill", defArgs s_q_fill, defBody s_q_fill, defScope s_q_fill, [], []⟩
def d0_q_step : He.DefD := ⟨("_law_step", none), "_law_step", "_law_step", defArgs s_q_step, defBody s_q_step, defScope s_q_step, [], []⟩
def d0_q_enter : He.DefD := ⟨("_law_enter", none), "_law_enter", "_law_enter", defArgs s_q_enter, defBody s_q_enter, defScope s_q_enter, [], []⟩
def d0_q_alike : He.DefD := ⟨("_law_alike", none), "_law_alike", "_law_alike", defArgs s_q_alike, defBody s_q_alike, defScope s_q_alike, [], []⟩
def d0_is_in : He.DefD := ⟨("is_in", none), "is_in", "is_in", defArgs s_is_in, defBody s_is_in, defScope s_is_in, [], []⟩
def d0_is_key : He.DefD := ⟨("is_key", none), "is_key", "is_key", defArgs s_is_key, defBody s_is_key, defScope s_is_key, [], []⟩
def d0_has_form : He.DefD := ⟨("has_form", none), "has_form", "has_form", defArgs s_has_form, defBody s_has_form, defScope s_has_form, [], []⟩
def d0_key_list : He.DefD := ⟨("key_list", none), "key_list", "key_list", defArgs s_key_list, defBody s_key_list, defScope s_key_list, [], []⟩
def d0_is_heap : He.DefD := ⟨("is_heap", none), "is_heap", "is_heap", defArgs s_is_heap, defBody s_is_heap, defScope s_is_heap, [], []⟩
def d0_need_heap : He.DefD := ⟨("need_heap", none), "need_heap", "need_heap", defArgs s_need_heap, defBody s_need_heap, defScope s_need_heap, [], []⟩
def d0_is_deed : He.DefD := ⟨("is_deed", none), "is_deed", "is_deed", defArgs s_is_deed, defBody s_is_deed, defScope s_is_deed, [], []⟩
def d0_need_deeds : He.DefD := ⟨("need_deeds", none), "need_deeds", "need_deeds", defArgs s_need_deeds, defBody s_need_deeds, defScope s_need_deeds, [], []⟩
def d0_Place_init : He.DefD := ⟨("Place", some "__init__"), "__init__", "Place.__init__", defArgs s_Place_init, defBody s_Place_init, defScope s_Place_init, [], []⟩
def d0_opened : He.DefD := ⟨("opened", none), "opened", "opened", defArgs s_opened, defBody s_opened, defScope s_opened, [], []⟩
def d0_Weaving_init : He.DefD := ⟨("Weaving", some "__init__"), "__init__", "Weaving.__init__", defArgs s_Weaving_init, defBody s_Weaving_init, defScope s_Weaving_init, [], []⟩
def d0_is_hole : He.DefD := ⟨("is_hole", none), "is_hole", "is_hole", defArgs s_is_hole, defBody s_is_hole, defScope s_is_hole, [], []⟩
def d0_laid : He.DefD := ⟨("laid", none), "laid", "laid", defArgs s_laid, defBody s_laid, defScope s_laid, [], []⟩
def d0_Weaving_fill : He.DefD := ⟨("Weaving", some "fill"), "fill", "Weaving.fill", defArgs s_Weaving_fill, defBody s_Weaving_fill, defScope s_Weaving_fill, [], []⟩
def d0_Weaving_hole : He.DefD := ⟨("Weaving", some "hole"), "hole", "Weaving.hole", defArgs s_Weaving_hole, defBody s_Weaving_hole, defScope s_Weaving_hole, [], []⟩
def d0_Weaving_step : He.DefD := ⟨("Weaving", some "step"), "step", "Weaving.step", defArgs s_Weaving_step, defBody s_Weaving_step, defScope s_Weaving_step, [], []⟩
def d0_Weaving_begin : He.DefD := ⟨("Weaving", some "begin"), "begin", "Weaving.begin", defArgs s_Weaving_begin, defBody s_Weaving_begin, defScope s_Weaving_begin, [], []⟩
def d0_Weaving_enter : He.DefD := ⟨("Weaving", some "enter"), "enter", "Weaving.enter", defArgs s_Weaving_enter, defBody s_Weaving_enter, defScope s_Weaving_enter, [], []⟩
def d0_Weaving_turn : He.DefD := ⟨("Weaving", some "turn"), "turn", "Weaving.turn", defArgs s_Weaving_turn, defBody s_Weaving_turn, defScope s_Weaving_turn, [], []⟩
def d0_closed : He.DefD := ⟨("closed", none), "closed", "closed", defArgs s_closed, defBody s_closed, defScope s_closed, [], []⟩
def d0_woven : He.DefD := ⟨("woven", none), "woven", "woven", defArgs s_woven, defBody s_woven, defScope s_woven, [], []⟩
def d0_law : He.DefD := ⟨("law", none), "law", "law", defArgs s_law, defBody s_law, defScope s_law, [], []⟩
def fn : List He.DefD := [d0_q_taken, d0_q_any, d0_q_pick, d0_q_order, d0_q_keys, d0_q_is_hole, d0_q_put_in, d0_q_fill, d0_q_step, d0_q_enter, d0_q_alike, d0_is_in, d0_is_key, d0_has_form, d0_key_list, d0_is_heap, d0_need_heap, d0_is_deed, d0_need_deeds, d0_Place_init, d0_opened, d0_Weaving_init, d0_is_hole, d0_laid, d0_Weaving_fill, d0_Weaving_hole, d0_Weaving_step, d0_Weaving_begin, d0_Weaving_enter, d0_Weaving_turn, d0_closed, d0_woven, d0_law]
def fa : List He.Fa := [.free "int", .free "len", .free "range", .free "list", .free "bool", .free "isinstance", .free "str", .free "tuple", .int "MOST_KEY" 1000000, .free "set", .int "MOST_KEYS" 200, .free "enumerate", .int "MOST_WOVEN" 40, .glo "Place", .cls "Place", .noat "Place" "right", .noat "Place" "left", .noat "Place" "mark", .noat "Place" "key", .glo "Weaving", .cls "Weaving", .noat "Weaving" "marks", .noat "Weaving" "taken", .noat "Weaving" "work", .noat "Weaving" "entered", .noat "Weaving" "deeds", .noat "Weaving" "top", .free "min", .int "MOST_TURNS" 2000, .free "sorted", .glo "_law_taken", .glo "_law_any", .glo "_law_pick", .glo "_law_order", .glo "_law_keys", .glo "_law_is_hole", .glo "_law_put_in", .glo "_law_fill", .glo "_law_step", .glo "_law_enter", .glo "_law_alike", .glo "is_in", .glo "is_key", .glo "has_form", .glo "key_list", .glo "is_heap", .glo "need_heap", .glo "is_deed", .glo "need_deeds", .mkr "Place", .glo "opened", .mkr "Weaving", .glo "is_hole", .glo "laid", .meth "Weaving" "fill", .meth "Weaving" "hole", .meth "Weaving" "step", .meth "Weaving" "begin", .meth "Weaving" "enter", .meth "Weaving" "turn", .glo "closed", .glo "woven", .glo "law"]
section
variable {P : Program} {w : World} {base : Heap} {G : Gx}
theorem sc_q_taken : FnScope ["_law_row", "_law_many", "_law_found", "_law_cell"] ["_law_row", "_law_many"] (defScope s_q_taken) := ⟨rfl, rfl, rfl, by decide +kernel, rfl, by decide +kernel, by decide +kernel⟩
theorem ok_q_taken (T : Tx fa fn G) : ∀ n, Dok P w base CX0 G "_law_taken" ["_law_row", "_law_many"] n (F_q_taken n) :=
  dok_mk rfl (fun _ => rfl) (T.says.def_ 0 (d := d0_q_taken) rfl) (T.glo 30) sc_q_taken (fun _ _ _ _ _ _ us hl => match us, hl with | [_, _], _ => rfl) fun n d0 cdv A outer s H E hr => by
    have hN := sc_q_taken.nd
    have hU := hr.u200
    have hu1 := hr.u1
    exact (xs1 (xifs (xtcmp op_gt os_gt (xix rfl (xv 0) xint) xint) (xs1 (xset 2 hN (xbin op_mod os_mod (xct call_int1 cs_int (by rfl) (T.free 0) rfl (xa1 (xix rfl (xv 0) xint) xa0)) (xv 1)))
    (xs1 (xasg (xbin op_fdivW os_fdiv (xix rfl (xv 0) xint) (xv 1)) (xgsub hu1 (xv 0) xint))
    (xs1 (xret (xv 2))
    xs0))) xs0)
    (xs1 (xasg (xbinF op_addX of_add (xix rfl (xv 0) xint) xint) (xgsub hu1 (xv 0) xint))
    (xs1 (xifs (xtcmp op_gt os_gt (xix rfl (xv 0) xint) (xcb cr_lenX cs_len (by rfl) (T.free 1) rfl (xa1 (xix rfl (xv 0) xint) xa0))) (xs1 (xasg (xbin op_mod os_mod (xct call_int1 cs_int (by rfl) (T.free 0) rfl (xa1 (xbinF op_addX of_add (xbin op_mulY os_mul (xix rfl (xv 0) xint) xint) xint) xa0)) xint) (xgsub hu1 (xv 0) xint))
    (xs1 (xret (xbin op_mod os_mod (xct call_int1 cs_int (by rfl) (T.free 0) rfl (xa1 (xbin op_fdivW os_fdiv (xix rfl (xv 0) xint) xint) xa0)) (xv 1)))
    xs0)) xs0)
    (xs1 (xset 3 hN (xix rfl (xix rfl (xv 0) xint) (xbin op_sub os_sub (xix rfl (xv 0) xint) xint)))
    (xs1 (xasg (xbin op_mod os_mod (xct call_int1 cs_int (by rfl) (T.free 0) rfl (xa1 (xbinF op_addX of_add (xbinF op_addX of_add (xbin op_mulY os_mul (xix rfl (xv 0) xint) xint) (xv 3)) xint) xa0)) xint) (xgsub hu1 (xv 0) xint))
    (xs1 (xifs (xtcmp op_ge os_ge (xv 3) (xbin op_pow os_pow xint xint)) (xs1 (xasg (xbin op_fdivW os_fdiv (xv 3) (xv 1)) (xgsub hu1 (xv 0) xint))
    xs0) xs0)
    (xs1 (xret (xbin op_mod os_mod (xct call_int1 cs_int (by rfl) (T.free 0) rfl (xa1 (xv 3) xa0)) (xv 1)))
    xs0)))))))

theorem sc_q_any : FnScope ["_law_row", "_law_some", "_law_left", "_law_right", "_law_key"] ["_law_row", "_law_some"] (defScope s_q_any) := ⟨rfl, rfl, rfl, by decide +kernel, rfl, by decide +kernel, by decide +kernel⟩
theorem ok_q_any (T : Tx fa fn G) (d_q_taken : ∀ n, Dok P w base CX0 G "_law_taken" ["_law_row", "_law_many"] n (F_q_taken n)) : ∀ n, Dok P w base CX0 G "_law_any" ["_law_row", "_law_some"] n (F_q_any n) :=
  dok_mk rfl (fun _ => rfl) (T.says.def_ 1 (d := d0_q_any) rfl) (T.glo 31) sc_q_any (fun _ _ _ _ _ _ us hl => match us, hl with | [_, _], _ => rfl) fun n d0 cdv A outer s H E hr => by
    have hN := sc_q_any.nd
    have d_q_any : ∀ _ : Nat, Dok P w base CX0 G "_law_any" ["_law_row", "_law_some"] n (F_q_any n) := fun _ => d0
    have hU := hr.u200
    have hu1 := hr.u1
    exact (xs1 (xifs (xtcmp op_eqX (os_eq hU) (xv 1) (xlstG xa0)) (xs1 (xret xnon)
    xs0) xs0)
    (xs1 (xpar (i := 2) (j := 3) rfl hN (xa1 (xlstR xa0) (xa1 (xlstR xa0) xa0)))
    (xs1 (xfor .never rfl (xis rfl (xslc rfl (xv 1) (xpo1 xint) xpo0)) (xgn 4 hN) (xs1 (xifs (xtcmp op_eqX (os_eq hU) (xcW (d_q_taken n) rfl rfl hr px0 (xa1 (xv 0) (xa1 xint xa0))) xint) (xs1 (xexp (xapp (xv 2) (xv 4)))
    xs0) (xs1 (xexp (xapp (xv 3) (xv 4)))
    xs0))
    xs0))
    (xs1 (xret (xtup (xa1 (xix rfl (xv 1) xint) (xa1 (xcW (d_q_any n) rfl rfl hr px0 (xa1 (xv 0) (xa1 (xv 2) xa0))) (xa1 (xcW (d_q_any n) rfl rfl hr px0 (xa1 (xv 0) (xa1 (xv 3) xa0))) xa0)))))
    xs0))))

theorem sc_q_pick : FnScope ["_law_row", "_law_things"] ["_law_row", "_law_things"] (defScope s_q_pick) := ⟨rfl, rfl, rfl, by decide +kernel, rfl, by decide +kernel, by decide +kernel⟩
theorem ok_q_pick (T : Tx fa fn G) (d_q_taken : ∀ n, Dok P w base CX0 G "_law_taken" ["_law_row", "_law_many"] n (F_q_taken n)) : ∀ n, Dok P w base CX0 G "_law_pick" ["_law_row", "_law_things"] n (F_q_pick n) :=
  dok_mk rfl (fun _ => rfl) (T.says.def_ 2 (d := d0_q_pick) rfl) (T.glo 32) sc_q_pick (fun _ _ _ _ _ _ us hl => match us, hl with | [_, _], _ => rfl) fun n d0 cdv A outer s H E hr => by
    have hN := sc_q_pick.nd
    have hU := hr.u200
    have hu1 := hr.u1
    exact (xs1 (xret (xix rfl (xv 1) (xcW (d_q_taken n) rfl rfl hr px0 (xa1 (xv 0) (xa1 (xcb cr_lenX cs_len (by rfl) (T.free 1) rfl (xa1 (xv 1) xa0)) xa0)))))
    xs0)

theorem sc_q_order : FnScope ["_law_row", "_law_most", "_law_many", "_law_found", "_law_left", "_law_turn", "_law_key", "_law_k", "_law_one"] ["_law_row", "_law_most"] (defScope s_q_order) := ⟨rfl, rfl, rfl, by decide +kernel, rfl, by decide +kernel, by decide +kernel⟩
theorem ok_q_order (T : Tx fa fn G) (d_q_pick : ∀ n, Dok P w base CX0 G "_law_pick" ["_law_row", "_law_things"] n (F_q_pick n)) (d_q_taken : ∀ n, Dok P w base CX0 G "_law_taken" ["_law_row", "_law_many"] n (F_q_taken n)) : ∀ n, Dok P w base CX0 G "_law_order" ["_law_row", "_law_most"] n (F_q_order n) :=
  dok_mk rfl (fun _ => rfl) (T.says.def_ 3 (d := d0_q_order) rfl) (T.glo 33) sc_q_order (fun _ _ _ _ _ _ us hl => match us, hl with | [_, _], _ => rfl) fun n d0 cdv A outer s H E hr => by
    have hN := sc_q_order.nd
    have hU := hr.u200
    have hu1 := hr.u1
    exact (xs1 (xpar (i := 2) (j := 3) rfl hN (xa1 (xcW (d_q_taken n) rfl rfl hr px0 (xa1 (xv 0) (xa1 (xbinF op_addX of_add (xv 1) xint) xa0))) (xa1 (xtup xa0) xa0)))
    (xs1 (xsetlc (own := [("_law_k", 7)]) rfl hN rfl rfl (sw_true rfl rfl rfl (by decide +kernel)) (xir1 (xa1 (xv 2) xa0) (by rfl) (T.free 2)) (blk_ok (by rfl)) (tg_n (i := 7) (by decide)) pt_0 (fun _ _ _ _ _ => pg_name (i := 7) hN rfl (Or.inl rfl)) (fun _ _ _ _ _ => pts_nil) (fun _ _ _ _ _ => (xbin op_sub os_sub (xbin op_mulY os_mul xint (xv 7)) xint)))
    (xs1 (xfor .never rfl (xir1 (xa1 (xv 2) xa0) (by rfl) (T.free 2)) (xgn 5 hN) (xs1 (xset 6 hN (xcW (d_q_pick n) rfl rfl hr px0 (xa1 (xv 0) (xa1 (xv 4) xa0))))
    (xs1 (xpar (i := 3) (j := 4) rfl hN (xa1 (xbinF op_addX of_add (xv 3) (xtup (xa1 (xv 6) xa0))) (xa1 (xlc (own := [("_law_one", 8)]) rfl hN (xis rfl (xv 4)) (blk_ok (by rfl)) (tg_n (i := 8) (by decide)) pt_1 (fun _ _ _ _ _ => pg_name (i := 8) hN rfl (Or.inl rfl)) (fun _ _ _ _ _ => pts1 (xtcmp op_neX (os_eq hU) (xv 8) (xv 6))) (fun _ _ _ _ _ => (xv 8))) xa0)))
    xs0)))
    (xs1 (xret (xv 3))
    xs0))))

theorem sc_q_keys : FnScope ["_law_heap_here"] ["_law_heap_here"] (defScope s_q_keys) := ⟨rfl, rfl, rfl, by decide +kernel, rfl, by decide +kernel, by decide +kernel⟩
theorem ok_q_keys (T : Tx fa fn G) : ∀ n, Dok P w base CX0 G "_law_keys" ["_law_heap_here"] n (F_q_keys n) :=
  dok_mk rfl (fun _ => rfl) (T.says.def_ 4 (d := d0_q_keys) rfl) (T.glo 34) sc_q_keys (fun _ _ _ _ _ _ us hl => match us, hl with | [_], _ => rfl) fun n d0 cdv A outer s H E hr => by
    have hN := sc_q_keys.nd
    have d_q_keys : ∀ _ : Nat, Dok P w base CX0 G "_law_keys" ["_law_heap_here"] n (F_q_keys n) := fun _ => d0
    have hU := hr.u200
    have hu1 := hr.u1
    exact (xs1 (xret (xif (xtisN (xv 0)) (xlstG xa0) (xbinF op_addX of_add (xbinF op_addX of_add (xlstG (xa1 (xix rfl (xv 0) xint) xa0)) (xcP (d_q_keys n) rfl rfl hr px0 (xa1 (xix rfl (xv 0) xint) xa0))) (xcP (d_q_keys n) rfl rfl hr px0 (xa1 (xix rfl (xv 0) xint) xa0)))))
    xs0)

theorem sc_q_is_hole : FnScope ["_law_heap_here"] ["_law_heap_here"] (defScope s_q_is_hole) := ⟨rfl, rfl, rfl, by decide +kernel, rfl, by decide +kernel, by decide +kernel⟩
theorem ok_q_is_hole (T : Tx fa fn G) : ∀ n, Dok P w base CX0 G "_law_is_hole" ["_law_heap_here"] n (F_q_is_hole n) :=
  dok_mk rfl (fun _ => rfl) (T.says.def_ 5 (d := d0_q_is_hole) rfl) (T.glo 35) sc_q_is_hole (fun _ _ _ _ _ _ us hl => match us, hl with | [_], _ => rfl) fun n d0 cdv A outer s H E hr => by
    have hN := sc_q_is_hole.nd
    have hU := hr.u200
    have hu1 := hr.u1
    exact (xs1 (xret (xand (xnotN (xv 0)) (xone (xcmp op_eqX (os_eq hU) (xix rfl (xv 0) xint) xstr))))
    xs0)

theorem sc_q_put_in : FnScope ["_law_heap_here", "_law_mark", "_law_other"] ["_law_heap_here", "_law_mark", "_law_other"] (defScope s_q_put_in) := ⟨rfl, rfl, rfl, by decide +kernel, rfl, by decide +kernel, by decide +kernel⟩
theorem ok_q_put_in (T : Tx fa fn G) : ∀ n, Dok P w base CX0 G "_law_put_in" ["_law_heap_here", "_law_mark", "_law_other"] n (F_q_put_in n) :=
  dok_mk rfl (fun _ => rfl) (T.says.def_ 6 (d := d0_q_put_in) rfl) (T.glo 36) sc_q_put_in (fun _ _ _ _ _ _ us hl => match us, hl with | [_, _, _], _ => rfl) fun n d0 cdv A outer s H E hr => by
    have hN := sc_q_put_in.nd
    have d_q_put_in : ∀ _ : Nat, Dok P w base CX0 G "_law_put_in" ["_law_heap_here", "_law_mark", "_law_other"] n (F_q_put_in n) := fun _ => d0
    have hU := hr.u200
    have hu1 := hr.u1
    exact (xs1 (xifs (xtisN (xv 0)) (xs1 (xret xnon)
    xs0) xs0)
    (xs1 (xifs (xtcmp op_eqX (os_eq hU) (xix rfl (xv 0) xint) xstr) (xs1 (xret (xif (xtcmp op_eqX (os_eq hU) (xix rfl (xv 0) xint) (xv 1)) (xv 2) (xv 0)))
    xs0) xs0)
    (xs1 (xret (xtup (xa1 (xix rfl (xv 0) xint) (xa1 (xcP (d_q_put_in n) rfl rfl hr px0 (xa1 (xix rfl (xv 0) xint) (xa1 (xv 1) (xa1 (xv 2) xa0)))) (xa1 (xcP (d_q_put_in n) rfl rfl hr px0 (xa1 (xix rfl (xv 0) xint) (xa1 (xv 1) (xa1 (xv 2) xa0)))) xa0)))))
    xs0)))

theorem sc_q_fill : FnScope ["_law_state", "_law_mark", "_law_other", "_law_k", "_law_own", "_law_one", "_law_two"] ["_law_state", "_law_mark", "_law_other"] (defScope s_q_fill) := ⟨rfl, rfl, rfl, by decide +kernel, rfl, by decide +kernel, by decide +kernel⟩
theorem ok_q_fill (T : Tx fa fn G) (d_q_put_in : ∀ n, Dok P w base CX0 G "_law_put_in" ["_law_heap_here", "_law_mark", "_law_other"] n (F_q_put_in n)) : ∀ n, Dok P w base CX0 G "_law_fill" ["_law_state", "_law_mark", "_law_other"] n (F_q_fill n) :=
  dok_mk rfl (fun _ => rfl) (T.says.def_ 7 (d := d0_q_fill) rfl) (T.glo 37) sc_q_fill (fun _ _ _ _ _ _ us hl => match us, hl with | [_, _, _], _ => rfl) fun n d0 cdv A outer s H E hr => by
    have hN := sc_q_fill.nd
    have hU := hr.u200
    have hu1 := hr.u1
    exact (xs1 (xasg (xcP (d_q_put_in n) rfl rfl hr px0 (xa1 (xix rfl (xv 0) xint) (xa1 (xv 1) (xa1 (xv 2) xa0)))) (xgsub hu1 (xv 0) xint))
    (xs1 (xfor .never rfl (xis rfl (xctF (cr_lstX rfl) cs_lstX (by rfl) (T.free 3) rfl (xa1 (xix rfl (xv 0) xint) xa0))) (xgn 3 hN) (xs1 (xasg (xdg hu1 (xix rfl (xv 0) xint) (xv 3)) (xgt rfl rfl (xgs1 (xgn 4 hN) (xgs1 (xgn 5 hN) (xgs1 (xgn 6 hN) xgs0)))))
    (xs1 (xasg (xtup (xa1 (xv 4) (xa1 (xcP (d_q_put_in n) rfl rfl hr px0 (xa1 (xv 5) (xa1 (xv 1) (xa1 (xv 2) xa0)))) (xa1 (xcP (d_q_put_in n) rfl rfl hr px0 (xa1 (xv 6) (xa1 (xv 1) (xa1 (xv 2) xa0)))) xa0)))) (xgsub hu1 (xix rfl (xv 0) xint) (xv 3)))
    xs0)))
    xs0))

theorem sc_q_step : FnScope ["_law_state", "_law_k", "_law_mark", "_law_one", "_law_other", "_law_new"] ["_law_state", "_law_k"] (defScope s_q_step) := ⟨rfl, rfl, rfl, by decide +kernel, rfl, by decide +kernel, by decide +kernel⟩
theorem ok_q_step (T : Tx fa fn G) (d_q_fill : ∀ n, Dok P w base CX0 G "_law_fill" ["_law_state", "_law_mark", "_law_other"] n (F_q_fill n)) (d_q_is_hole : ∀ n, Dok P w base CX0 G "_law_is_hole" ["_law_heap_here"] n (F_q_is_hole n)) : ∀ n, Dok P w base CX0 G "_law_step" ["_law_state", "_law_k"] n (F_q_step n) :=
  dok_mk rfl (fun _ => rfl) (T.says.def_ 8 (d := d0_q_step) rfl) (T.glo 38) sc_q_step (fun _ _ _ _ _ _ us hl => match us, hl with | [_, _], _ => rfl) fun n d0 cdv A outer s H E hr => by
    have hN := sc_q_step.nd
    have hU := hr.u200
    have hu1 := hr.u1
    exact (xs1 (xasg (xdg hu1 (xix rfl (xv 0) xint) (xv 1)) (xgt rfl rfl (xgs1 (xgn 2 hN) (xgs1 (xgn 3 hN) (xgs1 (xgn 4 hN) xgs0)))))
    (xs1 (xifs (xpw (xwor (xtru rfl (xcP (d_q_is_hole n) rfl rfl hr px0 (xa1 (xv 3) xa0))) (xwor1 (xtru rfl (xcP (d_q_is_hole n) rfl rfl hr px0 (xa1 (xv 4) xa0)))))) (xs1 xretN
    xs0) xs0)
    (xs1 (xifs (xpw (xwor (xtisN (xv 3)) (xwor1 (xtisN (xv 4))))) (xs1 (xexp (xdpop (xix rfl (xv 0) xint) (xv 1)))
    (xs1 (xexp (xcW (d_q_fill n) rfl rfl hr px0 (xa1 (xv 0) (xa1 (xv 2) (xa1 (xif (xtisN (xv 4)) (xv 3) (xv 4)) xa0)))))
    (xs1 xretN
    xs0))) xs0)
    (xs1 (xifs (xtcmp op_lt os_lt (xix rfl (xv 4) xint) (xix rfl (xv 3) xint)) (xs1 (xpar (i := 3) (j := 4) rfl hN (xa1 (xv 4) (xa1 (xv 3) xa0)))
    xs0) xs0)
    (xs1 (xasg (xbinF op_addX of_add (xix rfl (xv 0) xint) xint) (xgsub hu1 (xv 0) xint))
    (xs1 (xset 5 hN (xix rfl (xv 0) xint))
    (xs1 (xasg (xtup (xa1 (xv 5) (xa1 (xix rfl (xv 3) xint) (xa1 (xv 4) xa0)))) (xgsub hu1 (xix rfl (xv 0) xint) (xv 1)))
    (xs1 (xexp (xcW (d_q_fill n) rfl rfl hr px0 (xa1 (xv 0) (xa1 (xv 2) (xa1 (xtup (xa1 (xix rfl (xv 3) xint) (xa1 (xtup (xa1 xstr (xa1 (xv 5) xa0))) (xa1 (xix rfl (xv 3) xint) xa0)))) xa0)))))
    xs0))))))))

theorem sc_q_enter : FnScope ["_law_state", "_law_deed", "_law_top"] ["_law_state", "_law_deed"] (defScope s_q_enter) := ⟨rfl, rfl, rfl, by decide +kernel, rfl, by decide +kernel, by decide +kernel⟩
theorem ok_q_enter (T : Tx fa fn G) (d_q_step : ∀ n, Dok P w base CX0 G "_law_step" ["_law_state", "_law_k"] n (F_q_step n)) (d_q_is_hole : ∀ n, Dok P w base CX0 G "_law_is_hole" ["_law_heap_here"] n (F_q_is_hole n)) : ∀ n, Dok P w base CX0 G "_law_enter" ["_law_state", "_law_deed"] n (F_q_enter n) :=
  dok_mk rfl (fun _ => rfl) (T.says.def_ 9 (d := d0_q_enter) rfl) (T.glo 39) sc_q_enter (fun _ _ _ _ _ _ us hl => match us, hl with | [_, _], _ => rfl) fun n d0 cdv A outer s H E hr => by
    have hN := sc_q_enter.nd
    have hU := hr.u200
    have hu1 := hr.u1
    exact (xs1 (xset 2 hN (xix rfl (xv 0) xint))
    (xs1 (xifs (xtru rfl (xcP (d_q_is_hole n) rfl rfl hr px0 (xa1 (xv 2) xa0))) (xs1 xretN
    xs0) xs0)
    (xs1 (xifs (xtcmp op_eqX (os_eq hU) (xix rfl (xv 1) xint) xstr) (xs1 (xasg (xbinF op_addX of_add (xix rfl (xv 0) xint) xint) (xgsub hu1 (xv 0) xint))
    (xs1 (xasg (xtup (xa1 (xix rfl (xv 0) xint) (xa1 (xv 2) (xa1 (xtup (xa1 (xix rfl (xv 1) xint) (xa1 xnon (xa1 xnon xa0)))) xa0)))) (xgsub hu1 (xix rfl (xv 0) xint) (xix rfl (xv 0) xint)))
    (xs1 (xasg (xtup (xa1 (xtup (xa1 xstr (xa1 (xix rfl (xv 0) xint) xa0))) (xa1 (xbinF op_addX of_add (xix rfl (xv 0) xint) xint) xa0))) (xgt rfl rfl (xgs1 (xgsub hu1 (xv 0) xint) (xgs1 (xgsub hu1 (xv 0) xint) xgs0))))
    (xs1 (xexp (xcW (d_q_step n) rfl rfl hr px0 (xa1 (xv 0) (xa1 (xbin op_sub os_sub (xix rfl (xv 0) xint) xint) xa0))))
    xs0)))) (xs1 (xifs (xtisN (xv 2)) (xs1 (xasg (xbinF op_addX of_add (xix rfl (xv 0) xint) xint) (xgsub hu1 (xv 0) xint))
    (xs1 (xexp (xapp (xix rfl (xv 0) xint) xnon))
    xs0)) (xs1 (xifs (xpw (xwand (xtnot (xtru rfl (xcP (d_q_is_hole n) rfl rfl hr px0 (xa1 (xix rfl (xv 2) xint) xa0)))) (xwand1 (xtnot (xtru rfl (xcP (d_q_is_hole n) rfl rfl hr px0 (xa1 (xix rfl (xv 2) xint) xa0))))))) (xs1 (xexp (xapp (xix rfl (xv 0) xint) (xix rfl (xv 2) xint)))
    (xs1 (xifs (xpw (xwor (xtisN (xix rfl (xv 2) xint)) (xwor1 (xtisN (xix rfl (xv 2) xint))))) (xs1 (xasg (xif (xtisN (xix rfl (xv 2) xint)) (xix rfl (xv 2) xint) (xix rfl (xv 2) xint)) (xgsub hu1 (xv 0) xint))
    xs0) (xs1 (xasg (xbinF op_addX of_add (xix rfl (xv 0) xint) xint) (xgsub hu1 (xv 0) xint))
    (xs1 (xasg (xtup (xa1 (xix rfl (xv 0) xint) (xa1 (xix rfl (xv 2) xint) (xa1 (xix rfl (xv 2) xint) xa0)))) (xgsub hu1 (xix rfl (xv 0) xint) (xix rfl (xv 0) xint)))
    (xs1 (xasg (xtup (xa1 xstr (xa1 (xix rfl (xv 0) xint) xa0))) (xgsub hu1 (xv 0) xint))
    xs0))))
    (xs1 (xasg (xbinF op_addX of_add (xix rfl (xv 0) xint) xint) (xgsub hu1 (xv 0) xint))
    xs0))) xs0)
    xs0))
    xs0))
    xs0)))

theorem sc_q_alike : FnScope ["_law_found", "_law_due", "_law_k"] ["_law_found", "_law_due"] (defScope s_q_alike) := ⟨rfl, rfl, rfl, by decide +kernel, rfl, by decide +kernel, by decide +kernel⟩
theorem ok_q_alike (T : Tx fa fn G) : ∀ n, Dok P w base CX0 G "_law_alike" ["_law_found", "_law_due"] n (F_q_alike n) :=
  dok_mk rfl (fun _ => rfl) (T.says.def_ 10 (d := d0_q_alike) rfl) (T.glo 40) sc_q_alike (fun _ _ _ _ _ _ us hl => match us, hl with | [_, _], _ => rfl) fun n d0 cdv A outer s H E hr => by
    have hN := sc_q_alike.nd
    have d_q_alike : ∀ _ : Nat, Dok P w base CX0 G "_law_alike" ["_law_found", "_law_due"] n (F_q_alike n) := fun _ => d0
    have hU := hr.u200
    have hu1 := hr.u1
    exact (xs1 (xifs (xtru rfl (xisi2 rfl ok_tuple ok_list rfl rfl (T.free 7) (T.free 3) (by rfl) (by rfl) (by rfl) (T.free 5) (xv 1))) (xs1 (xifs (xpw (xwor (xtnot (xtru rfl (xisi2 rfl ok_tuple ok_list rfl rfl (T.free 7) (T.free 3) (by rfl) (by rfl) (by rfl) (T.free 5) (xv 0)))) (xwor1 (xtcmp op_neX (os_eq hU) (xisi rfl ok_list rfl (T.free 3) (by rfl) (by rfl) (T.free 5) (xv 0)) (xisi rfl ok_list rfl (T.free 3) (by rfl) (by rfl) (T.free 5) (xv 1)))))) (xs1 (xret xbl)
    xs0) xs0)
    (xs1 (xifs (xtcmp op_neX (os_eq hU) (xcb cr_lenX cs_len (by rfl) (T.free 1) rfl (xa1 (xv 0) xa0)) (xcb cr_lenX cs_len (by rfl) (T.free 1) rfl (xa1 (xv 1) xa0))) (xs1 (xret xbl)
    xs0) xs0)
    (xs1 (xret (xcmp op_eqX (os_eq hU) (xlc (own := [("_law_k", 2)]) rfl hN (xir1 (xa1 (xcb cr_lenX cs_len (by rfl) (T.free 1) rfl (xa1 (xv 1) xa0)) xa0) (by rfl) (T.free 2)) (blk_ok (by rfl)) (tg_n (i := 2) (by decide)) pt_1 (fun _ _ _ _ _ => pg_name (i := 2) hN rfl (Or.inl rfl)) (fun _ _ _ _ _ => pts1 (xtnot (xtru rfl (xcP (d_q_alike n) rfl rfl hr px0 (xa1 (xix rfl (xv 0) (xv 2)) (xa1 (xix rfl (xv 1) (xv 2)) xa0)))))) (fun _ _ _ _ _ => (xv 2))) (xlstG xa0)))
    xs0))) xs0)
    (xs1 (xifs (xpw (xwor (xtisN (xv 1)) (xwor1 (xtru rfl (xisi rfl ok_str rfl (T.free 6) (by rfl) (by rfl) (T.free 5) (xv 1)))))) (xs1 (xret (xand (xcmp op_eqX (os_eq hU) (xv 0) (xv 1)) (xone (xcmp op_eqX (os_eq hU) (xisi rfl ok_str rfl (T.free 6) (by rfl) (by rfl) (T.free 5) (xv 0)) (xisi rfl ok_str rfl (T.free 6) (by rfl) (by rfl) (T.free 5) (xv 1))))))
    xs0) xs0)
    (xs1 (xret (xand (xisi rfl ok_int rfl (T.free 0) (by rfl) (by rfl) (T.free 5) (xv 0)) (xand (xcmp op_eqX (os_eq hU) (xisi rfl ok_bool rfl (T.free 4) (by rfl) (by rfl) (T.free 5) (xv 0)) (xisi rfl ok_bool rfl (T.free 4) (by rfl) (by rfl) (T.free 5) (xv 1))) (xone (xcmp op_eqX (os_eq hU) (xv 0) (xv 1))))))
    xs0)))

theorem sc_is_in : FnScope ["value", "least", "most"] ["value", "least", "most"] (defScope s_is_in) := ⟨rfl, rfl, rfl, by decide +kernel, rfl, by decide +kernel, by decide +kernel⟩
theorem ok_is_in (T : Tx fa fn G) : ∀ n, Dok P w base CX0 G "is_in" ["value", "least", "most"] n (F_is_in n) :=
  dok_mk rfl (fun _ => rfl) (T.says.def_ 11 (d := d0_is_in) rfl) (T.glo 41) sc_is_in (fun _ _ _ _ _ _ us hl => match us, hl with | [_, _, _], _ => rfl) fun n d0 cdv A outer s H E hr => by
    have hN := sc_is_in.nd
    have hU := hr.u200
    have hu1 := hr.u1
    exact (xs1 (xret (xand (xisi rfl ok_int rfl (T.free 0) (by rfl) (by rfl) (T.free 5) (xv 0)) (xand (xnot (xisi rfl ok_bool rfl (T.free 4) (by rfl) (by rfl) (T.free 5) (xv 0))) (xone (xchain op_le op_le os_le os_le (xv 1) (xv 0) (xv 2))))))
    xs0)

theorem sc_is_key : FnScope ["value"] ["value"] (defScope s_is_key) := ⟨rfl, rfl, rfl, by decide +kernel, rfl, by decide +kernel, by decide +kernel⟩
theorem ok_is_key (T : Tx fa fn G) (d_is_in : ∀ n, Dok P w base CX0 G "is_in" ["value", "least", "most"] n (F_is_in n)) : ∀ n, Dok P w base CX0 G "is_key" ["value"] n (F_is_key n) :=
  dok_mk rfl (fun _ => rfl) (T.says.def_ 12 (d := d0_is_key) rfl) (T.glo 42) sc_is_key (fun _ _ _ _ _ _ us hl => match us, hl with | [_], _ => rfl) fun n d0 cdv A outer s H E hr => by
    have hN := sc_is_key.nd
    have hU := hr.u200
    have hu1 := hr.u1
    exact (xs1 (xret (xcP (d_is_in n) rfl rfl hr px0 (xa1 (xv 0) (xa1 (xbin op_sub os_sub xint (xgint (by rfl) (T.int 8))) (xa1 (xgint (by rfl) (T.int 8)) xa0)))))
    xs0)

theorem sc_has_form : FnScope ["value", "least", "deep"] ["value", "least", "deep"] (defScope s_has_form) := ⟨rfl, rfl, rfl, by decide +kernel, rfl, by decide +kernel, by decide +kernel⟩
theorem ok_has_form (T : Tx fa fn G) (d_is_key : ∀ n, Dok P w base CX0 G "is_key" ["value"] n (F_is_key n)) : ∀ n, Dok P w base CX0 G "has_form" ["value", "least", "deep"] n (F_has_form n) :=
  dok_mk rfl (fun _ => rfl) (T.says.def_ 13 (d := d0_has_form) rfl) (T.glo 43) sc_has_form (fun _ _ _ _ _ _ us hl => match us, hl with | [_, _, _], _ => rfl) fun n d0 cdv A outer s H E hr => by
    have hN := sc_has_form.nd
    have d_has_form : ∀ _ : Nat, Dok P w base CX0 G "has_form" ["value", "least", "deep"] n (F_has_form n) := fun _ => d0
    have hU := hr.u200
    have hu1 := hr.u1
    exact (xs1 (xifs (xtisN (xv 0)) (xs1 (xret xbl)
    xs0) xs0)
    (xs1 (xifs (xpw (xwor (xtcmp op_eqX (os_eq hU) (xv 2) xint) (xwor (xtnot (xtru rfl (xisi rfl ok_tuple rfl (T.free 7) (by rfl) (by rfl) (T.free 5) (xv 0)))) (xwor (xtcmp op_neX (os_eq hU) (xcb cr_lenX cs_len (by rfl) (T.free 1) rfl (xa1 (xv 0) xa0)) xint) (xwor (xtnot (xtru rfl (xcP (d_is_key n) rfl rfl hr px0 (xa1 (xix rfl (xv 0) xint) xa0)))) (xwor1 (xtcmp op_le os_le (xix rfl (xv 0) xint) (xv 1)))))))) (xs1 (xret xbl)
    xs0) xs0)
    (xs1 (xret (xand (xcP (d_has_form n) rfl rfl hr px0 (xa1 (xix rfl (xv 0) xint) (xa1 (xix rfl (xv 0) xint) (xa1 (xbin op_sub os_sub (xv 2) xint) xa0)))) (xone (xcP (d_has_form n) rfl rfl hr px0 (xa1 (xix rfl (xv 0) xint) (xa1 (xix rfl (xv 0) xint) (xa1 (xbin op_sub os_sub (xv 2) xint) xa0)))))))
    xs0)))

theorem sc_key_list : FnScope ["heap"] ["heap"] (defScope s_key_list) := ⟨rfl, rfl, rfl, by decide +kernel, rfl, by decide +kernel, by decide +kernel⟩
theorem ok_key_list (T : Tx fa fn G) : ∀ n, Dok P w base CX0 G "key_list" ["heap"] n (F_key_list n) :=
  dok_mk rfl (fun _ => rfl) (T.says.def_ 14 (d := d0_key_list) rfl) (T.glo 44) sc_key_list (fun _ _ _ _ _ _ us hl => match us, hl with | [_], _ => rfl) fun n d0 cdv A outer s H E hr => by
    have hN := sc_key_list.nd
    have d_key_list : ∀ _ : Nat, Dok P w base CX0 G "key_list" ["heap"] n (F_key_list n) := fun _ => d0
    have hU := hr.u200
    have hu1 := hr.u1
    exact (xs1 (xret (xif (xtisN (xv 0)) (xlstG xa0) (xlstG (xa1 (xix rfl (xv 0) xint) (xaS rfl (xcP (d_key_list n) rfl rfl hr px0 (xa1 (xix rfl (xv 0) xint) xa0)) (xaS rfl (xcP (d_key_list n) rfl rfl hr px0 (xa1 (xix rfl (xv 0) xint) xa0)) xa0))))))
    xs0)

theorem sc_is_heap : FnScope ["value", "some"] ["value"] (defScope s_is_heap) := ⟨rfl, rfl, rfl, by decide +kernel, rfl, by decide +kernel, by decide +kernel⟩
theorem ok_is_heap (T : Tx fa fn G) (d_key_list : ∀ n, Dok P w base CX0 G "key_list" ["heap"] n (F_key_list n)) (d_has_form : ∀ n, Dok P w base CX0 G "has_form" ["value", "least", "deep"] n (F_has_form n)) : ∀ n, Dok P w base CX0 G "is_heap" ["value"] n (F_is_heap n) :=
  dok_mk rfl (fun _ => rfl) (T.says.def_ 15 (d := d0_is_heap) rfl) (T.glo 45) sc_is_heap (fun _ _ _ _ _ _ us hl => match us, hl with | [_], _ => rfl) fun n d0 cdv A outer s H E hr => by
    have hN := sc_is_heap.nd
    have hU := hr.u200
    have hu1 := hr.u1
    exact (xs1 (xifs (xtnot (xtru rfl (xcP (d_has_form n) rfl rfl hr px0 (xa1 (xv 0) (xa1 (xbin op_sub os_sub (xbin op_sub os_sub xint (xgint (by rfl) (T.int 8))) xint) (xa1 (xgint (by rfl) (T.int 10)) xa0)))))) (xs1 (xret xbl)
    xs0) xs0)
    (xs1 (xset 1 hN (xcP (d_key_list n) rfl rfl hr px0 (xa1 (xv 0) xa0)))
    (xs1 (xret (xand (xcmp op_le os_le (xcb cr_lenX cs_len (by rfl) (T.free 1) rfl (xa1 (xv 1) xa0)) (xgint (by rfl) (T.int 10))) (xone (xcmp op_eqX (os_eq hU) (xlnS rfl (by rfl) (T.free 1) (by rfl) (T.free 9) (xv 1)) (xcb cr_lenX cs_len (by rfl) (T.free 1) rfl (xa1 (xv 1) xa0))))))
    xs0)))

theorem sc_need_heap : FnScope ["heap"] ["heap"] (defScope s_need_heap) := ⟨rfl, rfl, rfl, by decide +kernel, rfl, by decide +kernel, by decide +kernel⟩
theorem ok_need_heap (T : Tx fa fn G) (d_is_heap : ∀ n, Dok P w base CX0 G "is_heap" ["value"] n (F_is_heap n)) : ∀ n, Dok P w base CX0 G "need_heap" ["heap"] n (F_need_heap n) :=
  dok_mk rfl (fun _ => rfl) (T.says.def_ 16 (d := d0_need_heap) rfl) (T.glo 46) sc_need_heap (fun _ _ _ _ _ _ us hl => match us, hl with | [_], _ => rfl) fun n d0 cdv A outer s H E hr => by
    have hN := sc_need_heap.nd
    have hU := hr.u200
    have hu1 := hr.u1
    exact (xs1 (xifs (xtnot (xtru rfl (xcP (d_is_heap n) rfl rfl hr px0 (xa1 (xv 0) xa0)))) (xs1 xnvr
    xs0) xs0)
    xs0)

theorem sc_is_deed : FnScope ["deed"] ["deed"] (defScope s_is_deed) := ⟨rfl, rfl, rfl, by decide +kernel, rfl, by decide +kernel, by decide +kernel⟩
theorem ok_is_deed (T : Tx fa fn G) (d_is_key : ∀ n, Dok P w base CX0 G "is_key" ["value"] n (F_is_key n)) : ∀ n, Dok P w base CX0 G "is_deed" ["deed"] n (F_is_deed n) :=
  dok_mk rfl (fun _ => rfl) (T.says.def_ 17 (d := d0_is_deed) rfl) (T.glo 47) sc_is_deed (fun _ _ _ _ _ _ us hl => match us, hl with | [_], _ => rfl) fun n d0 cdv A outer s H E hr => by
    have hN := sc_is_deed.nd
    have hU := hr.u200
    have hu1 := hr.u1
    exact (xs1 (xifs (xpw (xwor (xtnot (xtru rfl (xisi rfl ok_tuple rfl (T.free 7) (by rfl) (by rfl) (T.free 5) (xv 0)))) (xwor (xtnot (xtru rfl (xv 0))) (xwor1 (xtnot (xtru rfl (xisi rfl ok_str rfl (T.free 6) (by rfl) (by rfl) (T.free 5) (xix rfl (xv 0) xint)))))))) (xs1 (xret xbl)
    xs0) xs0)
    (xs1 (xifs (xtcmp op_eqX (os_eq hU) (xix rfl (xv 0) xint) xstr) (xs1 (xret (xcmp op_eqX (os_eq hU) (xcb cr_lenX cs_len (by rfl) (T.free 1) rfl (xa1 (xv 0) xa0)) xint))
    xs0) xs0)
    (xs1 (xret (xand (xcmp op_eqX (os_eq hU) (xix rfl (xv 0) xint) xstr) (xand (xcmp op_eqX (os_eq hU) (xcb cr_lenX cs_len (by rfl) (T.free 1) rfl (xa1 (xv 0) xa0)) xint) (xone (xcP (d_is_key n) rfl rfl hr px0 (xa1 (xix rfl (xv 0) xint) xa0))))))
    xs0)))

theorem sc_need_deeds : FnScope ["heap", "deeds", "seen", "index", "deed", "key"] ["heap", "deeds"] (defScope s_need_deeds) := ⟨rfl, rfl, rfl, by decide +kernel, rfl, by decide +kernel, by decide +kernel⟩
theorem ok_need_deeds (T : Tx fa fn G) (d_is_deed : ∀ n, Dok P w base CX0 G "is_deed" ["deed"] n (F_is_deed n)) (d_key_list : ∀ n, Dok P w base CX0 G "key_list" ["heap"] n (F_key_list n)) : ∀ n, Dok P w base CX0 G "need_deeds" ["heap", "deeds"] n (F_need_deeds n) :=
  dok_mk rfl (fun _ => rfl) (T.says.def_ 18 (d := d0_need_deeds) rfl) (T.glo 48) sc_need_deeds (fun _ _ _ _ _ _ us hl => match us, hl with | [_, _], _ => rfl) fun n d0 cdv A outer s H E hr => by
    have hN := sc_need_deeds.nd
    have hU := hr.u200
    have hu1 := hr.u1
    exact (xs1 (xifs (xpw (xwor (xtnot (xtru rfl (xisi rfl ok_tuple rfl (T.free 7) (by rfl) (by rfl) (T.free 5) (xv 1)))) (xwor1 (xtcmp op_gt os_gt (xcb cr_lenX cs_len (by rfl) (T.free 1) rfl (xa1 (xv 1) xa0)) (xgint (by rfl) (T.int 12)))))) (xs1 xnvr
    xs0) xs0)
    (xs1 (xsetdc (own := [("key", 5)]) rfl hN rfl rfl (sw_trueD rfl rfl rfl (by decide +kernel)) (xis rfl (xcP (d_key_list n) rfl rfl hr px0 (xa1 (xv 0) xa0))) (blk_ok (by rfl)) (tg_n (i := 5) (by decide)) pt_0 (fun _ _ _ _ _ => pg_name (i := 5) hN rfl (Or.inl rfl)) (fun _ _ _ _ _ => pts_nil) (fun _ _ _ _ _ => (xv 5)) (fun _ _ _ _ _ => xbl))
    (xs1 (xfor .never rfl (xien rfl (by rfl) (T.free 11) (xa1 (xv 1) xa0)) (xgt rfl rfl (xgs1 (xgn 3 hN) (xgs1 (xgn 4 hN) xgs0))) (xs1 (xifs (xtnot (xtru rfl (xcP (d_is_deed n) rfl rfl hr px0 (xa1 (xv 4) xa0)))) (xs1 xnvr
    xs0) xs0)
    (xs1 (xifs (xtcmp op_eqX (os_eq hU) (xix rfl (xv 4) xint) xstr) (xs1 (xifs (xpw (xwor (xtin_ hu1 (xix rfl (xv 4) xint) (xv 2)) (xwor1 (xtcmp op_eqX (os_eq hU) (xcb cr_lenX cs_len (by rfl) (T.free 1) rfl (xa1 (xv 2) xa0)) (xgint (by rfl) (T.int 10)))))) (xs1 xnvr
    xs0) xs0)
    (xs1 (xasg xbl (xgsub hu1 (xv 2) (xix rfl (xv 4) xint)))
    xs0)) xs0)
    xs0)))
    xs0)))

theorem sc_Place_init : FnScope ["self", "key", "mark"] ["self", "key", "mark"] (defScope s_Place_init) := ⟨rfl, rfl, rfl, by decide +kernel, rfl, by decide +kernel, by decide +kernel⟩
theorem ok_Place_init (T : Tx fa fn G) : ∀ n, DokI P w base CX0 G "Place" ["self", "key", "mark"] n (F_Place_init n) :=
  dokI_mk rfl (fun _ => rfl) (T.says.def_ 19 (d := d0_Place_init) rfl) (T.glo 13) (T.mkr 49) sc_Place_init (fun _ _ _ _ _ _ us hl => match us, hl with | [_, _, _], _ => rfl) fun n cdv A outer s H E hr => by
    have hN := sc_Place_init.nd
    have hU := hr.u200
    have hu1 := hr.u1
    exact (xs1 (xsfl rfl (T.fl 13 14 18) (xv 0) (xv 1))
    (xs1 (xsfl rfl (T.fl 13 14 17) (xv 0) (xv 2))
    (xs1 (xsfl rfl (T.fl 13 14 16) (xv 0) xnon)
    (xs1 (xsfl rfl (T.fl 13 14 15) (xv 0) xnon)
    xs0))))

theorem sc_opened : FnScope ["heap", "place"] ["heap"] (defScope s_opened) := ⟨rfl, rfl, rfl, by decide +kernel, rfl, by decide +kernel, by decide +kernel⟩
theorem ok_opened (T : Tx fa fn G) (d_Place_init : ∀ n, DokI P w base CX0 G "Place" ["self", "key", "mark"] n (F_Place_init n)) : ∀ n, Dok P w base CX0 G "opened" ["heap"] n (F_opened n) :=
  dokC_mk rfl rfl (fun _ => rfl) (T.says.def_ 20 (d := d0_opened) rfl) (T.glo 50) sc_opened (fun _ _ _ _ _ _ us hl => match us, hl with | [_], _ => rfl) fun n d0 cdv A outer s H E hr1 => by
    have hr := hr1.mono (Nat.le_succ n)
    have hN := sc_opened.nd
    have d_opened : ∀ _ : Nat, Dok P w base CX0 G "opened" ["heap"] n (F_opened n) := fun _ => d0
    have hU := hr.u200
    have hu1 := hr.u1
    exact (xs1 (xifs (xtisN (xv 0)) (xs1 (xret xnon)
    xs0) xs0)
    (xs1 (xset 1 hN (xmk (d_Place_init n) rfl rfl hr1 px0 (xa1 (xix rfl (xv 0) xint) (xa1 xint xa0))))
    (xs1 (xasg (xtup (xa1 (xcW (d_opened n) rfl rfl hr px0 (xa1 (xix rfl (xv 0) xint) xa0)) (xa1 (xcW (d_opened n) rfl rfl hr px0 (xa1 (xix rfl (xv 0) xint) xa0)) xa0))) (xgt rfl rfl (xgs1 (xgfl rfl (T.fl 13 14 16) (xv 1)) (xgs1 (xgfl rfl (T.fl 13 14 15) (xv 1)) xgs0))))
    (xs1 (xret (xv 1))
    xs0))))

theorem sc_Weaving_init : FnScope ["self", "heap", "deeds"] ["self", "heap", "deeds"] (defScope s_Weaving_init) := ⟨rfl, rfl, rfl, by decide +kernel, rfl, by decide +kernel, by decide +kernel⟩
theorem ok_Weaving_init (T : Tx fa fn G) (d_opened : ∀ n, Dok P w base CX0 G "opened" ["heap"] n (F_opened n)) : ∀ n, DokI P w base CX0 G "Weaving" ["self", "heap", "deeds"] n (F_Weaving_init n) :=
  dokI_mk rfl (fun _ => rfl) (T.says.def_ 21 (d := d0_Weaving_init) rfl) (T.glo 19) (T.mkr 51) sc_Weaving_init (fun _ _ _ _ _ _ us hl => match us, hl with | [_, _, _], _ => rfl) fun n cdv A outer s H E hr => by
    have hN := sc_Weaving_init.nd
    have hU := hr.u200
    have hu1 := hr.u1
    exact (xs1 (xsfl rfl (T.fl 19 20 26) (xv 0) (xcW (d_opened n) rfl rfl hr px0 (xa1 (xv 1) xa0)))
    (xs1 (xsfl rfl (T.fl 19 20 25) (xv 0) (xv 2))
    (xs1 (xsfl rfl (T.fl 19 20 24) (xv 0) xint)
    (xs1 (xsfl rfl (T.fl 19 20 23) (xv 0) xd0)
    (xs1 (xsfl rfl (T.fl 19 20 22) (xv 0) (xlstR xa0))
    (xs1 (xsfl rfl (T.fl 19 20 21) (xv 0) xint)
    xs0))))))

theorem sc_is_hole : FnScope ["place"] ["place"] (defScope s_is_hole) := ⟨rfl, rfl, rfl, by decide +kernel, rfl, by decide +kernel, by decide +kernel⟩
theorem ok_is_hole (T : Tx fa fn G) : ∀ n, Dok P w base CX0 G "is_hole" ["place"] n (F_is_hole n) :=
  dok_mk rfl (fun _ => rfl) (T.says.def_ 22 (d := d0_is_hole) rfl) (T.glo 52) sc_is_hole (fun _ _ _ _ _ _ us hl => match us, hl with | [_], _ => rfl) fun n d0 cdv A outer s H E hr => by
    have hN := sc_is_hole.nd
    have hU := hr.u200
    have hu1 := hr.u1
    exact (xs1 (xret (xand (xnotN (xv 0)) (xone (xisN (xfld rfl (T.fl 13 14 18) (xv 0))))))
    xs0)

theorem sc_laid : FnScope ["place", "mark", "other"] ["place", "mark", "other"] (defScope s_laid) := ⟨rfl, rfl, rfl, by decide +kernel, rfl, by decide +kernel, by decide +kernel⟩
theorem ok_laid (T : Tx fa fn G) (d_is_hole : ∀ n, Dok P w base CX0 G "is_hole" ["place"] n (F_is_hole n)) : ∀ n, Dok P w base CX0 G "laid" ["place", "mark", "other"] n (F_laid n) :=
  dok_mk rfl (fun _ => rfl) (T.says.def_ 23 (d := d0_laid) rfl) (T.glo 53) sc_laid (fun _ _ _ _ _ _ us hl => match us, hl with | [_, _, _], _ => rfl) fun n d0 cdv A outer s H E hr => by
    have hN := sc_laid.nd
    have d_laid : ∀ _ : Nat, Dok P w base CX0 G "laid" ["place", "mark", "other"] n (F_laid n) := fun _ => d0
    have hU := hr.u200
    have hu1 := hr.u1
    exact (xs1 (xifs (xtisN (xv 0)) (xs1 (xret xnon)
    xs0) xs0)
    (xs1 (xifs (xtru rfl (xcW (d_is_hole n) rfl rfl hr px0 (xa1 (xv 0) xa0))) (xs1 (xret (xif (xtcmp op_eqX (os_eq hU) (xfld rfl (T.fl 13 14 17) (xv 0)) (xv 1)) (xv 2) (xv 0)))
    xs0) xs0)
    (xs1 (xsfl rfl (T.fl 13 14 16) (xv 0) (xcW (d_laid n) rfl rfl hr px0 (xa1 (xfld rfl (T.fl 13 14 16) (xv 0)) (xa1 (xv 1) (xa1 (xv 2) xa0)))))
    (xs1 (xsfl rfl (T.fl 13 14 15) (xv 0) (xcW (d_laid n) rfl rfl hr px0 (xa1 (xfld rfl (T.fl 13 14 15) (xv 0)) (xa1 (xv 1) (xa1 (xv 2) xa0)))))
    (xs1 (xret (xv 0))
    xs0)))))

theorem sc_Weaving_fill : FnScope ["self", "mark", "place", "found", "index", "own", "one", "other"] ["self", "mark", "place"] (defScope s_Weaving_fill) := ⟨rfl, rfl, rfl, by decide +kernel, rfl, by decide +kernel, by decide +kernel⟩
theorem ok_Weaving_fill (T : Tx fa fn G) (d_laid : ∀ n, Dok P w base CX0 G "laid" ["place", "mark", "other"] n (F_laid n)) : ∀ n, DokM P w base CX0 G "Weaving" "fill" ["self", "mark", "place"] n (F_Weaving_fill n) :=
  dokM_mk rfl (fun _ => rfl) (T.says.def_ 24 (d := d0_Weaving_fill) rfl) (T.glo 19) (T.cls 20) (T.meth 54) sc_Weaving_fill (fun _ _ _ _ _ _ us hl => match us, hl with | [_, _, _], _ => rfl) fun n d0 cdv A outer s H E hr => by
    have hN := sc_Weaving_fill.nd
    have hU := hr.u200
    have hu1 := hr.u1
    exact (xs1 (xsfl rfl (T.fl 19 20 26) (xv 0) (xcW (d_laid n) rfl rfl hr px0 (xa1 (xfld rfl (T.fl 19 20 26) (xv 0)) (xa1 (xv 1) (xa1 (xv 2) xa0)))))
    (xs1 (xset 3 hN xd0)
    (xs1 (xfor .never rfl (xidM (xfld rfl (T.fl 19 20 23) (xv 0))) (xgt rfl rfl (xgs1 (xgn 4 hN) (xgs1 (xgt rfl rfl (xgs1 (xgn 5 hN) (xgs1 (xgn 6 hN) (xgs1 (xgn 7 hN) xgs0)))) xgs0))) (xs1 (xasg (xtup (xa1 (xv 5) (xa1 (xcW (d_laid n) rfl rfl hr px0 (xa1 (xv 6) (xa1 (xv 1) (xa1 (xv 2) xa0)))) (xa1 (xcW (d_laid n) rfl rfl hr px0 (xa1 (xv 7) (xa1 (xv 1) (xa1 (xv 2) xa0)))) xa0)))) (xgsub hu1 (xv 3) (xv 4)))
    xs0))
    (xs1 (xsfl rfl (T.fl 19 20 23) (xv 0) (xv 3))
    xs0))))

theorem sc_Weaving_hole : FnScope ["self"] ["self"] (defScope s_Weaving_hole) := ⟨rfl, rfl, rfl, by decide +kernel, rfl, by decide +kernel, by decide +kernel⟩
theorem ok_Weaving_hole (T : Tx fa fn G) (d_Place_init : ∀ n, DokI P w base CX0 G "Place" ["self", "key", "mark"] n (F_Place_init n)) : ∀ n, DokM P w base CX0 G "Weaving" "hole" ["self"] n (F_Weaving_hole n) :=
  dokMC_mk rfl rfl (fun _ => rfl) (T.says.def_ 25 (d := d0_Weaving_hole) rfl) (T.glo 19) (T.cls 20) (T.meth 55) sc_Weaving_hole (fun _ _ _ _ _ _ us hl => match us, hl with | [_], _ => rfl) fun n cdv A outer s H E hr1 => by
    have hr := hr1.mono (Nat.le_succ n)
    have hN := sc_Weaving_hole.nd
    have hU := hr.u200
    have hu1 := hr.u1
    exact (xs1 (xsfl rfl (T.fl 19 20 21) (xv 0) (xbinF op_addX of_add (xfld rfl (T.fl 19 20 21) (xv 0)) xint))
    (xs1 (xret (xmk (d_Place_init n) rfl rfl hr1 px0 (xa1 xnon (xa1 (xfld rfl (T.fl 19 20 21) (xv 0)) xa0))))
    xs0))

theorem sc_Weaving_step : FnScope ["self", "index", "mark", "one", "other", "more", "rest", "key", "value"] ["self", "index"] (defScope s_Weaving_step) := ⟨rfl, rfl, rfl, by decide +kernel, rfl, by decide +kernel, by decide +kernel⟩
theorem ok_Weaving_step (T : Tx fa fn G) (d_Weaving_fill : ∀ n, DokM P w base CX0 G "Weaving" "fill" ["self", "mark", "place"] n (F_Weaving_fill n)) (d_Weaving_hole : ∀ n, DokM P w base CX0 G "Weaving" "hole" ["self"] n (F_Weaving_hole n)) (d_is_hole : ∀ n, Dok P w base CX0 G "is_hole" ["place"] n (F_is_hole n)) : ∀ n, DokM P w base CX0 G "Weaving" "step" ["self", "index"] n (F_Weaving_step n) :=
  dokM_mk rfl (fun _ => rfl) (T.says.def_ 26 (d := d0_Weaving_step) rfl) (T.glo 19) (T.cls 20) (T.meth 56) sc_Weaving_step (fun _ _ _ _ _ _ us hl => match us, hl with | [_, _], _ => rfl) fun n d0 cdv A outer s H E hr => by
    have hN := sc_Weaving_step.nd
    have hU := hr.u200
    have hu1 := hr.u1
    exact (xs1 (xasg (xdg hu1 (xfld rfl (T.fl 19 20 23) (xv 0)) (xv 1)) (xgt rfl rfl (xgs1 (xgn 2 hN) (xgs1 (xgn 3 hN) (xgs1 (xgn 4 hN) xgs0)))))
    (xs1 (xifs (xpw (xwor (xtru rfl (xcW (d_is_hole n) rfl rfl hr px0 (xa1 (xv 3) xa0))) (xwor1 (xtru rfl (xcW (d_is_hole n) rfl rfl hr px0 (xa1 (xv 4) xa0)))))) (xs1 xretN
    xs0) xs0)
    (xs1 (xifs (xpw (xwor (xtisN (xv 3)) (xwor1 (xtisN (xv 4))))) (xs1 (xsfl rfl (T.fl 19 20 23) (xv 0) (xdc (own := [("key", 7), ("value", 8)]) rfl hN (xidM (xfld rfl (T.fl 19 20 23) (xv 0))) (blk_ok (by rfl)) (tg_2 (by decide) (by decide)) pt_1 (fun _ _ _ _ _ => pg_tup rfl (pgs_cons (pg_name (i := 7) hN rfl (Or.inl rfl)) (pgs_cons (pg_name (i := 8) hN rfl (Or.inl rfl)) pgs_nil))) (fun _ _ _ _ _ => pts1 (xtcmp op_neX (os_eq hU) (xv 7) (xv 1))) (fun _ _ _ _ _ => (xv 7)) (fun _ _ _ _ _ => (xv 8))))
    (xs1 (xexp (xmt (d_Weaving_fill n) rfl rfl hr px0 (xv 0) (xa1 (xv 2) (xa1 (xif (xtisN (xv 4)) (xv 3) (xv 4)) xa0))))
    (xs1 xretN
    xs0))) xs0)
    (xs1 (xifs (xtcmp op_lt os_lt (xfld rfl (T.fl 13 14 18) (xv 4)) (xfld rfl (T.fl 13 14 18) (xv 3))) (xs1 (xpar (i := 3) (j := 4) rfl hN (xa1 (xv 4) (xa1 (xv 3) xa0)))
    xs0) xs0)
    (xs1 (xpar (i := 5) (j := 6) rfl hN (xa1 (xmt0 (d_Weaving_hole n) rfl rfl hr px0 (xv 0)) (xa1 (xfld rfl (T.fl 13 14 15) (xv 3)) xa0)))
    (xs1 (xasg (xtup (xa1 (xv 5) (xa1 (xfld rfl (T.fl 13 14 16) (xv 3)) xa0))) (xgt rfl rfl (xgs1 (xgfl rfl (T.fl 13 14 16) (xv 3)) (xgs1 (xgfl rfl (T.fl 13 14 15) (xv 3)) xgs0))))
    (xs1 (xexp (xmt (d_Weaving_fill n) rfl rfl hr px0 (xv 0) (xa1 (xv 2) (xa1 (xv 3) xa0))))
    (xs1 (xasg (xtup (xa1 (xfld rfl (T.fl 13 14 17) (xv 5)) (xa1 (xv 6) (xa1 (xv 4) xa0)))) (xgsub hu1 (xfld rfl (T.fl 19 20 23) (xv 0)) (xv 1)))
    xs0))))))))

theorem sc_Weaving_begin : FnScope ["self", "one", "other"] ["self", "one", "other"] (defScope s_Weaving_begin) := ⟨rfl, rfl, rfl, by decide +kernel, rfl, by decide +kernel, by decide +kernel⟩
theorem ok_Weaving_begin (T : Tx fa fn G) (d_Weaving_hole : ∀ n, DokM P w base CX0 G "Weaving" "hole" ["self"] n (F_Weaving_hole n)) : ∀ n, DokM P w base CX0 G "Weaving" "begin" ["self", "one", "other"] n (F_Weaving_begin n) :=
  dokM_mk rfl (fun _ => rfl) (T.says.def_ 27 (d := d0_Weaving_begin) rfl) (T.glo 19) (T.cls 20) (T.meth 57) sc_Weaving_begin (fun _ _ _ _ _ _ us hl => match us, hl with | [_, _, _], _ => rfl) fun n d0 cdv A outer s H E hr => by
    have hN := sc_Weaving_begin.nd
    have hU := hr.u200
    have hu1 := hr.u1
    exact (xs1 (xsfl rfl (T.fl 19 20 26) (xv 0) (xmt0 (d_Weaving_hole n) rfl rfl hr px0 (xv 0)))
    (xs1 (xasg (xtup (xa1 (xfld rfl (T.fl 13 14 17) (xfld rfl (T.fl 19 20 26) (xv 0))) (xa1 (xv 1) (xa1 (xv 2) xa0)))) (xgsub hu1 (xfld rfl (T.fl 19 20 23) (xv 0)) (xfld rfl (T.fl 19 20 24) (xv 0))))
    (xs1 (xsfl rfl (T.fl 19 20 24) (xv 0) (xbinF op_addX of_add (xfld rfl (T.fl 19 20 24) (xv 0)) xint))
    xs0)))

theorem sc_Weaving_enter : FnScope ["self", "deed", "top"] ["self", "deed"] (defScope s_Weaving_enter) := ⟨rfl, rfl, rfl, by decide +kernel, rfl, by decide +kernel, by decide +kernel⟩
theorem ok_Weaving_enter (T : Tx fa fn G) (d_Weaving_step : ∀ n, DokM P w base CX0 G "Weaving" "step" ["self", "index"] n (F_Weaving_step n)) (d_Weaving_begin : ∀ n, DokM P w base CX0 G "Weaving" "begin" ["self", "one", "other"] n (F_Weaving_begin n)) (d_Place_init : ∀ n, DokI P w base CX0 G "Place" ["self", "key", "mark"] n (F_Place_init n)) (d_is_hole : ∀ n, Dok P w base CX0 G "is_hole" ["place"] n (F_is_hole n)) : ∀ n, DokM P w base CX0 G "Weaving" "enter" ["self", "deed"] n (F_Weaving_enter n) :=
  dokMC_mk rfl rfl (fun _ => rfl) (T.says.def_ 28 (d := d0_Weaving_enter) rfl) (T.glo 19) (T.cls 20) (T.meth 58) sc_Weaving_enter (fun _ _ _ _ _ _ us hl => match us, hl with | [_, _], _ => rfl) fun n cdv A outer s H E hr1 => by
    have hr := hr1.mono (Nat.le_succ n)
    have hN := sc_Weaving_enter.nd
    have hU := hr.u200
    have hu1 := hr.u1
    exact (xs1 (xset 2 hN (xfld rfl (T.fl 19 20 26) (xv 0)))
    (xs1 (xifs (xtru rfl (xcW (d_is_hole n) rfl rfl hr px0 (xa1 (xv 2) xa0))) (xs1 xretN
    xs0) xs0)
    (xs1 (xifs (xtcmp op_eqX (os_eq hU) (xix rfl (xv 1) xint) xstr) (xs1 (xexp (xmt (d_Weaving_begin n) rfl rfl hr px0 (xv 0) (xa1 (xv 2) (xa1 (xmk (d_Place_init n) rfl rfl hr1 px0 (xa1 (xix rfl (xv 1) xint) (xa1 xint xa0))) xa0))))
    (xs1 (xexp (xmt (d_Weaving_step n) rfl rfl hr px0 (xv 0) (xa1 (xbin op_sub os_sub (xfld rfl (T.fl 19 20 24) (xv 0)) xint) xa0)))
    xs0)) (xs1 (xifs (xtisN (xv 2)) (xs1 (xsfl rfl (T.fl 19 20 24) (xv 0) (xbinF op_addX of_add (xfld rfl (T.fl 19 20 24) (xv 0)) xint))
    (xs1 (xexp (xapp (xfld rfl (T.fl 19 20 22) (xv 0)) xnon))
    xs0)) (xs1 (xifs (xpw (xwand (xtnot (xtru rfl (xcW (d_is_hole n) rfl rfl hr px0 (xa1 (xfld rfl (T.fl 13 14 16) (xv 2)) xa0)))) (xwand1 (xtnot (xtru rfl (xcW (d_is_hole n) rfl rfl hr px0 (xa1 (xfld rfl (T.fl 13 14 15) (xv 2)) xa0))))))) (xs1 (xexp (xapp (xfld rfl (T.fl 19 20 22) (xv 0)) (xfld rfl (T.fl 13 14 18) (xv 2))))
    (xs1 (xifs (xpw (xwor (xtisN (xfld rfl (T.fl 13 14 16) (xv 2))) (xwor1 (xtisN (xfld rfl (T.fl 13 14 15) (xv 2)))))) (xs1 (xsfl rfl (T.fl 19 20 26) (xv 0) (xif (xtisN (xfld rfl (T.fl 13 14 16) (xv 2))) (xfld rfl (T.fl 13 14 15) (xv 2)) (xfld rfl (T.fl 13 14 16) (xv 2))))
    (xs1 (xsfl rfl (T.fl 19 20 24) (xv 0) (xbinF op_addX of_add (xfld rfl (T.fl 19 20 24) (xv 0)) xint))
    xs0)) (xs1 (xexp (xmt (d_Weaving_begin n) rfl rfl hr px0 (xv 0) (xa1 (xfld rfl (T.fl 13 14 16) (xv 2)) (xa1 (xfld rfl (T.fl 13 14 15) (xv 2)) xa0))))
    xs0))
    xs0)) xs0)
    xs0))
    xs0))
    xs0)))

theorem sc_Weaving_turn : FnScope ["self", "index"] ["self", "index"] (defScope s_Weaving_turn) := ⟨rfl, rfl, rfl, by decide +kernel, rfl, by decide +kernel, by decide +kernel⟩
theorem ok_Weaving_turn (T : Tx fa fn G) (d_Weaving_step : ∀ n, DokM P w base CX0 G "Weaving" "step" ["self", "index"] n (F_Weaving_step n)) (d_Weaving_enter : ∀ n, DokM P w base CX0 G "Weaving" "enter" ["self", "deed"] n (F_Weaving_enter n)) : ∀ n, DokM P w base CX0 G "Weaving" "turn" ["self", "index"] n (F_Weaving_turn n) :=
  dokM_mk rfl (fun _ => rfl) (T.says.def_ 29 (d := d0_Weaving_turn) rfl) (T.glo 19) (T.cls 20) (T.meth 59) sc_Weaving_turn (fun _ _ _ _ _ _ us hl => match us, hl with | [_, _], _ => rfl) fun n d0 cdv A outer s H E hr => by
    have hN := sc_Weaving_turn.nd
    have hU := hr.u200
    have hu1 := hr.u1
    exact (xs1 (xifs (xtin_ hu1 (xv 1) (xfld rfl (T.fl 19 20 23) (xv 0))) (xs1 (xexp (xmt (d_Weaving_step n) rfl rfl hr px0 (xv 0) (xa1 (xv 1) xa0)))
    xs0) (xs1 (xifs (xtcmp op_eqX (os_eq hU) (xv 1) (xfld rfl (T.fl 19 20 24) (xv 0))) (xs1 (xexp (xmt (d_Weaving_enter n) rfl rfl hr px0 (xv 0) (xa1 (xix rfl (xfld rfl (T.fl 19 20 25) (xv 0)) (xv 1)) xa0)))
    xs0) xs0)
    xs0))
    xs0)

theorem sc_closed : FnScope ["place"] ["place"] (defScope s_closed) := ⟨rfl, rfl, rfl, by decide +kernel, rfl, by decide +kernel, by decide +kernel⟩
theorem ok_closed (T : Tx fa fn G) : ∀ n, Dok P w base CX0 G "closed" ["place"] n (F_closed n) :=
  dok_mk rfl (fun _ => rfl) (T.says.def_ 30 (d := d0_closed) rfl) (T.glo 60) sc_closed (fun _ _ _ _ _ _ us hl => match us, hl with | [_], _ => rfl) fun n d0 cdv A outer s H E hr => by
    have hN := sc_closed.nd
    have d_closed : ∀ _ : Nat, Dok P w base CX0 G "closed" ["place"] n (F_closed n) := fun _ => d0
    have hU := hr.u200
    have hu1 := hr.u1
    exact (xs1 (xret (xif (xtisN (xv 0)) xnon (xtup (xa1 (xfld rfl (T.fl 13 14 18) (xv 0)) (xa1 (xcW (d_closed n) rfl rfl hr px0 (xa1 (xfld rfl (T.fl 13 14 16) (xv 0)) xa0)) (xa1 (xcW (d_closed n) rfl rfl hr px0 (xa1 (xfld rfl (T.fl 13 14 15) (xv 0)) xa0)) xa0))))))
    xs0)

theorem sc_woven : FnScope ["heap", "deeds", "turns", "weaving", "at", "index", "still"] ["heap", "deeds", "turns"] (defScope s_woven) := ⟨rfl, rfl, rfl, by decide +kernel, rfl, by decide +kernel, by decide +kernel⟩
theorem ok_woven (T : Tx fa fn G) (d_closed : ∀ n, Dok P w base CX0 G "closed" ["place"] n (F_closed n)) (d_Weaving_step : ∀ n, DokM P w base CX0 G "Weaving" "step" ["self", "index"] n (F_Weaving_step n)) (d_Weaving_turn : ∀ n, DokM P w base CX0 G "Weaving" "turn" ["self", "index"] n (F_Weaving_turn n)) (d_is_in : ∀ n, Dok P w base CX0 G "is_in" ["value", "least", "most"] n (F_is_in n)) (d_Weaving_init : ∀ n, DokI P w base CX0 G "Weaving" ["self", "heap", "deeds"] n (F_Weaving_init n)) (d_need_deeds : ∀ n, Dok P w base CX0 G "need_deeds" ["heap", "deeds"] n (F_need_deeds n)) (d_need_heap : ∀ n, Dok P w base CX0 G "need_heap" ["heap"] n (F_need_heap n)) : ∀ n, Dok P w base CX0 G "woven" ["heap", "deeds", "turns"] n (F_woven n) :=
  dokC_mk rfl rfl (fun _ => rfl) (T.says.def_ 31 (d := d0_woven) rfl) (T.glo 61) sc_woven (fun _ _ _ _ _ _ us hl => match us, hl with | [_, _, _], _ => rfl) fun n d0 cdv A outer s H E hr1 => by
    have hr := hr1.mono (Nat.le_succ n)
    have hN := sc_woven.nd
    have hU := hr.u200
    have hu1 := hr.u1
    exact (xs1 (xexp (xcP (d_need_heap n) rfl rfl hr px0 (xa1 (xv 0) xa0)))
    (xs1 (xexp (xcP (d_need_deeds n) rfl rfl hr px0 (xa1 (xv 0) (xa1 (xv 1) xa0))))
    (xs1 (xifs (xpw (xwor (xtnot (xtru rfl (xisi rfl ok_tuple rfl (T.free 7) (by rfl) (by rfl) (T.free 5) (xv 2)))) (xwor1 (xtcmp op_gt os_gt (xcb cr_lenX cs_len (by rfl) (T.free 1) rfl (xa1 (xv 2) xa0)) (xgint (by rfl) (T.int 28)))))) (xs1 xnvr
    xs0) xs0)
    (xs1 (xset 3 hN (xmk (d_Weaving_init n) rfl rfl hr1 px0 (xa1 (xv 0) (xa1 (xv 1) xa0))))
    (xs1 (xfor .never rfl (xien rfl (by rfl) (T.free 11) (xa1 (xv 2) xa0)) (xgt rfl rfl (xgs1 (xgn 4 hN) (xgs1 (xgn 5 hN) xgs0))) (xs1 (xifs (xtnot (xtru rfl (xcP (d_is_in n) rfl rfl hr px0 (xa1 (xv 5) (xa1 xint (xa1 (xcb (call_min2 rfl) cs_min2 (by rfl) (T.free 27) rfl (xa1 (xfld rfl (T.fl 19 20 24) (xv 3)) (xa1 (xbin op_sub os_sub (xcb cr_lenX cs_len (by rfl) (T.free 1) rfl (xa1 (xv 1) xa0)) xint) xa0))) xa0)))))) (xs1 xnvr
    xs0) xs0)
    (xs1 (xexp (xmt (d_Weaving_turn n) rfl rfl hr px0 (xv 3) (xa1 (xv 5) xa0)))
    xs0)))
    (xs1 (xset 6 hN (xcb cr_lenX cs_len (by rfl) (T.free 1) rfl (xa1 (xfld rfl (T.fl 19 20 23) (xv 3)) xa0)))
    (xs1 (xwhl 1000 .never (xtru rfl (xfld rfl (T.fl 19 20 23) (xv 3))) (xs1 (xexp (xmt (d_Weaving_step n) rfl rfl hr px0 (xv 3) (xa1 (xcb (cr_minK rfl) cs_mnD (by rfl) (T.free 27) rfl (xa1 (xfld rfl (T.fl 19 20 23) (xv 3)) xa0)) xa0)))
    xs0))
    (xs1 (xret (xtup (xa1 (xcW (d_closed n) rfl rfl hr px0 (xa1 (xfld rfl (T.fl 19 20 26) (xv 3)) xa0)) (xa1 (xct call_tuple_of cs_tup (by rfl) (T.free 7) rfl (xa1 (xfld rfl (T.fl 19 20 22) (xv 3)) xa0)) (xa1 (xv 6) xa0)))))
    xs0))))))))

theorem sc_law : FnScope ["_law_script", "_law_row", "_law_heap_here", "_law_deeds", "_law_k", "_law_stands", "_law_good", "_law_deed", "_law_state", "_law_turns", "_law_turn", "_law_index", "_law_still"] ["_law_script"] (defScope s_law) := ⟨rfl, rfl, rfl, by decide +kernel, rfl, by decide +kernel, by decide +kernel⟩
theorem bd_law (T : Tx fa fn G) (d_q_alike : ∀ n, Dok P w base CX0 G "_law_alike" ["_law_found", "_law_due"] n (F_q_alike n)) (d_woven : ∀ n, Dok P w base CX0 G "woven" ["heap", "deeds", "turns"] n (F_woven n)) (d_q_step : ∀ n, Dok P w base CX0 G "_law_step" ["_law_state", "_law_k"] n (F_q_step n)) (d_q_taken : ∀ n, Dok P w base CX0 G "_law_taken" ["_law_row", "_law_many"] n (F_q_taken n)) (d_q_enter : ∀ n, Dok P w base CX0 G "_law_enter" ["_law_state", "_law_deed"] n (F_q_enter n)) (d_q_keys : ∀ n, Dok P w base CX0 G "_law_keys" ["_law_heap_here"] n (F_q_keys n)) (d_q_pick : ∀ n, Dok P w base CX0 G "_law_pick" ["_law_row", "_law_things"] n (F_q_pick n)) (d_q_any : ∀ n, Dok P w base CX0 G "_law_any" ["_law_row", "_law_some"] n (F_q_any n)) (d_q_order : ∀ n, Dok P w base CX0 G "_law_order" ["_law_row", "_law_most"] n (F_q_order n)) (fA : Addr) (n : Nat) : ∀ (cdv : Value) (A : Around) (outer : List Env) (s : Shared) (H : Hp) (E : XK), Room n (A.deeper (envOfC "law" (defScope s_law) s.heap.objs.size fA cdv)) → PSs (cxOf CX0 P w G.K G.mg base ["_law_script", "_law_row", "_law_heap_here", "_law_deeds", "_law_k", "_law_stands", "_law_good", "_law_deed", "_law_state", "_law_turns", "_law_turn", "_law_index", "_law_still"] "law" (defScope s_law) fA cdv A outer s H E).nox (defBody s_law) (rdS G E (b_law (F_q_alike n) (F_woven n) (F_q_step n) (F_q_taken n) (F_q_enter n) (F_q_keys n) (F_q_pick n) (F_q_any n) (F_q_order n))) := by
    intro cdv A outer s H E hr
    have hN := sc_law.nd
    have hU := hr.u200
    have hu1 := hr.u1
    exact (xs1 (xset 1 hN (xlstR (xa1 (xv 0) (xa1 xint (xa1 xint (xa1 xint xa0))))))
    (xs1 (xpar (i := 2) (j := 3) rfl hN (xa1 (xcW (d_q_any n) rfl rfl hr px0 (xa1 (xv 1) (xa1 (xcbF cr_sortedX cs_srtX (by rfl) (T.free 29) rfl (xa1 (xcW (d_q_order n) rfl rfl hr px0 (xa1 (xv 1) (xa1 xint xa0))) xa0)) xa0))) (xa1 (xtup xa0) xa0)))
    (xs1 (xfor .never rfl (xir1 (xa1 (xcW (d_q_taken n) rfl rfl hr px0 (xa1 (xv 1) (xa1 xint xa0))) xa0) (by rfl) (T.free 2)) (xgn 4 hN) (xs1 (xset 3 hN (xbinF op_addX of_add (xv 3) (xif (xtcmp op_eqX (os_eq hU) (xcW (d_q_taken n) rfl rfl hr px0 (xa1 (xv 1) (xa1 xint xa0))) xint) (xtup (xa1 (xtup (xa1 xstr xa0)) xa0)) (xtup (xa1 (xtup (xa1 xstr (xa1 (xcW (d_q_pick n) rfl rfl hr px0 (xa1 (xv 1) (xa1 (xlstG (xa1 (xbinF op_addX of_add (xv 4) xint) (xa1 (xbin op_sub os_sub (xneg xint) (xv 4)) (xa1 (xbin op_sub os_sub (xbin op_mulY os_mul xint (xv 4)) xint) xa0)))) xa0))) xa0))) xa0)))))
    xs0))
    (xs1 (xpar (i := 5) (j := 6) rfl hN (xa1 (xcP (d_q_keys n) rfl rfl hr px0 (xa1 (xv 2) xa0)) (xa1 (xtup xa0) xa0)))
    (xs1 (xfor .never rfl (xis rfl (xv 3)) (xgn 7 hN) (xs1 (xifs (xpw (xwor (xtcmp op_eqX (os_eq hU) (xix rfl (xv 7) xint) xstr) (xwor1 (xtcmp op_notInX (os_in hU) (xix rfl (xv 7) xint) (xv 5))))) (xs1 (xpar (i := 6) (j := 5) rfl hN (xa1 (xbinF op_addX of_add (xv 6) (xtup (xa1 (xv 7) xa0))) (xa1 (xbinF op_addX of_add (xv 5) (xif (xtcmp op_eqX (os_eq hU) (xix rfl (xv 7) xint) xstr) (xlstG (xa1 (xix rfl (xv 7) xint) xa0)) (xlstG xa0))) xa0)))
    xs0) xs0)
    xs0))
    (xs1 (xset 3 hN (xv 6))
    (xs1 (xpar (i := 8) (j := 9) rfl hN (xa1 (xlstR (xa1 (xv 2) (xa1 xint (xa1 xd0 (xa1 (xlstR xa0) (xa1 xint xa0)))))) (xa1 (xtup xa0) xa0)))
    (xs1 (xfor .never rfl (xir1 (xa1 (xif (xtcmp op_neX (os_eq hU) (xv 3) (xtup xa0)) (xcW (d_q_taken n) rfl rfl hr px0 (xa1 (xv 1) (xa1 xint xa0))) xint) xa0) (by rfl) (T.free 2)) (xgn 10 hN) (xs1 (xset 11 hN (xif (xtcmp op_eqX (os_eq hU) (xcW (d_q_taken n) rfl rfl hr px0 (xa1 (xv 1) (xa1 xint xa0))) xint) (xcW (d_q_taken n) rfl rfl hr px0 (xa1 (xv 1) (xa1 (xbinF op_addX of_add (xcb (call_min2 rfl) cs_min2 (by rfl) (T.free 27) rfl (xa1 (xix rfl (xv 8) xint) (xa1 (xbin op_sub os_sub (xcb cr_lenX cs_len (by rfl) (T.free 1) rfl (xa1 (xv 3) xa0)) xint) xa0))) xint) xa0))) (xcb (call_min2 rfl) cs_min2 (by rfl) (T.free 27) rfl (xa1 (xix rfl (xv 8) xint) (xa1 (xbin op_sub os_sub (xcb cr_lenX cs_len (by rfl) (T.free 1) rfl (xa1 (xv 3) xa0)) xint) xa0)))))
    (xs1 (xset 9 hN (xbinF op_addX of_add (xv 9) (xtup (xa1 (xv 11) xa0))))
    (xs1 (xifs (xtin_ hu1 (xv 11) (xix rfl (xv 8) xint)) (xs1 (xexp (xcW (d_q_step n) rfl rfl hr px0 (xa1 (xv 8) (xa1 (xv 11) xa0))))
    xs0) (xs1 (xifs (xtcmp op_eqX (os_eq hU) (xv 11) (xix rfl (xv 8) xint)) (xs1 (xexp (xcW (d_q_enter n) rfl rfl hr px0 (xa1 (xv 8) (xa1 (xix rfl (xv 3) (xv 11)) xa0))))
    xs0) xs0)
    xs0))
    xs0))))
    (xs1 (xset 12 hN (xcb cr_lenX cs_len (by rfl) (T.free 1) rfl (xa1 (xix rfl (xv 8) xint) xa0)))
    (xs1 (xfor .never rfl (xir1 (xa1 xint xa0) (by rfl) (T.free 2)) (xgn 10 hN) (xs1 (xifs (xtcmp op_neX (os_eq hU) (xctF (cr_lstX rfl) cs_lstX (by rfl) (T.free 3) rfl (xa1 (xix rfl (xv 8) xint) xa0)) (xlstG xa0)) (xs1 (xexp (xcW (d_q_step n) rfl rfl hr px0 (xa1 (xv 8) (xa1 (xcb (cr_min rfl) cs_minL (by rfl) (T.free 27) rfl (xa1 (xctF (cr_lstX rfl) cs_lstX (by rfl) (T.free 3) rfl (xa1 (xix rfl (xv 8) xint) xa0)) xa0)) xa0))))
    xs0) xs0)
    xs0))
    (xs1 (xret (xcP (d_q_alike n) rfl rfl hr px0 (xa1 (xcP (d_woven n) rfl rfl hr px0 (xa1 (xv 2) (xa1 (xv 3) (xa1 (xv 9) xa0)))) (xa1 (xtup (xa1 (xix rfl (xv 8) xint) (xa1 (xct call_tuple_of cs_tup (by rfl) (T.free 7) rfl (xa1 (xix rfl (xv 8) xint) xa0)) (xa1 (xv 12) xa0)))) xa0))))
    xs0)))))))))))

end
def tf : List He.Defn := []
def nmK (K : PySem.W.Frag) : Addr → Option Str := fun _ => none
def exB (K : PySem.W.Frag) : Bool := true
def names0 : List PySem.Str := ["HeapError", "BadHeap", "BadDeeds", "BadTurns", "MOST_KEY", "MOST_KEYS", "is_in", "is_key", "has_form", "key_list", "is_heap", "need_heap", "MOST_WOVEN", "MOST_TURNS", "Place", "Weaving", "is_hole", "laid", "opened", "closed", "is_deed", "need_deeds", "woven", "_law_taken", "_law_pick", "_law_alike", "_law_join", "_law_built", "_law_keys", "_law_order"]
def names1 : List PySem.Str := ["_law_heap", "_law_any", "_law_is_turned", "_law_shape", "_law_put_in", "_law_is_hole", "_law_fill", "_law_step", "_law_enter"]
def names : List PySem.Str := names0 ++ names1
abbrev Rw : PySem.W.OpenRow := PySem.W.OpenLaw.row PySem.Challenge.rw_turnheaps_k07_whole_weavings
abbrev hk : PySem.W.Hook := He.hookX 4 fa fn [] tf exB
def ob (s : PySem.W.SharedT) : He.AlX := He.obsX 4 fa fn [] tf exB (HandSHeadRun.getT s)
theorem ob_eq (s : PySem.W.SharedT) : ob s = hk.obs s.abs := He.obsX_eq (HandSHeadRun.getT_eq s)
theorem run (w : World) : HandSHeadRun.RunEq Rw (PySem.W.view Rw.prog [43]) hk ob 4000 names w := by
  intro os
  kernel_rfl
theorem facts {P : Program} {w : World} {K : PySem.W.Frag} {h : Heap} {mg : Str → Option Value} {f : Addr} (X : K.In h) (Gm : h.Ns mainGlobals mg) (hfa : mg ("law" : Str) = some (.ref f)) (c : He.SaysX fa fn [] tf exB w h K) (n : Nat)
    (hrun : ∀ ns : List Int, ∃ M, F_law (n + 1) [.g (.list (ns.map .int))] [] = .ok (vB true) M) :
    ∃ fd : FuncData, (∀ (s : Shared) (v : Value), BindsTo s fd ⟨[v], []⟩ [("_law_script", v)]) ∧ ∀ base : Heap, K.In base → base.Ns mainGlobals mg → (∀ p ∈ tf.map (He.cT K), LamX.TabB base mg p.1 p.2) → FnOk P w K mg base CX0 (n + 1) f fd ["_law_script"] (spL ⟨K, mg, (tf.map (He.cT K)).map (·.2), nmK K⟩) := by
  have T : Tx fa fn ⟨K, mg, (tf.map (He.cT K)).map (·.2), nmK K⟩ := ⟨c.t.d, h, X, Gm⟩
  obtain ⟨fd, F⟩ := c.t.d.def_ 32 (d := d0_law) rfl
  have e := hfa.symm.trans (T.glo 62)
  cases e
  have b := FunD.bindsA (ps := ["_law_script"]) F fun _ _ _ _ _ _ us hl => match us, hl with | [_], _ => rfl
  refine ⟨fd, fun s v => b s [v] rfl, fun base _ _ hT => ?_⟩
  let G : Gx := ⟨K, mg, (tf.map (He.cT K)).map (·.2), nmK K⟩
  have d_q_taken := ok_q_taken (P := P) (w := w) (base := base) (G := G) T
  have d_q_any := ok_q_any (P := P) (w := w) (base := base) (G := G) T d_q_taken
  have d_q_pick := ok_q_pick (P := P) (w := w) (base := base) (G := G) T d_q_taken
  have d_q_order := ok_q_order (P := P) (w := w) (base := base) (G := G) T d_q_pick d_q_taken
  have d_q_keys := ok_q_keys (P := P) (w := w) (base := base) (G := G) T
  have d_q_is_hole := ok_q_is_hole (P := P) (w := w) (base := base) (G := G) T
  have d_q_put_in := ok_q_put_in (P := P) (w := w) (base := base) (G := G) T
  have d_q_fill := ok_q_fill (P := P) (w := w) (base := base) (G := G) T d_q_put_in
  have d_q_step := ok_q_step (P := P) (w := w) (base := base) (G := G) T d_q_fill d_q_is_hole
  have d_q_enter := ok_q_enter (P := P) (w := w) (base := base) (G := G) T d_q_step d_q_is_hole
  have d_q_alike := ok_q_alike (P := P) (w := w) (base := base) (G := G) T
  have d_is_in := ok_is_in (P := P) (w := w) (base := base) (G := G) T
  have d_is_key := ok_is_key (P := P) (w := w) (base := base) (G := G) T d_is_in
  have d_has_form := ok_has_form (P := P) (w := w) (base := base) (G := G) T d_is_key
  have d_key_list := ok_key_list (P := P) (w := w) (base := base) (G := G) T
  have d_is_heap := ok_is_heap (P := P) (w := w) (base := base) (G := G) T d_key_list d_has_form
  have d_need_heap := ok_need_heap (P := P) (w := w) (base := base) (G := G) T d_is_heap
  have d_is_deed := ok_is_deed (P := P) (w := w) (base := base) (G := G) T d_is_key
  have d_need_deeds := ok_need_deeds (P := P) (w := w) (base := base) (G := G) T d_is_deed d_key_list
  have d_Place_init := ok_Place_init (P := P) (w := w) (base := base) (G := G) T
  have d_opened := ok_opened (P := P) (w := w) (base := base) (G := G) T d_Place_init
  have d_Weaving_init := ok_Weaving_init (P := P) (w := w) (base := base) (G := G) T d_opened
  have d_is_hole := ok_is_hole (P := P) (w := w) (base := base) (G := G) T
  have d_laid := ok_laid (P := P) (w := w) (base := base) (G := G) T d_is_hole
  have d_Weaving_fill := ok_Weaving_fill (P := P) (w := w) (base := base) (G := G) T d_laid
  have d_Weaving_hole := ok_Weaving_hole (P := P) (w := w) (base := base) (G := G) T d_Place_init
  have d_Weaving_step := ok_Weaving_step (P := P) (w := w) (base := base) (G := G) T d_Weaving_fill d_Weaving_hole d_is_hole
  have d_Weaving_begin := ok_Weaving_begin (P := P) (w := w) (base := base) (G := G) T d_Weaving_hole
  have d_Weaving_enter := ok_Weaving_enter (P := P) (w := w) (base := base) (G := G) T d_Weaving_step d_Weaving_begin d_Place_init d_is_hole
  have d_Weaving_turn := ok_Weaving_turn (P := P) (w := w) (base := base) (G := G) T d_Weaving_step d_Weaving_enter
  have d_closed := ok_closed (P := P) (w := w) (base := base) (G := G) T
  have d_woven := ok_woven (P := P) (w := w) (base := base) (G := G) T d_closed d_Weaving_step d_Weaving_turn d_is_in d_Weaving_init d_need_deeds d_need_heap
  exact law_fn (G := G) F sc_law (bd_law T d_q_alike d_woven d_q_step d_q_taken d_q_enter d_q_keys d_q_pick d_q_any d_q_order _ n) hrun
end K07
set_option Elab.async false
set_option linter.all false
set_option maxRecDepth 100000
set_option maxHeartbeats 4000000
namespace Xt
open PySem
theorem eqI (a b : Int) (M : Mem) : eqD false (.g (.int a)) (.g (.int b)) M = .ok (.g (.bool (decide (a = b)))) M := by
  have e : PyData.eqv (.int a) (.int b) = decide (a = b) := rfl
  show chk (eqOk (.int a) (.int b)) (rt (vB (PyData.eqv (.int a) (.int b)))) M = _
  rw [e]
  rfl
theorem neI (a b : Int) (M : Mem) : eqD true (.g (.int a)) (.g (.int b)) M = .ok (.g (.bool (!decide (a = b)))) M := by
  have e : PyData.eqv (.int a) (.int b) = decide (a = b) := rfl
  show chk (eqOk (.int a) (.int b)) (rt (vB (!PyData.eqv (.int a) (.int b)))) M = _
  rw [e]
  rfl
inductive Tr
  | e
  | n (k : Int) (l r : Tr)
namespace Tr
def d : Tr → PyData
  | e => .none
  | n k l r => .tuple [.int k, d l, d r]
def sz : Tr → Nat
  | e => 0
  | n _ l r => 1 + sz l + sz r
def ks : Tr → List Int
  | e => []
  | n k l r => k :: (ks l ++ ks r)
/-- keys above lo, rising downwards -/
def hp : Int → Tr → Prop
  | _, e => True
  | lo, n k l r => lo < k ∧ k ≤ 1000000 ∧ hp k l ∧ hp k r
def no : Tr → Bool
  | e => true
  | _ => false
def tn : Tr → Bool
  | e => true
  | n _ l r => (!(no l) || no r) && (tn l && tn r)
theorem ks_len : ∀ t : Tr, t.ks.length = t.sz
  | e => rfl
  | n k l r => by simp [ks, sz, ks_len l, ks_len r]; omega
end Tr
theorem isN_none (b : Bool) (M : Mem) : isN b (.g .none) M = .ok (.g (.bool (!b))) M := rfl
theorem isN_tup (b : Bool) (xs : List PyData) (M : Mem) : isN b (.g (.tuple xs)) M = .ok (.g (.bool b)) M := rfl
theorem isN_lst (b : Bool) (xs : List PyData) (M : Mem) : isN b (.g (.list xs)) M = .ok (.g (.bool b)) M := rfl
theorem isN_int (b : Bool) (i : Int) (M : Mem) : isN b (.g (.int i)) M = .ok (.g (.bool b)) M := rfl
theorem isN_tr (b : Bool) (t : Tr) (M : Mem) : isN b (.g t.d) M = .ok (.g (.bool (b != t.no))) M := by
  cases t <;> cases b <;> rfl
theorem grd_map : ∀ xs : List PyData, grd (xs.map Dv.g) = some xs
  | [] => rfl
  | x :: xs => by
    show (grd (xs.map Dv.g)).map (x :: ·) = _
    rw [grd_map xs]
    rfl
theorem grd_mapI (xs : List Int) : grd (xs.map (Dv.g ∘ PyData.int)) = some (xs.map .int) := by
  have e : xs.map (Dv.g ∘ PyData.int) = (xs.map PyData.int).map Dv.g := by simp
  rw [e, grd_map]
theorem grd_appI (xs ys : List Int) : grd (xs.map (Dv.g ∘ PyData.int) ++ ys.map (Dv.g ∘ PyData.int)) = some (xs.map .int ++ ys.map .int) := by
  have e : xs.map (Dv.g ∘ PyData.int) ++ ys.map (Dv.g ∘ PyData.int) = (xs.map PyData.int ++ ys.map PyData.int).map Dv.g := by simp
  rw [e, grd_map]
theorem ddI_nd : ∀ (r a : List Int), (a ++ r).Nodup → ddI a r = a ++ r
  | [], a, _ => by simp [ddI]
  | x :: r, a, h => by
    have hx : (a.any fun j => decide (j = x)) = false := by
      rw [List.any_eq_false]
      intro y hy
      have := (List.nodup_append.mp h).2.2 y hy x (List.mem_cons_self ..)
      simpa using this
    unfold ddI
    rw [hx]
    show ddI (a ++ [x]) r = _
    rw [ddI_nd r (a ++ [x]) (by simpa using h)]
    simp
theorem intsP_map : ∀ ns : List Int, intsP (ns.map .int) = some ns
  | [] => rfl
  | n :: r => by simp [intsP, intsP_map r]
end Xt
namespace Xt
open PySem
namespace Tr
/-- the last places of a turned heap -/
def las : Tr → List Int
  | e => []
  | n k (n c e e) e => [k, c]
  | n k _ e => [k]
  | n _ l (n _ _ _) => las l
def outT : Tr → Int → Tr
  | e, _ => e
  | n k l e, x => if k = x then l else n k e e
  | n k l (n a b c), x => n k (n a b c) (outT l x)
theorem lay : ∀ t : Tr, t.d.canLay0 = true
  | e => rfl
  | n k l r => by simp [d, PyData.canLay0, PyData.canLayAll0, lay l, lay r]
/-- shapes -/
def sh : Tr → Tr
  | e => e
  | n _ l r => n 0 (sh l) (sh r)
/-- two last places -/
def two : Tr → Bool
  | e => false
  | n _ (n _ e e) e => true
  | n _ _ e => false
  | n _ l (n _ _ _) => two l
/-- a shape without a last place -/
def outS : Tr → Tr
  | e => e
  | n _ l e => if two (n 0 l e) then n 0 e e else l
  | n _ l (n a b c) => n 0 (n a b c) (outS l)
end Tr
theorem eqNN (l r : Tr) (M : Mem) : eqD false (.g (.tuple [l.d, r.d])) (.g (.tuple [.none, .none])) M = .ok (.g (.bool (l.no && r.no))) M := by
  have o : eqOk (.tuple [l.d, r.d]) (.tuple [.none, .none]) = true := by
    have a : PyData.canLay0 (.tuple [l.d, r.d]) = true := by simp [PyData.canLay0, PyData.canLayAll0, Tr.lay]
    unfold eqOk
    rw [a]
    refine Nat.ble_eq_true_of_le (Nat.le_trans (Nat.min_le_right _ _) ?_)
    simp [PyData.depth, PyData.depthAll]
  have q : PyData.eqv (.tuple [l.d, r.d]) (.tuple [.none, .none]) = (l.no && r.no) := by
    cases l <;> cases r <;> simp [PyData.eqv, PyData.eqvAll, Tr.d, Tr.no]
  show chk (eqOk _ _) (rt (vB (PyData.eqv (.tuple [l.d, r.d]) (.tuple [.none, .none])))) M = _
  rw [o, q]
  rfl
theorem cut13 (a b c : PyData) : cutD [a, b, c] (some 1) none = [b, c] := rfl
theorem cut1 {α : Type} (a : α) (r : List α) : cutD (a :: r) (some 1) none = r := by
  have h : HT.sIx (a :: r).length 0 (some 1) = 1 := by
    simp [HT.sIx]
  unfold cutD
  rw [h]
  simp [HT.sIx]
end Xt
namespace Xt
open PySem
theorem gx_true {tf : Dv → Slots → Co Slots} {te : Slots → Co Dv} {ρ : Slots} {M : Mem} : ∀ ds : List Dv, (∀ d ∈ ds, ∃ ρ1, tf d ρ M = .ok ρ1 M ∧ te ρ1 M = .ok (.g (.bool true)) M) → gxL tf te ρ ds M = some (ds.map fun _ => (.bool true, M))
  | [], _ => rfl
  | d :: r, h => by
    obtain ⟨ρ1, h1, h2⟩ := h d (List.mem_cons_self ..)
    have ih := gx_true r fun d hd => h d (List.mem_cons_of_mem _ hd)
    unfold gxL
    simp only [h1, h2, ih]
    rfl
theorem allZ_true {α : Type} {M : Mem} : ∀ ds : List α, allZ (ds.map fun _ => (PyData.bool true, M)) (some (true, M)) = some (true, M)
  | [] => rfl
  | _ :: r => allZ_true r
theorem all_true {src : Slots → Co (List Dv)} {tf : Dv → Slots → Co Slots} {te : Slots → Co Dv} {fr : List (Option Nat)} {ρ : Slots} {M : Mem} {ds : List Dv} (hs : src ρ M = .ok ds M) (h : ∀ d ∈ ds, ∃ ρ1, tf d (gρ ρ fr) M = .ok ρ1 M ∧ te ρ1 M = .ok (.g (.bool true)) M) : allG src tf te fr ρ M = .ok (vB true) M := by
  unfold allG bnd
  simp only [hs]
  rw [gx_true ds h]
  show (match allZ _ _ with
    | none => _
    | some (b, Me) => _) = _
  rw [allZ_true]
end Xt
namespace Xt
open PySem
theorem whl_go {c : Slots → Co Bool} {b : Slots → Co Fl} {n : Nat} {ρ ρ' : Slots} {M M' M1 : Mem} (hc : c ρ M = .ok true M1) (hb : b ρ M1 = .ok (.nx ρ') M') : whl c b (n + 1) ρ M = whl c b n ρ' M' := by
  show bnd (c ρ) _ M = _
  unfold bnd
  simp only [hc]
  show bnd (b ρ) _ M1 = _
  unfold bnd
  simp only [hb]
theorem whl_end {c : Slots → Co Bool} {b : Slots → Co Fl} {n : Nat} {ρ : Slots} {M M1 : Mem} (hc : c ρ M = .ok false M1) : whl c b (n + 1) ρ M = .ok (.nx ρ) M1 := by
  show bnd (c ρ) _ M = _
  unfold bnd
  simp only [hc]
  rfl
theorem for_go {tf : Dv → Slots → Co Slots} {b : Slots → Co Fl} {d : Dv} {r : List Dv} {ρ ρ1 ρ' : Slots} {M M1 M' : Mem} (h1 : tf d ρ M = .ok ρ1 M1) (hb : b ρ1 M1 = .ok (.nx ρ') M') : forL tf b (d :: r) ρ M = forL tf b r ρ' M' := by
  show bnd (tf d ρ) _ M = _
  unfold bnd
  simp only [h1]
  show bnd (b ρ1) _ M1 = _
  unfold bnd
  simp only [hb]
end Xt
namespace Xt
open PySem
theorem sq_nx {a b : Slots → Co Fl} {ρ ρ' : Slots} {M M' : Mem} (h : a ρ M = .ok (.nx ρ') M') : sq a b ρ M = b ρ' M' := by
  show bnd (a ρ) _ M = _
  unfold bnd
  rw [h]
theorem sq_rt {a b : Slots → Co Fl} {ρ : Slots} {M M' : Mem} {d : Dv} (h : a ρ M = .ok (.rt d) M') : sq a b ρ M = .ok (.rt d) M' := by
  show bnd (a ρ) _ M = _
  unfold bnd
  rw [h]
  rfl
theorem bnd_ok {α β : Type} {c : Co α} {k : α → Co β} {M M' : Mem} {x : α} (h : c M = .ok x M') : bnd c k M = k x M' := by
  unfold bnd
  rw [h]
theorem def_rt {n np : Nat} {b : Slots → Co Fl} {ds : List Dv} {M M' : Mem} {d : Dv} (hl : Nat.beq ds.length np = true) (h : b (ds ++ List.replicate (n - np) .u) M = .ok (.rt d) M') : defF n np b ds M = .ok d M' := by
  unfold defF chk
  rw [hl]
  exact (bnd_ok h).trans rfl
theorem for_src {src : Slots → Co (List Dv)} {tf : Dv → Slots → Co Slots} {b : Slots → Co Fl} {ρ : Slots} {M M' : Mem} {ds : List Dv} (h : src ρ M = .ok ds M') : forX src tf b ρ M = forL tf b ds ρ M' := bnd_ok h
theorem sq_assoc (a b c : Slots → Co Fl) : sq (sq a b) c = sq a (sq b c) := by
  funext ρ M
  show bnd (bnd (a ρ) _) _ M = bnd (a ρ) _ M
  unfold bnd
  cases e : a ρ M with
  | fail => rfl
  | ex x M' => rfl
  | ok f M' => cases f <;> rfl
theorem skp_sq (c : Slots → Co Fl) : sq skp c = c := rfl
end Xt
set_option Elab.async false
set_option linter.all false
set_option maxRecDepth 100000
set_option maxHeartbeats 1000000
namespace Xt
open PySem
namespace Tr
/-- with one key more; and the looks -/
def jn : Tr → Int → Tr × Nat
  | e, x => (n x e e, 0)
  | n k l r, x => if x < k then (n x (n k l r) e, 1) else (n k (jn r x).1 l, (jn r x).2 + 1)
/-- looks of a shape -/
def ph : Tr → Nat
  | e => 0
  | n _ l r => min (2 * sz l) (2 * sz r + 1) + ph l + ph r
theorem jn_sz : ∀ (t : Tr) (x : Int), (jn t x).1.sz = t.sz + 1
  | e, x => rfl
  | n k l r, x => by
    unfold jn
    split
    · simp [sz]; omega
    · simp [sz, jn_sz r x]; omega
/-- what is known of a last place -/
structure Las (t : Tr) (x : Int) : Prop where
  sz : (t.outT x).sz + 1 = t.sz
  tn : (t.outT x).tn = true
  sh : (t.outT x).sh = t.sh.outS
  mem : x ∈ t.ks
  back : ∀ lo, t.hp lo → jn (t.outT x) x = (t, t.ph - (t.outT x).ph)
  le : (t.outT x).ph ≤ t.ph
  hp : ∀ lo, t.hp lo → (t.outT x).hp lo
  no : ∀ y, y ∈ (t.outT x).ks → y ∈ t.ks
theorem hp_gt : ∀ (t : Tr) (lo : Int), t.hp lo → ∀ x ∈ t.ks, lo < x
  | e, _, _, x, h => nomatch h
  | n k l r, lo, ⟨h1, h2, h3, h4⟩, x, h => by
    rcases List.mem_cons.mp h with q | q
    · omega
    · rcases List.mem_append.mp q with q | q
      · have := hp_gt l k h3 x q
        omega
      · have := hp_gt r k h4 x q
        omega
theorem no_e {t : Tr} (h : t.no = true) : t = .e := by
  cases t
  · rfl
  · cases h
theorem sz0 {t : Tr} (h : t.no = false) : 0 < t.sz := by
  cases t
  · cases h
  · simp [Tr.sz]; omega
theorem hp_mono : ∀ (t : Tr) (a b : Int), a ≤ b → t.hp b → t.hp a
  | e, _, _, _, _ => trivial
  | n k l r, a, b, h, ⟨h1, h2, h3, h4⟩ => ⟨by omega, h2, h3, h4⟩
theorem las_ok : ∀ (t : Tr) (x : Int), t.tn = true → x ∈ t.las → Las t x
  | e, x, _, h => nomatch h
  | n k e e, x, _, h => by
    have : x = k := by simpa [las] using h
    subst this
    exact ⟨by simp [outT, Tr.sz], by simp [outT, Tr.tn], by simp [outT, Tr.sh, outS, two], by simp [ks], fun lo _ => by simp [outT, jn, ph, Tr.sz], by simp [outT, ph], fun lo _ => by simp [outT, Tr.hp], fun y h => by simp [outT, ks] at h⟩
  | n k (n c p q) e, x, ht, h => by
    cases p with
    | e =>
      cases q with
      | e =>
        have hx : x = k ∨ x = c := by simpa [las] using h
        by_cases hk : k = x
        · subst hk
          refine ⟨by simp [outT, Tr.sz], by simp [outT, Tr.tn, Tr.no], by simp [outT, Tr.sh, outS, two], by simp [ks], fun lo hh => ?_, by simp [outT, ph, Tr.sz], fun lo hh => ?_, fun y h => by simp [outT, ks] at h ⊢; exact .inr h⟩
          · obtain ⟨_, _, ⟨h1, _⟩, _⟩ := hh
            simp [outT, jn, h1, ph, Tr.sz]
          · obtain ⟨h1, _, ⟨h2, h3, h4⟩, _⟩ := hh
            exact (by simp [outT]; exact ⟨by omega, h3, h4⟩)
        · have hc : x = c := by
            rcases hx with q | q
            · exact absurd q.symm hk
            · exact q
          subst hc
          refine ⟨by simp [outT, Tr.sz, hk], by simp [outT, Tr.tn, Tr.no, hk], by simp [outT, Tr.sh, outS, two, hk], by simp [ks], fun lo hh => ?_, by simp [outT, ph, Tr.sz, hk], fun lo hh => ?_, fun y h => by simp [outT, ks, hk] at h ⊢; exact .inl h⟩
          · obtain ⟨_, _, ⟨h1, _⟩, _⟩ := hh
            have h2 : ¬ x < k := by omega
            simp [outT, jn, hk, h2, ph, Tr.sz]
          · obtain ⟨h1, h2, _⟩ := hh
            simp [outT, hk, Tr.hp]
            exact ⟨h1, h2⟩
      | n _ _ _ => simp [Tr.tn, Tr.no] at ht
    | n a p1 p2 =>
      have hx : x = k := by simpa [las] using h
      subst hx
      refine ⟨by simp [outT, Tr.sz]; omega, by simp [outT]; simp [Tr.tn, Tr.no] at ht ⊢; exact ht, by simp [outT, Tr.sh, outS, two], by simp [ks], fun lo hh => ?_, by simp [outT, ph, Tr.sz], fun lo hh => ?_, fun y h => by simp [outT, ks] at h ⊢; exact .inr h⟩
      · obtain ⟨_, _, ⟨h1, _⟩, _⟩ := hh
        simp [outT, jn, h1]
        simp [ph, Tr.sz]
        omega
      · obtain ⟨h1, _, ⟨h2, h3, h4⟩, _⟩ := hh
        simp only [outT, if_pos rfl]
        exact ⟨by omega, h3, h4⟩
  | n k l (n a b c), x, ht, h => by
    have h3 : l.no = false ∧ l.tn = true ∧ (n a b c).tn = true := by
      simp [Tr.tn, Tr.no] at ht
      exact ⟨ht.1, ht.2.1, by simp [Tr.tn]; exact ht.2.2⟩
    have hl : x ∈ l.las := by simpa [las] using h
    have I := las_ok l x h3.2.1 hl
    have s0 := sz0 h3.1
    have isz := I.sz
    have ile := I.le
    have eo : (n k l (n a b c)).outT x = n k (n a b c) (l.outT x) := rfl
    refine ⟨by rw [eo]; simp only [Tr.sz]; omega, by rw [eo]; simp only [Tr.tn, Tr.no] at *; simp [h3.2.2, I.tn], by rw [eo]; simp [Tr.sh, outS, I.sh], ?_, fun lo hh => ?_, ?_, fun lo hh => ?_, fun y h => ?_⟩
    · exact List.mem_cons_of_mem _ (List.mem_append_left _ I.mem)
    · obtain ⟨h1, h2, h4, h5⟩ := hh
      have hx : ¬ x < k := by
        have := hp_gt l k h4 x I.mem
        omega
      have b := I.back k h4
      rw [eo]
      unfold jn
      rw [if_neg hx, b]
      simp only [ph, Tr.sz]
      refine Prod.ext rfl ?_
      show _ + 1 = _
      omega
    · rw [eo]
      simp only [ph, Tr.sz]
      omega
    · obtain ⟨h1, h2, h4, h5⟩ := hh
      rw [eo]
      exact ⟨h1, h2, h5, I.hp k h4⟩
    · rw [eo] at h
      simp only [ks, List.mem_cons, List.mem_append] at h ⊢
      rcases h with h | h | h
      · exact .inl h
      · exact .inr (.inr h)
      · exact .inr (.inl (I.no y h))
theorem jn_ks : ∀ (t : Tr) (x : Int), (jn t x).1.ks.Perm (x :: t.ks)
  | e, x => List.Perm.refl _
  | n k l r, x => by
    unfold jn
    split
    · simp [ks]
    · have h := jn_ks r x
      show (k :: ((jn r x).1.ks ++ l.ks)).Perm (x :: k :: (l.ks ++ r.ks))
      refine ((h.append_right l.ks).cons k).trans (List.Perm.trans (List.Perm.swap x k _) (((List.perm_append_comm).cons k).cons x))
theorem las_cases : ∀ t : Tr, t.no = false → t.tn = true → (∃ k, t.las = [k] ∧ t.sh.two = false) ∨ (∃ k c, t.las = [k, c] ∧ t.sh.two = true)
  | e, h, _ => nomatch h
  | n k e e, _, _ => .inl ⟨k, rfl, rfl⟩
  | n k (n c e e) e, _, _ => .inr ⟨k, c, rfl, rfl⟩
  | n k (n c e (n _ _ _)) e, _, _ => .inl ⟨k, rfl, rfl⟩
  | n k (n c (n _ _ _) e) e, _, _ => .inl ⟨k, rfl, rfl⟩
  | n k (n c (n _ _ _) (n _ _ _)) e, _, _ => .inl ⟨k, rfl, rfl⟩
  | n k l (n a b c), _, h => by
    have h3 : l.no = false ∧ l.tn = true := by
      simp [Tr.tn, Tr.no] at h
      exact ⟨h.1, h.2.1⟩
    have e1 : (n k l (n a b c)).las = l.las := by simp [las]
    have e2 : (n k l (n a b c)).sh.two = l.sh.two := by simp [Tr.sh, two]
    rw [e1, e2]
    exact las_cases l h3.1 h3.2
/-- how many choices a shape leaves -/
def cn : Nat → Tr → Nat
  | 0, _ => 0
  | f + 1, t => if t.no then 0 else (if t.two then 1 else 0) + cn f t.outS
theorem sh_no (t : Tr) : t.sh.no = t.no := by cases t <;> rfl
def ord : Nat → Tr → List Int → List Int
  | 0, _, _ => []
  | f + 1, t, b => match t.las with
    | [] => []
    | [k] => k :: ord f (t.outT k) b
    | k :: c :: _ => (if b.headD 0 = 0 then k else c) :: ord f (t.outT (if b.headD 0 = 0 then k else c)) b.tail
def bl : List Int → Tr × Nat → Tr × Nat
  | [], p => p
  | x :: r, p => bl r ((jn p.1 x).1, p.2 + (jn p.1 x).2)
theorem bl_app : ∀ (l m : List Int) (p : Tr × Nat), bl (l ++ m) p = bl m (bl l p)
  | [], _, _ => rfl
  | _ :: r, m, p => bl_app r m _
theorem ord_ok : ∀ (f : Nat) (t : Tr) (b : List Int) (lo : Int), t.sz < f → t.tn = true → t.hp lo → bl (ord f t b).reverse (.e, 0) = (t, t.ph) ∧ (ord f t b).Perm t.ks
  | 0, _, _, _, h, _, _ => absurd h (Nat.not_lt_zero _)
  | f + 1, .e, b, lo, _, _, _ => ⟨rfl, List.Perm.refl _⟩
  | f + 1, .n a p q, b, lo, h, ht, hh => by
    have go : ∀ x b', x ∈ (n a p q).las → bl (x :: ord f ((n a p q).outT x) b').reverse (.e, 0) = (n a p q, (n a p q).ph) ∧ (x :: ord f ((n a p q).outT x) b').Perm (n a p q).ks := fun x b' hx => by
      have L := las_ok _ x ht hx
      have sz := L.sz
      obtain ⟨i1, i2⟩ := ord_ok f ((n a p q).outT x) b' lo (by omega) L.tn (L.hp lo hh)
      have bk := L.back lo hh
      refine ⟨?_, ?_⟩
      · rw [List.reverse_cons, bl_app, i1]
        show ((jn _ x).1, _ + (jn _ x).2) = _
        rw [bk]
        have le := L.le
        refine Prod.ext rfl ?_
        show _ + (_ - _) = _
        omega
      · have pk := jn_ks ((n a p q).outT x) x
        rw [bk] at pk
        exact (i2.cons x).trans pk.symm
    rcases las_cases (n a p q) rfl ht with ⟨k, e1, _⟩ | ⟨k, c, e1, _⟩
    · have e2 : ord (f + 1) (n a p q) b = k :: ord f ((n a p q).outT k) b := by
        rw [ord, e1]
      rw [e2]
      exact go k b (by rw [e1]; simp)
    · have e2 : ord (f + 1) (n a p q) b = (if b.headD 0 = 0 then k else c) :: ord f ((n a p q).outT (if b.headD 0 = 0 then k else c)) b.tail := by
        rw [ord, e1]
      rw [e2]
      exact go _ b.tail (by rw [e1]; split <;> simp)
theorem sz_sh : ∀ t : Tr, t.sh.sz = t.sz
  | e => rfl
  | n k l r => by simp [Tr.sh, Tr.sz, sz_sh l, sz_sh r]
theorem ph_sh : ∀ t : Tr, t.sh.ph = t.ph
  | e => rfl
  | n k l r => by simp [Tr.sh, ph, ph_sh l, ph_sh r, sz_sh]
theorem tn_sh : ∀ t : Tr, t.sh.tn = t.tn
  | e => rfl
  | n k l r => by simp [Tr.sh, Tr.tn, tn_sh l, tn_sh r, sh_no]
/-- a shape as data -/
def sd : Tr → PyData
  | e => .none
  | n _ l r => .tuple [sd l, sd r]
end Tr
end Xt
namespace Xt
open PySem
namespace Tr
/-- two heaps joined; and the looks -/
def mg : Nat → Tr → Tr → Tr × Nat
  | 0, _, _ => (e, 0)
  | _ + 1, e, b => (b, 0)
  | _ + 1, n k l r, e => (n k l r, 0)
  | f + 1, n k l r, n j p q => if j < k then (n j (mg f q (n k l r)).1 p, (mg f q (n k l r)).2 + 1) else (n k (mg f r (n j p q)).1 l, (mg f r (n j p q)).2 + 1)
/-- a place on the way, what came of the rest on its left -/
def stp : Tr → Tr → Tr
  | e, o => o
  | n k l _, o => n k o l
theorem mg_one : ∀ (f : Nat) (t : Tr) (x : Int), t.sz < f → mg (f + 1) t (n x e e) = jn t x
  | 0, _, _, h => absurd h (Nat.not_lt_zero _)
  | f + 1, e, x, h => rfl
  | f + 1, n k l r, x, h => by
    have z : (n k l r).sz = 1 + l.sz + r.sz := rfl
    unfold mg jn
    split
    · rw [mg]
    · rw [mg_one f r x (by omega)]
theorem mg_fuel : ∀ (f g : Nat) (a b : Tr), a.sz + b.sz < f → a.sz + b.sz < g → mg f a b = mg g a b
  | 0, _, _, _, h, _ => absurd h (Nat.not_lt_zero _)
  | _ + 1, 0, _, _, _, h => absurd h (Nat.not_lt_zero _)
  | f + 1, g + 1, e, b, _, _ => rfl
  | f + 1, g + 1, n k l r, e, _, _ => rfl
  | f + 1, g + 1, n k l r, n j p q, h1, h2 => by
    have z : (n k l r).sz = 1 + l.sz + r.sz := rfl
    have z2 : (n j p q).sz = 1 + p.sz + q.sz := rfl
    unfold mg
    split
    · rw [mg_fuel f g q (n k l r) (by omega) (by omega)]
    · rw [mg_fuel f g r (n j p q) (by omega) (by omega)]
end Tr
end Xt
namespace Xt
open PySem
namespace Tr
theorem depth_le : ∀ t : Tr, t.d.depth ≤ t.sz + 1
  | e => by simp [d, PyData.depth]
  | n k l r => by
    have h1 := depth_le l
    have h2 := depth_le r
    simp only [d, PyData.depth, PyData.depthAll, Tr.sz]
    omega
theorem eqv_self : ∀ t : Tr, PyData.eqv t.d t.d = true
  | e => rfl
  | n k l r => by simp [d, PyData.eqv, PyData.eqvAll, eqv_self l, eqv_self r]
end Tr
theorem eqT (t : Tr) (h : t.sz < 199) (M : Mem) : eqD true (.g t.d) (.g t.d) M = .ok (.g (.bool false)) M := by
  have o : eqOk t.d t.d = true := by
    have h1 := Tr.depth_le t
    unfold eqOk
    rw [Tr.lay]
    exact Nat.ble_eq_true_of_le (by omega)
  show chk (eqOk t.d t.d) (rt (vB (!PyData.eqv t.d t.d))) M = _
  rw [o, Tr.eqv_self]
  rfl
end Xt
set_option Elab.async false
set_option linter.all false
set_option maxRecDepth 100000
set_option maxHeartbeats 1000000
/-! wa: weavings, plain -/
namespace Wv
/-- a heap with holes -/
inductive HT
  | e
  | h (m : Int)
  | n (k : Int) (l r : HT)
namespace HT
def isH : HT → Bool
  | h _ => true
  | _ => false
def isE : HT → Bool
  | e => true
  | _ => false
def hs : HT → List Int
  | e => []
  | h m => [m]
  | n _ l r => hs l ++ hs r
def fill (m : Int) (x : HT) : HT → HT
  | e => e
  | h j => if j = m then x else h j
  | n k l r => n k (fill m x l) (fill m x r)
def sz : HT → Nat
  | e => 0
  | h _ => 0
  | n _ l r => sz l + sz r + 1
def dp : HT → Nat
  | e => 0
  | h _ => 0
  | n _ l r => max (dp l) (dp r) + 1
theorem dp_sz : ∀ t : HT, t.dp ≤ t.sz
  | e => Nat.le_refl _
  | h _ => Nat.le_refl _
  | n _ l r => by
    have h1 := dp_sz l
    have h2 := dp_sz r
    simp only [dp, sz]
    omega
theorem fill_id {m : Int} {x : HT} : ∀ {t : HT}, m ∉ hs t → fill m x t = t
  | e, _ => rfl
  | h j, z => by
    have : ¬ j = m := fun q => z (by simp [hs, q])
    simp [fill, this]
  | n k l r, z => by
    simp only [hs, List.mem_append, not_or] at z
    simp [fill, fill_id z.1, fill_id z.2]
theorem cnt_fill (m j : Int) (x : HT) : ∀ t : HT, (hs (fill m x t)).count j = (if j = m then 0 else (hs t).count j) + (hs t).count m * (hs x).count j
  | e => by simp [fill, hs]
  | h i => by
    by_cases q : i = m
    · subst q
      by_cases p : j = i
      · subst p
        simp [fill, hs]
      · have : ¬ i = j := fun z => p z.symm
        simp [fill, hs, p, List.count_cons, this]
    · by_cases p : j = m
      · subst p
        simp [fill, hs, q, List.count_cons]
      · simp [fill, hs, q, p, List.count_cons]
  | n k l r => by
    simp only [fill, hs, List.count_append, cnt_fill m j x l, cnt_fill m j x r, Nat.add_mul]
    split <;> omega
theorem sz_fill (m : Int) (x : HT) : ∀ t : HT, (fill m x t).sz = t.sz + (hs t).count m * x.sz
  | e => by simp [fill, hs, sz]
  | h i => by
    by_cases q : i = m
    · subst q
      simp [fill, hs, sz]
    · simp [fill, hs, sz, q, List.count_cons]
  | n k l r => by
    simp only [fill, hs, sz, List.count_append, sz_fill m x l, sz_fill m x r, Nat.add_mul]
    omega
theorem mem_fill {m j : Int} {x t : HT} (q : j ∈ hs (fill m x t)) : (j ∈ hs t ∧ j ≠ m) ∨ j ∈ hs x := by
  have c := List.count_pos_iff.mpr q
  rw [cnt_fill] at c
  by_cases p : j = m
  · subst p
    rw [if_pos rfl, Nat.zero_add] at c
    exact .inr (List.count_pos_iff.mp (Nat.pos_of_mul_pos_left c))
  · rw [if_neg p] at c
    by_cases z : (hs t).count j = 0
    · rw [z, Nat.zero_add] at c
      exact .inr (List.count_pos_iff.mp (Nat.pos_of_mul_pos_left c))
    · exact .inl ⟨List.count_pos_iff.mp (by omega), p⟩
end HT
open HT
/-- a deed at work: its index, its hole, what stands there, what is in hand -/
structure En where
  i : Int
  o : Int
  a : HT
  b : HT
def En.fl (m : Int) (x : HT) (f : En) : En := ⟨f.i, f.o, fill m x f.a, fill m x f.b⟩
def En.hs (f : En) : List Int := f.a.hs ++ f.b.hs
structure W where
  top : HT
  ent : Int
  wk : List En
  tk : List (Option Int)
  mc : Int
def look : List En → Int → Option En
  | [], _ => none
  | f :: r, i => if f.i = i then some f else look r i
def W.fin (w : W) (f : En) (x : HT) : W := { w with top := fill f.o x w.top, wk := (w.wk.filter fun g => decide (g.i ≠ f.i)).map (En.fl f.o x) }
def W.stp (w : W) (f : En) (k : Int) (l r b : HT) : W :=
  { w with mc := w.mc + 1, top := fill f.o (n k (h (w.mc + 1)) l) w.top, wk := w.wk.map fun g => if g.i = f.i then ⟨f.i, w.mc + 1, r, b⟩ else g.fl f.o (n k (h (w.mc + 1)) l) }
def W.act (w : W) (f : En) : HT → HT → W
  | n k l r, n k' l' r' => if k' < k then w.stp f k' l' r' (n k l r) else w.stp f k l r (n k' l' r')
  | h _, _ => w
  | _, h _ => w
  | a, e => w.fin f a
  | e, b => w.fin f b
def W.step (w : W) (i : Int) : W := match look w.wk i with
  | none => w
  | some f => w.act f f.a f.b
def W.beg (w : W) (a b : HT) : W := { w with top := h (w.mc + 1), mc := w.mc + 1, ent := w.ent + 1, wk := w.wk ++ [⟨w.ent, w.mc + 1, a, b⟩] }
/-- a deed: some key to be put in, none for a take -/
def W.enter (w : W) (d : Option Int) : W := match w.top, d with
  | h _, _ => w
  | t, some k => (w.beg t (n k e e)).step w.ent
  | e, none => { w with ent := w.ent + 1, tk := w.tk ++ [none] }
  | n k l r, none => if l.isH || r.isH then w else
      if l.isE || r.isE then { w with top := if l.isE then r else l, ent := w.ent + 1, tk := w.tk ++ [some k] } else { w with tk := w.tk ++ [some k] }.beg l r
def W.turn (w : W) (ds : List (Option Int)) (i : Int) : W := match look w.wk i with
  | some _ => w.step i
  | none => if i = w.ent then (match ds[i.toNat]? with
    | some d => w.enter d
    | none => w) else w
def allH (w : W) : List Int := w.top.hs ++ w.wk.flatMap En.hs
def tot (w : W) : Nat := w.top.sz + (w.wk.map fun f => f.a.sz + f.b.sz).sum
/-- the holes in the hands of a deed are of earlier ones -/
def okW : List Int → List En → Prop
  | _, [] => True
  | ms, f :: r => (∀ m ∈ f.hs, m ∈ ms) ∧ okW (f.o :: ms) r
structure Inv (w : W) : Prop where
  key : (w.wk.map En.i).Pairwise (· < ·)
  lt : ∀ f ∈ w.wk, f.i < w.ent
  nn : ∀ f ∈ w.wk, 0 ≤ f.i
  e0 : 0 ≤ w.ent
  nd : (w.wk.map En.o).Nodup
  le : ∀ f ∈ w.wk, f.o ≤ w.mc
  one : ∀ m, (allH w).count m ≤ 1
  top : ∀ m ∈ w.top.hs, m ∈ w.wk.map En.o
  ok : okW [] w.wk
theorem look_mem : ∀ {wk : List En} {i : Int} {f : En}, look wk i = some f → f ∈ wk ∧ f.i = i
  | [], _, _, z => nomatch z
  | g :: r, i, f, z => by
    unfold look at z
    split at z
    · rename_i q
      cases z
      exact ⟨List.mem_cons_self .., q⟩
    · obtain ⟨h1, h2⟩ := look_mem z
      exact ⟨List.mem_cons_of_mem _ h1, h2⟩
theorem look_split {wk : List En} {i : Int} {f : En} (h : look wk i = some f) (k : (wk.map En.i).Pairwise (· < ·)) : ∃ p q, wk = p ++ f :: q ∧ (∀ g ∈ p, g.i ≠ i) ∧ (∀ g ∈ q, g.i ≠ i) ∧ f.i = i := by
  induction wk with
  | nil => cases h
  | cons g r ih =>
    unfold look at h
    rw [List.map_cons, List.pairwise_cons] at k
    split at h
    · rename_i q
      cases h
      refine ⟨[], r, rfl, (fun _ z => nomatch z), fun g hg => ?_, q⟩
      have := k.1 g.i (List.mem_map_of_mem hg)
      omega
    · rename_i q
      obtain ⟨p, q', e1, e2, e3, e4⟩ := ih h k.2
      refine ⟨g :: p, q', by rw [e1]; rfl, fun x hx => ?_, e3, e4⟩
      rcases List.mem_cons.mp hx with rfl | hx
      · exact q
      · exact e2 x hx
theorem okW_mono : ∀ {ms ms' : List Int} {wk : List En}, (∀ m ∈ ms, m ∈ ms') → okW ms wk → okW ms' wk
  | _, _, [], _, _ => trivial
  | ms, ms', f :: r, s, ⟨h1, h2⟩ => ⟨fun m hm => s m (h1 m hm), okW_mono (fun m hm => by
    rcases List.mem_cons.mp hm with rfl | hm
    · exact List.mem_cons_self ..
    · exact List.mem_cons_of_mem _ (s m hm)) h2⟩
/-- a hole filled in all later ones -/
theorem okW_fl {m : Int} {x : HT} : ∀ {ms ms' : List Int} {wk : List En}, (∀ j ∈ ms, j ≠ m → j ∈ ms') → (∀ j ∈ x.hs, j ∈ ms') → okW ms wk → okW ms' (wk.map (En.fl m x))
  | _, _, [], _, _, _ => trivial
  | ms, ms', f :: r, s, hx, ⟨h1, h2⟩ => by
    refine ⟨fun j hj => ?_, okW_fl (fun j hj q => ?_) (fun j hj => List.mem_cons_of_mem _ (hx j hj)) h2⟩
    · have : j ∈ (fill m x f.a).hs ∨ j ∈ (fill m x f.b).hs := List.mem_append.mp hj
      rcases this with z | z
      · rcases mem_fill z with ⟨z, q⟩ | z
        · exact s j (h1 j (List.mem_append_left _ z)) q
        · exact hx j z
      · rcases mem_fill z with ⟨z, q⟩ | z
        · exact s j (h1 j (List.mem_append_right _ z)) q
        · exact hx j z
    · rcases List.mem_cons.mp hj with rfl | hj
      · exact List.mem_cons_self ..
      · exact List.mem_cons_of_mem _ (s j hj q)
theorem okW_app : ∀ {ms : List Int} {p q : List En}, okW ms (p ++ q) ↔ okW ms p ∧ okW ((p.map En.o).reverse ++ ms) q
  | ms, [], q => by simp [okW]
  | ms, f :: p, q => by
    simp only [List.cons_append, okW, List.map_cons, List.reverse_cons, List.append_assoc, List.nil_append]
    rw [okW_app]
    exact and_assoc.symm
theorem okW_hs : ∀ {ms : List Int} {p : List En}, okW ms p → ∀ f ∈ p, ∀ m ∈ f.hs, m ∈ (p.map En.o) ∨ m ∈ ms
  | _, [], _, _, z, _, _ => nomatch z
  | ms, g :: p, ⟨h1, h2⟩, f, hf, m, hm => by
    rcases List.mem_cons.mp hf with rfl | hf
    · exact .inr (h1 m hm)
    · rcases okW_hs h2 f hf m hm with z | z
      · exact .inl (List.mem_cons_of_mem _ z)
      · rcases List.mem_cons.mp z with rfl | z
        · exact .inl (List.mem_cons_self ..)
        · exact .inr z
theorem fl_id {m : Int} {x : HT} {f : En} (h : m ∉ f.hs) : f.fl m x = f := by
  unfold En.hs at h
  simp only [List.mem_append, not_or] at h
  cases f
  simp only [En.fl] at *
  rw [fill_id h.1, fill_id h.2]
theorem map_fl_id {m : Int} {x : HT} {p : List En} (h : ∀ f ∈ p, m ∉ f.hs) : p.map (En.fl m x) = p := by
  induction p with
  | nil => rfl
  | cons f p ih =>
    rw [List.map_cons, fl_id (h f (List.mem_cons_self ..)), ih fun g hg => h g (List.mem_cons_of_mem _ hg)]
theorem cnt_fl (m j : Int) (x : HT) (f : En) : (f.fl m x).hs.count j = (if j = m then 0 else f.hs.count j) + f.hs.count m * x.hs.count j := by
  simp only [En.hs, En.fl, List.count_append, cnt_fill, Nat.add_mul]
  split <;> omega
theorem cnt_fls (m j : Int) (x : HT) : ∀ p : List En, ((p.map (En.fl m x)).flatMap En.hs).count j = (if j = m then 0 else (p.flatMap En.hs).count j) + (p.flatMap En.hs).count m * x.hs.count j
  | [] => by simp
  | f :: p => by
    simp only [List.map_cons, List.flatMap_cons, List.count_append, cnt_fl, cnt_fls m j x p, Nat.add_mul]
    split <;> omega
def szs (p : List En) : Nat := (p.map fun f => f.a.sz + f.b.sz).sum
theorem szs_app (p q : List En) : szs (p ++ q) = szs p + szs q := by simp [szs]
theorem szs_fls (m : Int) (x : HT) : ∀ p : List En, szs (p.map (En.fl m x)) = szs p + (p.flatMap En.hs).count m * x.sz
  | [] => by simp [szs]
  | f :: p => by
    have ih := szs_fls m x p
    simp only [szs, List.map_cons, List.sum_cons, List.flatMap_cons, List.count_append, En.hs, Nat.add_mul] at ih ⊢
    simp only [En.fl, sz_fill]
    simp only [List.map_map] at ih ⊢
    omega
/-- the state in three parts -/
theorem fin_wk {p q : List En} {f : En} (h1 : ∀ g ∈ p, g.i ≠ f.i) (h2 : ∀ g ∈ q, g.i ≠ f.i) : ((p ++ f :: q).filter fun g => decide (g.i ≠ f.i)) = p ++ q := by
  rw [List.filter_append, List.filter_cons_of_neg (by simp), List.filter_eq_self.mpr, List.filter_eq_self.mpr]
  · intro g hg
    simpa using h2 g hg
  · intro g hg
    simpa using h1 g hg
theorem stp_wk {F : En → En} {f f' : En} {p q : List En} (h1 : ∀ g ∈ p, g.i ≠ f.i) (h2 : ∀ g ∈ q, g.i ≠ f.i) : ((p ++ f :: q).map fun g => if g.i = f.i then f' else F g) = p.map F ++ f' :: q.map F := by
  rw [List.map_append, List.map_cons, if_pos rfl]
  congr 1
  · exact List.map_congr_left fun g hg => by rw [if_neg (h1 g hg)]
  · congr 1
    exact List.map_congr_left fun g hg => by rw [if_neg (h2 g hg)]
structure Sp (w : W) (f : En) (p q : List En) : Prop where
  eq : w.wk = p ++ f :: q
  np : ∀ g ∈ p, g.i ≠ f.i
  nq : ∀ g ∈ q, g.i ≠ f.i
theorem Inv.sp {w : W} (I : Inv w) {i : Int} {f : En} (h : look w.wk i = some f) : ∃ p q, Sp w f p q := by
  obtain ⟨p, q, h1, h2, h3, h4⟩ := look_split h I.key
  subst h4
  exact ⟨p, q, h1, h2, h3⟩
section
variable {w : W} {f : En} {p q : List En}
theorem Sp.hp (s : Sp w f p q) (I : Inv w) : (∀ g ∈ p, f.o ∉ g.hs) ∧ f.o ∉ f.hs := by
  have ok := I.ok
  rw [s.eq, okW_app] at ok
  have nd := I.nd
  rw [s.eq, List.map_append, List.map_cons] at nd
  obtain ⟨n1, n2, n3⟩ := List.nodup_append.mp nd
  have no : f.o ∉ p.map En.o := fun z => n3 f.o z f.o (List.mem_cons_self ..) rfl
  refine ⟨fun g hg z => ?_, fun z => ?_⟩
  · rcases okW_hs ok.1 g hg _ z with z | z
    · exact no z
    · cases z
  · have := ok.2.1 _ z
    simp only [List.append_nil, List.mem_reverse] at this
    exact no this
theorem Sp.fin (s : Sp w f p q) (x : HT) (I : Inv w) : (w.fin f x).wk = p ++ q.map (En.fl f.o x) := by
  unfold W.fin
  simp only
  rw [s.eq, fin_wk s.np s.nq, List.map_append, map_fl_id (s.hp I).1]
theorem Sp.stp (s : Sp w f p q) {k : Int} {l r b : HT} (I : Inv w) : (w.stp f k l r b).wk = p ++ ⟨f.i, w.mc + 1, r, b⟩ :: q.map (En.fl f.o (n k (h (w.mc + 1)) l)) := by
  unfold W.stp
  simp only
  rw [s.eq, stp_wk s.np s.nq, map_fl_id (s.hp I).1]
theorem Sp.ok (s : Sp w f p q) (I : Inv w) : okW [] p ∧ (∀ m ∈ f.hs, m ∈ p.map En.o) ∧ okW (f.o :: (p.map En.o).reverse) q := by
  have ok := I.ok
  rw [s.eq, okW_app] at ok
  simp only [List.append_nil] at ok
  exact ⟨ok.1, fun m hm => by simpa using ok.2.1 m hm, ok.2.2⟩
theorem Inv.fin (I : Inv w) (s : Sp w f p q) {x : HT} (hx : ∀ m, x.hs.count m ≤ f.hs.count m) (hz : x.sz ≤ f.a.sz + f.b.sz) : Inv (w.fin f x) ∧ tot (w.fin f x) ≤ tot w := by
  have e := s.fin x I
  have sub : ∀ g ∈ p ++ q, g ∈ w.wk := fun g hg => by
    rw [s.eq]
    rcases List.mem_append.mp hg with z | z
    · exact List.mem_append_left _ z
    · exact List.mem_append_right _ (List.mem_cons_of_mem _ z)
  have mx : ∀ m ∈ x.hs, m ∈ f.hs := fun m hm => List.count_pos_iff.mp (Nat.lt_of_lt_of_le (List.count_pos_iff.mpr hm) (hx m))
  have ei : (w.fin f x).wk.map En.i = (p ++ q).map En.i := by
    rw [e]
    simp [List.map_map, Function.comp_def, En.fl]
  have eo : (w.fin f x).wk.map En.o = (p ++ q).map En.o := by
    rw [e]
    simp [List.map_map, Function.comp_def, En.fl]
  have sl : (p ++ q).Sublist w.wk := by
    rw [s.eq]
    exact List.Sublist.append (List.Sublist.refl _) (List.sublist_cons_self _ _)
  obtain ⟨k1, k2, k3⟩ := s.ok I
  have nd := I.nd
  rw [s.eq, List.map_append, List.map_cons] at nd
  obtain ⟨n1, n2, n3⟩ := List.nodup_append.mp nd
  refine ⟨⟨?_, ?_, ?_, I.e0, ?_, ?_, ?_, ?_, ?_⟩, ?_⟩
  · rw [ei]
    exact I.key.sublist (sl.map _)
  · intro g hg
    have : g.i ∈ (w.fin f x).wk.map En.i := List.mem_map_of_mem hg
    rw [ei] at this
    obtain ⟨g2, h1, h2⟩ := List.mem_map.mp this
    rw [← h2]
    exact I.lt g2 (sub g2 h1)
  · intro g hg
    have : g.i ∈ (w.fin f x).wk.map En.i := List.mem_map_of_mem hg
    rw [ei] at this
    obtain ⟨g2, h1, h2⟩ := List.mem_map.mp this
    rw [← h2]
    exact I.nn g2 (sub g2 h1)
  · rw [eo]
    exact I.nd.sublist (sl.map _)
  · intro g hg
    have : g.o ∈ (w.fin f x).wk.map En.o := List.mem_map_of_mem hg
    rw [eo] at this
    obtain ⟨g2, h1, h2⟩ := List.mem_map.mp this
    rw [← h2]
    exact I.le g2 (sub g2 h1)
  · intro m
    have c := I.one m
    have co := I.one f.o
    have hxm := hx m
    unfold allH at c co ⊢
    rw [s.eq] at c co
    rw [e]
    show ((fill f.o x w.top).hs ++ _).count m ≤ 1
    simp only [List.flatMap_append, List.flatMap_cons, List.count_append, cnt_fill, cnt_fls] at c co ⊢
    have e3 : (w.top.hs).count f.o * x.hs.count m + (q.flatMap En.hs).count f.o * x.hs.count m ≤ x.hs.count m := by
      rw [← Nat.add_mul]
      exact Nat.le_trans (Nat.mul_le_mul_right _ (by omega : _ ≤ 1)) (by omega)
    split
    · rename_i q
      have p0 : (p.flatMap En.hs).count m = 0 := by
        rw [q]
        refine List.count_eq_zero.mpr fun z => ?_
        obtain ⟨g, h1, h2⟩ := List.mem_flatMap.mp z
        exact (s.hp I).1 g h1 h2
      have x0 : x.hs.count m = 0 := by
        have : f.hs.count m = 0 := by
          rw [q]
          exact List.count_eq_zero.mpr (s.hp I).2
        omega
      omega
    · omega
  · intro m hm
    rw [eo]
    have hm : m ∈ (fill f.o x w.top).hs := hm
    rcases mem_fill hm with ⟨z, qq⟩ | z
    · have := I.top m z
      rw [s.eq, List.map_append, List.map_cons] at this
      rw [List.map_append]
      rcases List.mem_append.mp this with z | z
      · exact List.mem_append_left _ z
      · rcases List.mem_cons.mp z with z | z
        · exact absurd z qq
        · exact List.mem_append_right _ z
    · rw [List.map_append]
      exact List.mem_append_left _ (k2 m (mx m z))
  · rw [e, okW_app]
    refine ⟨k1, ?_⟩
    simp only [List.append_nil]
    refine okW_fl (fun j hj qq => ?_) (fun j hj => ?_) k3
    · rcases List.mem_cons.mp hj with z | z
      · exact absurd z qq
      · exact z
    · exact List.mem_reverse.mpr (k2 j (mx j hj))
  · unfold tot
    rw [e]
    show (fill f.o x w.top).sz + szs _ ≤ w.top.sz + szs w.wk
    rw [s.eq, szs_app, szs_app, szs_fls, sz_fill]
    have co := I.one f.o
    unfold allH at co
    rw [s.eq] at co
    simp only [List.flatMap_append, List.flatMap_cons, List.count_append] at co
    have e3 : (w.top.hs).count f.o * x.sz + (q.flatMap En.hs).count f.o * x.sz ≤ x.sz := by
      rw [← Nat.add_mul]
      exact Nat.le_trans (Nat.mul_le_mul_right _ (by omega : _ ≤ 1)) (by omega)
    have : szs (f :: q) = f.a.sz + f.b.sz + szs q := by simp [szs]
    omega
theorem Inv.stp (I : Inv w) (s : Sp w f p q) {k : Int} {l r b : HT} (hx : ∀ m, l.hs.count m + r.hs.count m + b.hs.count m ≤ f.hs.count m) (hz : l.sz + r.sz + b.sz + 1 ≤ f.a.sz + f.b.sz) : Inv (w.stp f k l r b) ∧ tot (w.stp f k l r b) ≤ tot w := by
  have e := s.stp (k := k) (l := l) (r := r) (b := b) I
  have sub : ∀ g ∈ p ++ q, g ∈ w.wk := fun g hg => by
    rw [s.eq]
    rcases List.mem_append.mp hg with z | z
    · exact List.mem_append_left _ z
    · exact List.mem_append_right _ (List.mem_cons_of_mem _ z)
  have hf : f ∈ w.wk := by
    rw [s.eq]
    exact List.mem_append_right _ (List.mem_cons_self ..)
  have mx : ∀ m, (m ∈ l.hs ∨ m ∈ r.hs ∨ m ∈ b.hs) → m ∈ f.hs := fun m hm => by
    refine List.count_pos_iff.mp ?_
    have := hx m
    rcases hm with z | z | z <;> have := List.count_pos_iff.mpr z <;> omega
  have ei : (w.stp f k l r b).wk.map En.i = w.wk.map En.i := by
    rw [e, s.eq]
    simp [List.map_map, Function.comp_def, En.fl]
  have eo : (w.stp f k l r b).wk.map En.o = p.map En.o ++ (w.mc + 1) :: q.map En.o := by
    rw [e]
    simp [List.map_map, Function.comp_def, En.fl]
  obtain ⟨k1, k2, k3⟩ := s.ok I
  have nd := I.nd
  rw [s.eq, List.map_append, List.map_cons] at nd
  obtain ⟨n1, n2, n3⟩ := List.nodup_append.mp nd
  have leo : ∀ m ∈ w.wk.map En.o, m ≤ w.mc := fun m hm => by
    obtain ⟨g, h1, rfl⟩ := List.mem_map.mp hm
    exact I.le g h1
  have hall : ∀ m ∈ allH w, m ≤ w.mc := fun m hm => by
    rcases List.mem_append.mp hm with z | z
    · exact leo m (I.top m z)
    · obtain ⟨g, h1, h2⟩ := List.mem_flatMap.mp z
      rcases okW_hs I.ok g h1 m h2 with z | z
      · exact leo m z
      · cases z
  refine ⟨⟨?_, ?_, ?_, I.e0, ?_, ?_, ?_, ?_, ?_⟩, ?_⟩
  · rw [ei]
    exact I.key
  · intro g hg
    have : g.i ∈ (w.stp f k l r b).wk.map En.i := List.mem_map_of_mem hg
    rw [ei] at this
    obtain ⟨g2, h1, h2⟩ := List.mem_map.mp this
    rw [← h2]
    exact I.lt g2 h1
  · intro g hg
    have : g.i ∈ (w.stp f k l r b).wk.map En.i := List.mem_map_of_mem hg
    rw [ei] at this
    obtain ⟨g2, h1, h2⟩ := List.mem_map.mp this
    rw [← h2]
    exact I.nn g2 h1
  · rw [eo]
    have new : ∀ m ∈ w.wk.map En.o, m ≠ w.mc + 1 := fun m hm => by
      have := leo m hm
      omega
    rw [s.eq, List.map_append, List.map_cons] at new
    refine List.nodup_append.mpr ⟨n1, List.nodup_cons.mpr ⟨fun z => new _ (List.mem_append_right _ (List.mem_cons_of_mem _ z)) rfl, (List.nodup_cons.mp n2).2⟩, fun a ha c hc => ?_⟩
    rcases List.mem_cons.mp hc with z | z
    · rw [z]
      exact new a (List.mem_append_left _ ha)
    · exact n3 a ha c (List.mem_cons_of_mem _ z)
  · intro g hg
    have : g.o ∈ (w.stp f k l r b).wk.map En.o := List.mem_map_of_mem hg
    rw [eo] at this
    show g.o ≤ w.mc + 1
    rcases List.mem_append.mp this with z | z
    · have := leo g.o (by rw [s.eq, List.map_append]; exact List.mem_append_left _ z)
      omega
    · rcases List.mem_cons.mp z with z | z
      · omega
      · have := leo g.o (by rw [s.eq, List.map_append]; exact List.mem_append_right _ (List.mem_cons_of_mem _ z))
        omega
  · intro m
    have c := I.one m
    have co := I.one f.o
    have hxm := hx m
    have fo : f.hs.count f.o = 0 := List.count_eq_zero.mpr (s.hp I).2
    have hal := hall m
    unfold allH at c co hal ⊢
    rw [s.eq] at c co hal
    rw [e]
    show ((fill f.o (n k (h (w.mc + 1)) l) w.top).hs ++ _).count m ≤ 1
    have ex : (n k (h (w.mc + 1)) l).hs.count m = (if m = w.mc + 1 then 1 else 0) + l.hs.count m := by
      simp only [hs, List.count_append, List.count_cons, List.count_nil]
      by_cases z : w.mc + 1 = m
      · simp [z]
      · have : ¬ m = w.mc + 1 := fun y => z y.symm
        simp [z, this]
    simp only [List.flatMap_append, List.flatMap_cons, List.count_append, cnt_fill, cnt_fls, ex] at c co ⊢
    have efh : (En.hs ⟨f.i, w.mc + 1, r, b⟩).count m = r.hs.count m + b.hs.count m := by simp [En.hs]
    rw [efh]
    have e3 : (w.top.hs).count f.o * ((if m = w.mc + 1 then 1 else 0) + l.hs.count m) + (q.flatMap En.hs).count f.o * ((if m = w.mc + 1 then 1 else 0) + l.hs.count m) ≤ (if m = w.mc + 1 then 1 else 0) + l.hs.count m := by
      rw [← Nat.add_mul]
      exact Nat.le_trans (Nat.mul_le_mul_right _ (by omega : _ ≤ 1)) (by omega)
    have p0 : m = f.o → (p.flatMap En.hs).count m = 0 := fun qq => by
      rw [qq]
      refine List.count_eq_zero.mpr fun z => ?_
      obtain ⟨g, h1, h2⟩ := List.mem_flatMap.mp z
      exact (s.hp I).1 g h1 h2
    by_cases z : m = w.mc + 1
    · have : ¬ m ∈ allH w := fun y => by
        have := hall m y
        omega
      have z0 := List.count_eq_zero.mpr this
      unfold allH at z0
      rw [s.eq] at z0
      simp only [List.flatMap_append, List.flatMap_cons, List.count_append] at z0
      rw [if_pos z] at e3 ⊢
      split <;> omega
    · rw [if_neg z, Nat.zero_add] at e3 ⊢
      split
      · rename_i qq
        have := p0 qq
        have h5 : f.hs.count m = 0 := by rw [qq]; exact fo
        omega
      · omega
  · intro m hm
    rw [eo]
    have hm : m ∈ (fill f.o (n k (h (w.mc + 1)) l) w.top).hs := hm
    have inp : ∀ j ∈ f.hs, j ∈ p.map En.o ++ (w.mc + 1) :: q.map En.o := fun j hj => List.mem_append_left _ (k2 j hj)
    rcases mem_fill hm with ⟨z, qq⟩ | z
    · have := I.top m z
      rw [s.eq, List.map_append, List.map_cons] at this
      rcases List.mem_append.mp this with z | z
      · exact List.mem_append_left _ z
      · rcases List.mem_cons.mp z with z | z
        · exact absurd z qq
        · exact List.mem_append_right _ (List.mem_cons_of_mem _ z)
    · simp only [hs, List.mem_append, List.mem_singleton] at z
      rcases z with z | z
      · rw [z]
        exact List.mem_append_right _ (List.mem_cons_self ..)
      · exact inp m (mx m (.inl z))
  · rw [e, okW_app]
    refine ⟨k1, ?_, ?_⟩
    · intro m hm
      simp only [List.append_nil]
      refine List.mem_reverse.mpr (k2 m (mx m (.inr ?_)))
      exact List.mem_append.mp hm
    · simp only [List.append_nil]
      refine okW_fl (fun j hj qq => ?_) (fun j hj => ?_) k3
      · rcases List.mem_cons.mp hj with z | z
        · exact absurd z qq
        · exact List.mem_cons_of_mem _ z
      · simp only [hs, List.mem_append, List.mem_singleton] at hj
        rcases hj with z | z
        · rw [z]
          exact List.mem_cons_self ..
        · exact List.mem_cons_of_mem _ (List.mem_reverse.mpr (k2 j (mx j (.inl z))))
  · unfold tot
    rw [e]
    show (fill f.o (n k (h (w.mc + 1)) l) w.top).sz + szs _ ≤ w.top.sz + szs w.wk
    rw [s.eq, szs_app, szs_app, sz_fill]
    have co := I.one f.o
    unfold allH at co
    rw [s.eq] at co
    simp only [List.flatMap_append, List.flatMap_cons, List.count_append] at co
    have ex : (n k (h (w.mc + 1)) l).sz = l.sz + 1 := by simp [sz]
    have e3 : (w.top.hs).count f.o * (n k (h (w.mc + 1)) l).sz + (q.flatMap En.hs).count f.o * (n k (h (w.mc + 1)) l).sz ≤ (n k (h (w.mc + 1)) l).sz := by
      rw [← Nat.add_mul]
      exact Nat.le_trans (Nat.mul_le_mul_right _ (by omega : _ ≤ 1)) (by omega)
    have e4 := szs_fls f.o (n k (h (w.mc + 1)) l) q
    have e5 : szs (f :: q) = f.a.sz + f.b.sz + szs q := by simp [szs]
    have e6 : szs (⟨f.i, w.mc + 1, r, b⟩ :: q.map (En.fl f.o (n k (h (w.mc + 1)) l))) = r.sz + b.sz + szs (q.map (En.fl f.o (n k (h (w.mc + 1)) l))) := by simp [szs]
    omega
end
theorem Inv.act {w : W} (I : Inv w) {f : En} {p q : List En} (s : Sp w f p q) : ∀ a b : HT, a = f.a → b = f.b → Inv (w.act f a b) ∧ tot (w.act f a b) ≤ tot w
  | n k l r, n k' l' r', h1, h2 => by
    have eh : ∀ m, f.hs.count m = l.hs.count m + r.hs.count m + (l'.hs.count m + r'.hs.count m) := fun m => by
      unfold En.hs
      rw [← h1, ← h2]
      simp only [hs, List.count_append]
    have ez : f.a.sz + f.b.sz = l.sz + r.sz + 1 + (l'.sz + r'.sz + 1) := by
      rw [← h1, ← h2]
      rfl
    show Inv (if k' < k then w.stp f k' l' r' (n k l r) else w.stp f k l r (n k' l' r')) ∧ tot (if k' < k then w.stp f k' l' r' (n k l r) else w.stp f k l r (n k' l' r')) ≤ tot w
    split
    · refine I.stp s (fun m => ?_) ?_
      · rw [eh]
        simp only [hs, List.count_append]
        omega
      · rw [ez]
        simp only [sz]
        omega
    · refine I.stp s (fun m => ?_) ?_
      · rw [eh]
        simp only [hs, List.count_append]
        omega
      · rw [ez]
        simp only [sz]
        omega
  | h _, _, _, _ => by
    unfold W.act
    exact ⟨I, Nat.le_refl _⟩
  | e, h _, _, _ => by
    unfold W.act
    exact ⟨I, Nat.le_refl _⟩
  | n _ _ _, h _, _, _ => by
    unfold W.act
    exact ⟨I, Nat.le_refl _⟩
  | e, e, h1, h2 => by
    unfold W.act
    refine I.fin s (fun m => ?_) ?_
    · simp [hs]
    · simp [sz]
  | n k l r, e, h1, h2 => by
    unfold W.act
    refine I.fin s (fun m => ?_) ?_
    · unfold En.hs
      rw [← h1, List.count_append]
      omega
    · rw [← h1]
      omega
  | e, n k l r, h1, h2 => by
    unfold W.act
    refine I.fin s (fun m => ?_) ?_
    · unfold En.hs
      rw [← h2, List.count_append]
      omega
    · rw [← h2]
      omega
theorem Inv.step {w : W} (I : Inv w) (i : Int) : Inv (w.step i) ∧ tot (w.step i) ≤ tot w := by
  unfold W.step
  cases e : look w.wk i with
  | none => exact ⟨I, Nat.le_refl _⟩
  | some f =>
    obtain ⟨p, q, s⟩ := I.sp e
    exact I.act s _ _ rfl rfl
theorem Inv.beg {w : W} (I : Inv w) {a b : HT} (hx : ∀ m, a.hs.count m + b.hs.count m ≤ w.top.hs.count m) : Inv (w.beg a b) := by
  have leo : ∀ m ∈ w.wk.map En.o, m ≤ w.mc := fun m hm => by
    obtain ⟨g, h1, rfl⟩ := List.mem_map.mp hm
    exact I.le g h1
  have hall : ∀ m ∈ allH w, m ≤ w.mc := fun m hm => by
    rcases List.mem_append.mp hm with z | z
    · exact leo m (I.top m z)
    · obtain ⟨g, h1, h2⟩ := List.mem_flatMap.mp z
      rcases okW_hs I.ok g h1 m h2 with z | z
      · exact leo m z
      · cases z
  unfold W.beg
  refine ⟨?_, ?_, ?_, ?_, ?_, ?_, ?_, ?_, ?_⟩
  · simp only [List.map_append, List.map_cons, List.map_nil]
    refine List.pairwise_append.mpr ⟨I.key, List.pairwise_singleton _ _, fun x hx y hy => ?_⟩
    obtain ⟨g, h1, rfl⟩ := List.mem_map.mp hx
    rw [List.mem_singleton] at hy
    rw [hy]
    exact I.lt g h1
  · intro f hf
    show f.i < w.ent + 1
    rcases List.mem_append.mp hf with z | z
    · have := I.lt f z
      omega
    · rw [List.mem_singleton] at z
      subst z
      show w.ent < w.ent + 1
      omega
  · intro f hf
    rcases List.mem_append.mp hf with z | z
    · exact I.nn f z
    · rw [List.mem_singleton] at z
      subst z
      exact I.e0
  · have := I.e0
    show 0 ≤ w.ent + 1
    omega
  · simp only [List.map_append, List.map_cons, List.map_nil]
    refine List.nodup_append.mpr ⟨I.nd, by simp, fun x hx y hy => ?_⟩
    rw [List.mem_singleton] at hy
    have := leo x hx
    omega
  · intro f hf
    show f.o ≤ w.mc + 1
    rcases List.mem_append.mp hf with z | z
    · have := I.le f z
      omega
    · rw [List.mem_singleton] at z
      subst z
      exact Int.le_refl _
  · intro m
    have c := I.one m
    have hxm := hx m
    have hl := hall m
    unfold allH at c ⊢
    have ex : (h (w.mc + 1)).hs.count m = if m = w.mc + 1 then 1 else 0 := by
      simp only [hs, List.count_cons, List.count_nil]
      by_cases z : w.mc + 1 = m
      · simp [z]
      · have : ¬ m = w.mc + 1 := fun y => z y.symm
        simp [z, this]
    have ef : ([(⟨w.ent, w.mc + 1, a, b⟩ : En)].flatMap En.hs).count m = a.hs.count m + b.hs.count m := by simp [En.hs]
    simp only [List.flatMap_append, List.count_append] at c ⊢
    rw [ex, ef]
    by_cases z : m = w.mc + 1
    · have : ¬ m ∈ allH w := fun y => by
        have := hall m y
        omega
      have z0 := List.count_eq_zero.mpr this
      unfold allH at z0
      simp only [List.count_append] at z0
      rw [if_pos z]
      omega
    · rw [if_neg z]
      omega
  · intro m hm
    simp only [hs, List.mem_singleton] at hm
    simp [hm]
  · rw [okW_app]
    refine ⟨I.ok, fun m hm => ?_, trivial⟩
    simp only [List.append_nil]
    have : 0 < a.hs.count m + b.hs.count m := by
      rcases List.mem_append.mp hm with z | z
      · have : 0 < a.hs.count m := List.count_pos_iff.mpr z
        omega
      · have : 0 < b.hs.count m := List.count_pos_iff.mpr z
        omega
    exact List.mem_reverse.mpr (I.top m (List.count_pos_iff.mp (Nat.lt_of_lt_of_le this (hx m))))
theorem tot_beg (w : W) (a b : HT) : tot (w.beg a b) + w.top.sz = tot w + a.sz + b.sz := by
  unfold tot W.beg
  simp [sz]
  omega
theorem Inv.enter {w : W} (I : Inv w) (d : Option Int) : Inv (w.enter d) ∧ tot (w.enter d) ≤ tot w + 1 := by
  have any : ∀ (t : HT) (e' : Int) (tk : List (Option Int)), w.ent ≤ e' → (∀ m, t.hs.count m ≤ w.top.hs.count m) → t.sz ≤ w.top.sz → Inv { w with top := t, ent := e', tk := tk } ∧ tot { w with top := t, ent := e', tk := tk } ≤ tot w + 1 := fun t e' tk h1 h2 h3 => by
    refine ⟨⟨I.key, fun f hf => Int.lt_of_lt_of_le (I.lt f hf) h1, I.nn, Int.le_trans I.e0 h1, I.nd, I.le, fun m => ?_, fun m hm => ?_, I.ok⟩, ?_⟩
    · have c := I.one m
      have := h2 m
      unfold allH at c ⊢
      simp only [List.count_append] at c ⊢
      omega
    · exact I.top m (List.count_pos_iff.mp (Nat.lt_of_lt_of_le (List.count_pos_iff.mpr hm) (h2 m)))
    · unfold tot
      simp only
      omega
  have put : ∀ (t : HT) (k : Int), w.top = t → Inv ((w.beg t (n k e e)).step w.ent) ∧ tot ((w.beg t (n k e e)).step w.ent) ≤ tot w + 1 := fun t k ht => by
    have I1 : Inv (w.beg t (n k e e)) := I.beg fun m => by
      rw [ht]
      simp [hs]
    obtain ⟨I2, h2⟩ := I1.step w.ent
    refine ⟨I2, Nat.le_trans h2 ?_⟩
    have := tot_beg w t (n k e e)
    rw [ht] at this
    simp only [sz] at this
    omega
  unfold W.enter
  split
  · exact ⟨I, Nat.le_succ _⟩
  · exact put _ _ rfl
  · rename_i ht
    have := any w.top (w.ent + 1) (w.tk ++ [none]) (by omega) (fun _ => Nat.le_refl _) (Nat.le_refl _)
    exact this
  · rename_i k l r ht
    split
    · exact ⟨I, Nat.le_succ _⟩
    · split
      · refine any _ _ _ (by omega) (fun m => ?_) ?_
        · rw [ht]
          simp only [hs, List.count_append]
          split <;> omega
        · rw [ht]
          simp only [sz]
          split <;> omega
      · have I1 : Inv { w with tk := w.tk ++ [some k] } := ⟨I.key, I.lt, I.nn, I.e0, I.nd, I.le, I.one, I.top, I.ok⟩
        refine ⟨I1.beg fun m => ?_, ?_⟩
        · show _ ≤ w.top.hs.count m
          rw [ht]
          simp only [hs, List.count_append]
          omega
        · have := tot_beg { w with tk := w.tk ++ [some k] } l r
          have h3 : tot { w with tk := w.tk ++ [some k] } = tot w := rfl
          have h4 : w.top.sz = l.sz + r.sz + 1 := by rw [ht]; rfl
          have h5 : ({ w with tk := w.tk ++ [some k] } : W).top.sz = w.top.sz := rfl
          omega
theorem Inv.turn {w : W} (I : Inv w) (ds : List (Option Int)) (i : Int) : Inv (w.turn ds i) ∧ tot (w.turn ds i) ≤ tot w + 1 := by
  unfold W.turn
  split
  · obtain ⟨h1, h2⟩ := I.step i
    exact ⟨h1, by omega⟩
  · split
    · split
      · exact I.enter _
      · exact ⟨I, Nat.le_succ _⟩
    · exact ⟨I, Nat.le_succ _⟩
/-! ### on to the end -/
def W.stepMin (w : W) : W := match w.wk with
  | [] => w
  | f :: _ => w.step f.i
def mu (N : Nat) (w : W) : Nat := match w.wk with
  | [] => 0
  | f :: r => r.length * (N + 1) + (f.a.sz + f.b.sz + 1)
theorem stepMin_lt {w : W} {N : Nat} (I : Inv w) (hN : tot w ≤ N) (hw : w.wk ≠ []) : mu N w.stepMin < mu N w := by
  cases ew0 : w.wk with
  | nil => exact absurd ew0 hw
  | cons f r =>
    have el : look w.wk f.i = some f := by
      rw [ew0]
      simp [look]
    have ok := I.ok
    rw [ew0] at ok
    have hno : ∀ m, m ∉ f.hs := fun m hm => nomatch ok.1 m hm
    have s : Sp w f [] r := ⟨ew0, fun _ z => (nomatch z), fun g hg => by
      have := I.key
      rw [ew0, List.map_cons, List.pairwise_cons] at this
      have := this.1 g.i (List.mem_map_of_mem hg)
      omega⟩
    have es : w.stepMin = w.act f f.a f.b := by
      unfold W.stepMin
      rw [ew0]
      show w.step f.i = _
      unfold W.step
      rw [el]
    have e0 : mu N w = r.length * (N + 1) + (f.a.sz + f.b.sz + 1) := by
      unfold mu
      rw [ew0]
    have fin : ∀ x : HT, (∀ m, x.hs.count m ≤ f.hs.count m) → x.sz ≤ f.a.sz + f.b.sz → mu N (w.fin f x) < mu N w := fun x hx hz => by
      obtain ⟨I2, h2⟩ := I.fin s hx hz
      have ew := s.fin x I
      rw [List.nil_append] at ew
      rw [e0]
      unfold mu
      rw [ew]
      cases r with
      | nil => simp
      | cons g r' =>
        simp only [List.map_cons, List.length_map, List.length_cons]
        have : (fill f.o x g.a).sz + (fill f.o x g.b).sz ≤ tot (w.fin f x) := by
          unfold tot
          rw [ew]
          simp only [List.map_cons, List.sum_cons]
          show _ ≤ _ + (((fill f.o x g.a).sz + (fill f.o x g.b).sz) + _)
          omega
        show r'.length * (N + 1) + ((fill f.o x g.a).sz + (fill f.o x g.b).sz + 1) < _
        rw [Nat.add_mul]
        omega
    have stp : ∀ (k : Int) (l r' b : HT), l.sz + r'.sz + b.sz + 1 ≤ f.a.sz + f.b.sz → mu N (w.stp f k l r' b) < mu N w := fun k l r' b hz => by
      have ew := s.stp (k := k) (l := l) (r := r') (b := b) I
      rw [List.nil_append] at ew
      rw [e0]
      unfold mu
      rw [ew]
      simp only [List.length_map]
      omega
    rw [es]
    cases ea : f.a with
    | h m => exact absurd (show m ∈ f.hs by simp [En.hs, ea, hs]) (hno m)
    | e =>
      cases eb : f.b with
      | h m => exact absurd (show m ∈ f.hs by simp [En.hs, eb, hs]) (hno m)
      | e => exact fin .e (fun m => by simp [hs]) (by simp [sz])
      | n k l r' => exact fin (n k l r') (fun m => by unfold En.hs; rw [eb, List.count_append]; omega) (by rw [eb]; omega)
    | n k l r' =>
      cases eb : f.b with
      | h m => exact absurd (show m ∈ f.hs by simp [En.hs, eb, hs]) (hno m)
      | e => exact fin (n k l r') (fun m => by unfold En.hs; rw [ea, List.count_append]; omega) (by rw [ea]; omega)
      | n k' l' r'' =>
        show mu N (if k' < k then w.stp f k' l' r'' (n k l r') else w.stp f k l r' (n k' l' r'')) < mu N w
        split
        · refine stp _ _ _ _ ?_
          rw [ea, eb]
          simp only [sz]
          omega
        · refine stp _ _ _ _ ?_
          rw [ea, eb]
          simp only [sz]
          omega
theorem Inv.stepMin {w : W} (I : Inv w) : Inv w.stepMin ∧ tot w.stepMin ≤ tot w := by
  unfold W.stepMin
  split
  · exact ⟨I, Nat.le_refl _⟩
  · exact I.step _
def W.comp : Nat → W → W
  | 0, w => w
  | k + 1, w => W.comp k w.stepMin
theorem stepMin_nil {w : W} (h : w.wk = []) : w.stepMin = w := by
  unfold W.stepMin
  rw [h]
theorem comp_nil {w : W} (h : w.wk = []) : ∀ k, w.comp k = w
  | 0 => rfl
  | k + 1 => by rw [W.comp, stepMin_nil h, comp_nil h k]
theorem comp_end : ∀ (k : Nat) {w : W} {N : Nat}, Inv w → tot w ≤ N → mu N w ≤ k → (w.comp k).wk = [] ∧ Inv (w.comp k)
  | 0, w, N, I, hN, hk => by
    refine ⟨?_, I⟩
    unfold mu at hk
    cases ew0 : w.wk with
    | nil => exact ew0
    | cons f r =>
      rw [ew0] at hk
      simp at hk
  | k + 1, w, N, I, hN, hk => by
    by_cases hw : w.wk = []
    · rw [comp_nil hw]
      exact ⟨hw, I⟩
    · have := stepMin_lt I hN hw
      obtain ⟨I2, h2⟩ := I.stepMin
      exact comp_end k (N := N) I2 (by omega) (by omega)
theorem Inv.top0 {w : W} (I : Inv w) (h : w.wk = []) : w.top.hs = [] := by
  cases e : w.top.hs with
  | nil => rfl
  | cons m r =>
    have := I.top m (by rw [e]; exact List.mem_cons_self ..)
    rw [h] at this
    cases this
theorem mu_le {w : W} {N : Nat} (hN : tot w ≤ N) : mu N w ≤ w.wk.length * (N + 1) := by
  unfold mu
  cases ew0 : w.wk with
  | nil => simp
  | cons f r =>
    have : f.a.sz + f.b.sz ≤ tot w := by
      unfold tot
      rw [ew0]
      simp only [List.map_cons, List.sum_cons]
      omega
    simp only [List.length_cons, Nat.add_mul]
    omega
end Wv
set_option Elab.async false
set_option linter.all false
set_option maxRecDepth 100000
set_option maxHeartbeats 1000000
/-! wa2: bounds; runs -/
namespace Wv
open HT
theorem act_et (w : W) (f : En) (a b : HT) : (w.act f a b).ent = w.ent ∧ (w.act f a b).tk = w.tk := by
  unfold W.act
  split
  · split
    · exact ⟨rfl, rfl⟩
    · exact ⟨rfl, rfl⟩
  · exact ⟨rfl, rfl⟩
  · exact ⟨rfl, rfl⟩
  · exact ⟨rfl, rfl⟩
  · exact ⟨rfl, rfl⟩
theorem step_et (w : W) (i : Int) : (w.step i).ent = w.ent ∧ (w.step i).tk = w.tk := by
  unfold W.step
  split
  · exact ⟨rfl, rfl⟩
  · exact act_et _ _ _ _
theorem stepMin_et (w : W) : w.stepMin.ent = w.ent ∧ w.stepMin.tk = w.tk := by
  unfold W.stepMin
  split
  · exact ⟨rfl, rfl⟩
  · exact step_et _ _
theorem comp_et : ∀ (k : Nat) (w : W), (w.comp k).ent = w.ent ∧ (w.comp k).tk = w.tk
  | 0, w => ⟨rfl, rfl⟩
  | k + 1, w => by
    obtain ⟨h1, h2⟩ := comp_et k w.stepMin
    obtain ⟨h3, h4⟩ := stepMin_et w
    exact ⟨h1.trans h3, h2.trans h4⟩
theorem enter_et (w : W) (d : Option Int) : (w.enter d = w) ∨ ((w.enter d).ent = w.ent + 1 ∧ (w.enter d).tk.length ≤ w.tk.length + 1) := by
  unfold W.enter
  split
  · exact .inl rfl
  · right
    obtain ⟨h1, h2⟩ := step_et (w.beg w.top (n _ e e)) w.ent
    exact ⟨h1.trans rfl, by rw [h2]; show w.tk.length ≤ _; omega⟩
  · right
    exact ⟨rfl, by simp⟩
  · split
    · exact .inl rfl
    · split
      · right
        exact ⟨rfl, by simp⟩
      · right
        refine ⟨rfl, ?_⟩
        show (w.tk ++ [_]).length ≤ _
        simp
structure Bd (N L : Nat) (w : W) : Prop where
  inv : Inv w
  tot : (tot w : Int) ≤ N + w.ent
  tk : (w.tk.length : Int) ≤ w.ent
  ent : w.ent ≤ L
theorem Bd.step {N L : Nat} {w : W} (B : Bd N L w) (i : Int) : Bd N L (w.step i) := by
  obtain ⟨h1, h2⟩ := B.inv.step i
  obtain ⟨h3, h4⟩ := step_et w i
  have := B.tot
  have := B.tk
  have := B.ent
  exact ⟨h1, by omega, by rw [h4, h3]; omega, by omega⟩
theorem Bd.enter {N L : Nat} {w : W} (B : Bd N L w) (d : Option Int) (h : w.ent < L) : Bd N L (w.enter d) := by
  obtain ⟨h1, h2⟩ := B.inv.enter d
  have h4 := B.tot
  have h5 := B.tk
  have h6 := B.ent
  rcases enter_et w d with e | ⟨e1, e2⟩
  · rw [e]
    exact B
  · exact ⟨h1, by omega, by omega, by omega⟩
theorem Bd.turn {N L : Nat} {w : W} (B : Bd N L w) (ds : List (Option Int)) (i : Int) (h : i = w.ent → w.ent < L) : Bd N L (w.turn ds i) := by
  unfold W.turn
  split
  · exact B.step i
  · split
    · rename_i z
      split
      · exact B.enter _ (h z)
      · exact B
    · exact B
theorem pw_len : ∀ (l : List Int) (a b : Int), l.Pairwise (· < ·) → (∀ x ∈ l, a ≤ x ∧ x < b) → a ≤ b → (l.length : Int) ≤ b - a
  | [], a, b, _, _, hab => by
    simp
    omega
  | x :: r, a, b, p, hh, hab => by
    rw [List.pairwise_cons] at p
    have hx := hh x (List.mem_cons_self ..)
    have := pw_len r (x + 1) b p.2 (fun y hy => ⟨by have := p.1 y hy; omega, (hh y (List.mem_cons_of_mem _ hy)).2⟩) (by omega)
    rw [List.length_cons]
    omega
theorem Bd.wk {N L : Nat} {w : W} (B : Bd N L w) : w.wk.length ≤ L := by
  have := pw_len (w.wk.map En.i) 0 w.ent B.inv.key (fun x hx => by
    obtain ⟨f, hf, rfl⟩ := List.mem_map.mp hx
    exact ⟨B.inv.nn f hf, B.inv.lt f hf⟩) B.inv.e0
  rw [List.length_map] at this
  have := B.ent
  omega
theorem Bd.totN {N L : Nat} {w : W} (B : Bd N L w) : Wv.tot w ≤ N + L := by
  have := B.tot
  have := B.ent
  omega
theorem Bd.tkL {N L : Nat} {w : W} (B : Bd N L w) : w.tk.length ≤ L := by
  have := B.tk
  have := B.ent
  omega
theorem Bd.stepMin {N L : Nat} {w : W} (B : Bd N L w) : Bd N L w.stepMin := by
  unfold W.stepMin
  split
  · exact B
  · exact B.step _
theorem Bd.mu {N L : Nat} {w : W} (B : Bd N L w) : mu (N + L) w ≤ L * (N + L + 1) := Nat.le_trans (mu_le B.totN) (Nat.mul_le_mul_right _ B.wk)
def W.run (ds : List (Option Int)) : W → List Int → W
  | w, [] => w
  | w, i :: r => (w.turn ds i).run ds r
/-- each turn can be made -/
def okT (ds : List (Option Int)) : W → List Int → Prop
  | _, [] => True
  | w, i :: r => (0 ≤ i ∧ i ≤ w.ent ∧ i < ds.length) ∧ okT ds (w.turn ds i) r
theorem Bd.run {N : Nat} {ds : List (Option Int)} : ∀ (l : List Int) {w : W}, Bd N ds.length w → okT ds w l → Bd N ds.length (w.run ds l)
  | [], w, B, _ => B
  | i :: r, w, B, ⟨⟨h1, h2, h3⟩, h4⟩ => Bd.run r (B.turn ds i fun z => by omega) h4
theorem comp_add : ∀ (a b : Nat) (w : W), w.comp (a + b) = (w.comp a).comp b
  | 0, b, w => by rw [Nat.zero_add]; rfl
  | a + 1, b, w => by
    rw [Nat.add_right_comm]
    exact comp_add a b w.stepMin
theorem comp_le {w : W} {a b : Nat} (h : (w.comp a).wk = []) (hab : a ≤ b) : w.comp b = w.comp a := by
  obtain ⟨c, rfl⟩ : ∃ c, b = a + c := ⟨b - a, by omega⟩
  rw [comp_add, comp_nil h]
theorem comp_uniq {w : W} {a b : Nat} (ha : (w.comp a).wk = []) (hb : (w.comp b).wk = []) : w.comp a = w.comp b := by
  rcases Nat.le_total a b with h | h
  · exact (comp_le ha h).symm
  · exact comp_le hb h
theorem Bd.comp {N L : Nat} : ∀ (k : Nat) {w : W}, Bd N L w → Bd N L (w.comp k)
  | 0, _, B => B
  | k + 1, _, B => Bd.comp k B.stepMin
/-- on to the end -/
theorem Bd.done {N L : Nat} {w : W} (B : Bd N L w) {k : Nat} (hk : L * (N + L + 1) ≤ k) : (w.comp k).wk = [] :=
  (comp_end k (N := N + L) B.inv B.totN (Nat.le_trans B.mu hk)).1
end Wv
set_option Elab.async false
set_option linter.all false
set_option maxRecDepth 100000
set_option maxHeartbeats 1000000
/-! wm0: places in the memory -/
namespace Xt
open PySem
open Wv (HT En)
abbrev plF (k m l r : Dv) : List (Str × Dv) := [("key", k), ("mark", m), ("left", l), ("right", r)]
abbrev plc (k m l r : Dv) : MO := .ins "Place" (plF k m l r)
section
variable {M M1 M2 : Mem} {i j : Nat} {c f : Str} {fs : List (Str × Dv)} {d e x : Dv} {ρ : Slots} {g g2 : Slots → Co Dv}
theorem fld_ok (h : M[i]? = some (.ins c fs)) (l : fs.lookup f = some d) : fldD c f (.r i) M = .ok d M := by
  simp [fldD, atM, h, chk, bnd, ofO, l, rt]
theorem stF_ok (h : M[i]? = some (.ins c fs)) (hl : Nat.blt fs.length 1000 = true) : stF c f (.r i) e M = .ok () (M.set i (.ins c (putD f e fs))) := by
  simp [stF, atM, h, chk, hl]
theorem b1_ok {F : Dv → Co Dv} (h : g ρ M = .ok d M1) : b1 F g ρ M = F d M1 := bnd_ok h
theorem cB_ok {F : List Dv → Co Dv} {gs : Slots → Co (List Dv)} {ds : List Dv} (h : gs ρ M = .ok ds M1) : cB F gs ρ M = F ds M1 := bnd_ok h
theorem ac_ok {gs : Slots → Co (List Dv)} {ds : List Dv} (h : g ρ M = .ok d M1) (h2 : gs ρ M1 = .ok ds M2) : ac g gs ρ M = .ok (d :: ds) M2 := by
  unfold ac
  rw [bnd_ok h, bnd_ok h2]
  rfl
theorem ac0_ok : ac0 ρ M = .ok [] M := rfl
theorem sfl_ok (h1 : g ρ M = .ok e M1) (h2 : g2 ρ M1 = .ok (.r i) M1) (h : M1[i]? = some (.ins c fs)) (hl : Nat.blt fs.length 1000 = true := by rfl) : sfl c f g2 g ρ M = .ok (.nx ρ) (M1.set i (.ins c (putD f e fs))) := by
  unfold sfl
  rw [bnd_ok h1, bnd_ok h2, bnd_ok (stF_ok h hl)]
  rfl
theorem tFl_ok (h2 : g ρ M = .ok (.r i) M) (h : M[i]? = some (.ins c fs)) (hl : Nat.blt fs.length 1000 = true := by rfl) : tFl c f g e ρ M = .ok ρ (M.set i (.ins c (putD f e fs))) := by
  unfold tFl
  rw [bnd_ok h2, bnd_ok (stF_ok h hl)]
  rfl
theorem asg_ok {tf : Dv → Slots → Co Slots} {ρ' : Slots} (h : g ρ M = .ok d M1) (h2 : tf d ρ M1 = .ok ρ' M2) : asg g tf ρ M = .ok (.nx ρ') M2 := by
  unfold asg
  rw [bnd_ok h, bnd_ok h2]
  rfl
theorem ifs_t {t : Slots → Co Bool} {a b : Slots → Co Fl} (h : t ρ M = .ok true M1) : ifs t a b ρ M = a ρ M1 := bnd_ok h
theorem ifs_f {t : Slots → Co Bool} {a b : Slots → Co Fl} (h : t ρ M = .ok false M1) : ifs t a b ρ M = b ρ M1 := bnd_ok h
theorem iff_t {t : Slots → Co Bool} {a b : Slots → Co Dv} (h : t ρ M = .ok true M1) : iff t a b ρ M = a ρ M1 := bnd_ok h
theorem iff_f {t : Slots → Co Bool} {a b : Slots → Co Dv} (h : t ρ M = .ok false M1) : iff t a b ρ M = b ρ M1 := bnd_ok h
theorem tst_ok {b : Bool} (h : g ρ M = .ok (vB b) M1) : tst g ρ M = .ok b M1 := (bnd_ok h).trans rfl
theorem trV_ok {b : Bool} (h : g ρ M = .ok (vB b) M1) : trV g ρ M = .ok b M1 := (bnd_ok h).trans rfl
theorem tor_t {a b : Slots → Co Bool} (h : a ρ M = .ok true M1) : tor a b ρ M = .ok true M1 := (bnd_ok h).trans rfl
theorem tor_f {a b : Slots → Co Bool} (h : a ρ M = .ok false M1) : tor a b ρ M = b ρ M1 := bnd_ok h
theorem tand_t {a b : Slots → Co Bool} (h : a ρ M = .ok true M1) : tand a b ρ M = b ρ M1 := bnd_ok h
theorem tand_f {a b : Slots → Co Bool} (h : a ρ M = .ok false M1) : tand a b ρ M = .ok false M1 := (bnd_ok h).trans rfl
theorem tnt_ok {a : Slots → Co Bool} {b : Bool} (h : a ρ M = .ok b M1) : tnt a ρ M = .ok (!b) M1 := (bnd_ok h).trans rfl
theorem ret_ok (h : g ρ M = .ok d M1) : Xt.ret g ρ M = .ok (.rt d) M1 := by
  unfold Xt.ret
  rw [bnd_ok h]
  rfl
theorem drp_ok (h : g ρ M = .ok d M1) : drp g ρ M = .ok (.nx ρ) M1 := by
  unfold drp
  rw [bnd_ok h]
  rfl
theorem isN_r (b : Bool) (i : Nat) (M : Mem) : isN b (.r i) M = .ok (.g (.bool b)) M := rfl
theorem b2_ok {F : Dv → Dv → Co Dv} (h : g ρ M = .ok d M1) (h2 : g2 ρ M1 = .ok e M2) : b2 F g g2 ρ M = F d e M2 := by
  unfold b2
  rw [bnd_ok h, bnd_ok h2]
theorem def_nx {n np : Nat} {b : Slots → Co Fl} {ds : List Dv} {M M' : Mem} {ρ : Slots} (hl : Nat.beq ds.length np = true) (h : b (ds ++ List.replicate (n - np) .u) M = .ok (.nx ρ) M') : defF n np b ds M = .ok (.g .none) M' := by
  unfold defF chk
  rw [hl]
  exact (bnd_ok h).trans rfl
theorem mt_ok {m : Str} {F : List Dv → Co Dv} {gs : Slots → Co (List Dv)} {ds : List Dv} (h1 : g ρ M = .ok (.r i) M) (h : M[i]? = some (.ins c fs)) (hm : fs.lookup m = none) (h2 : gs ρ M = .ok ds M1) : mtC c m F g gs ρ M = F (.r i :: ds) M1 := by
  unfold mtC
  rw [bnd_ok h1]
  refine (bnd_ok (x := ()) (M' := M) ?_).trans (bnd_ok h2)
  simp [atM, h, chk, hm, Xt.rt]
theorem mk_ok {Fi : List Dv → Co Dv} {gs : Slots → Co (List Dv)} {ds : List Dv} (h1 : gs ρ M = .ok ds M1) (h2 : Fi (.r M1.length :: ds) (M1 ++ [.ins c []]) = .ok (.g .none) M2) : mkC c Fi gs ρ M = .ok (.r M1.length) M2 := by
  unfold mkC
  rw [bnd_ok h1]
  show bnd (Fi (.r M1.length :: ds)) _ (M1 ++ [.ins c []]) = _
  rw [bnd_ok h2]
  rfl
theorem set_same {mo : MO} (h : M[i]? = some mo) : M.set i mo = M := by
  obtain ⟨h1, h2⟩ := List.getElem?_eq_some_iff.mp h
  rw [← h2]
  exact List.set_getElem_self h1
theorem get_set_ne {mo : MO} (h : i ≠ j) : (M.set i mo)[j]? = M[j]? := List.getElem?_set_ne h
theorem get_set {mo mo' : MO} (h : M[i]? = some mo) : (M.set i mo')[i]? = some mo' := by
  rw [List.getElem?_set_self (List.getElem?_eq_some_iff.mp h).1]
theorem get_app {mo : MO} {N : Mem} (h : M[i]? = some mo) : (M ++ N)[i]? = some mo := by
  rw [List.getElem?_append_left (List.getElem?_eq_some_iff.mp h).1]
  exact h
end
theorem lk_key {k m l r : Dv} : (plF k m l r).lookup ("key" : Str) = some k := by rfl
theorem lk_mark {k m l r : Dv} : (plF k m l r).lookup ("mark" : Str) = some m := by rfl
theorem lk_left {k m l r : Dv} : (plF k m l r).lookup ("left" : Str) = some l := by rfl
theorem lk_right {k m l r : Dv} : (plF k m l r).lookup ("right" : Str) = some r := by rfl
theorem pt_left {k m l r x : Dv} : putD "left" x (plF k m l r) = plF k m x r := by rfl
theorem pt_right {k m l r x : Dv} : putD "right" x (plF k m l r) = plF k m l x := by rfl
theorem grd_eq : ∀ {ds : List Dv} {xs : List PyData}, grd ds = some xs → ds = xs.map Dv.g
  | [], xs, h => by
    cases h
    rfl
  | .g x :: r, xs, h => by
    unfold grd at h
    cases e : grd r with
    | none =>
      rw [e] at h
      cases h
    | some ys =>
      rw [e] at h
      cases h
      rw [grd_eq e]
      rfl
  | .r _ :: _, _, h => by cases h
  | .t _ :: _, _, h => by cases h
  | .u :: _, _, h => by cases h
theorem asT_mkT (ds : List Dv) : asT (mkT ds) = some ds := by
  unfold mkT
  cases e : grd ds with
  | none => rfl
  | some xs => rw [grd_eq e]; rfl
/-- how a heap with holes stands in the memory: its places -/
def Rep (M : Mem) : HT → Dv → List Nat → Prop
  | .e, d, S => d = .g .none ∧ S = []
  | .h m, d, S => ∃ i, d = .r i ∧ S = [i] ∧ M[i]? = some (plc (.g .none) (dI m) (.g .none) (.g .none))
  | .n k l r, d, S => ∃ i dl dr Sl Sr mm, d = .r i ∧ M[i]? = some (plc (dI k) (dI mm) dl dr) ∧ Rep M l dl Sl ∧ Rep M r dr Sr ∧ S = i :: (Sl ++ Sr)
theorem Rep.frame {M M' : Mem} : ∀ {t : HT} {d : Dv} {S : List Nat}, Rep M t d S → (∀ j ∈ S, M'[j]? = M[j]?) → Rep M' t d S
  | .e, d, S, h, _ => h
  | .h m, d, S, ⟨i, h1, h2, h3⟩, f => ⟨i, h1, h2, by rw [f i (by rw [h2]; exact List.mem_cons_self ..)]; exact h3⟩
  | .n k l r, d, S, ⟨i, dl, dr, Sl, Sr, mm, h1, h2, h3, h4, h5⟩, f => by
    subst h5
    exact ⟨i, dl, dr, Sl, Sr, mm, h1, by rw [f i (List.mem_cons_self ..)]; exact h2, h3.frame (fun j hj => f j (List.mem_cons_of_mem _ (List.mem_append_left _ hj))), h4.frame (fun j hj => f j (List.mem_cons_of_mem _ (List.mem_append_right _ hj))), rfl⟩
/-- each of its places is one -/
theorem Rep.at {M : Mem} : ∀ {t : HT} {d : Dv} {S : List Nat}, Rep M t d S → ∀ j ∈ S, ∃ k m l r, M[j]? = some (plc k m l r)
  | .e, d, S, ⟨_, h⟩, j, hj => by
    rw [h] at hj
    cases hj
  | .h m, d, S, ⟨i, h1, h2, h3⟩, j, hj => by
    rw [h2, List.mem_singleton] at hj
    subst hj
    exact ⟨_, _, _, _, h3⟩
  | .n k l r, d, S, ⟨i, dl, dr, Sl, Sr, mm, h1, h2, h3, h4, h5⟩, j, hj => by
    subst h5
    rcases List.mem_cons.mp hj with rfl | hj
    · exact ⟨_, _, _, _, h2⟩
    · rcases List.mem_append.mp hj with hj | hj
      · exact h3.at j hj
      · exact h4.at j hj
theorem Rep.lt {M : Mem} {t : HT} {d : Dv} {S : List Nat} (h : Rep M t d S) {j : Nat} (hj : j ∈ S) : j < M.length := by
  obtain ⟨k, m, l, r, e⟩ := h.at j hj
  exact (List.getElem?_eq_some_iff.mp e).1
theorem Rep.ne {M : Mem} {t : HT} {d : Dv} {S : List Nat} (h : Rep M t d S) {j s : Nat} {mo : MO} (hs : M[s]? = some mo) (hn : ∀ k m l r, mo ≠ plc k m l r) (hj : j ∈ S) : j ≠ s := fun e => by
  obtain ⟨k, m, l, r, e2⟩ := h.at j hj
  rw [e, hs] at e2
  cases e2
  exact hn _ _ _ _ rfl
theorem Rep.set {M : Mem} {t : HT} {d : Dv} {S : List Nat} (h : Rep M t d S) {s : Nat} {mo : MO} (hn : s ∉ S) : Rep (M.set s mo) t d S := h.frame fun j hj => get_set_ne fun e => hn (e ▸ hj)
theorem Rep.app {M N : Mem} {t : HT} {d : Dv} {S : List Nat} (h : Rep M t d S) : Rep (M ++ N) t d S := h.frame fun j hj => List.getElem?_append_left (h.lt hj)
end Xt
set_option Elab.async false
set_option linter.all false
set_option maxRecDepth 100000
set_option maxHeartbeats 1000000
/-! wm1: is_hole, laid at places of the memory -/
namespace K07
open Xt PySem
open Wv (HT En)
theorem is_hole_e (n : Nat) (M : Mem) : F_is_hole (n + 1) [.g .none] M = .ok (vB false) M := rfl
theorem is_hole_r {M : Mem} {i : Nat} {m l r : Dv} {k : Dv} (n : Nat) (b : Bool) (h : M[i]? = some (plc k m l r)) (hk : isN false k M = .ok (vB b) M) : F_is_hole (n + 1) [.r i] M = .ok (vB b) M := by
  show defF 1 1 b_is_hole [.r i] M = _
  refine def_rt rfl (sq_rt (ret_ok ?_))
  refine (bnd_ok (M' := M) (tst_ok (b := true) ?_)).trans ?_
  · exact (b1_ok (show sl 0 [.r i] M = .ok (.r i) M from rfl)).trans (isN_r true i M)
  · exact (b1_ok (b1_ok (show sl 0 [.r i] M = .ok (.r i) M from rfl) |>.trans (fld_ok h lk_key))).trans hk
theorem is_hole_ok {M : Mem} {t : HT} {d : Dv} {S : List Nat} (n : Nat) (h : Rep M t d S) : F_is_hole (n + 1) [d] M = .ok (vB t.isH) M := by
  cases t with
  | e =>
    obtain ⟨rfl, _⟩ := h
    exact is_hole_e n M
  | h m =>
    obtain ⟨i, rfl, _, h3⟩ := h
    exact is_hole_r n true h3 rfl
  | n k l r =>
    obtain ⟨i, dl, dr, Sl, Sr, mm, rfl, h3, _⟩ := h
    exact is_hole_r n false h3 rfl
/-- a place that is a hole -/
theorem laid_hole {M : Mem} {i : Nat} {j m : Int} {dx : Dv} (n : Nat) (h : M[i]? = some (plc (.g .none) (dI j) (.g .none) (.g .none))) (hx : dx ≠ .u) : F_laid (n + 2) [.r i, dI m, dx] M = .ok (if j = m then dx else .r i) M := by
  show defF 3 3 (b_laid (F_laid (n + 1)) (F_is_hole (n + 1))) [.r i, dI m, dx] M = _
  refine def_rt rfl ?_
  show b_laid _ _ [.r i, dI m, dx] M = _
  have s0 : ∀ M, sl 0 [.r i, dI m, dx] M = .ok (.r i) M := fun _ => rfl
  refine (sq_nx (ρ' := [.r i, dI m, dx]) (M' := M) ?_).trans ?_
  · exact (ifs_f (tst_ok ((b1_ok (s0 M)).trans (isN_r false i M)))).trans rfl
  · refine sq_rt ((ifs_t (M1 := M) (trV_ok ((cB_ok (ac_ok (s0 M) ac0_ok)).trans (is_hole_r n true h rfl)))).trans ?_)
    refine sq_rt (ret_ok ?_)
    have c : tst (b2 (eqD false) (b1 (fldD "Place" "mark") (sl 0)) (sl 1)) [.r i, dI m, dx] M = .ok (decide (j = m)) M :=
      tst_ok ((b2_ok ((b1_ok (s0 M)).trans (fld_ok h lk_mark)) (show sl 1 [.r i, dI m, dx] M = .ok (dI m) M from rfl)).trans (eqI j m M))
    by_cases q : j = m
    · rw [decide_eq_true q] at c
      rw [if_pos q, iff_t c]
      cases dx with
      | u => exact absurd rfl hx
      | _ => rfl
    · rw [decide_eq_false q] at c
      rw [if_neg q, iff_f c]
      rfl
/-- a place with sides -/
theorem laid_node {M M1 M2 : Mem} {i : Nat} {k mm m : Int} {dl dr dx dl' dr' : Dv} (n : Nat) (h : M[i]? = some (plc (dI k) (dI mm) dl dr)) (hx : dx ≠ .u)
    (h1 : F_laid (n + 1) [dl, dI m, dx] M = .ok dl' M1) (e1 : M1[i]? = M[i]?) (h2 : F_laid (n + 1) [dr, dI m, dx] (M1.set i (plc (dI k) (dI mm) dl' dr)) = .ok dr' M2) (e2 : M2[i]? = some (plc (dI k) (dI mm) dl' dr)) :
    F_laid (n + 2) [.r i, dI m, dx] M = .ok (.r i) (M2.set i (plc (dI k) (dI mm) dl' dr')) := by
  show defF 3 3 (b_laid (F_laid (n + 1)) (F_is_hole (n + 1))) [.r i, dI m, dx] M = _
  refine def_rt rfl ?_
  show b_laid _ _ [.r i, dI m, dx] M = _
  have s0 : ∀ M, sl 0 [.r i, dI m, dx] M = .ok (.r i) M := fun _ => rfl
  have s1 : ∀ M, sl 1 [.r i, dI m, dx] M = .ok (dI m) M := fun _ => rfl
  have s2 : ∀ M, sl 2 [.r i, dI m, dx] M = .ok dx M := fun _ => by
    cases dx with
    | u => exact absurd rfl hx
    | _ => rfl
  refine (sq_nx (ρ' := [.r i, dI m, dx]) (M' := M) ?_).trans ?_
  · exact (ifs_f (tst_ok ((b1_ok (s0 M)).trans (isN_r false i M)))).trans rfl
  refine (sq_nx (ρ' := [.r i, dI m, dx]) (M' := M) ?_).trans ?_
  · exact (ifs_f (trV_ok ((cB_ok (ac_ok (s0 M) ac0_ok)).trans (is_hole_r n false h rfl)))).trans rfl
  have g1 := e1.trans h
  refine (sq_nx (sfl_ok (fs := plF (dI k) (dI mm) dl dr) ((cB_ok (ac_ok ((b1_ok (s0 M)).trans (fld_ok h lk_left)) (ac_ok (s1 M) (ac_ok (s2 M) ac0_ok)))).trans h1) (s0 M1) g1)).trans ?_
  rw [pt_left]
  have g2 := get_set (mo' := plc (dI k) (dI mm) dl' dr) g1
  refine (sq_nx (sfl_ok (fs := plF (dI k) (dI mm) dl' dr) ((cB_ok (ac_ok ((b1_ok (s0 _)).trans (fld_ok g2 lk_right)) (ac_ok (s1 _) (ac_ok (s2 _) ac0_ok)))).trans h2) (s0 M2) e2)).trans ?_
  rw [pt_right]
  exact sq_rt (ret_ok (s0 _))
theorem Rep_u {M : Mem} {t : HT} {d : Dv} {S : List Nat} (h : Rep M t d S) : d ≠ .u := by
  cases t with
  | e => obtain ⟨rfl, _⟩ := h; exact fun z => nomatch z
  | h m => obtain ⟨i, rfl, _⟩ := h; exact fun z => nomatch z
  | n k l r => obtain ⟨i, dl, dr, Sl, Sr, mm, rfl, _⟩ := h; exact fun z => nomatch z
/-- where there is no such hole, all stays -/
theorem laid_id {m : Int} {dx : Dv} (hx : dx ≠ .u) : ∀ {t : HT} {d : Dv} {S : List Nat} {M : Mem} (n : Nat), Rep M t d S → m ∉ t.hs → t.dp + 2 ≤ n → F_laid n [d, dI m, dx] M = .ok d M
  | .e, d, S, M, n + 1, h, _, _ => by
    obtain ⟨rfl, _⟩ := h
    rfl
  | .h j, d, S, M, n + 2, h, hm, _ => by
    obtain ⟨i, rfl, _, h3⟩ := h
    rw [laid_hole n h3 hx, if_neg fun q => hm (by simp [HT.hs, q])]
  | .n k l r, d, S, M, n + 2, h, hm, hn => by
    obtain ⟨i, dl, dr, Sl, Sr, mm, rfl, h3, h4, h5, _⟩ := h
    simp only [HT.hs, List.mem_append, not_or] at hm
    simp only [HT.dp] at hn
    have a1 := laid_id hx (n + 1) h4 hm.1 (by omega)
    have a2 := laid_id hx (n + 1) h5 hm.2 (by omega)
    have := laid_node (M := M) (M1 := M) (M2 := M) n h3 hx a1 rfl (by rw [set_same h3]; exact a2) h3
    rw [this, set_same h3]
  | .h j, d, S, M, 0, h, _, hn => by simp [HT.dp] at hn
  | .h j, d, S, M, 1, h, _, hn => by simp [HT.dp] at hn
  | .n k l r, d, S, M, 0, h, _, hn => by simp [HT.dp] at hn
  | .n k l r, d, S, M, 1, h, _, hn => by simp [HT.dp] at hn
/-- a hole filled -/
theorem laid_fill {m : Int} {x : HT} {dx : Dv} {Sx : List Nat} : ∀ {t : HT} {d : Dv} {S : List Nat} {M : Mem} (n : Nat), Rep M x dx Sx → (S ++ Sx).Nodup → Rep M t d S → m ∈ t.hs → t.hs.count m ≤ 1 → t.dp + 2 ≤ n →
    ∃ d' M' S', F_laid n [d, dI m, dx] M = .ok d' M' ∧ M'.length = M.length ∧ (∀ j, j ∉ S → M'[j]? = M[j]?) ∧ Rep M' (HT.fill m x t) d' S' ∧ (∀ j ∈ S', j ∈ S ∨ j ∈ Sx) ∧ S'.Nodup
  | .e, d, S, M, n, _, _, _, hm, _, _ => by simp [HT.hs] at hm
  | .h j, d, S, M, n + 2, hX, nd, h, hm, _, _ => by
    obtain ⟨i, rfl, _, h3⟩ := h
    have : j = m := by
      have : m = j := by simpa [HT.hs] using hm
      exact this.symm
    subst this
    refine ⟨dx, M, Sx, ?_, rfl, fun _ _ => rfl, ?_, fun j hj => .inr hj, (List.nodup_append.mp nd).2.1⟩
    · rw [laid_hole n h3 (Rep_u hX), if_pos rfl]
    · show Rep M (if j = j then x else HT.h j) dx Sx
      rw [if_pos rfl]
      exact hX
  | .n k l r, d, S, M, n + 2, hX, nd, h, hm, hc, hn => by
    obtain ⟨i, dl, dr, Sl, Sr, mm, rfl, h3, h4, h5, rfl⟩ := h
    simp only [HT.hs, List.count_append] at hc
    simp only [HT.hs, List.mem_append] at hm
    simp only [HT.dp] at hn
    have nd0 := nd
    simp only [List.cons_append, List.append_assoc, List.nodup_cons, List.mem_append, not_or] at nd
    obtain ⟨⟨i1, i2, i3⟩, nd⟩ := nd
    obtain ⟨ndl, ndr, dis⟩ := List.nodup_append.mp nd
    obtain ⟨ndr, ndx, dis2⟩ := List.nodup_append.mp ndr
    have hxu := Rep_u hX
    by_cases z : m ∈ l.hs
    · have zr : m ∉ r.hs := fun y => by
        have a := List.count_pos_iff.mpr z
        have b := List.count_pos_iff.mpr y
        omega
      obtain ⟨dl', M1, Sl', f1, f2, f3, f4, f5, f6⟩ := laid_fill (n + 1) hX (List.nodup_append.mpr ⟨ndl, ndx, fun a ha b hb => dis a ha b (List.mem_append_right _ hb)⟩) h4 z (by omega) (by omega)
      have e1 := f3 i i1
      have h5' : Rep (M1.set i (plc (dI k) (dI mm) dl' dr)) r dr Sr := (h5.frame fun j hj => f3 j fun y => dis j y j (List.mem_append_left _ hj) rfl).set i2
      have e2 := get_set (mo' := plc (dI k) (dI mm) dl' dr) (e1.trans h3)
      have il : i ∉ Sl' := fun y => by
        rcases f5 i y with y | y
        · exact i1 y
        · exact i3 y
      refine ⟨.r i, _, i :: (Sl' ++ Sr), laid_node n h3 hxu f1 e1 (laid_id hxu (n + 1) h5' zr (by omega)) e2, ?_, fun j hj => ?_, (show Rep _ (HT.n k (HT.fill m x l) (HT.fill m x r)) _ _ from ⟨i, dl', dr, Sl', Sr, mm, rfl, ?_, ?_, ?_, rfl⟩), fun j hj => ?_, ?_⟩
      · rw [List.length_set, List.length_set, f2]
      · simp only [List.mem_cons, List.mem_append, not_or] at hj
        rw [get_set_ne (Ne.symm hj.1), get_set_ne (Ne.symm hj.1), f3 j hj.2.1]
      · exact get_set e2
      · exact (f4.set il).set il
      · rw [HT.fill_id zr]
        exact h5'.set i2
      · simp only [List.mem_cons, List.mem_append] at hj ⊢
        rcases hj with hj | hj | hj
        · exact .inl (.inl hj)
        · rcases f5 j hj with y | y
          · exact .inl (.inr (.inl y))
          · exact .inr y
        · exact .inl (.inr (.inr hj))
      · refine List.nodup_cons.mpr ⟨fun y => ?_, List.nodup_append.mpr ⟨f6, ndr, fun a ha b hb => ?_⟩⟩
        · rcases List.mem_append.mp y with y | y
          · exact il y
          · exact i2 y
        · rcases f5 a ha with y | y
          · exact dis a y b (List.mem_append_left _ hb)
          · exact fun q => dis2 b hb a y q.symm
    · have zr : m ∈ r.hs := by
        rcases hm with y | y
        · exact absurd y z
        · exact y
      have a1 := laid_id hxu (n + 1) h4 z (by omega)
      obtain ⟨dr', M1, Sr', f1, f2, f3, f4, f5, f6⟩ := laid_fill (n + 1) hX (List.nodup_append.mpr ⟨ndr, ndx, dis2⟩) h5 zr (by omega) (by omega)
      have e1 := (f3 i i2).trans h3
      have il : i ∉ Sr' := fun y => by
        rcases f5 i y with y | y
        · exact i2 y
        · exact i3 y
      have e0 : M.set i (plc (dI k) (dI mm) dl dr) = M := set_same h3
      refine ⟨.r i, _, i :: (Sl ++ Sr'), laid_node n h3 hxu a1 rfl (by rw [e0]; exact f1) e1, ?_, fun j hj => ?_, (show Rep _ (HT.n k (HT.fill m x l) (HT.fill m x r)) _ _ from ⟨i, dl, dr', Sl, Sr', mm, rfl, ?_, ?_, ?_, rfl⟩), fun j hj => ?_, ?_⟩
      · rw [List.length_set, f2]
      · simp only [List.mem_cons, List.mem_append, not_or] at hj
        rw [get_set_ne (Ne.symm hj.1), f3 j hj.2.2]
      · exact get_set e1
      · rw [HT.fill_id z]
        exact (h4.frame fun j hj => f3 j fun y => dis j hj j (List.mem_append_left _ y) rfl).set i1
      · exact f4.set il
      · simp only [List.mem_cons, List.mem_append] at hj ⊢
        rcases hj with hj | hj | hj
        · exact .inl (.inl hj)
        · exact .inl (.inr (.inl hj))
        · rcases f5 j hj with y | y
          · exact .inl (.inr (.inr y))
          · exact .inr y
      · refine List.nodup_cons.mpr ⟨fun y => ?_, List.nodup_append.mpr ⟨ndl, f6, fun a ha b hb => ?_⟩⟩
        · rcases List.mem_append.mp y with y | y
          · exact i1 y
          · exact il y
        · rcases f5 b hb with y | y
          · exact dis a ha b (List.mem_append_left _ y)
          · exact dis a ha b (List.mem_append_right _ y)
  | .h j, d, S, M, 0, _, _, h, _, _, hn => by simp [HT.dp] at hn
  | .h j, d, S, M, 1, _, _, h, _, _, hn => by simp [HT.dp] at hn
  | .n k l r, d, S, M, 0, _, _, h, _, _, hn => by simp [HT.dp] at hn
  | .n k l r, d, S, M, 1, _, _, h, _, _, hn => by simp [HT.dp] at hn
end K07
set_option Elab.async false
set_option linter.all false
set_option maxRecDepth 100000
set_option maxHeartbeats 1000000
/-! wm2: the weaving's own state in the memory; a hole filled everywhere -/
namespace Xt
open PySem
open Wv (HT En)
theorem sl_ok {i : Nat} {ρ : Slots} {d : Dv} {M : Mem} (h : ρ[i]? = some d) (hu : d ≠ .u) : sl i ρ M = .ok d M := by
  unfold sl
  rw [h]
  cases d with
  | u => exact absurd rfl hu
  | _ => rfl
abbrev wvF (dt : Dv) (ds : PyData) (en : Int) (iw it : Nat) (mk : Int) : List (Str × Dv) := [("top", dt), ("deeds", .g ds), ("entered", dI en), ("work", .r iw), ("taken", .r it), ("marks", dI mk)]
abbrev wvo (dt : Dv) (ds : PyData) (en : Int) (iw it : Nat) (mk : Int) : MO := .ins "Weaving" (wvF dt ds en iw it mk)
section
variable {dt : Dv} {ds : PyData} {en : Int} {iw it : Nat} {mk : Int}
theorem lk_top : (wvF dt ds en iw it mk).lookup ("top" : Str) = some dt := by rfl
theorem lk_deeds : (wvF dt ds en iw it mk).lookup ("deeds" : Str) = some (.g ds) := by rfl
theorem lk_entered : (wvF dt ds en iw it mk).lookup ("entered" : Str) = some (dI en) := by rfl
theorem lk_work : (wvF dt ds en iw it mk).lookup ("work" : Str) = some (.r iw) := by rfl
theorem lk_taken : (wvF dt ds en iw it mk).lookup ("taken" : Str) = some (.r it) := by rfl
theorem lk_marks : (wvF dt ds en iw it mk).lookup ("marks" : Str) = some (dI mk) := by rfl
theorem lk_fill : (wvF dt ds en iw it mk).lookup ("fill" : Str) = none := by rfl
theorem lk_hole : (wvF dt ds en iw it mk).lookup ("hole" : Str) = none := by rfl
theorem lk_begin : (wvF dt ds en iw it mk).lookup ("begin" : Str) = none := by rfl
theorem lk_step : (wvF dt ds en iw it mk).lookup ("step" : Str) = none := by rfl
theorem lk_enter : (wvF dt ds en iw it mk).lookup ("enter" : Str) = none := by rfl
theorem lk_turn : (wvF dt ds en iw it mk).lookup ("turn" : Str) = none := by rfl
theorem pt_top {x : Dv} : putD "top" x (wvF dt ds en iw it mk) = wvF x ds en iw it mk := by rfl
theorem pt_entered {x : Int} : putD "entered" (dI x) (wvF dt ds en iw it mk) = wvF dt ds x iw it mk := by rfl
theorem pt_work {x : Nat} : putD "work" (.r x) (wvF dt ds en iw it mk) = wvF dt ds en x it mk := by rfl
theorem pt_marks {x : Int} : putD "marks" (dI x) (wvF dt ds en iw it mk) = wvF dt ds en iw it x := by rfl
end
theorem wvo_ne {dt : Dv} {ds : PyData} {en : Int} {iw it : Nat} {mk : Int} : ∀ k m l r, wvo dt ds en iw it mk ≠ plc k m l r := fun k m l r h => by
  have : ("Weaving" : Str) = "Place" := by
    injection h
  exact absurd this (by decide +kernel)
theorem dct_ne {kvs : List (Int × Dv)} : ∀ k m l r, MO.dct kvs ≠ plc k m l r := fun _ _ _ _ h => nomatch h
theorem lst_ne {xs : List Dv} : ∀ k m l r, MO.lst xs ≠ plc k m l r := fun _ _ _ _ h => nomatch h
/-- what a deed at work has -/
def enD (o : Int) (da db : Dv) : Dv := mkT [dI o, da, db]
/-- the deeds at work; those not own may share places -/
def RepX (M : Mem) (own : Int → Bool) (U : List Nat) (m : Int) : List En → List (Int × Dv) → List Nat → Prop
  | [], kvs, S => kvs = [] ∧ S = []
  | f :: r, kvs, S => ∃ da db kr Sa Sb Sr, kvs = (f.i, enD f.o da db) :: kr ∧ Rep M f.a da Sa ∧ Rep M f.b db Sb ∧ RepX M own U m r kr Sr ∧ (own f.i = true → S = (Sa ++ Sb) ++ Sr) ∧ (own f.i = false → S = Sr ∧ m ∉ f.hs ∧ ∀ j ∈ Sa ++ Sb, j ∉ U)
def HQ (own : Int → Bool) (Q : List En) : List Int := (Q.filter fun f => own f.i).flatMap En.hs
theorem RepX.frame {M M' : Mem} {own : Int → Bool} {U : List Nat} {m : Int} : ∀ {Q : List En} {kvs : List (Int × Dv)} {S : List Nat}, RepX M own U m Q kvs S → (∀ j, (∃ k m l r, M[j]? = some (plc k m l r)) → (j ∈ S ∨ j ∉ U) → M'[j]? = M[j]?) → RepX M' own U m Q kvs S
  | [], _, _, h, _ => h
  | f :: r, kvs, S, ⟨da, db, kr, Sa, Sb, Sr, h1, h2, h3, h4, h5, h6⟩, fr => by
    cases e : own f.i with
    | true =>
      have hs := h5 e
      refine ⟨da, db, kr, Sa, Sb, Sr, h1, h2.frame fun j hj => fr j (h2.at j hj) (.inl ?_), h3.frame fun j hj => fr j (h3.at j hj) (.inl ?_), h4.frame fun j p hj => fr j p ?_, h5, h6⟩
      · rw [hs]
        exact List.mem_append_left _ (List.mem_append_left _ hj)
      · rw [hs]
        exact List.mem_append_left _ (List.mem_append_right _ hj)
      · rcases hj with hj | hj
        · exact .inl (by rw [hs]; exact List.mem_append_right _ hj)
        · exact .inr hj
    | false =>
      obtain ⟨hs, hm, hU⟩ := h6 e
      refine ⟨da, db, kr, Sa, Sb, Sr, h1, h2.frame fun j hj => fr j (h2.at j hj) (.inr (hU j (List.mem_append_left _ hj))), h3.frame fun j hj => fr j (h3.at j hj) (.inr (hU j (List.mem_append_right _ hj))), h4.frame fun j p hj => fr j p ?_, h5, h6⟩
      rw [hs]
      exact hj
theorem dvV_none : ∀ {kvs : List (Int × Dv)} {k : Int}, (∀ p ∈ kvs, p.1 ≠ k) → dvV kvs k = none
  | [], _, _ => rfl
  | (j, d) :: r, k, h => by
    unfold dvV
    rw [decide_eq_false (h (j, d) (List.mem_cons_self ..))]
    exact dvV_none fun p hp => h p (List.mem_cons_of_mem _ hp)
theorem RepX.keys {M : Mem} {own : Int → Bool} {U : List Nat} {m : Int} : ∀ {Q : List En} {kvs : List (Int × Dv)} {S : List Nat}, RepX M own U m Q kvs S → kvs.map (·.1) = Q.map En.i
  | [], _, _, ⟨h, _⟩ => by rw [h]; rfl
  | f :: r, kvs, S, ⟨da, db, kr, Sa, Sb, Sr, h1, h2, h3, h4, h5, h6⟩ => by
    rw [h1, List.map_cons, List.map_cons, h4.keys]
theorem mem_keys {kvs : List (Int × Dv)} {p : Int × Dv} {ks : List Int} (e : kvs.map (·.1) = ks) (h : p ∈ kvs) : p.1 ∈ ks := by
  rw [← e]
  exact List.mem_map_of_mem h
end Xt
namespace K07
open Xt PySem
open Wv (HT En)
/-- both sides of a deed at work -/
theorem laid_two {m : Int} {x : HT} {dx : Dv} {Sx : List Nat} {f : En} {da db : Dv} {Sa Sb : List Nat} {M : Mem} (n : Nat) (hxu : dx ≠ .u) (ha : Rep M f.a da Sa) (hb : Rep M f.b db Sb) (nd : (Sa ++ Sb).Nodup) (hc : f.hs.count m ≤ 1) (hX : m ∈ f.hs → Rep M x dx Sx ∧ ((Sa ++ Sb) ++ Sx).Nodup) (hn : max f.a.dp f.b.dp + 2 ≤ n) :
    ∃ da' db' M1 M2 Sa' Sb', F_laid n [da, dI m, dx] M = .ok da' M1 ∧ F_laid n [db, dI m, dx] M1 = .ok db' M2 ∧ M2.length = M.length ∧ (∀ j, j ∉ Sa ++ Sb → M2[j]? = M[j]?) ∧ Rep M2 (HT.fill m x f.a) da' Sa' ∧ Rep M2 (HT.fill m x f.b) db' Sb' ∧ (Sa' ++ Sb').Nodup ∧
      (m ∈ f.hs → ∀ j ∈ Sa' ++ Sb', j ∈ Sa ++ Sb ∨ j ∈ Sx) ∧ (m ∉ f.hs → M2 = M ∧ da' = da ∧ db' = db ∧ Sa' = Sa ∧ Sb' = Sb) := by
  obtain ⟨na, nb, dis⟩ := List.nodup_append.mp nd
  unfold Wv.En.hs at hc
  rw [List.count_append] at hc
  by_cases z : m ∈ f.a.hs
  · obtain ⟨hX, ndx⟩ := hX (List.mem_append_left _ z)
    have zb : m ∉ f.b.hs := fun y => by
      have a := List.count_pos_iff.mpr z
      have b := List.count_pos_iff.mpr y
      omega
    obtain ⟨_, nx, dx'⟩ := List.nodup_append.mp ndx
    obtain ⟨da', M1, Sa', f1, f2, f3, f4, f5, f6⟩ := laid_fill n hX (List.nodup_append.mpr ⟨na, nx, fun a h b h2 => dx' a (List.mem_append_left _ h) b h2⟩) ha z (by omega) (by omega)
    have hb' : Rep M1 f.b db Sb := hb.frame fun j hj => f3 j fun y => dis j y j hj rfl
    refine ⟨da', db, M1, M1, Sa', Sb, f1, laid_id hxu n hb' zb (by omega), f2, fun j hj => f3 j fun y => hj (List.mem_append_left _ y), f4, by rw [HT.fill_id zb]; exact hb', ?_, fun _ j hj => ?_, fun y => absurd (List.mem_append_left _ z) y⟩
    · refine List.nodup_append.mpr ⟨f6, nb, fun a h b h2 => ?_⟩
      rcases f5 a h with y | y
      · exact dis a y b h2
      · exact fun q => dx' b (List.mem_append_right _ h2) a y q.symm
    · rcases List.mem_append.mp hj with y | y
      · rcases f5 j y with y | y
        · exact .inl (List.mem_append_left _ y)
        · exact .inr y
      · exact .inl (List.mem_append_right _ y)
  · have a1 := laid_id hxu n ha z (by omega)
    by_cases zb : m ∈ f.b.hs
    · obtain ⟨hX, ndx⟩ := hX (List.mem_append_right _ zb)
      obtain ⟨_, nx, dx'⟩ := List.nodup_append.mp ndx
      obtain ⟨db', M1, Sb', f1, f2, f3, f4, f5, f6⟩ := laid_fill n hX (List.nodup_append.mpr ⟨nb, nx, fun a h b h2 => dx' a (List.mem_append_right _ h) b h2⟩) hb zb (by omega) (by omega)
      have ha' : Rep M1 f.a da Sa := ha.frame fun j hj => f3 j fun y => dis j hj j y rfl
      refine ⟨da, db', M, M1, Sa, Sb', a1, f1, f2, fun j hj => f3 j fun y => hj (List.mem_append_right _ y), by rw [HT.fill_id z]; exact ha', f4, ?_, fun _ j hj => ?_, fun y => absurd (List.mem_append_right _ zb) y⟩
      · refine List.nodup_append.mpr ⟨na, f6, fun a h b h2 => ?_⟩
        rcases f5 b h2 with y | y
        · exact dis a h b y
        · exact dx' a (List.mem_append_left _ h) b y
      · rcases List.mem_append.mp hj with y | y
        · exact .inl (List.mem_append_left _ y)
        · rcases f5 j y with y | y
          · exact .inl (List.mem_append_right _ y)
          · exact .inr y
    · exact ⟨da, db, M, M, Sa, Sb, a1, laid_id hxu n hb zb (by omega), rfl, fun _ _ => rfl, by rw [HT.fill_id z]; exact ha, by rw [HT.fill_id zb]; exact hb, nd, fun y => by
        rcases List.mem_append.mp y with y | y
        · exact absurd y z
        · exact absurd y zb, fun _ => ⟨rfl, rfl, rfl, rfl, rfl⟩⟩
def fillT : Dv → Slots → Co Slots := tT 2 (tC (tN 4) (tC (tT 3 (tC (tN 5) (tC (tN 6) (tC (tN 7) tZ)))) tZ))
def fillB (c_laid : List Dv → Co Dv) : Slots → Co Fl := (sq (asg (tup (ac (sl 5) (ac (cB c_laid (ac (sl 6) (ac (sl 1) (ac (sl 2) ac0)))) (ac (cB c_laid (ac (sl 7) (ac (sl 1) (ac (sl 2) ac0)))) ac0)))) (tSub (sl 3) (sl 4))) skp)
theorem fillT_ok {k o : Int} {da db a b c d e f g h : Dv} {M : Mem} : fillT (mkT [dI k, enD o da db]) [a, b, c, d, e, f, g, h] M = .ok [a, b, c, d, dI k, dI o, da, db] M := by
  simp [fillT, tT, tC, tN, tZ, ofO, bnd, asT_mkT, chk, rt, enD]
theorem fillB_ok {n s L : Nat} {k o m : Int} {da db da' db' dx : Dv} {M M1 M2 : Mem} {acc : List (Int × Dv)} (hxu : dx ≠ .u) (hau : da ≠ .u) (hbu : db ≠ .u) (h1 : F_laid n [da, dI m, dx] M = .ok da' M1) (h2 : F_laid n [db, dI m, dx] M1 = .ok db' M2) (hL : M2[L]? = some (.dct acc)) (hl : acc.length < 1000) :
    fillB (F_laid n) [.r s, dI m, dx, .r L, dI k, dI o, da, db] M = .ok (.nx [.r s, dI m, dx, .r L, dI k, dI o, da, db]) (M2.set L (.dct (dvP acc k (enD o da' db')))) := by
  have e2 : ∀ M, sl 2 [.r s, dI m, dx, .r L, dI k, dI o, da, db] M = .ok dx M := fun M => sl_ok rfl hxu
  have e6 : ∀ M, sl 6 [.r s, dI m, dx, .r L, dI k, dI o, da, db] M = .ok da M := fun M => sl_ok rfl hau
  have e7 : ∀ M, sl 7 [.r s, dI m, dx, .r L, dI k, dI o, da, db] M = .ok db M := fun M => sl_ok rfl hbu
  have e1 : ∀ M, sl 1 [.r s, dI m, dx, .r L, dI k, dI o, da, db] M = .ok (dI m) M := fun M => rfl
  have e5 : ∀ M, sl 5 [.r s, dI m, dx, .r L, dI k, dI o, da, db] M = .ok (dI o) M := fun M => rfl
  refine (sq_nx (asg_ok (d := enD o da' db') (M1 := M2) (ρ' := [.r s, dI m, dx, .r L, dI k, dI o, da, db]) (M2 := M2.set L (.dct (dvP acc k (enD o da' db')))) ?_ ?_)).trans rfl
  · unfold tup
    refine (bnd_ok (ac_ok (e5 M) (ac_ok ((cB_ok (ac_ok (e6 M) (ac_ok (e1 M) (ac_ok (e2 M) ac0_ok)))).trans h1) (ac_ok ((cB_ok (ac_ok (e7 M1) (ac_ok (e1 M1) (ac_ok (e2 M1) ac0_ok)))).trans h2) ac0_ok)))).trans ?_
    rfl
  · have hb : Nat.blt acc.length 16777216 = true := Nat.ble_eq_true_of_le (by omega)
    simp [tSub, bnd, sl, rt, stD, ofO, asI, atM, hL, dI, chk, putM, hb]
/-- all deeds at work gone over -/
theorem fill_loop {n s L : Nat} {m : Int} {x : HT} {dx : Dv} {Sx U : List Nat} {own : Int → Bool} (hxu : dx ≠ .u) : ∀ (Q : List En) (kvs acc : List (Int × Dv)) (S : List Nat) (M : Mem) (y4 y5 y6 y7 : Dv), RepX M own U m Q kvs S → S.Nodup → (∀ j ∈ S, j ∈ U) → M[L]? = some (.dct acc) → (acc.map (·.1) ++ Q.map En.i).Nodup → acc.length + Q.length < 1000 →
    (HQ own Q).count m ≤ 1 → (m ∈ HQ own Q → Rep M x dx Sx ∧ (S ++ Sx).Nodup) → (∀ f ∈ Q, max f.a.dp f.b.dp + 2 ≤ n) →
    ∃ kvs' M' S' z4 z5 z6 z7, forL fillT (fillB (F_laid n)) (dItm kvs) [.r s, dI m, dx, .r L, y4, y5, y6, y7] M = .ok (.nx [.r s, dI m, dx, .r L, z4, z5, z6, z7]) M' ∧ M'.length = M.length ∧ (∀ j, j ∉ S → j ≠ L → M'[j]? = M[j]?) ∧ M'[L]? = some (.dct (acc ++ kvs')) ∧ RepX M' own U m (Q.map (En.fl m x)) kvs' S' ∧ S'.Nodup ∧ (m ∈ HQ own Q → ∀ j ∈ S', j ∈ S ∨ j ∈ Sx) ∧ (m ∉ HQ own Q → S' = S)
  | [], kvs, acc, S, M, y4, y5, y6, y7, ⟨h1, h2⟩, nd, hU, hL, hk, hl, hc, hX, hn => by
    subst h1
    subst h2
    refine ⟨[], M, [], y4, y5, y6, y7, rfl, rfl, fun _ _ _ => rfl, by rw [List.append_nil]; exact hL, ⟨rfl, rfl⟩, List.nodup_nil, fun _ _ z => (nomatch z), fun _ => rfl⟩
  | f :: r, kvs, acc, S, M, y4, y5, y6, y7, ⟨da, db, kr, Sa, Sb, Sr, h1, h2, h3, h4, h5, h6⟩, nd, hU, hL, hk, hl, hc, hX, hn => by
    subst h1
    have hkn : ∀ p ∈ acc, p.1 ≠ f.i := fun p hp => (List.nodup_append.mp hk).2.2 p.1 (List.mem_map_of_mem hp) f.i (List.mem_cons_self ..)
    have eP : ∀ d, dvP acc f.i d = acc ++ [(f.i, d)] := fun d => by
      unfold dvP
      rw [dvV_none hkn]
    have hk' : ∀ d : Dv, (((acc ++ [(f.i, d)]).map (·.1)) ++ r.map En.i).Nodup := fun d => by
      simpa using hk
    have hl0 : acc.length < 1000 := by
      rw [List.length_cons] at hl
      omega
    have hau := Rep_u h2
    have hbu := Rep_u h3
    have hnf := hn f (List.mem_cons_self ..)
    have step : ∀ {da' db' : Dv} {M1 M2 : Mem}, F_laid n [da, dI m, dx] M = .ok da' M1 → F_laid n [db, dI m, dx] M1 = .ok db' M2 → M2[L]? = some (.dct acc) →
        forL fillT (fillB (F_laid n)) (dItm ((f.i, enD f.o da db) :: kr)) [.r s, dI m, dx, .r L, y4, y5, y6, y7] M = forL fillT (fillB (F_laid n)) (dItm kr) [.r s, dI m, dx, .r L, dI f.i, dI f.o, da, db] (M2.set L (.dct (acc ++ [(f.i, enD f.o da' db')]))) := fun {da' db' M1 M2} g1 g2 g3 => by
      rw [← eP]
      exact for_go fillT_ok (fillB_ok hxu hau hbu g1 g2 g3 hl0)
    cases e : own f.i with
    | false =>
      obtain ⟨hs, hm, hdis⟩ := h6 e
      subst hs
      have eH : HQ own (f :: r) = HQ own r := by
        unfold HQ
        rw [List.filter_cons_of_neg (by simp [e])]
      rw [eH] at hc hX
      have hm2 : m ∉ f.a.hs ∧ m ∉ f.b.hs := by
        unfold Wv.En.hs at hm
        simpa [List.mem_append, not_or] using hm
      have g := step (laid_id hxu n h2 hm2.1 (by omega)) (laid_id hxu n h3 hm2.2 (by omega)) hL
      have hL1 := get_set (mo' := .dct (acc ++ [(f.i, enD f.o da db)])) hL
      have fr : ∀ j, j ≠ L → (M.set L (.dct (acc ++ [(f.i, enD f.o da db)])))[j]? = M[j]? := fun j hj => get_set_ne (Ne.symm hj)
      have nL : ∀ j, (∃ k m l r, M[j]? = some (plc k m l r)) → j ≠ L := fun j ⟨k, m', l, r', h⟩ q => by
        rw [q, hL] at h
        cases h
      obtain ⟨kvs', M', S', z4, z5, z6, z7, q1, q2, q3, q4, q5, q6, q7, q8⟩ := fill_loop hxu r kr _ S _ (dI f.i) (dI f.o) da db (h4.frame fun j p _ => fr j (nL j p)) nd hU hL1 (hk' _) (by simp only [List.length_append, List.length_cons, List.length_nil] at hl ⊢; omega) hc (fun y => by
        obtain ⟨a, b⟩ := hX y
        exact ⟨a.frame fun j hj => fr j (nL j (a.at j hj)), b⟩) fun g hg => hn g (List.mem_cons_of_mem _ hg)
      have nS : ∀ j ∈ Sa ++ Sb, j ∉ S := fun j hj y => hdis j hj (hU j y)
      have pM : ∀ j, (∃ k m l r, M[j]? = some (plc k m l r)) → j ∉ S → M'[j]? = M[j]? := fun j p hj => (q3 j hj (nL j p)).trans (fr j (nL j p))
      refine ⟨(f.i, enD f.o da db) :: kvs', M', S', z4, z5, z6, z7, g.trans q1, by rw [q2, List.length_set], fun j hj hjL => (q3 j hj hjL).trans (fr j hjL), by rw [q4, List.append_assoc]; rfl, ?_, q6, by rw [eH]; exact q7, by rw [eH]; exact q8⟩
      rw [List.map_cons, Wv.fl_id hm]
      exact ⟨da, db, kvs', Sa, Sb, S', rfl, h2.frame fun j hj => pM j (h2.at j hj) (nS j (List.mem_append_left _ hj)), h3.frame fun j hj => pM j (h3.at j hj) (nS j (List.mem_append_right _ hj)), q5, (fun z => by rw [e] at z; cases z), fun _ => ⟨rfl, hm, hdis⟩⟩
    | true =>
      have hs := h5 e
      subst hs
      have eH : HQ own (f :: r) = f.hs ++ HQ own r := by
        unfold HQ
        rw [List.filter_cons_of_pos (by simp [e]), List.flatMap_cons]
      rw [eH, List.count_append] at hc
      rw [eH] at hX
      obtain ⟨nab, nr, dis⟩ := List.nodup_append.mp nd
      obtain ⟨da', db', M1, M2, Sa', Sb', f1, f2, f3, f4, f5, f6, f7, f8, f9⟩ := laid_two (m := m) (x := x) (Sx := Sx) n hxu h2 h3 nab (by omega) (fun y => by
        obtain ⟨a, b⟩ := hX (List.mem_append_left _ y)
        obtain ⟨b1, b2, b3⟩ := List.nodup_append.mp b
        exact ⟨a, List.nodup_append.mpr ⟨nab, b2, fun u hu v hv => b3 u (List.mem_append_left _ hu) v hv⟩⟩) hnf
      have nL : ∀ j, (∃ k m l r, M[j]? = some (plc k m l r)) → j ≠ L := fun j ⟨k, m', l, r', h⟩ q => by
        rw [q, hL] at h
        cases h
      have LS : L ∉ Sa ++ Sb := fun y => by
        rcases List.mem_append.mp y with y | y
        · exact nL L (h2.at L y) rfl
        · exact nL L (h3.at L y) rfl
      have hL2 := (f4 L LS).trans hL
      have g := step f1 f2 hL2
      have hL1 := get_set (mo' := .dct (acc ++ [(f.i, enD f.o da' db')])) hL2
      have fr : ∀ j, j ≠ L → j ∉ Sa ++ Sb → (M2.set L (.dct (acc ++ [(f.i, enD f.o da' db')])))[j]? = M[j]? := fun j hj hj2 => (get_set_ne (Ne.symm hj)).trans (f4 j hj2)
      have nL2 : ∀ j, (∃ k m l r, M2[j]? = some (plc k m l r)) → j ≠ L := fun j ⟨k, m', l, r', h⟩ q => by
        rw [q, hL2] at h
        cases h
      have mr : m ∈ HQ own r → m ∉ f.hs := fun y z => by
        have a := List.count_pos_iff.mpr z
        have b := List.count_pos_iff.mpr y
        omega
      obtain ⟨kvs', M', S', z4, z5, z6, z7, q1, q2, q3, q4, q5, q6, q7, q8⟩ := fill_loop hxu r kr _ Sr (M2.set L (.dct (acc ++ [(f.i, enD f.o da' db')]))) (dI f.i) (dI f.o) da db (h4.frame fun j p hj => fr j (nL j p) fun y => by
          rcases hj with hj | hj
          · exact dis j y j hj rfl
          · exact hj (hU j (List.mem_append_left _ y))) nr (fun j hj => hU j (List.mem_append_right _ hj)) hL1 (hk' _) (by simp only [List.length_append, List.length_cons, List.length_nil] at hl ⊢; omega) (by omega) (fun y => by
        obtain ⟨a, b⟩ := hX (List.mem_append_right _ y)
        obtain ⟨e1, _⟩ := f9 (mr y)
        obtain ⟨b1, b2, b3⟩ := List.nodup_append.mp b
        refine ⟨a.frame fun j hj => ?_, List.nodup_append.mpr ⟨nr, b2, fun u hu v hv => b3 u (List.mem_append_right _ hu) v hv⟩⟩
        rw [e1]
        exact get_set_ne (Ne.symm (nL j (a.at j hj)))) fun g hg => hn g (List.mem_cons_of_mem _ hg)
      -- what the first one has stays
      have keep : ∀ j ∈ Sa' ++ Sb', j ∉ Sr := fun j hj y => by
        by_cases z : m ∈ f.hs
        · rcases f8 z j hj with w | w
          · exact dis j w j y rfl
          · obtain ⟨_, b⟩ := hX (List.mem_append_left _ z)
            exact (List.nodup_append.mp b).2.2 j (List.mem_append_right _ y) j w rfl
        · obtain ⟨_, _, _, e1, e2⟩ := f9 z
          rw [e1, e2] at hj
          exact dis j hj j y rfl
      have pM : ∀ j, (∃ k m l r, M2[j]? = some (plc k m l r)) → j ∉ Sr → M'[j]? = M2[j]? := fun j p hj => (q3 j hj (nL2 j p)).trans (get_set_ne (Ne.symm (nL2 j p)))
      refine ⟨(f.i, enD f.o da' db') :: kvs', M', (Sa' ++ Sb') ++ S', z4, z5, z6, z7, g.trans q1, by rw [q2, List.length_set, f3], fun j hj hjL => ?_, by rw [q4, List.append_assoc]; rfl, ?_, ?_, fun y j hj => ?_, fun y => ?_⟩
      · rw [List.mem_append, not_or] at hj
        exact (q3 j hj.2 hjL).trans (fr j hjL hj.1)
      · rw [List.map_cons]
        refine ⟨da', db', kvs', Sa', Sb', S', rfl, f5.frame fun j hj => pM j (f5.at j hj) (keep j (List.mem_append_left _ hj)), f6.frame fun j hj => pM j (f6.at j hj) (keep j (List.mem_append_right _ hj)), q5, fun _ => rfl, fun z => ?_⟩
        have z : own f.i = false := z
        rw [e] at z
        cases z
      · refine List.nodup_append.mpr ⟨f7, q6, fun a ha b hb => ?_⟩
        by_cases z : m ∈ HQ own r
        · obtain ⟨_, _, _, e1, e2⟩ := f9 (mr z)
          rw [e1, e2] at ha
          rcases q7 z b hb with w | w
          · exact dis a ha b w
          · obtain ⟨_, b'⟩ := hX (List.mem_append_right _ z)
            exact (List.nodup_append.mp b').2.2 a (List.mem_append_left _ ha) b w
        · rw [q8 z] at hb
          exact fun q => keep a ha (q ▸ hb)
      · rw [eH] at y
        rcases List.mem_append.mp hj with w | w
        · by_cases z : m ∈ f.hs
          · rcases f8 z j w with v | v
            · exact .inl (List.mem_append_left _ v)
            · exact .inr v
          · obtain ⟨_, _, _, e1, e2⟩ := f9 z
            rw [e1, e2] at w
            exact .inl (List.mem_append_left _ w)
        · by_cases z : m ∈ HQ own r
          · rcases q7 z j w with v | v
            · exact .inl (List.mem_append_right _ v)
            · exact .inr v
          · rw [q8 z] at w
            exact .inl (List.mem_append_right _ w)
      · rw [eH, List.mem_append, not_or] at y
        obtain ⟨_, _, _, e1, e2⟩ := f9 y.1
        rw [e1, e2, q8 y.2]
end K07
set_option Elab.async false
set_option linter.all false
set_option maxRecDepth 100000
set_option maxHeartbeats 1000000
/-! wm3: fill -/
namespace Xt
open PySem
open Wv (HT En)
/-- is a place -/
abbrev Pl (M : Mem) (j : Nat) : Prop := ∃ k m l r, M[j]? = some (plc k m l r)
theorem pl_ne {M : Mem} {s j : Nat} {mo : MO} (hs : M[s]? = some mo) (hn : ∀ k m l r, mo ≠ plc k m l r) (p : Pl M j) : j ≠ s := fun e => by
  obtain ⟨k, m, l, r, e2⟩ := p
  rw [e, hs] at e2
  cases e2
  exact hn _ _ _ _ rfl
theorem ne_of {M : Mem} {i j : Nat} {a b : MO} (h1 : M[i]? = some a) (h2 : M[j]? = some b) (h : a ≠ b) : i ≠ j := fun e => by
  rw [e, h2] at h1
  cases h1
  exact h rfl
theorem lt_of {M : Mem} {i : Nat} {a : MO} (h : M[i]? = some a) : i < M.length := (List.getElem?_eq_some_iff.mp h).1
theorem get_push {M : Mem} {a : MO} : (M ++ [a])[M.length]? = some a := by simp
theorem srcM_ok {g : Slots → Co Dv} {ρ : Slots} {M : Mem} {i : Nat} {kvs : List (Int × Dv)} (h : g ρ M = .ok (.r i) M) (h2 : M[i]? = some (.dct kvs)) : srcM g ρ M = .ok (dItm kvs) (M.set i .dead) := by
  unfold srcM
  rw [bnd_ok h]
  simp [bnd, dctOf, atM, h2, rt]
theorem no_u {M : Mem} {S : List Nat} {t : HT} {d : Dv} (h : Rep M t d S) {j : Nat} (hj : ¬ Pl M j) : j ∉ S := fun y => hj (h.at j y)
theorem npl {M : Mem} {s : Nat} {mo : MO} (hs : M[s]? = some mo) (hn : ∀ k m l r, mo ≠ plc k m l r) : ¬ Pl M s := fun p => pl_ne hs hn p rfl
theorem RepX.at {M : Mem} {own : Int → Bool} {U : List Nat} {m : Int} : ∀ {Q : List En} {kvs : List (Int × Dv)} {S : List Nat}, RepX M own U m Q kvs S → ∀ {j : Nat}, j ∈ S → Pl M j
  | [], kvs, S, ⟨_, h⟩, j, hj => by
    rw [h] at hj
    cases hj
  | f :: r, kvs, S, ⟨da, db, kr, Sa, Sb, Sr, h1, h2, h3, h4, h5, h6⟩, j, hj => by
    cases e : own f.i with
    | true =>
      rw [h5 e] at hj
      rcases List.mem_append.mp hj with hj | hj
      · rcases List.mem_append.mp hj with hj | hj
        · exact h2.at j hj
        · exact h3.at j hj
      · exact h4.at hj
    | false =>
      rw [(h6 e).1] at hj
      exact h4.at hj
end Xt
namespace K07
open Xt PySem
open Wv (HT En)
theorem laid_one {m : Int} {x : HT} {dx : Dv} {Sx : List Nat} {t : HT} {d : Dv} {S : List Nat} {M : Mem} (n : Nat) (hX : Rep M x dx Sx) (nd : (S ++ Sx).Nodup) (h : Rep M t d S) (hc : t.hs.count m ≤ 1) (hn : t.dp + 2 ≤ n) :
    ∃ d' M' S', F_laid n [d, dI m, dx] M = .ok d' M' ∧ M'.length = M.length ∧ (∀ j, j ∉ S → M'[j]? = M[j]?) ∧ Rep M' (HT.fill m x t) d' S' ∧ S'.Nodup ∧ (m ∈ t.hs → ∀ j ∈ S', j ∈ S ∨ j ∈ Sx) ∧ (m ∉ t.hs → M' = M ∧ S' = S) := by
  by_cases z : m ∈ t.hs
  · obtain ⟨d', M', S', a, b, c, e, f, g⟩ := laid_fill n hX nd h z hc hn
    exact ⟨d', M', S', a, b, c, e, g, fun _ => f, fun y => absurd z y⟩
  · exact ⟨d, M, S, laid_id (Rep_u hX) n h z hn, rfl, fun _ _ => rfl, by rw [HT.fill_id z]; exact h, (List.nodup_append.mp nd).1, fun y => absurd y z, fun _ => ⟨rfl, rfl⟩⟩
theorem fill_ok {s iw it n : Nat} {m en mk : Int} {ds : PyData} {top x : HT} {dt dx : Dv} {Q : List En} {kvs : List (Int × Dv)} {tks : List Dv} {St SQ Sx : List Nat} {own : Int → Bool} {M : Mem}
    (hs : M[s]? = some (wvo dt ds en iw it mk)) (hw : M[iw]? = some (.dct kvs)) (ht : M[it]? = some (.lst tks)) (hT : Rep M top dt St) (hQ : RepX M own (St ++ SQ) m Q kvs SQ) (hX : Rep M x dx Sx) (nd : ((St ++ SQ) ++ Sx).Nodup)
    (hk : (Q.map En.i).Nodup) (hl : Q.length < 1000) (hc : (top.hs ++ HQ own Q).count m ≤ 1) (hn : top.dp + 2 ≤ n) (hn2 : ∀ f ∈ Q, max f.a.dp f.b.dp + 2 ≤ n) :
    ∃ M' dt' L kvs' St' SQ', F_Weaving_fill (n + 1) [.r s, dI m, dx] M = .ok (.g .none) M' ∧ M'[s]? = some (wvo dt' ds en L it mk) ∧ M'[L]? = some (.dct kvs') ∧ M'[it]? = some (.lst tks) ∧ Rep M' (HT.fill m x top) dt' St' ∧ RepX M' own (St ++ SQ) m (Q.map (En.fl m x)) kvs' SQ' ∧ (St' ++ SQ').Nodup ∧
      (∀ j ∈ St' ++ SQ', j ∈ St ++ SQ ∨ j ∈ Sx) ∧ (∀ j, Pl M j → j ∉ St ++ SQ → M'[j]? = M[j]?) := by
  have hxu := Rep_u hX
  obtain ⟨ndu, nx, dx'⟩ := List.nodup_append.mp nd
  obtain ⟨nt, nq, dtq⟩ := List.nodup_append.mp ndu
  rw [List.count_append] at hc
  obtain ⟨dt', M1, St', a1, a2, a3, a4, a5, a6, a7⟩ := laid_one (m := m) n hX (List.nodup_append.mpr ⟨nt, nx, fun a h b h2 => dx' a (List.mem_append_left _ h) b h2⟩) hT (by omega) hn
  have ps := npl hs wvo_ne
  have pw := npl hw dct_ne
  have pt := npl ht lst_ne
  have nsw : s ≠ iw := ne_of hs hw (fun e => nomatch e)
  have nst : s ≠ it := ne_of hs ht (fun e => nomatch e)
  have nwt : iw ≠ it := ne_of hw ht (fun e => nomatch e)
  have hs1 : M1[s]? = some (wvo dt ds en iw it mk) := (a3 s (no_u hT ps)).trans hs
  have hw1 := (a3 iw (no_u hT pw)).trans hw
  have ht1 := (a3 it (no_u hT pt)).trans ht
  let M1s := M1.set s (wvo dt' ds en iw it mk)
  let M2 := M1s ++ [MO.dct []]
  let L := M1s.length
  let M3 := M2.set iw .dead
  have lenL : L = M.length := by
    show (M1.set s _).length = _
    rw [List.length_set, a2]
  have hs1s : M1s[s]? = some (wvo dt' ds en iw it mk) := get_set hs1
  have hs2 : M2[s]? = some (wvo dt' ds en iw it mk) := get_app hs1s
  have hw1s : M1s[iw]? = some (.dct kvs) := (get_set_ne nsw).trans hw1
  have hw2 : M2[iw]? = some (.dct kvs) := get_app hw1s
  have hs3 : M3[s]? = some (wvo dt' ds en iw it mk) := (get_set_ne (Ne.symm nsw)).trans hs2
  have ltw := lt_of hw1s
  have lts := lt_of hs1s
  have hL3 : M3[L]? = some (.dct []) := (get_set_ne (by show iw ≠ L; have : iw < L := ltw; omega)).trans get_push
  have fr3 : ∀ j, Pl M j → j ∉ St → M3[j]? = M[j]? := fun j p hj => by
    have n1 := pl_ne hs wvo_ne p
    have n2 := pl_ne hw dct_ne p
    have lt : j < M1s.length := by
      obtain ⟨_, _, _, _, e⟩ := p
      have := lt_of e
      show j < L
      omega
    have e1 : M3[j]? = M2[j]? := get_set_ne (Ne.symm n2)
    have e2 : M2[j]? = M1s[j]? := List.getElem?_append_left lt
    have e3 : M1s[j]? = M1[j]? := get_set_ne (Ne.symm n1)
    rw [e1, e2, e3, a3 j hj]
  have fr3' : ∀ j, Pl M1 j → M3[j]? = M1[j]? := fun j p => by
    have n1 := pl_ne hs1 wvo_ne p
    have n2 := pl_ne hw1 dct_ne p
    have lt : j < M1s.length := by
      obtain ⟨_, _, _, _, e⟩ := p
      have := lt_of e
      show j < (M1.set s _).length
      rw [List.length_set]
      exact this
    have e1 : M3[j]? = M2[j]? := get_set_ne (Ne.symm n2)
    have e2 : M2[j]? = M1s[j]? := List.getElem?_append_left lt
    have e3 : M1s[j]? = M1[j]? := get_set_ne (Ne.symm n1)
    rw [e1, e2, e3]
  have qT : ∀ j ∈ SQ, j ∉ St := fun j hj y => dtq j y j hj rfl
  have mq : m ∈ HQ own Q → m ∉ top.hs := fun y z => by
    have a := List.count_pos_iff.mpr z
    have b := List.count_pos_iff.mpr y
    omega
  have hQ3 : RepX M3 own (St ++ SQ) m Q kvs SQ := hQ.frame fun j p hj => fr3 j p fun y => by
    rcases hj with hj | hj
    · exact qT j hj y
    · exact hj (List.mem_append_left _ y)
  obtain ⟨kvs', M4, SQ', z4, z5, z6, z7, q1, q2, q3, q4, q5, q6, q7, q8⟩ := fill_loop (s := s) (x := x) (Sx := Sx) hxu Q kvs [] SQ M3 .u .u .u .u hQ3 nq (fun j hj => List.mem_append_right _ hj) hL3 (by simpa using hk) (by simpa using hl) (by omega) (fun y => by
    obtain ⟨e1, e2⟩ := a7 (mq y)
    refine ⟨hX.frame fun j hj => fr3 j (hX.at j hj) fun w => dx' j (List.mem_append_left _ w) j hj rfl, List.nodup_append.mpr ⟨nq, nx, fun a h b h2 => dx' a (List.mem_append_right _ h) b h2⟩⟩) hn2
  have npl3 : ∀ {j : Nat}, ¬ Pl M j → j ∉ SQ := fun {j} hj y => hj (hQ.at y)
  have sL : s ≠ L := by have : s < L := lts; omega
  have hs4 : M4[s]? = some (wvo dt' ds en iw it mk) := (q3 s (npl3 ps) sL).trans hs3
  let M5 := M4.set s (wvo dt' ds en L it mk)
  have hs5 : M5[s]? = some (wvo dt' ds en L it mk) := get_set hs4
  have hL5 : M5[L]? = some (.dct kvs') := (get_set_ne sL).trans (by rw [q4]; rfl)
  have ltt : it < L := by
    have : it < M.length := lt_of ht
    omega
  have ht3 : M3[it]? = some (.lst tks) := by
    have e1 : M3[it]? = M2[it]? := get_set_ne nwt
    have e2 : M2[it]? = M1s[it]? := List.getElem?_append_left ltt
    have e3 : M1s[it]? = M1[it]? := get_set_ne nst
    rw [e1, e2, e3, ht1]
  have ht5 : M5[it]? = some (.lst tks) := by
    have e1 : M5[it]? = M4[it]? := get_set_ne nst
    rw [e1, q3 it (npl3 pt) (by omega), ht3]
  have tq : ∀ j ∈ St', j ∉ SQ := fun j hj y => by
    by_cases z : m ∈ top.hs
    · rcases a6 z j hj with w | w
      · exact dtq j w j y rfl
      · exact dx' j (List.mem_append_right _ y) j w rfl
    · rw [(a7 z).2] at hj
      exact dtq j hj j y rfl
  have fr5 : ∀ j, Pl M3 j → j ∉ SQ → M5[j]? = M3[j]? := fun j p hj => by
    have n1 := pl_ne hs3 wvo_ne p
    have n2 := pl_ne hL3 dct_ne p
    exact (get_set_ne (Ne.symm n1)).trans (q3 j hj n2)
  have hT5 : Rep M5 (HT.fill m x top) dt' St' := a4.frame fun j hj => by
    have p1 := a4.at j hj
    have e3 := fr3' j p1
    have p3 : Pl M3 j := by
      obtain ⟨k, m, l, r, e⟩ := p1
      exact ⟨k, m, l, r, e3.trans e⟩
    exact (fr5 j p3 (tq j hj)).trans e3
  have ps4 := npl hs4 wvo_ne
  have hQ5 : RepX M5 own (St ++ SQ) m (Q.map (En.fl m x)) kvs' SQ' := q5.frame fun j p _ => get_set_ne (Ne.symm (pl_ne hs4 wvo_ne p))
  refine ⟨M5, dt', L, kvs', St', SQ', ?_, hs5, hL5, ht5, hT5, hQ5, ?_, fun j hj => ?_, fun j p hj => ?_⟩
  · show defF 8 3 (b_Weaving_fill (F_laid n)) [.r s, dI m, dx] M = _
    refine def_nx (ρ := [.r s, dI m, dx, .r L, z4, z5, z6, z7]) rfl ?_
    show b_Weaving_fill (F_laid n) [.r s, dI m, dx, .u, .u, .u, .u, .u] M = _
    have s0 : ∀ (a b c d e : Dv) (M : Mem), sl 0 [.r s, dI m, dx, a, b, c, d, e] M = .ok (.r s) M := fun _ _ _ _ _ _ => rfl
    have s1 : ∀ M, sl 1 [.r s, dI m, dx, .u, .u, .u, .u, .u] M = .ok (dI m) M := fun _ => rfl
    have s2 : ∀ M, sl 2 [.r s, dI m, dx, .u, .u, .u, .u, .u] M = .ok dx M := fun _ => sl_ok rfl hxu
    refine (sq_nx (sfl_ok (fs := wvF dt ds en iw it mk) ((cB_ok (ac_ok ((b1_ok (s0 _ _ _ _ _ M)).trans (fld_ok hs lk_top)) (ac_ok (s1 M) (ac_ok (s2 M) ac0_ok)))).trans a1) (s0 _ _ _ _ _ M1) hs1)).trans ?_
    rw [pt_top]
    refine (sq_nx (ρ' := [.r s, dI m, dx, .r L, .u, .u, .u, .u]) (M' := M2) rfl).trans ?_
    refine (sq_nx ((for_src (srcM_ok ((b1_ok (s0 _ _ _ _ _ M2)).trans (fld_ok hs2 lk_work)) hw2)).trans q1)).trans ?_
    refine (sq_nx (sfl_ok (fs := wvF dt' ds en iw it mk) (show sl 3 [.r s, dI m, dx, .r L, z4, z5, z6, z7] M4 = .ok (.r L) M4 from rfl) (s0 _ _ _ _ _ M4) hs4)).trans ?_
    rw [pt_work]
    rfl
  · refine List.nodup_append.mpr ⟨a5, q6, fun a ha b hb => ?_⟩
    by_cases z : m ∈ HQ own Q
    · rw [(a7 (mq z)).2] at ha
      rcases q7 z b hb with w | w
      · exact dtq a ha b w
      · exact dx' a (List.mem_append_left _ ha) b w
    · rw [q8 z] at hb
      exact fun q => tq a ha (q ▸ hb)
  · rcases List.mem_append.mp hj with w | w
    · by_cases z : m ∈ top.hs
      · rcases a6 z j w with v | v
        · exact .inl (List.mem_append_left _ v)
        · exact .inr v
      · rw [(a7 z).2] at w
        exact .inl (List.mem_append_left _ w)
    · by_cases z : m ∈ HQ own Q
      · rcases q7 z j w with v | v
        · exact .inl (List.mem_append_right _ v)
        · exact .inr v
      · rw [q8 z] at w
        exact .inl (List.mem_append_right _ w)
  · rw [List.mem_append, not_or] at hj
    have e3 := fr3 j p hj.1
    have p3 : Pl M3 j := by
      obtain ⟨k, m, l, r, e⟩ := p
      exact ⟨k, m, l, r, e3.trans e⟩
    exact (fr5 j p3 hj.2).trans e3
end K07
set_option Elab.async false
set_option linter.all false
set_option maxRecDepth 100000
set_option maxHeartbeats 1000000
/-! wm4: a step -/
namespace Xt
open PySem
open Wv (HT En)
theorem RepX.chg {M : Mem} {own own' : Int → Bool} {U U' : List Nat} {m m' : Int} : ∀ {Q : List En} {kvs : List (Int × Dv)} {S : List Nat}, RepX M own U m Q kvs S → (∀ f ∈ Q, own f.i = true) → (∀ f ∈ Q, own' f.i = true) → RepX M own' U' m' Q kvs S
  | [], _, _, h, _, _ => h
  | f :: r, kvs, S, ⟨da, db, kr, Sa, Sb, Sr, h1, h2, h3, h4, h5, h6⟩, o1, o2 =>
    ⟨da, db, kr, Sa, Sb, Sr, h1, h2, h3, h4.chg (fun f hf => o1 f (List.mem_cons_of_mem _ hf)) (fun f hf => o2 f (List.mem_cons_of_mem _ hf)), fun _ => h5 (o1 f (List.mem_cons_self ..)), fun z => by
      rw [o2 f (List.mem_cons_self ..)] at z
      cases z⟩
theorem RepX.split {M : Mem} {own : Int → Bool} {U : List Nat} {m : Int} : ∀ {p q : List En} {kvs : List (Int × Dv)} {S : List Nat}, RepX M own U m (p ++ q) kvs S → ∃ kp kq Sp Sq, kvs = kp ++ kq ∧ S = Sp ++ Sq ∧ RepX M own U m p kp Sp ∧ RepX M own U m q kq Sq
  | [], q, kvs, S, h => ⟨[], kvs, [], S, rfl, rfl, ⟨rfl, rfl⟩, h⟩
  | f :: p, q, kvs, S, ⟨da, db, kr, Sa, Sb, Sr, h1, h2, h3, h4, h5, h6⟩ => by
    obtain ⟨kp, kq, Sp, Sq, e1, e2, g1, g2⟩ := RepX.split h4
    cases e : own f.i with
    | true =>
      exact ⟨(f.i, enD f.o da db) :: kp, kq, (Sa ++ Sb) ++ Sp, Sq, by rw [h1, e1]; rfl, by rw [h5 e, e2, List.append_assoc (Sa ++ Sb)], ⟨da, db, kp, Sa, Sb, Sp, rfl, h2, h3, g1, fun _ => rfl, fun z => by rw [e] at z; cases z⟩, g2⟩
    | false =>
      exact ⟨(f.i, enD f.o da db) :: kp, kq, Sp, Sq, by rw [h1, e1]; rfl, by rw [(h6 e).1, e2], ⟨da, db, kp, Sa, Sb, Sp, rfl, h2, h3, g1, (fun z => by rw [e] at z; cases z), fun _ => ⟨rfl, (h6 e).2⟩⟩, g2⟩
theorem RepX.join {M : Mem} {own : Int → Bool} {U : List Nat} {m : Int} : ∀ {p q : List En} {kp kq : List (Int × Dv)} {Sp Sq : List Nat}, RepX M own U m p kp Sp → RepX M own U m q kq Sq → RepX M own U m (p ++ q) (kp ++ kq) (Sp ++ Sq)
  | [], q, kp, kq, Sp, Sq, ⟨h1, h2⟩, g => by
    rw [h1, h2]
    exact g
  | f :: p, q, kp, kq, Sp, Sq, ⟨da, db, kr, Sa, Sb, Sr, h1, h2, h3, h4, h5, h6⟩, g => by
    have ih := RepX.join h4 g
    exact ⟨da, db, kr ++ kq, Sa, Sb, Sr ++ Sq, by rw [h1]; rfl, h2, h3, ih, fun z => by rw [h5 z, List.append_assoc (Sa ++ Sb)], fun z => ⟨by rw [(h6 z).1], (h6 z).2⟩⟩
theorem dvV_mid : ∀ {kp kq : List (Int × Dv)} {i : Int} {v : Dv}, (∀ p ∈ kp, p.1 ≠ i) → dvV (kp ++ (i, v) :: kq) i = some v
  | [], _, i, v, _ => by
    show (match decide (i = i) with
      | true => some v
      | false => _) = _
    rw [decide_eq_true rfl]
  | (j, d) :: kp, kq, i, v, h => by
    show (match decide (j = i) with
      | true => some d
      | false => dvV (kp ++ (i, v) :: kq) i) = _
    rw [decide_eq_false (h (j, d) (List.mem_cons_self ..))]
    exact dvV_mid fun p hp => h p (List.mem_cons_of_mem _ hp)
theorem dvR_none : ∀ {kvs : List (Int × Dv)} {k : Int} {v : Dv}, (∀ p ∈ kvs, p.1 ≠ k) → dvR kvs k v = kvs
  | [], _, _, _ => rfl
  | (j, d) :: r, k, v, h => by
    unfold dvR
    rw [decide_eq_false (h (j, d) (List.mem_cons_self ..)), dvR_none fun p hp => h p (List.mem_cons_of_mem _ hp)]
theorem dvR_mid : ∀ {kp kq : List (Int × Dv)} {i : Int} {v v' : Dv}, (∀ p ∈ kp, p.1 ≠ i) → (∀ p ∈ kq, p.1 ≠ i) → dvR (kp ++ (i, v) :: kq) i v' = kp ++ (i, v') :: kq
  | [], kq, i, v, v', _, h => by
    show (i, match decide (i = i) with
      | true => v'
      | false => v) :: dvR kq i v' = _
    rw [decide_eq_true rfl, dvR_none h]
    rfl
  | (j, d) :: kp, kq, i, v, v', h, h2 => by
    show (j, match decide (j = i) with
      | true => v'
      | false => d) :: dvR (kp ++ (i, v) :: kq) i v' = _
    rw [decide_eq_false (h (j, d) (List.mem_cons_self ..)), dvR_mid (fun p hp => h p (List.mem_cons_of_mem _ hp)) h2]
    rfl
theorem dvP_mid {kp kq : List (Int × Dv)} {i : Int} {v v' : Dv} (h : ∀ p ∈ kp, p.1 ≠ i) (h2 : ∀ p ∈ kq, p.1 ≠ i) : dvP (kp ++ (i, v) :: kq) i v' = kp ++ (i, v') :: kq := by
  unfold dvP
  rw [dvV_mid h]
  exact dvR_mid h h2
def tkD : Option Int → Dv
  | none => .g .none
  | some k => dI k
def one1' : Int → Bool := fun _ => true
/-- the weaving at s -/
def WR (s : Nat) (ds : PyData) (M : Mem) (w : Wv.W) : Prop := ∃ dt iw it kvs St Sw, M[s]? = some (wvo dt ds w.ent iw it w.mc) ∧ M[iw]? = some (.dct kvs) ∧ M[it]? = some (.lst (w.tk.map tkD)) ∧ Rep M w.top dt St ∧ RepX M one1' [] 0 w.wk kvs Sw ∧ (St ++ Sw).Nodup
theorem isN_rep {M M' : Mem} {t : HT} {d : Dv} {S : List Nat} (h : Rep M t d S) (b : Bool) : isN b d M' = .ok (vB (b != t.isE)) M' := by
  cases t with
  | e => obtain ⟨rfl, _⟩ := h; cases b <;> rfl
  | h m => obtain ⟨i, rfl, _⟩ := h; cases b <;> rfl
  | n k l r => obtain ⟨i, dl, dr, Sl, Sr, mm, rfl, _⟩ := h; cases b <;> rfl
theorem set_push {M : Mem} {a b : MO} : (M ++ [a]).set M.length b = M ++ [b] := by simp
theorem enD_u {o : Int} {da db : Dv} : enD o da db ≠ .u := by
  unfold enD mkT
  cases grd [dI o, da, db] <;> exact fun z => nomatch z
end Xt
namespace K07
open Xt PySem
open Wv (HT En)
theorem place_ok {n i : Nat} {M : Mem} {k m : Dv} (h : M[i]? = some (.ins "Place" [])) (hk : k ≠ .u) (hm : m ≠ .u) : F_Place_init (n + 1) [.r i, k, m] M = .ok (.g .none) (M.set i (plc k m (.g .none) (.g .none))) := by
  show defF 3 3 b_Place_init [.r i, k, m] M = _
  have s0 : ∀ M, sl 0 [.r i, k, m] M = .ok (.r i) M := fun _ => rfl
  have s1 : ∀ M, sl 1 [.r i, k, m] M = .ok k M := fun _ => sl_ok rfl hk
  have s2 : ∀ M, sl 2 [.r i, k, m] M = .ok m M := fun _ => sl_ok rfl hm
  have kn : ∀ M, kk .none [.r i, k, m] M = .ok (.g .none) M := fun _ => rfl
  refine def_nx (ρ := [.r i, k, m]) rfl ?_
  show b_Place_init [.r i, k, m] M = _
  have g1 := get_set (mo' := .ins "Place" (putD "key" k [])) h
  refine (sq_nx (sfl_ok (s1 M) (s0 M) h)).trans ?_
  have g2 := get_set (mo' := .ins "Place" (putD "mark" m (putD "key" k []))) g1
  refine (sq_nx (sfl_ok (s2 _) (s0 _) g1)).trans ?_
  have g3 := get_set (mo' := .ins "Place" (putD "left" (.g .none) (putD "mark" m (putD "key" k [])))) g2
  refine (sq_nx (sfl_ok (kn _) (s0 _) g2)).trans ?_
  refine (sq_nx (sfl_ok (kn _) (s0 _) g3)).trans ?_
  simp only [List.set_set]
  rfl
/-- a new place -/
theorem new_ok {n : Nat} {M : Mem} {k m : Dv} {gs : Slots → Co (List Dv)} {ρ : Slots} (h : gs ρ M = .ok [k, m] M) (hk : k ≠ .u) (hm : m ≠ .u) : mkC "Place" (F_Place_init (n + 1)) gs ρ M = .ok (.r M.length) (M ++ [plc k m (.g .none) (.g .none)]) := by
  refine mk_ok h ?_
  rw [place_ok get_push hk hm, set_push]
theorem hole_ok {n s iw it : Nat} {M : Mem} {dt : Dv} {ds : PyData} {en mk : Int} (h : M[s]? = some (wvo dt ds en iw it mk)) : F_Weaving_hole (n + 3) [.r s] M = .ok (.r M.length) (M.set s (wvo dt ds en iw it (mk + 1)) ++ [plc (.g .none) (dI (mk + 1)) (.g .none) (.g .none)]) := by
  show defF 1 1 (b_Weaving_hole (F_Place_init (n + 1))) [.r s] M = _
  refine def_rt rfl ?_
  show b_Weaving_hole _ [.r s] M = _
  have s0 : ∀ M, sl 0 [.r s] M = .ok (.r s) M := fun _ => rfl
  have g1 := get_set (mo' := wvo dt ds en iw it (mk + 1)) h
  have v1 : b2 addD (b1 (fldD "Weaving" "marks") (sl 0)) (kk (.int 1)) [.r s] M = .ok (dI (mk + 1)) M := (b2_ok ((b1_ok (s0 M)).trans (fld_ok h lk_marks)) (show kk (.int 1) [.r s] M = .ok (dI 1) M from rfl)).trans rfl
  refine (sq_nx (sfl_ok v1 (s0 M) h)).trans ?_
  rw [pt_marks]
  refine sq_rt (ret_ok ?_)
  have := new_ok (n := n) (M := M.set s (wvo dt ds en iw it (mk + 1))) (k := .g .none) (m := dI (mk + 1)) (gs := ac (kk .none) (ac (b1 (fldD "Weaving" "marks") (sl 0)) ac0)) (ρ := [.r s]) (ac_ok (show kk .none [.r s] _ = .ok (.g .none) _ from rfl) (ac_ok ((b1_ok (s0 _)).trans (fld_ok g1 lk_marks)) ac0_ok)) (fun z => nomatch z) (fun z => nomatch z)
  rw [List.length_set] at this
  exact this
theorem dc_ok {s : Nat} {i o : Int} {da db : Dv} : ∀ (kvs acc : List (Int × Dv)) (M : Mem) (x5 x6 x7 x8 : Dv), (∀ p ∈ kvs, p.2 ≠ .u) → (acc.map (·.1) ++ kvs.map (·.1)).Nodup →
    dcL (tT 2 (tC (tN 7) (tC (tN 8) tZ))) (tst (b2 (eqD true) (sl 7) (sl 1))) (sl 7) (sl 8) [.r s, dI i, dI o, da, db, x5, x6, x7, x8] (dItm kvs) acc M = .ok (acc ++ kvs.filter fun p => decide (p.1 ≠ i)) M
  | [], acc, M, x5, x6, x7, x8, _, _ => by
    show RE.ok acc M = _
    rw [List.filter_nil, List.append_nil]
  | (k, d) :: r, acc, M, x5, x6, x7, x8, hu, nd => by
    have hd := hu (k, d) (List.mem_cons_self ..)
    have e8 : sl 8 [.r s, dI i, dI o, da, db, x5, x6, dI k, d] M = .ok d M := sl_ok rfl hd
    have e1 : nox (tT 2 (tC (tN 7) (tC (tN 8) tZ)) (mkT [dI k, d]) [.r s, dI i, dI o, da, db, x5, x6, x7, x8]) M = .ok [.r s, dI i, dI o, da, db, x5, x6, dI k, d] M := by
      simp [nox, tT, tC, tN, tZ, ofO, bnd, asT_mkT, chk, rt]
    have e2 : nox (tst (b2 (eqD true) (sl 7) (sl 1)) [.r s, dI i, dI o, da, db, x5, x6, dI k, d]) M = .ok (!decide (k = i)) M := by
      unfold nox
      rw [show tst (b2 (eqD true) (sl 7) (sl 1)) [.r s, dI i, dI o, da, db, x5, x6, dI k, d] M = .ok (!decide (k = i)) M from tst_ok ((b2_ok (show sl 7 _ M = .ok (dI k) M from rfl) (show sl 1 _ M = .ok (dI i) M from rfl)).trans (neI k i M))]
    have e3 : nox (sl 7 [.r s, dI i, dI o, da, db, x5, x6, dI k, d]) M = .ok (dI k) M := rfl
    have e4 : nox (sl 8 [.r s, dI i, dI o, da, db, x5, x6, dI k, d]) M = .ok d M := by
      unfold nox
      rw [e8]
    have hkn : ∀ p ∈ acc, p.1 ≠ k := fun p hp => (List.nodup_append.mp nd).2.2 p.1 (List.mem_map_of_mem hp) k (List.mem_cons_self ..)
    show bnd _ _ M = _
    rw [bnd_ok e1]
    show bnd _ _ M = _
    rw [bnd_ok e2]
    by_cases z : k = i
    · rw [decide_eq_true z]
      show dcL _ _ _ _ _ (dItm r) acc M = _
      rw [dc_ok r acc M x5 x6 x7 x8 (fun p hp => hu p (List.mem_cons_of_mem _ hp)) (nd.sublist (List.Sublist.append (List.Sublist.refl _) (List.sublist_cons_self _ _))), List.filter_cons_of_neg (by simp [z])]
    · rw [decide_eq_false z]
      show bnd _ _ M = _
      rw [bnd_ok e3]
      show bnd _ _ M = _
      rw [bnd_ok e4]
      show dcL _ _ _ _ _ (dItm r) (dvP acc k d) M = _
      unfold dvP
      rw [dvV_none hkn]
      show dcL _ _ _ _ _ (dItm r) (acc ++ [(k, d)]) M = _
      rw [dc_ok r _ M x5 x6 x7 x8 (fun p hp => hu p (List.mem_cons_of_mem _ hp)) (by simpa using nd), List.filter_cons_of_pos (by simp [z]), List.append_assoc]
      rfl
theorem RepX_u {M : Mem} {own : Int → Bool} {U : List Nat} {m : Int} : ∀ {Q : List En} {kvs : List (Int × Dv)} {S : List Nat}, RepX M own U m Q kvs S → ∀ p ∈ kvs, p.2 ≠ .u
  | [], kvs, S, ⟨h, _⟩, p, hp => by
    rw [h] at hp
    cases hp
  | f :: r, kvs, S, ⟨da, db, kr, Sa, Sb, Sr, h1, h2, h3, h4, h5, h6⟩, p, hp => by
    rw [h1] at hp
    rcases List.mem_cons.mp hp with rfl | hp
    · exact enD_u
    · exact RepX_u h4 p hp
end K07
set_option Elab.async false
set_option linter.all false
set_option maxRecDepth 100000
set_option maxHeartbeats 1000000
/-! wm5: a step of a deed at work -/
namespace Xt
open PySem
open Wv (HT En)
theorem dgI_ok {M : Mem} {ρ : Slots} {g1 g2 : Slots → Co Dv} {i : Nat} {k : Int} {kvs : List (Int × Dv)} {v : Dv} (h1 : g1 ρ M = .ok (.r i) M) (h2 : g2 ρ M = .ok (dI k) M) (h : M[i]? = some (.dct kvs)) (hv : dvV kvs k = some v) : dgI g1 g2 ρ M = .ok v M := by
  unfold dgI
  rw [bnd_ok h1]
  show bnd _ _ M = _
  rw [bnd_ok h2]
  simp [bnd, ofO, asI, dI, rt, atM, h, hv]
theorem tSubD_ok {M : Mem} {ρ : Slots} {g1 g2 : Slots → Co Dv} {i : Nat} {k : Int} {kvs : List (Int × Dv)} {v : Dv} (h1 : g1 ρ M = .ok (.r i) M) (h2 : g2 ρ M = .ok (dI k) M) (h : M[i]? = some (.dct kvs)) (hl : kvs.length < 1000) : tSub g1 g2 v ρ M = .ok ρ (M.set i (.dct (dvP kvs k v))) := by
  have hb : Nat.blt kvs.length 16777216 = true := Nat.ble_eq_true_of_le (by omega)
  unfold tSub
  rw [bnd_ok h1]
  show bnd _ _ M = _
  rw [bnd_ok h2]
  simp [bnd, stD, ofO, asI, dI, rt, atM, h, chk, hb, putM]
theorem tup_ok {M M1 : Mem} {ρ : Slots} {gs : Slots → Co (List Dv)} {ds : List Dv} (h : gs ρ M = .ok ds M1) (hl : szOk ds.length = true := by rfl) : tup gs ρ M = .ok (mkT ds) M1 := by
  unfold tup
  rw [bnd_ok h]
  simp [chk, hl, rt]
theorem nd_cnt {l : List Nat} : l.Nodup ↔ ∀ a, l.count a ≤ 1 := List.nodup_iff_count
end Xt
namespace K07
open Xt PySem
open Wv (HT En)
theorem act_h {w : Wv.W} {f : En} {a b : HT} (h : (a.isH || b.isH) = true) : w.act f a b = w := by
  cases a <;> cases b <;> first | rfl | cases h
theorem act_e {w : Wv.W} {f : En} {a b : HT} (h : (a.isH || b.isH) = false) (h2 : (a.isE || b.isE) = true) : w.act f a b = w.fin f (if b.isE then a else b) := by
  cases a <;> cases b <;> first | rfl | (simp [HT.isH] at h; done) | (simp [HT.isE] at h2; done)
theorem dp_top (w : Wv.W) : w.top.dp ≤ Wv.tot w := by
  have := HT.dp_sz w.top
  unfold Wv.tot
  omega
theorem le_sum {l : List Nat} {a : Nat} (h : a ∈ l) : a ≤ l.sum := by
  induction l with
  | nil => cases h
  | cons b r ih =>
    rw [List.sum_cons]
    rcases List.mem_cons.mp h with rfl | h
    · omega
    · have := ih h
      omega
theorem sz_wk {w : Wv.W} {f : En} (h : f ∈ w.wk) : f.a.sz + f.b.sz ≤ Wv.tot w := by
  have := le_sum (List.mem_map_of_mem (f := fun f : En => f.a.sz + f.b.sz) h)
  unfold Wv.tot
  omega
theorem dp_wk {w : Wv.W} {f : En} (h : f ∈ w.wk) : f.a.dp ≤ Wv.tot w ∧ f.b.dp ≤ Wv.tot w := by
  have h1 := HT.dp_sz f.a
  have h2 := HT.dp_sz f.b
  have := sz_wk h
  omega
/-- the second half of a step that goes on: the lesser one is at dL -/
def stepT (c_Weaving_fill : List Dv → Co Dv) (c_Weaving_hole : List Dv → Co Dv) : Slots → Co Fl :=
    (sq (par2 5 6 (ac (mtC "Weaving" "hole" c_Weaving_hole (sl 0) ac0) (ac (b1 (fldD "Place" "right") (sl 3)) ac0)))
    (sq (asg (tup (ac (sl 5) (ac (b1 (fldD "Place" "left") (sl 3)) ac0))) (tT 2 (tC (tFl "Place" "left" (sl 3)) (tC (tFl "Place" "right" (sl 3)) tZ))))
    (sq (drp (mtC "Weaving" "fill" c_Weaving_fill (sl 0) (ac (sl 2) (ac (sl 3) ac0))))
    (sq (asg (tup (ac (b1 (fldD "Place" "mark") (sl 5)) (ac (sl 6) (ac (sl 4) ac0)))) (tSub (b1 (fldD "Weaving" "work") (sl 0)) (sl 1)))
    skp))))
theorem HQ_ne {p q : List En} {f : En} (h1 : ∀ g ∈ p, g.i ≠ f.i) (h2 : ∀ g ∈ q, g.i ≠ f.i) (f' : En) (hf' : f'.i = f.i) : HQ (fun j => decide (j ≠ f.i)) (p ++ f' :: q) = p.flatMap En.hs ++ q.flatMap En.hs := by
  unfold HQ
  rw [List.filter_append, List.filter_cons_of_neg (by simp [hf']), List.filter_eq_self.mpr, List.filter_eq_self.mpr, List.flatMap_append]
  · intro g hg
    simpa using h2 g hg
  · intro g hg
    simpa using h1 g hg
theorem HQ_all (Q : List En) : HQ one1' Q = Q.flatMap En.hs := by
  unfold HQ one1'
  rw [List.filter_eq_self.mpr fun _ _ => rfl]
theorem stp_core {n s iw it iL : Nat} {ds : PyData} {w : Wv.W} {f : En} {p q : List En} {k mm : Int} {l r b : HT} {dt dl dr dO da db : Dv} {kp kq : List (Int × Dv)} {St Sp Sq Sl Sr SO : List Nat} {M : Mem}
    (I : Wv.Inv w) (sp : Wv.Sp w f p q) (hn : Wv.tot w + 4 ≤ n) (hl : w.wk.length < 1000)
    (hs : M[s]? = some (wvo dt ds w.ent iw it w.mc)) (hw : M[iw]? = some (.dct (kp ++ (f.i, enD f.o da db) :: kq))) (ht : M[it]? = some (.lst (w.tk.map tkD))) (hT : Rep M w.top dt St) (hp : RepX M one1' [] 0 p kp Sp) (hq : RepX M one1' [] 0 q kq Sq)
    (hL : M[iL]? = some (plc (dI k) (dI mm) dl dr)) (hl1 : Rep M l dl Sl) (hr1 : Rep M r dr Sr) (hO : Rep M b dO SO) (nd : (St ++ (Sp ++ (((iL :: (Sl ++ Sr)) ++ SO) ++ Sq))).Nodup)
    (hab : (da = .r iL ∧ db = dO ∧ f.a = .n k l r ∧ f.b = b) ∨ (da = dO ∧ db = .r iL ∧ f.a = b ∧ f.b = .n k l r)) :
    ∃ M' ρ', stepT (F_Weaving_fill n) (F_Weaving_hole n) [.r s, dI f.i, dI f.o, .r iL, dO, .u, .u, .u, .u] M = .ok (.nx ρ') M' ∧ WR s ds M' (w.stp f k l r b) := by
  obtain ⟨n, rfl⟩ : ∃ m, n = m + 3 := ⟨n - 3, by omega⟩
  have hOu := Rep_u hO
  have hru := Rep_u hr1
  have cnt := nd_cnt.mp nd
  have ps := npl hs wvo_ne
  have pw := npl hw dct_ne
  have pt := npl ht lst_ne
  have pL : Pl M iL := ⟨_, _, _, _, hL⟩
  have nLs : iL ≠ s := pl_ne hs wvo_ne pL
  have ltL := lt_of hL
  have lts := lt_of hs
  have ltw := lt_of hw
  have ltt := lt_of ht
  have nsw : s ≠ iw := ne_of hs hw (fun e => nomatch e)
  have nst : s ≠ it := ne_of hs ht (fun e => nomatch e)
  have nLw : iL ≠ iw := pl_ne hw dct_ne pL
  have nLt : iL ≠ it := pl_ne ht lst_ne pL
  -- the memory step by step
  let M1 := M.set s (wvo dt ds w.ent iw it (w.mc + 1))
  let iH := M.length
  let M2 := M1 ++ [plc (.g .none) (dI (w.mc + 1)) (.g .none) (.g .none)]
  let M3 := M2.set iL (plc (dI k) (dI mm) (.r iH) dr)
  let M4 := M3.set iL (plc (dI k) (dI mm) (.r iH) dl)
  have len1 : M1.length = iH := List.length_set
  have g2 : ∀ {j : Nat} {mo : MO}, j ≠ s → M[j]? = some mo → M2[j]? = some mo := fun {j mo} hj h => get_app ((get_set_ne (Ne.symm hj)).trans h)
  have hs2 : M2[s]? = some (wvo dt ds w.ent iw it (w.mc + 1)) := get_app (get_set hs)
  have hL2 := g2 nLs hL
  have hH2 : M2[iH]? = some (plc (.g .none) (dI (w.mc + 1)) (.g .none) (.g .none)) := by
    rw [← len1]
    exact get_push
  have hL3 : M3[iL]? = some (plc (dI k) (dI mm) (.r iH) dr) := get_set hL2
  have g4 : ∀ {j : Nat}, j ≠ iL → M4[j]? = M2[j]? := fun {j} hj => (get_set_ne (Ne.symm hj)).trans (get_set_ne (Ne.symm hj))
  have hL4 : M4[iL]? = some (plc (dI k) (dI mm) (.r iH) dl) := get_set hL3
  have nLH : iL ≠ iH := by omega
  have hH4 : M4[iH]? = some (plc (.g .none) (dI (w.mc + 1)) (.g .none) (.g .none)) := (g4 (Ne.symm nLH)).trans hH2
  have hs4 : M4[s]? = some (wvo dt ds w.ent iw it (w.mc + 1)) := (g4 (Ne.symm nLs)).trans hs2
  have hw4 : M4[iw]? = some (.dct (kp ++ (f.i, enD f.o da db) :: kq)) := (g4 (Ne.symm nLw)).trans (g2 (Ne.symm nsw) hw)
  have ht4 : M4[it]? = some (.lst (w.tk.map tkD)) := (g4 (Ne.symm nLt)).trans (g2 (Ne.symm nst) ht)
  have fr : ∀ j, Pl M j → j ≠ iL → M4[j]? = M[j]? := fun j pj hj => by
    obtain ⟨k', m', l', r', e⟩ := pj
    rw [g4 hj, g2 (pl_ne hs wvo_ne ⟨_, _, _, _, e⟩) e, e]
  have nin : ∀ {S : List Nat}, (∀ j ∈ S, S.count j + (iL :: (Sl ++ Sr)).count j ≤ 1) → iL ∉ S := fun {S} h y => by
    have := h iL y
    have a := List.count_pos_iff.mpr y
    rw [List.count_cons_self] at this
    omega
  have cI := cnt iL
  simp only [List.count_append, List.count_cons_self] at cI
  have z0 : ∀ {S : List Nat}, S.count iL = 0 → iL ∉ S := fun h y => by
    have := List.count_pos_iff.mpr y
    omega
  have nSt : iL ∉ St := z0 (by omega)
  have nSp : iL ∉ Sp := z0 (by omega)
  have nSq : iL ∉ Sq := z0 (by omega)
  have nSl : iL ∉ Sl := z0 (by omega)
  have nSr : iL ∉ Sr := z0 (by omega)
  have nSO : iL ∉ SO := z0 (by omega)
  have rep4 : ∀ {t : HT} {d : Dv} {S : List Nat}, Rep M t d S → iL ∉ S → Rep M4 t d S := fun h hn => h.frame fun j hj => fr j (h.at j hj) fun e => hn (e ▸ hj)
  have hT4 := rep4 hT nSt
  have hl4 := rep4 hl1 nSl
  have hr4 := rep4 hr1 nSr
  have hO4 := rep4 hO nSO
  let own : Int → Bool := fun j => decide (j ≠ f.i)
  have op : ∀ g ∈ p, own g.i = true := fun g hg => decide_eq_true (sp.np g hg)
  have oq : ∀ g ∈ q, own g.i = true := fun g hg => decide_eq_true (sp.nq g hg)
  have of : own f.i = false := decide_eq_false fun z => z rfl
  let X : HT := .n k (.h (w.mc + 1)) l
  have hX4 : Rep M4 X (.r iL) (iL :: ([iH] ++ Sl)) := ⟨iL, .r iH, dl, [iH], Sl, mm, rfl, hL4, ⟨iH, rfl, rfl, hH4⟩, hl4, rfl⟩
  let U := St ++ (Sp ++ Sq)
  have nH : ∀ {S : List Nat}, (∀ j ∈ S, Pl M j) → iH ∉ S := fun h y => by
    obtain ⟨_, _, _, _, e⟩ := h iH y
    have := lt_of e
    exact absurd this (Nat.lt_irrefl _)
  have pU : ∀ j ∈ U, Pl M j := fun j hj => by
    rcases List.mem_append.mp hj with hj | hj
    · exact hT.at j hj
    · rcases List.mem_append.mp hj with hj | hj
      · exact hp.at hj
      · exact hq.at hj
  have ok := sp.hp I
  -- the deeds at work, the one that steps not own
  have hfh : f.o ∉ l.hs ∧ f.o ∉ r.hs ∧ f.o ∉ b.hs := by
    have := ok.2
    unfold Wv.En.hs at this
    rcases hab with ⟨_, _, e1, e2⟩ | ⟨_, _, e1, e2⟩ <;> rw [e1, e2] at this <;> simp [HT.hs] at this ⊢ <;> simp [this]
  have lem : f.o ≤ w.mc := I.le f (by rw [sp.eq]; simp)
  have hXo : f.o ∉ X.hs := by
    simp only [X, HT.hs, List.mem_append, List.mem_singleton, not_or]
    exact ⟨by omega, hfh.1⟩
  have disU : ∀ j, j ∈ (iL :: ([iH] ++ Sl)) ∨ j ∈ SO → j ∉ U := fun j hj y => by
    have c := cnt j
    simp only [List.count_append] at c
    have yy : 0 < St.count j + (Sp.count j + Sq.count j) := by
      have := List.count_pos_iff.mpr y
      simpa [U, List.count_append] using this
    rcases hj with hj | hj
    · rcases List.mem_cons.mp hj with e | hj
      · have : (iL :: (Sl ++ Sr)).count j > 0 := List.count_pos_iff.mpr (by rw [e]; exact List.mem_cons_self ..)
        omega
      · rcases List.mem_append.mp hj with hj | hj
        · rw [List.mem_singleton] at hj
          exact nH pU (hj ▸ y)
        · have : (iL :: (Sl ++ Sr)).count j > 0 := List.count_pos_iff.mpr (List.mem_cons_of_mem _ (List.mem_append_left _ hj))
          omega
    · have := List.count_pos_iff.mpr hj
      omega
  obtain ⟨f', hfi, hfo, hf4, hfz⟩ : ∃ f' : En, f'.i = f.i ∧ f'.o = f.o ∧ (∃ Sa Sb, Rep M4 f'.a da Sa ∧ Rep M4 f'.b db Sb ∧ f.o ∉ f'.hs ∧ ∀ j ∈ Sa ++ Sb, j ∉ U) ∧ (f'.a.dp ≤ Wv.tot w ∧ f'.b.dp ≤ Wv.tot w) := by
    have hd := dp_wk (w := w) (f := f) (by rw [sp.eq]; simp)
    rcases hab with ⟨e1, e2, e3, e4⟩ | ⟨e1, e2, e3, e4⟩
    · refine ⟨⟨f.i, f.o, X, b⟩, rfl, rfl, ⟨_, _, by rw [e1]; exact hX4, by rw [e2]; exact hO4, ?_, fun j hj => disU j (List.mem_append.mp hj)⟩, ?_⟩
      · unfold Wv.En.hs
        rw [List.mem_append, not_or]
        exact ⟨hXo, hfh.2.2⟩
      · rw [e3, e4] at hd
        simp only [X, HT.dp] at hd ⊢
        omega
    · refine ⟨⟨f.i, f.o, b, X⟩, rfl, rfl, ⟨_, _, by rw [e1]; exact hO4, by rw [e2]; exact hX4, ?_, fun j hj => disU j (List.mem_append.mp hj).symm⟩, ?_⟩
      · unfold Wv.En.hs
        rw [List.mem_append, not_or]
        exact ⟨hfh.2.2, hXo⟩
      · rw [e3, e4] at hd
        simp only [X, HT.dp] at hd ⊢
        omega
  obtain ⟨Sa', Sb', ha4, hb4, hfo', hdU⟩ := hf4
  have frX : ∀ {Q : List En} {kvs : List (Int × Dv)} {S : List Nat}, RepX M one1' [] 0 Q kvs S → iL ∉ S → (∀ g ∈ Q, own g.i = true) → RepX M4 own U f.o Q kvs S := fun {Q kvs S} h hn o => by
    have h2 : RepX M one1' S 0 Q kvs S := h.chg (fun _ _ => rfl) (fun _ _ => rfl)
    have : RepX M4 one1' [] 0 Q kvs S := by
      have : RepX M4 one1' S 0 Q kvs S := by
        clear h
        have key : ∀ {Q : List En} {kvs : List (Int × Dv)} {S : List Nat}, RepX M one1' [] 0 Q kvs S → iL ∉ S → RepX M4 one1' [] 0 Q kvs S := by
          intro Q
          induction Q with
          | nil => exact fun h _ => h
          | cons g r ih =>
            intro kvs S ⟨da, db, kr, Sa, Sb, Sr, h1, h2, h3, h4, h5, h6⟩ hn
            have e := h5 rfl
            rw [e] at hn
            simp only [List.mem_append, not_or] at hn
            exact ⟨da, db, kr, Sa, Sb, Sr, h1, rep4 h2 hn.1.1, rep4 h3 hn.1.2, ih h4 hn.2, h5, h6⟩
        exact (key (h2.chg (fun _ _ => rfl) (fun _ _ => rfl)) hn).chg (fun _ _ => rfl) (fun _ _ => rfl)
      exact this.chg (fun _ _ => rfl) (fun _ _ => rfl)
    exact this.chg (fun _ _ => rfl) o
  have hQ4 : RepX M4 own U f.o (p ++ f' :: q) (kp ++ (f.i, enD f.o da db) :: kq) (Sp ++ Sq) := by
    refine (frX hp nSp op).join ?_
    refine ⟨da, db, kq, Sa', Sb', Sq, by rw [hfi, hfo], ha4, hb4, frX hq nSq oq, fun z => ?_, fun _ => ⟨rfl, hfo', hdU⟩⟩
    rw [hfi, of] at z
    cases z
  have ndX : (U ++ (iL :: ([iH] ++ Sl))).Nodup := nd_cnt.mpr fun j => by
    have c := cnt j
    have h1 : U.count iH = 0 := List.count_eq_zero.mpr (nH pU)
    have h2 : Sl.count iH = 0 := List.count_eq_zero.mpr (nH hl1.at)
    simp only [U, List.count_append, List.count_cons, List.count_nil, beq_iff_eq] at c h1 ⊢
    by_cases y : iH = j
    · have : ¬ iL = j := fun z => nLH (z.trans y.symm)
      rw [if_neg this, if_pos y]
      rw [← y]
      omega
    · rw [if_neg y]
      omega
  have key := I.key
  have kn : ((p ++ f' :: q).map En.i).Nodup := by
    have : (p ++ f' :: q).map En.i = w.wk.map En.i := by
      rw [sp.eq]
      simp [hfi]
    rw [this]
    exact key.imp fun h => by omega
  have lenQ : (p ++ f' :: q).length < 1000 := by
    have : (p ++ f' :: q).length = w.wk.length := by
      rw [sp.eq]
      simp
    omega
  have hc : (w.top.hs ++ HQ own (p ++ f' :: q)).count f.o ≤ 1 := by
    have c := I.one f.o
    unfold Wv.allH at c
    rw [sp.eq] at c
    rw [HQ_ne sp.np sp.nq f' hfi]
    simp only [List.flatMap_append, List.flatMap_cons, List.count_append] at c ⊢
    omega
  have dps : ∀ g ∈ p ++ f' :: q, max g.a.dp g.b.dp + 2 ≤ n + 2 := fun g hg => by
    have : g ∈ w.wk ∨ g = f' := by
      rw [sp.eq]
      simp only [List.mem_append, List.mem_cons] at hg ⊢
      rcases hg with h | h | h
      · exact .inl (.inl h)
      · exact .inr h
      · exact .inl (.inr (.inr h))
    rcases this with h | h
    · have := dp_wk h
      omega
    · rw [h]
      omega
  have dpt := dp_top w
  obtain ⟨M5, dt', L, kvs', St', SQ', q1, q2, q3, q4, q5, q6, q7, q8, q9⟩ := fill_ok (n := n + 2) (s := s) (m := f.o) hs4 hw4 ht4 hT4 hQ4 hX4 ndX kn lenQ hc (by omega) dps
  -- what the state is then
  rw [List.map_append, List.map_cons] at q6
  obtain ⟨kp', k2, Sp', S2, e1, e2, r1, r2⟩ := q6.split
  obtain ⟨ea, eb, kq', _, _, Sq', e3, _, _, r3, _, r6⟩ := r2
  have e4 := (r6 (by show own f'.i = false; rw [hfi]; exact of)).1
  subst e4
  subst e3
  subst e1
  subst e2
  have fi' : (f'.fl f.o X).i = f.i := hfi
  have fo' : (f'.fl f.o X).o = f.o := hfo
  rw [fi', fo'] at q3
  have kpn : ∀ e ∈ kp', e.1 ≠ f.i := fun e he => by
    have := mem_keys r1.keys he
    simp only [List.map_map] at this
    obtain ⟨g, hg, h⟩ := List.mem_map.mp this
    rw [← h]
    exact sp.np g hg
  have kqn : ∀ e ∈ kq', e.1 ≠ f.i := fun e he => by
    have := mem_keys r3.keys he
    simp only [List.map_map] at this
    obtain ⟨g, hg, h⟩ := List.mem_map.mp this
    rw [← h]
    exact sp.nq g hg
  have lk : (kp' ++ (f.i, enD f.o ea eb) :: kq').length < 1000 := by
    have a := congrArg List.length q6.keys
    simp only [List.length_map, List.length_append, List.length_cons] at a lenQ ⊢
    omega
  let M6 := M5.set L (.dct (kp' ++ (f.i, enD (w.mc + 1) dr dO) :: kq'))
  have fr6 : ∀ j, Pl M5 j → M6[j]? = M5[j]? := fun j pj => get_set_ne (Ne.symm (pl_ne q3 dct_ne pj))
  have fr46 : ∀ j, Pl M4 j → j ∉ U → M6[j]? = M4[j]? := fun j pj hj => by
    have a := q9 j pj hj
    obtain ⟨k', m', l', r', e⟩ := pj
    exact (fr6 j ⟨_, _, _, _, a.trans e⟩).trans a
  have nrU : ∀ j ∈ Sr, j ∉ U := fun j hj y => by
    have c := cnt j
    have a := List.count_pos_iff.mpr hj
    have b := List.count_pos_iff.mpr y
    simp only [U, List.count_append, List.count_cons] at c b
    omega
  have nOU : ∀ j ∈ SO, j ∉ U := fun j hj => disU j (.inr hj)
  have hr6 : Rep M6 r dr Sr := hr4.frame fun j hj => fr46 j (hr4.at j hj) (nrU j hj)
  have hO6 : Rep M6 b dO SO := hO4.frame fun j hj => fr46 j (hO4.at j hj) (nOU j hj)
  have hT6 : Rep M6 (HT.fill f.o X w.top) dt' St' := q5.frame fun j hj => fr6 j (q5.at j hj)
  have rp6 : ∀ {Q : List En} {kvs : List (Int × Dv)} {S : List Nat}, RepX M5 own U f.o Q kvs S → (∀ g ∈ Q, own g.i = true) → RepX M6 one1' [] 0 Q kvs S := fun h o => (h.frame fun j pj _ => fr6 j pj).chg o (fun _ _ => rfl)
  have op' : ∀ g ∈ p.map (En.fl f.o X), own g.i = true := fun g hg => by
    obtain ⟨g0, h, rfl⟩ := List.mem_map.mp hg
    exact op g0 h
  have oq' : ∀ g ∈ q.map (En.fl f.o X), own g.i = true := fun g hg => by
    obtain ⟨g0, h, rfl⟩ := List.mem_map.mp hg
    exact oq g0 h
  have ewk : (w.stp f k l r b).wk = p.map (En.fl f.o X) ++ ⟨f.i, w.mc + 1, r, b⟩ :: q.map (En.fl f.o X) := by
    unfold Wv.W.stp
    simp only
    rw [sp.eq]
    exact Wv.stp_wk sp.np sp.nq
  have hs6 : M6[s]? = some (wvo dt' ds w.ent L it (w.mc + 1)) := (get_set_ne (ne_of q3 q2 (fun e => nomatch e))).trans q2
  have ht6 : M6[it]? = some (.lst (w.tk.map tkD)) := (get_set_ne (ne_of q3 q4 (fun e => nomatch e))).trans q4
  have hL6 : M6[L]? = some (.dct (kp' ++ (f.i, enD (w.mc + 1) dr dO) :: kq')) := get_set q3
  refine ⟨M6, [.r s, dI f.i, dI f.o, .r iL, dO, .r iH, dr, .u, .u], ?_, dt', L, it, _, St', Sp' ++ ((Sr ++ SO) ++ S2), hs6, hL6, ht6, hT6, ?_, ?_⟩
  · -- the run
    have o4 : ∀ (a b c d : Dv) (M : Mem), sl 4 [.r s, dI f.i, dI f.o, .r iL, dO, a, b, c, d] M = .ok dO M := fun _ _ _ _ _ => sl_ok rfl hOu
    have o0 : ∀ (a b c d : Dv) (M : Mem), sl 0 [.r s, dI f.i, dI f.o, .r iL, dO, a, b, c, d] M = .ok (.r s) M := fun _ _ _ _ _ => rfl
    have o1 : ∀ (a b c d : Dv) (M : Mem), sl 1 [.r s, dI f.i, dI f.o, .r iL, dO, a, b, c, d] M = .ok (dI f.i) M := fun _ _ _ _ _ => rfl
    have o2 : ∀ (a b c d : Dv) (M : Mem), sl 2 [.r s, dI f.i, dI f.o, .r iL, dO, a, b, c, d] M = .ok (dI f.o) M := fun _ _ _ _ _ => rfl
    have o3 : ∀ (a b c d : Dv) (M : Mem), sl 3 [.r s, dI f.i, dI f.o, .r iL, dO, a, b, c, d] M = .ok (.r iL) M := fun _ _ _ _ _ => rfl
    have o5 : ∀ (M : Mem), sl 5 [.r s, dI f.i, dI f.o, .r iL, dO, .r iH, dr, .u, .u] M = .ok (.r iH) M := fun _ => rfl
    have o6 : ∀ (M : Mem), sl 6 [.r s, dI f.i, dI f.o, .r iL, dO, .r iH, dr, .u, .u] M = .ok dr M := fun _ => sl_ok rfl hru
    have h1 : mtC "Weaving" "hole" (F_Weaving_hole (n + 3)) (sl 0) ac0 [.r s, dI f.i, dI f.o, .r iL, dO, .u, .u, .u, .u] M = .ok (.r iH) M2 := (mt_ok (o0 _ _ _ _ M) hs lk_hole ac0_ok).trans (hole_ok hs)
    unfold stepT
    refine (sq_nx (ρ' := [.r s, dI f.i, dI f.o, .r iL, dO, .r iH, dr, .u, .u]) (M' := M2) ((bnd_ok (ac_ok h1 (ac_ok ((b1_ok (o3 _ _ _ _ M2)).trans (fld_ok hL2 lk_right)) ac0_ok))).trans rfl)).trans ?_
    have h2 := tup_ok (ac_ok (o5 M2) (ac_ok ((b1_ok (o3 _ _ _ _ M2)).trans (fld_ok hL2 lk_left)) ac0_ok))
    have t1 : tFl "Place" "left" (sl 3) (.r iH) [.r s, dI f.i, dI f.o, .r iL, dO, .r iH, dr, .u, .u] M2 = .ok [.r s, dI f.i, dI f.o, .r iL, dO, .r iH, dr, .u, .u] M3 := tFl_ok (o3 _ _ _ _ M2) hL2
    have t2 : tFl "Place" "right" (sl 3) dl [.r s, dI f.i, dI f.o, .r iL, dO, .r iH, dr, .u, .u] M3 = .ok [.r s, dI f.i, dI f.o, .r iL, dO, .r iH, dr, .u, .u] M4 := tFl_ok (o3 _ _ _ _ M3) hL3
    have t3 : tT 2 (tC (tFl "Place" "left" (sl 3)) (tC (tFl "Place" "right" (sl 3)) tZ)) (mkT [.r iH, dl]) [.r s, dI f.i, dI f.o, .r iL, dO, .r iH, dr, .u, .u] M2 = .ok [.r s, dI f.i, dI f.o, .r iL, dO, .r iH, dr, .u, .u] M4 := by
      refine (bnd_ok (show (ofO (asT (mkT [.r iH, dl])) : Co _) M2 = .ok [.r iH, dl] M2 from by rw [asT_mkT]; rfl)).trans ?_
      refine (bnd_ok t1).trans ?_
      exact (bnd_ok t2).trans rfl
    refine (sq_nx (asg_ok h2 t3)).trans ?_
    refine (sq_nx (drp_ok ((mt_ok (o0 _ _ _ _ M4) hs4 lk_fill (ac_ok (o2 _ _ _ _ M4) (ac_ok (o3 _ _ _ _ M4) ac0_ok))).trans q1))).trans ?_
    have hH5 : M5[iH]? = some (plc (.g .none) (dI (w.mc + 1)) (.g .none) (.g .none)) := (q9 iH ⟨_, _, _, _, hH4⟩ (nH pU)).trans hH4
    have h3 := tup_ok (ac_ok ((b1_ok (o5 M5)).trans (fld_ok hH5 lk_mark)) (ac_ok (o6 M5) (ac_ok (o4 _ _ _ _ M5) ac0_ok)))
    refine (sq_nx (asg_ok h3 (tSubD_ok ((b1_ok (o0 _ _ _ _ M5)).trans (fld_ok q2 lk_work)) (o1 _ _ _ _ M5) q3 lk))).trans ?_
    rw [dvP_mid kpn kqn]
    rfl
  · rw [ewk]
    refine (rp6 r1 op').join ?_
    exact ⟨dr, dO, kq', Sr, SO, S2, rfl, hr6, hO6, rp6 r3 oq', fun _ => rfl, fun z => by cases z⟩
  · refine nd_cnt.mpr fun j => ?_
    have c := nd_cnt.mp q7 j
    have c0 := cnt j
    have c1 : 0 < (St' ++ (Sp' ++ S2)).count j → U.count j + (iL :: ([iH] ++ Sl)).count j > 0 := fun z => by
      rcases q8 j (List.count_pos_iff.mp z) with h | h
      · have : 0 < U.count j := List.count_pos_iff.mpr h
        omega
      · have : 0 < (iL :: ([iH] ++ Sl)).count j := List.count_pos_iff.mpr h
        omega
    have c2 : 0 < Sr.count j + SO.count j → j ≠ iH := fun z e => by
      have a : Sr.count iH = 0 := List.count_eq_zero.mpr (nH hr1.at)
      have b : SO.count iH = 0 := List.count_eq_zero.mpr (nH hO.at)
      rw [e] at z
      omega
    simp only [U, List.count_append, List.count_cons, List.count_nil] at c c0 c1 ⊢
    by_cases z : 0 < Sr.count j + SO.count j
    · have y := c2 z
      have y' : ¬ iH = j := fun h => y h.symm
      simp only [beq_iff_eq, y', if_false, Nat.add_zero] at c1
      by_cases v : 0 < St'.count j + (Sp'.count j + S2.count j)
      · have := c1 v
        simp only [beq_iff_eq] at c0
        omega
      · omega
    · omega
end K07
set_option Elab.async false
set_option linter.all false
set_option maxRecDepth 100000
set_option maxHeartbeats 1000000
/-! wm6: the whole step -/
namespace K07
open Xt PySem
open Wv (HT En)
def finS (c_Weaving_fill : List Dv → Co Dv) : Slots → Co Fl := (sq (sfl "Weaving" "work" (sl 0) (dcX [7, 8] (srcM (b1 (fldD "Weaving" "work") (sl 0))) (tT 2 (tC (tN 7) (tC (tN 8) tZ))) (tst (b2 (eqD true) (sl 7) (sl 1))) (sl 7) (sl 8)))
    (sq (drp (mtC "Weaving" "fill" c_Weaving_fill (sl 0) (ac (sl 2) (ac (iff (tst (b1 (isN false) (sl 4))) (sl 3) (sl 4)) ac0))))
    (sq retN
    skp)))
theorem RepX_set {M : Mem} {own : Int → Bool} {U : List Nat} {m : Int} {Q : List En} {kvs : List (Int × Dv)} {S : List Nat} {s : Nat} {a b : MO} (h : RepX M own U m Q kvs S) (hs : M[s]? = some a) (hn : ∀ k m l r, a ≠ plc k m l r) : RepX (M.set s b) own U m Q kvs S := h.frame fun j pj _ => get_set_ne (Ne.symm (pl_ne hs hn pj))
theorem Rep_set {M : Mem} {t : HT} {d : Dv} {S : List Nat} {s : Nat} {a b : MO} (h : Rep M t d S) (hs : M[s]? = some a) (hn : ∀ k m l r, a ≠ plc k m l r) : Rep (M.set s b) t d S := h.frame fun j hj => get_set_ne (Ne.symm (pl_ne hs hn (h.at j hj)))
theorem RepX_app {M N : Mem} {own : Int → Bool} {U : List Nat} {m : Int} {Q : List En} {kvs : List (Int × Dv)} {S : List Nat} (h : RepX M own U m Q kvs S) : RepX (M ++ N) own U m Q kvs S := h.frame fun j ⟨_, _, _, _, e⟩ _ => (get_app e).trans e.symm
theorem fin_core {n s iw it : Nat} {ds : PyData} {w : Wv.W} {f : En} {p q : List En} {dt da db : Dv} {kp kq : List (Int × Dv)} {St Sp Sq Sa Sb : List Nat} {M : Mem}
    (I : Wv.Inv w) (sp : Wv.Sp w f p q) (hn : Wv.tot w + 4 ≤ n) (hl : w.wk.length < 1000)
    (hs : M[s]? = some (wvo dt ds w.ent iw it w.mc)) (hw : M[iw]? = some (.dct (kp ++ (f.i, enD f.o da db) :: kq))) (ht : M[it]? = some (.lst (w.tk.map tkD))) (hT : Rep M w.top dt St) (hp : RepX M one1' [] 0 p kp Sp) (hq : RepX M one1' [] 0 q kq Sq)
    (ha : Rep M f.a da Sa) (hb : Rep M f.b db Sb) (nd : (St ++ (Sp ++ ((Sa ++ Sb) ++ Sq))).Nodup) :
    ∃ M', finS (F_Weaving_fill n) [.r s, dI f.i, dI f.o, da, db, .u, .u, .u, .u] M = .ok (.rt (.g .none)) M' ∧ WR s ds M' (w.fin f (if f.b.isE then f.a else f.b)) := by
  obtain ⟨n, rfl⟩ : ∃ m, n = m + 3 := ⟨n - 3, by omega⟩
  have cnt := nd_cnt.mp nd
  have hau := Rep_u ha
  have hbu := Rep_u hb
  have nsw : s ≠ iw := ne_of hs hw (fun e => nomatch e)
  have nst : s ≠ it := ne_of hs ht (fun e => nomatch e)
  have nwt : iw ≠ it := ne_of hw ht (fun e => nomatch e)
  have kpn : ∀ e ∈ kp, e.1 ≠ f.i := fun e he => by
    obtain ⟨g, hg, h⟩ := List.mem_map.mp (mem_keys hp.keys he)
    rw [← h]
    exact sp.np g hg
  have kqn : ∀ e ∈ kq, e.1 ≠ f.i := fun e he => by
    obtain ⟨g, hg, h⟩ := List.mem_map.mp (mem_keys hq.keys he)
    rw [← h]
    exact sp.nq g hg
  have kall : (kp ++ (f.i, enD f.o da db) :: kq).map (fun e => e.1) = w.wk.map En.i := by
    rw [sp.eq, List.map_append, List.map_append, List.map_cons, List.map_cons, ← hp.keys, ← hq.keys]
  have key := I.key
  have knd : (w.wk.map En.i).Nodup := key.imp fun h => by omega
  let M1 := M.set iw .dead
  let M2 := M1 ++ [MO.dct (kp ++ kq)]
  let L := M1.length
  have lenL : L = M.length := List.length_set
  let M3 := M2.set s (wvo dt ds w.ent L it w.mc)
  have hs1 : M1[s]? = some (wvo dt ds w.ent iw it w.mc) := (get_set_ne (Ne.symm nsw)).trans hs
  have hs2 : M2[s]? = some (wvo dt ds w.ent iw it w.mc) := get_app hs1
  have hs3 : M3[s]? = some (wvo dt ds w.ent L it w.mc) := get_set hs2
  have lts := lt_of hs1
  have sL : s ≠ L := by
    have : s < L := lts
    omega
  have hL3 : M3[L]? = some (.dct (kp ++ kq)) := (get_set_ne sL).trans get_push
  have ht3 : M3[it]? = some (.lst (w.tk.map tkD)) := (get_set_ne nst).trans (get_app ((get_set_ne nwt).trans ht))
  have rp : ∀ {t : HT} {d : Dv} {S : List Nat}, Rep M t d S → Rep M3 t d S := fun h => Rep_set (Rep_set h hw dct_ne).app hs2 wvo_ne
  have rx : ∀ {Q : List En} {kvs : List (Int × Dv)} {S : List Nat}, RepX M one1' [] 0 Q kvs S → RepX M3 one1' [] 0 Q kvs S := fun h => RepX_set (RepX_app (RepX_set h hw dct_ne)) hs2 wvo_ne
  let x := if f.b.isE then f.a else f.b
  obtain ⟨dx, Sx, hX, hv, hsub⟩ : ∃ dx Sx, Rep M3 x dx Sx ∧ (∀ M, iff (tst (b1 (isN false) (sl 4))) (sl 3) (sl 4) [.r s, dI f.i, dI f.o, da, db, .u, .u, .u, .u] M = .ok dx M) ∧ (∀ j, Sx.count j ≤ Sa.count j + Sb.count j) := by
    have t4 : ∀ M, tst (b1 (isN false) (sl 4)) [.r s, dI f.i, dI f.o, da, db, .u, .u, .u, .u] M = .ok f.b.isE M := fun M => tst_ok ((b1_ok (show sl 4 _ M = .ok db M from sl_ok rfl hbu)).trans ((isN_rep hb false).trans (by cases f.b.isE <;> rfl)))
    cases e : f.b.isE with
    | true =>
      refine ⟨da, Sa, ?_, fun M => ?_, fun j => by omega⟩
      · show Rep M3 (if f.b.isE then f.a else f.b) da Sa
        rw [e]
        exact rp ha
      · have := t4 M
        rw [e] at this
        rw [iff_t this]
        exact sl_ok rfl hau
    | false =>
      refine ⟨db, Sb, ?_, fun M => ?_, fun j => by omega⟩
      · show Rep M3 (if f.b.isE then f.a else f.b) db Sb
        rw [e]
        exact rp hb
      · have := t4 M
        rw [e] at this
        rw [iff_f this]
        exact sl_ok rfl hbu
  have hQ3 : RepX M3 one1' (St ++ (Sp ++ Sq)) f.o (p ++ q) (kp ++ kq) (Sp ++ Sq) := ((rx hp).join (rx hq)).chg (fun _ _ => rfl) (fun _ _ => rfl)
  have ndX : ((St ++ (Sp ++ Sq)) ++ Sx).Nodup := nd_cnt.mpr fun j => by
    have c := cnt j
    have h := hsub j
    simp only [List.count_append] at c ⊢
    omega
  have kn : ((p ++ q).map En.i).Nodup := by
    rw [sp.eq] at knd
    exact knd.sublist ((List.Sublist.append (List.Sublist.refl _) (List.sublist_cons_self _ _)).map _)
  have lenQ : (p ++ q).length < 1000 := by
    rw [sp.eq] at hl
    simp only [List.length_append, List.length_cons] at hl ⊢
    omega
  have hc : (w.top.hs ++ HQ one1' (p ++ q)).count f.o ≤ 1 := by
    have c := I.one f.o
    unfold Wv.allH at c
    rw [sp.eq] at c
    rw [HQ_all]
    simp only [List.flatMap_append, List.flatMap_cons, List.count_append] at c ⊢
    omega
  have dpt := dp_top w
  obtain ⟨M5, dt', L', kvs', St', SQ', q1, q2, q3, q4, q5, q6, q7, q8, q9⟩ := fill_ok (n := n + 2) (s := s) (m := f.o) hs3 hL3 ht3 (rp hT) hQ3 hX ndX kn lenQ hc (by omega) (fun g hg => by
    have : g ∈ w.wk := by
      rw [sp.eq]
      simp only [List.mem_append, List.mem_cons] at hg ⊢
      rcases hg with h | h
      · exact .inl h
      · exact .inr (.inr h)
    have := dp_wk this
    omega)
  refine ⟨M5, ?_, dt', L', it, kvs', St', SQ', q2, q3, q4, q5, ?_, q7⟩
  · have o0 : ∀ M, sl 0 [.r s, dI f.i, dI f.o, da, db, .u, .u, .u, .u] M = .ok (.r s) M := fun _ => rfl
    have o2 : ∀ M, sl 2 [.r s, dI f.i, dI f.o, da, db, .u, .u, .u, .u] M = .ok (dI f.o) M := fun _ => rfl
    have hkl : (kp ++ (f.i, enD f.o da db) :: kq).length < 1000 := by
      have a := congrArg List.length kall
      simp only [List.length_map] at a
      omega
    have hdc : dcX [7, 8] (srcM (b1 (fldD "Weaving" "work") (sl 0))) (tT 2 (tC (tN 7) (tC (tN 8) tZ))) (tst (b2 (eqD true) (sl 7) (sl 1))) (sl 7) (sl 8) [.r s, dI f.i, dI f.o, da, db, .u, .u, .u, .u] M = .ok (.r L) M2 := by
      unfold dcX
      rw [bnd_ok (srcM_ok ((b1_ok (o0 M)).trans (fld_ok hs lk_work)) hw)]
      have hz : szOk (dItm (kp ++ (f.i, enD f.o da db) :: kq)).length = true := by
        rw [dItm_len]
        exact Nat.ble_eq_true_of_le (by omega)
      unfold chk
      rw [hz]
      have ee : wip [.r s, dI f.i, dI f.o, da, db, .u, .u, .u, .u] [7, 8] = [.r s, dI f.i, dI f.o, da, db, .u, .u, .u, .u] := rfl
      show bnd (dcL _ _ _ _ (wip _ [7, 8]) _ _) newD (M.set iw .dead) = _
      rw [ee]
      refine (bnd_ok (dc_ok _ [] _ .u .u .u .u (fun e he => ?_) (by rw [List.map_nil, List.nil_append, kall]; exact knd))).trans ?_
      · rcases List.mem_append.mp he with h | h
        · exact RepX_u hp e h
        · rcases List.mem_cons.mp h with h | h
          · rw [h]
            exact enD_u
          · exact RepX_u hq e h
      · have ef : ((kp ++ (f.i, enD f.o da db) :: kq).filter fun e => decide (e.1 ≠ f.i)) = kp ++ kq := by
          rw [List.filter_append, List.filter_cons_of_neg (by simp), List.filter_eq_self.mpr, List.filter_eq_self.mpr]
          · intro e he
            simpa using kqn e he
          · intro e he
            simpa using kpn e he
        rw [List.nil_append, ef]
        rfl
    unfold finS
    refine (sq_nx (sfl_ok hdc (o0 M2) hs2)).trans ?_
    rw [pt_work]
    refine (sq_nx (drp_ok ((mt_ok (o0 M3) hs3 lk_fill (ac_ok (o2 M3) (ac_ok (hv M3) ac0_ok))).trans q1))).trans ?_
    exact sq_rt rfl
  · have : (w.fin f x).wk = (p ++ q).map (En.fl f.o x) := by
      unfold Wv.W.fin
      simp only
      rw [sp.eq, Wv.fin_wk sp.np sp.nq]
    show RepX M5 one1' [] 0 (w.fin f x).wk kvs' SQ'
    rw [this]
    exact q6.chg (fun _ _ => rfl) (fun _ _ => rfl)
theorem step_ok {n s : Nat} {i : Int} {ds : PyData} {M : Mem} {w : Wv.W} {f : En} (I : Wv.Inv w) (hn : Wv.tot w + 4 ≤ n) (hl : w.wk.length < 1000) (hf : Wv.look w.wk i = some f) (R : WR s ds M w) :
    ∃ M', F_Weaving_step (n + 1) [.r s, dI i] M = .ok (.g .none) M' ∧ WR s ds M' (w.step i) := by
  have R0 := R
  obtain ⟨dt, iw, it, kvs, St, Sw, hs, hw, ht, hT, hQ, nd⟩ := R
  have hfi := (Wv.look_mem hf).2
  subst hfi
  obtain ⟨p, q, sp⟩ := I.sp hf
  have es : w.step f.i = w.act f f.a f.b := by
    unfold Wv.W.step
    rw [hf]
  rw [es]
  rw [sp.eq] at hQ
  obtain ⟨kp, k2, Sp, S2, e1, e2, hp, r2⟩ := hQ.split
  obtain ⟨da, db, kq, Sa, Sb, Sq, e3, ha, hb, hq, e5, _⟩ := r2
  have e5 := e5 rfl
  subst e5
  subst e3
  subst e2
  subst e1
  have hau := Rep_u ha
  have hbu := Rep_u hb
  have kpn : ∀ e ∈ kp, e.1 ≠ f.i := fun e he => by
    obtain ⟨g, hg, h⟩ := List.mem_map.mp (mem_keys hp.keys he)
    rw [← h]
    exact sp.np g hg
  obtain ⟨n, rfl⟩ : ∃ m, n = m + 1 := ⟨n - 1, by omega⟩
  have o0 : ∀ M, sl 0 [.r s, dI f.i, dI f.o, da, db, .u, .u, .u, .u] M = .ok (.r s) M := fun _ => rfl
  have o3 : ∀ M, sl 3 [.r s, dI f.i, dI f.o, da, db, .u, .u, .u, .u] M = .ok da M := fun _ => sl_ok rfl hau
  have o4 : ∀ M, sl 4 [.r s, dI f.i, dI f.o, da, db, .u, .u, .u, .u] M = .ok db M := fun _ => sl_ok rfl hbu
  have st1 : asg (dgI (b1 (fldD "Weaving" "work") (sl 0)) (sl 1)) (tT 3 (tC (tN 2) (tC (tN 3) (tC (tN 4) tZ)))) [.r s, dI f.i, .u, .u, .u, .u, .u, .u, .u] M = .ok (.nx [.r s, dI f.i, dI f.o, da, db, .u, .u, .u, .u]) M := by
    refine asg_ok (dgI_ok (i := iw) (k := f.i) ((b1_ok (show sl 0 _ M = .ok (.r s) M from rfl)).trans (fld_ok hs lk_work)) rfl hw (dvV_mid kpn)) ?_
    simp [tT, tC, tN, tZ, ofO, bnd, asT_mkT, chk, rt, enD]
  have tH : tor (trV (cB (F_is_hole (n + 1)) (ac (sl 3) ac0))) (trV (cB (F_is_hole (n + 1)) (ac (sl 4) ac0))) [.r s, dI f.i, dI f.o, da, db, .u, .u, .u, .u] M = .ok (f.a.isH || f.b.isH) M := by
    have h1 := trV_ok ((cB_ok (ac_ok (o3 M) ac0_ok)).trans (is_hole_ok n ha))
    have h2 := trV_ok ((cB_ok (ac_ok (o4 M) ac0_ok)).trans (is_hole_ok n hb))
    cases e : f.a.isH with
    | true =>
      rw [e] at h1
      exact tor_t h1
    | false =>
      rw [e] at h1
      exact (tor_f h1).trans h2
  have tE : tor (tst (b1 (isN false) (sl 3))) (tst (b1 (isN false) (sl 4))) [.r s, dI f.i, dI f.o, da, db, .u, .u, .u, .u] M = .ok (f.a.isE || f.b.isE) M := by
    have h1 : tst (b1 (isN false) (sl 3)) [.r s, dI f.i, dI f.o, da, db, .u, .u, .u, .u] M = .ok f.a.isE M := tst_ok ((b1_ok (o3 M)).trans ((isN_rep ha false).trans (by cases f.a.isE <;> rfl)))
    have h2 : tst (b1 (isN false) (sl 4)) [.r s, dI f.i, dI f.o, da, db, .u, .u, .u, .u] M = .ok f.b.isE M := tst_ok ((b1_ok (o4 M)).trans ((isN_rep hb false).trans (by cases f.b.isE <;> rfl)))
    cases e : f.a.isE with
    | true =>
      rw [e] at h1
      exact tor_t h1
    | false =>
      rw [e] at h1
      exact (tor_f h1).trans h2
  have eb : b_Weaving_step (F_Weaving_fill (n + 1)) (F_Weaving_hole (n + 1)) (F_is_hole (n + 1)) = sq (asg (dgI (b1 (fldD "Weaving" "work") (sl 0)) (sl 1)) (tT 3 (tC (tN 2) (tC (tN 3) (tC (tN 4) tZ)))))
    (sq (ifs (tor (trV (cB (F_is_hole (n + 1)) (ac (sl 3) ac0))) (trV (cB (F_is_hole (n + 1)) (ac (sl 4) ac0)))) (sq retN skp) skp)
    (sq (ifs (tor (tst (b1 (isN false) (sl 3))) (tst (b1 (isN false) (sl 4)))) (finS (F_Weaving_fill (n + 1))) skp)
    (sq (ifs (tst (b2 ltD (b1 (fldD "Place" "key") (sl 4)) (b1 (fldD "Place" "key") (sl 3)))) (sq (par2 3 4 (ac (sl 4) (ac (sl 3) ac0))) skp) skp)
    (stepT (F_Weaving_fill (n + 1)) (F_Weaving_hole (n + 1)))))) := rfl
  show ∃ M', defF 9 2 (b_Weaving_step (F_Weaving_fill (n + 1)) (F_Weaving_hole (n + 1)) (F_is_hole (n + 1))) [.r s, dI f.i] M = _ ∧ _
  rw [eb]
  cases eH : (f.a.isH || f.b.isH) with
  | true =>
    rw [eH] at tH
    rw [act_h eH]
    refine ⟨M, def_rt rfl ?_, R0⟩
    refine (sq_nx st1).trans ?_
    exact sq_rt ((ifs_t tH).trans (sq_rt rfl))
  | false =>
    rw [eH] at tH
    cases eE : (f.a.isE || f.b.isE) with
    | true =>
      rw [eE] at tE
      rw [act_e eH eE]
      obtain ⟨M', h1, h2⟩ := fin_core I sp hn hl hs hw ht hT hp hq ha hb nd
      refine ⟨M', def_rt rfl ?_, h2⟩
      refine (sq_nx st1).trans ?_
      refine (sq_nx (ifs_f tH)).trans ?_
      exact sq_rt ((ifs_t tE).trans h1)
    | false =>
      rw [eE] at tE
      have pre : ∀ {ρ : Slots} {M1 : Mem} {r : RE Fl}, ifs (tst (b2 ltD (b1 (fldD "Place" "key") (sl 4)) (b1 (fldD "Place" "key") (sl 3)))) (sq (par2 3 4 (ac (sl 4) (ac (sl 3) ac0))) skp) skp [.r s, dI f.i, dI f.o, da, db, .u, .u, .u, .u] M = .ok (.nx ρ) M1 → stepT (F_Weaving_fill (n + 1)) (F_Weaving_hole (n + 1)) ρ M1 = r → (sq (asg (dgI (b1 (fldD "Weaving" "work") (sl 0)) (sl 1)) (tT 3 (tC (tN 2) (tC (tN 3) (tC (tN 4) tZ)))))
        (sq (ifs (tor (trV (cB (F_is_hole (n + 1)) (ac (sl 3) ac0))) (trV (cB (F_is_hole (n + 1)) (ac (sl 4) ac0)))) (sq retN skp) skp)
        (sq (ifs (tor (tst (b1 (isN false) (sl 3))) (tst (b1 (isN false) (sl 4)))) (finS (F_Weaving_fill (n + 1))) skp)
        (sq (ifs (tst (b2 ltD (b1 (fldD "Place" "key") (sl 4)) (b1 (fldD "Place" "key") (sl 3)))) (sq (par2 3 4 (ac (sl 4) (ac (sl 3) ac0))) skp) skp)
        (stepT (F_Weaving_fill (n + 1)) (F_Weaving_hole (n + 1))))))) [.r s, dI f.i, .u, .u, .u, .u, .u, .u, .u] M = r := fun h1 h2 => by
        refine (sq_nx st1).trans ?_
        refine (sq_nx (ifs_f tH)).trans ?_
        refine (sq_nx (ifs_f tE)).trans ?_
        exact (sq_nx h1).trans h2
      cases ea : f.a with
      | e => rw [ea] at eE; simp [HT.isE] at eE
      | h m => rw [ea] at eH; simp [HT.isH] at eH
      | n k l r =>
        cases ebb : f.b with
        | e => rw [ebb] at eE; simp [HT.isE] at eE
        | h m => rw [ebb] at eH; simp [HT.isH] at eH
        | n k' l' r' =>
          rw [ea] at ha
          rw [ebb] at hb
          have ha0 := ha
          have hb0 := hb
          obtain ⟨ia, dla, dra, Sla, Sra, ma, rfl, hLa, hla, hra, rfl⟩ := ha
          obtain ⟨ib, dlb, drb, Slb, Srb, mb, rfl, hLb, hlb, hrb, rfl⟩ := hb
          have tL : tst (b2 ltD (b1 (fldD "Place" "key") (sl 4)) (b1 (fldD "Place" "key") (sl 3))) [.r s, dI f.i, dI f.o, .r ia, .r ib, .u, .u, .u, .u] M = .ok (decide (k' < k)) M := tst_ok ((b2_ok ((b1_ok (o4 M)).trans (fld_ok hLb lk_key)) ((b1_ok (o3 M)).trans (fld_ok hLa lk_key))).trans rfl)
          by_cases z : k' < k
          · rw [decide_eq_true z] at tL
            have ew : w.act f (.n k l r) (.n k' l' r') = w.stp f k' l' r' (.n k l r) := if_pos z
            rw [ew]
            obtain ⟨M', ρ', h1, h2⟩ := stp_core (s := s) (iw := iw) (it := it) (iL := ib) (mm := mb) (k := k') (l := l') (r := r') (b := .n k l r) (dl := dlb) (dr := drb) (dO := .r ia) (da := .r ia) (db := .r ib) (Sp := Sp) (Sq := Sq) (St := St) (Sl := Slb) (Sr := Srb) (SO := ia :: (Sla ++ Sra)) (kp := kp) (kq := kq) (ds := ds) (dt := dt) (M := M) I sp hn hl hs hw ht hT hp hq hLb hlb hrb ha0 (nd_cnt.mpr fun j => by
              have c := nd_cnt.mp nd j
              simp only [List.count_append] at c ⊢
              omega) (.inr ⟨rfl, rfl, ea, ebb⟩)
            refine ⟨M', def_nx (ρ := ρ') rfl (pre (ρ := [.r s, dI f.i, dI f.o, .r ib, .r ia, .u, .u, .u, .u]) (M1 := M) ?_ h1), h2⟩
            exact (ifs_t tL).trans rfl
          · rw [decide_eq_false z] at tL
            have ew : w.act f (.n k l r) (.n k' l' r') = w.stp f k l r (.n k' l' r') := if_neg z
            rw [ew]
            obtain ⟨M', ρ', h1, h2⟩ := stp_core (s := s) (iw := iw) (it := it) (iL := ia) (mm := ma) (k := k) (l := l) (r := r) (b := .n k' l' r') (dl := dla) (dr := dra) (dO := .r ib) (da := .r ia) (db := .r ib) (Sp := Sp) (Sq := Sq) (St := St) (Sl := Sla) (Sr := Sra) (SO := ib :: (Slb ++ Srb)) (kp := kp) (kq := kq) (ds := ds) (dt := dt) (M := M) I sp hn hl hs hw ht hT hp hq hLa hla hra hb0 nd (.inl ⟨rfl, rfl, ea, ebb⟩)
            refine ⟨M', def_nx (ρ := ρ') rfl (pre (ρ := [.r s, dI f.i, dI f.o, .r ia, .r ib, .u, .u, .u, .u]) (M1 := M) ?_ h1), h2⟩
            exact (ifs_f tL).trans rfl
end K07
set_option Elab.async false
set_option linter.all false
set_option maxRecDepth 100000
set_option maxHeartbeats 1000000
/-! wm7: begin, enter, turn -/
namespace Xt
open PySem
open Wv (HT En)
theorem app_ok {M : Mem} {ρ : Slots} {g1 g2 : Slots → Co Dv} {i : Nat} {xs : List Dv} {e : Dv} (h1 : g1 ρ M = .ok (.r i) M) (h : M[i]? = some (.lst xs)) (h2 : g2 ρ M = .ok e M) (hl : xs.length < 1000) : app g1 g2 ρ M = .ok (.g .none) (M.set i (.lst (xs ++ [e]))) := by
  have hb : Nat.blt xs.length 16777216 = true := Nat.ble_eq_true_of_le (by omega)
  unfold app
  rw [bnd_ok h1]
  have e1 : lstOf (.r i) M = .ok i M := by simp [lstOf, atM, h, rt]
  rw [bnd_ok e1, bnd_ok h2]
  simp [apM, atM, h, chk, hb]
theorem RepX_lk {M : Mem} {own : Int → Bool} {U : List Nat} {m : Int} : ∀ {Q : List En} {kvs : List (Int × Dv)} {S : List Nat} (i : Int), RepX M own U m Q kvs S → (dvV kvs i).isSome = (Wv.look Q i).isSome
  | [], kvs, S, i, ⟨h, _⟩ => by
    rw [h]
    rfl
  | f :: r, kvs, S, i, ⟨da, db, kr, Sa, Sb, Sr, h1, h2, h3, h4, h5, h6⟩ => by
    rw [h1]
    unfold dvV Wv.look
    by_cases z : f.i = i
    · rw [if_pos z, decide_eq_true z]
      rfl
    · rw [if_neg z, decide_eq_false z]
      exact RepX_lk i h4
theorem look_app : ∀ {wk : List En} {f : En}, (∀ g ∈ wk, g.i ≠ f.i) → Wv.look (wk ++ [f]) f.i = some f
  | [], f, _ => by simp [Wv.look]
  | g :: r, f, h => by
    show (if g.i = f.i then some g else Wv.look (r ++ [f]) f.i) = some f
    rw [if_neg (h g (List.mem_cons_self ..))]
    exact look_app fun x hx => h x (List.mem_cons_of_mem _ hx)
/-- a deed -/
def deD : Option Int → PyData
  | some k => .tuple [.str "put", .int k]
  | none => .tuple [.str "take"]
theorem eqS {a b : Str} (ha : PyData.strOk a = true) (hb : PyData.strOk b = true) (M : Mem) : eqD false (.g (.str a)) (.g (.str b)) M = .ok (.g (.bool (PyData.eqv (.str a) (.str b)))) M := by
  have o : eqOk (.str a) (.str b) = true := by simp [eqOk, PyData.canLay0, PyData.depth, ha, hb]
  show chk (eqOk (.str a) (.str b)) (rt (vB (PyData.eqv (.str a) (.str b)))) M = _
  rw [o]
  rfl
theorem ok_put : PyData.strOk ("put" : Str) = true := by decide +kernel
theorem ok_take : PyData.strOk ("take" : Str) = true := by decide +kernel
theorem isput {M : Mem} {ρ : Slots} {g : Slots → Co Dv} {d : Option Int} (h : g ρ M = .ok (.g (deD d)) M) : tst (b2 (eqD false) (b2 ixD g (kk (.int 0))) (kk (.str "put"))) ρ M = .ok d.isSome M := by
  cases d with
  | some k =>
    refine tst_ok ((b2_ok ((b2_ok h (show kk (.int 0) ρ M = .ok (dI 0) M from rfl)).trans (show ixD _ _ M = .ok (.g (.str "put")) M from rfl)) (show kk _ ρ M = .ok (.g (.str "put")) M from rfl)).trans ((eqS ok_put ok_put M).trans ?_))
    have : PyData.eqv (.str ("put" : Str)) (.str ("put" : Str)) = true := by decide +kernel
    rw [this]
    rfl
  | none =>
    refine tst_ok ((b2_ok ((b2_ok h (show kk (.int 0) ρ M = .ok (dI 0) M from rfl)).trans (show ixD _ _ M = .ok (.g (.str "take")) M from rfl)) (show kk _ ρ M = .ok (.g (.str "put")) M from rfl)).trans ((eqS ok_take ok_put M).trans ?_))
    have : PyData.eqv (.str ("take" : Str)) (.str ("put" : Str)) = false := by decide +kernel
    rw [this]
    rfl
theorem din_ok {M : Mem} {ρ : Slots} {g1 g2 : Slots → Co Dv} {i : Nat} {k : Int} {kvs : List (Int × Dv)} (h1 : g1 ρ M = .ok (dI k) M) (h2 : g2 ρ M = .ok (.r i) M) (h : M[i]? = some (.dct kvs)) : dinI false g1 g2 ρ M = .ok (vB (dvV kvs k).isSome) M := by
  unfold dinI
  rw [bnd_ok h1]
  show bnd _ _ M = _
  rw [bnd_ok h2]
  simp [bnd, ofO, asI, dI, rt, atM, h]
end Xt
namespace K07
open Xt PySem
open Wv (HT En)
theorem beg_ok {n s iw it : Nat} {ds : PyData} {M : Mem} {w : Wv.W} {a b : HT} {dt da db : Dv} {kvs : List (Int × Dv)} {Sa Sb Sw : List Nat} (I : Wv.Inv w) (hl : w.wk.length < 1000)
    (hs : M[s]? = some (wvo dt ds w.ent iw it w.mc)) (hw : M[iw]? = some (.dct kvs)) (ht : M[it]? = some (.lst (w.tk.map tkD))) (hQ : RepX M one1' [] 0 w.wk kvs Sw) (ha : Rep M a da Sa) (hb : Rep M b db Sb) (nd : ((Sa ++ Sb) ++ Sw).Nodup) :
    ∃ M', F_Weaving_begin (n + 4) [.r s, da, db] M = .ok (.g .none) M' ∧ WR s ds M' (w.beg a b) := by
  have hau := Rep_u ha
  have hbu := Rep_u hb
  have nsw : s ≠ iw := ne_of hs hw (fun e => nomatch e)
  have nst : s ≠ it := ne_of hs ht (fun e => nomatch e)
  have nwt : iw ≠ it := ne_of hw ht (fun e => nomatch e)
  have cnt := nd_cnt.mp nd
  let iH := M.length
  let H : MO := plc (.g .none) (dI (w.mc + 1)) (.g .none) (.g .none)
  let M0 := M.set s (wvo dt ds w.ent iw it (w.mc + 1))
  let M1 := M0 ++ [H]
  let M2 := M1.set s (wvo (.r iH) ds w.ent iw it (w.mc + 1))
  let kvs' := kvs ++ [(w.ent, enD (w.mc + 1) da db)]
  let M3 := M2.set iw (.dct kvs')
  let M4 := M3.set s (wvo (.r iH) ds (w.ent + 1) iw it (w.mc + 1))
  have len0 : M0.length = iH := List.length_set
  have hs0 : M0[s]? = some (wvo dt ds w.ent iw it (w.mc + 1)) := get_set hs
  have hs1 : M1[s]? = some (wvo dt ds w.ent iw it (w.mc + 1)) := get_app hs0
  have hs2 : M2[s]? = some (wvo (.r iH) ds w.ent iw it (w.mc + 1)) := get_set hs1
  have lts := lt_of hs
  have ltw := lt_of hw
  have nsH : s ≠ iH := by omega
  have nwH : iw ≠ iH := by omega
  have hH1 : M1[iH]? = some H := by
    rw [← len0]
    exact get_push
  have hH2 : M2[iH]? = some H := (get_set_ne nsH).trans hH1
  have hw2 : M2[iw]? = some (.dct kvs) := (get_set_ne nsw).trans (get_app ((get_set_ne nsw).trans hw))
  have hw3 : M3[iw]? = some (.dct kvs') := get_set hw2
  have hs3 : M3[s]? = some (wvo (.r iH) ds w.ent iw it (w.mc + 1)) := (get_set_ne (Ne.symm nsw)).trans hs2
  have hs4 : M4[s]? = some (wvo (.r iH) ds (w.ent + 1) iw it (w.mc + 1)) := get_set hs3
  have hw4 : M4[iw]? = some (.dct kvs') := (get_set_ne nsw).trans hw3
  have ht4 : M4[it]? = some (.lst (w.tk.map tkD)) := (get_set_ne nst).trans ((get_set_ne nwt).trans ((get_set_ne nst).trans (get_app ((get_set_ne nst).trans ht))))
  have hH4 : M4[iH]? = some H := (get_set_ne nsH).trans ((get_set_ne nwH).trans hH2)
  have rp : ∀ {t : HT} {d : Dv} {S : List Nat}, Rep M t d S → Rep M4 t d S := fun h => Rep_set (Rep_set (Rep_set (Rep_set h hs wvo_ne).app hs1 wvo_ne) hw2 dct_ne) hs3 wvo_ne
  have rx : ∀ {Q : List En} {kvs : List (Int × Dv)} {S : List Nat}, RepX M one1' [] 0 Q kvs S → RepX M4 one1' [] 0 Q kvs S := fun h => RepX_set (RepX_set (RepX_set (RepX_app (RepX_set h hs wvo_ne)) hs1 wvo_ne) hw2 dct_ne) hs3 wvo_ne
  have kn : ∀ e ∈ kvs, e.1 ≠ w.ent := fun e he => by
    obtain ⟨g, hg, h⟩ := List.mem_map.mp (mem_keys hQ.keys he)
    rw [← h]
    have := I.lt g hg
    omega
  have eP : ∀ v, dvP kvs w.ent v = kvs ++ [(w.ent, v)] := fun v => by
    unfold dvP
    rw [dvV_none kn]
  have lenk : kvs.length < 1000 := by
    have a := congrArg List.length hQ.keys
    simp only [List.length_map] at a
    omega
  refine ⟨M4, ?_, .r iH, iw, it, kvs', [iH], Sw ++ ((Sa ++ Sb) ++ []), hs4, hw4, ht4, ⟨iH, rfl, rfl, hH4⟩, (rx hQ).join ⟨da, db, [], Sa, Sb, [], rfl, rp ha, rp hb, ⟨rfl, rfl⟩, fun _ => rfl, fun z => by cases z⟩, nd_cnt.mpr fun j => ?_⟩
  · show defF 3 3 (b_Weaving_begin (F_Weaving_hole (n + 3))) [.r s, da, db] M = _
    refine def_nx (ρ := [.r s, da, db]) rfl ?_
    show b_Weaving_begin _ [.r s, da, db] M = _
    have o0 : ∀ M, sl 0 [.r s, da, db] M = .ok (.r s) M := fun _ => rfl
    have o1 : ∀ M, sl 1 [.r s, da, db] M = .ok da M := fun _ => sl_ok rfl hau
    have o2 : ∀ M, sl 2 [.r s, da, db] M = .ok db M := fun _ => sl_ok rfl hbu
    have h1 : mtC "Weaving" "hole" (F_Weaving_hole (n + 3)) (sl 0) ac0 [.r s, da, db] M = .ok (.r iH) M1 := (mt_ok (o0 M) hs lk_hole ac0_ok).trans (hole_ok hs)
    refine (sq_nx (sfl_ok h1 (o0 M1) hs1)).trans ?_
    rw [pt_top]
    have h2 : tup (ac (b1 (fldD "Place" "mark") (b1 (fldD "Weaving" "top") (sl 0))) (ac (sl 1) (ac (sl 2) ac0))) [.r s, da, db] M2 = .ok (enD (w.mc + 1) da db) M2 := tup_ok (ac_ok ((b1_ok ((b1_ok (o0 M2)).trans (fld_ok hs2 lk_top))).trans (fld_ok hH2 lk_mark)) (ac_ok (o1 M2) (ac_ok (o2 M2) ac0_ok)))
    refine (sq_nx (asg_ok h2 (tSubD_ok ((b1_ok (o0 M2)).trans (fld_ok hs2 lk_work)) ((b1_ok (o0 M2)).trans (fld_ok hs2 lk_entered)) hw2 lenk))).trans ?_
    rw [eP]
    have h3 : b2 addD (b1 (fldD "Weaving" "entered") (sl 0)) (kk (.int 1)) [.r s, da, db] M3 = .ok (dI (w.ent + 1)) M3 := (b2_ok ((b1_ok (o0 M3)).trans (fld_ok hs3 lk_entered)) (show kk (.int 1) [.r s, da, db] M3 = .ok (dI 1) M3 from rfl)).trans rfl
    refine (sq_nx (sfl_ok h3 (o0 M3) hs3)).trans ?_
    rw [pt_entered]
    rfl
  · have c := cnt j
    have h1 : Sa.count iH = 0 := List.count_eq_zero.mpr fun y => absurd (ha.lt y) (Nat.lt_irrefl _)
    have h2 : Sb.count iH = 0 := List.count_eq_zero.mpr fun y => absurd (hb.lt y) (Nat.lt_irrefl _)
    have h3 : Sw.count iH = 0 := List.count_eq_zero.mpr fun y => by
      obtain ⟨_, _, _, _, e⟩ := hQ.at y
      exact absurd (lt_of e) (Nat.lt_irrefl _)
    simp only [List.count_append, List.count_cons, List.count_nil, beq_iff_eq] at c ⊢
    by_cases z : iH = j
    · rw [← z, if_pos rfl]
      omega
    · rw [if_neg z]
      omega
theorem tk_app (w : Wv.W) (x : Option Int) : (w.tk ++ [x]).map tkD = w.tk.map tkD ++ [tkD x] := by simp
theorem enter_ok {n s : Nat} {ds : PyData} {M : Mem} {w : Wv.W} (d : Option Int) (I : Wv.Inv w) (hn : Wv.tot w + 10 ≤ n) (hl : w.wk.length < 900) (htk : w.tk.length < 900) (R : WR s ds M w) :
    ∃ M', F_Weaving_enter (n + 2) [.r s, .g (deD d)] M = .ok (.g .none) M' ∧ WR s ds M' (w.enter d) := by
  have R0 := R
  obtain ⟨dt, iw, it, kvs, St, Sw, hs, hw, ht, hT, hQ, nd⟩ := R
  obtain ⟨n, rfl⟩ : ∃ m, n = m + 4 := ⟨n - 4, by omega⟩
  have htu := Rep_u hT
  have nsw : s ≠ iw := ne_of hs hw (fun e => nomatch e)
  have nst : s ≠ it := ne_of hs ht (fun e => nomatch e)
  have nwt : iw ≠ it := ne_of hw ht (fun e => nomatch e)
  have o0 : ∀ M, sl 0 [.r s, .g (deD d), dt] M = .ok (.r s) M := fun _ => rfl
  have o1 : ∀ M, sl 1 [.r s, .g (deD d), dt] M = .ok (.g (deD d)) M := fun _ => rfl
  have o2 : ∀ M, sl 2 [.r s, .g (deD d), dt] M = .ok dt M := fun _ => sl_ok rfl htu
  have st1 : asg (b1 (fldD "Weaving" "top") (sl 0)) (tN 2) [.r s, .g (deD d), .u] M = .ok (.nx [.r s, .g (deD d), dt]) M := asg_ok ((b1_ok (show sl 0 _ M = .ok (.r s) M from rfl)).trans (fld_ok hs lk_top)) rfl
  have tH : trV (cB (F_is_hole (n + 4)) (ac (sl 2) ac0)) [.r s, .g (deD d), dt] M = .ok w.top.isH M := trV_ok ((cB_ok (ac_ok (o2 M) ac0_ok)).trans (is_hole_ok _ hT))
  have tN : tst (b1 (isN false) (sl 2)) [.r s, .g (deD d), dt] M = .ok w.top.isE M := tst_ok ((b1_ok (o2 M)).trans ((isN_rep hT false).trans (by cases w.top.isE <;> rfl)))
  show ∃ M', defF 3 2 (b_Weaving_enter (F_Weaving_step (n + 4)) (F_Weaving_begin (n + 4)) (F_Place_init (n + 4)) (F_is_hole (n + 4))) [.r s, .g (deD d)] M = _ ∧ _
  have cnt := nd_cnt.mp nd
  cases eT : w.top with
  | h m =>
    rw [eT] at tH
    have ew : w.enter d = w := by
      unfold Wv.W.enter
      rw [eT]
    rw [ew]
    refine ⟨M, def_rt rfl ?_, R0⟩
    refine (sq_nx st1).trans ?_
    exact sq_rt ((ifs_t tH).trans (sq_rt rfl))
  | e =>
    cases d with
    | some k =>
      have ew : w.enter (some k) = (w.beg w.top (.n k .e .e)).step w.ent := by
        unfold Wv.W.enter
        rw [eT]
      rw [ew]
      rw [eT] at tH
      have tP : tst (b2 (eqD false) (b2 ixD (sl 1) (kk (.int 0))) (kk (.str "put"))) [.r s, .g (deD (some k)), dt] M = .ok true M := isput (o1 M)
      let P : MO := plc (dI k) (dI 0) (.g .none) (.g .none)
      let M1 := M ++ [P]
      have hP : M1[M.length]? = some P := get_push
      have rb : Rep M1 (.n k .e .e) (.r M.length) (M.length :: ([] ++ [])) := ⟨M.length, .g .none, .g .none, [], [], 0, rfl, hP, ⟨rfl, rfl⟩, ⟨rfl, rfl⟩, rfl⟩
      obtain ⟨M2, b1', b2'⟩ := beg_ok (n := n) (ds := ds) I (by omega) (get_app hs) (get_app hw) (get_app ht) (RepX_app hQ) hT.app rb (nd_cnt.mpr fun j => by
        have c := cnt j
        have h1 : St.count M.length = 0 := List.count_eq_zero.mpr fun y => absurd (hT.lt y) (Nat.lt_irrefl _)
        have h2 : Sw.count M.length = 0 := List.count_eq_zero.mpr fun y => by
          obtain ⟨_, _, _, _, e⟩ := hQ.at y
          exact absurd (lt_of e) (Nat.lt_irrefl _)
        simp only [List.count_append, List.count_cons, List.count_nil, beq_iff_eq] at c ⊢
        by_cases z : M.length = j
        · rw [← z, if_pos rfl]
          omega
        · rw [if_neg z]
          omega)
      have I2 : Wv.Inv (w.beg w.top (.n k .e .e)) := I.beg fun m => by simp [HT.hs]
      have t2 := Wv.tot_beg w w.top (.n k .e .e)
      simp only [HT.sz] at t2
      have lk2 : Wv.look (w.beg w.top (.n k .e .e)).wk w.ent = some ⟨w.ent, w.mc + 1, w.top, .n k .e .e⟩ := look_app (f := ⟨w.ent, w.mc + 1, w.top, .n k .e .e⟩) fun g hg => by
        have := I.lt g hg
        show g.i ≠ w.ent
        omega
      have l2 : (w.beg w.top (.n k .e .e)).wk.length < 1000 := by
        unfold Wv.W.beg
        simp only [List.length_append, List.length_cons, List.length_nil]
        omega
      obtain ⟨M3, c1', c2'⟩ := step_ok (n := n + 3) I2 (by omega) l2 lk2 b2'
      obtain ⟨dt2, iw2, it2, kvs2, St2, Sw2, hs2, _⟩ := b2'
      refine ⟨M3, def_nx (ρ := [.r s, .g (deD (some k)), dt]) rfl ?_, c2'⟩
      refine (sq_nx st1).trans ?_
      refine (sq_nx (M' := M) (ρ' := [.r s, .g (deD (some k)), dt]) ((ifs_f tH).trans rfl)).trans ?_
      refine (sq_nx (M' := M3) (ρ' := [.r s, .g (deD (some k)), dt]) ((ifs_t tP).trans ?_)).trans rfl
      have a1 : ac (b2 ixD (sl 1) (kk (.int 1))) (ac (kk (.int 0)) ac0) [.r s, .g (deD (some k)), dt] M = .ok [dI k, dI 0] M := by rfl
      have a2 : mkC "Place" (F_Place_init (n + 4)) (ac (b2 ixD (sl 1) (kk (.int 1))) (ac (kk (.int 0)) ac0)) [.r s, .g (deD (some k)), dt] M = .ok (.r M.length) M1 := new_ok a1 (fun z => nomatch z) (fun z => nomatch z)
      refine (sq_nx (drp_ok ((mt_ok (o0 M) hs lk_begin (ac_ok (o2 M) (ac_ok a2 ac0_ok))).trans b1'))).trans ?_
      have a3 : b2 subD (b1 (fldD "Weaving" "entered") (sl 0)) (kk (.int 1)) [.r s, .g (deD (some k)), dt] M2 = .ok (dI w.ent) M2 := by
        refine (b2_ok ((b1_ok (o0 M2)).trans (fld_ok hs2 lk_entered)) (show kk (.int 1) _ M2 = .ok (dI 1) M2 from rfl)).trans ?_
        show RE.ok (dI ((w.beg w.top (.n k .e .e)).ent - 1)) M2 = _
        have : (w.beg w.top (.n k .e .e)).ent - 1 = w.ent := by
          show w.ent + 1 - 1 = w.ent
          omega
        rw [this]
      refine (sq_nx (drp_ok ((mt_ok (o0 M2) hs2 lk_step (ac_ok a3 ac0_ok)).trans c1'))).trans rfl
    | none =>
      have ew : w.enter none = { w with ent := w.ent + 1, tk := w.tk ++ [none] } := by
        unfold Wv.W.enter
        rw [eT]
      rw [ew]
      rw [eT] at tH tN
      have tP : tst (b2 (eqD false) (b2 ixD (sl 1) (kk (.int 0))) (kk (.str "put"))) [.r s, .g (deD none), dt] M = .ok false M := isput (o1 M)
      let M1 := M.set s (wvo dt ds (w.ent + 1) iw it w.mc)
      have hs1 : M1[s]? = some (wvo dt ds (w.ent + 1) iw it w.mc) := get_set hs
      have ht1 : M1[it]? = some (.lst (w.tk.map tkD)) := (get_set_ne nst).trans ht
      let M2 := M1.set it (.lst (w.tk.map tkD ++ [.g .none]))
      have hs2 : M2[s]? = some (wvo dt ds (w.ent + 1) iw it w.mc) := (get_set_ne (Ne.symm nst)).trans hs1
      have hw2 : M2[iw]? = some (.dct kvs) := (get_set_ne (Ne.symm nwt)).trans ((get_set_ne nsw).trans hw)
      have ht2 : M2[it]? = some (.lst ((w.tk ++ [none]).map tkD)) := by
        rw [tk_app]
        exact get_set ht1
      refine ⟨M2, def_nx (ρ := [.r s, .g (deD none), dt]) rfl ?_, dt, iw, it, kvs, St, Sw, hs2, hw2, ht2, Rep_set (Rep_set hT hs wvo_ne) ht1 lst_ne, RepX_set (RepX_set hQ hs wvo_ne) ht1 lst_ne, nd⟩
      refine (sq_nx st1).trans ?_
      refine (sq_nx (M' := M) (ρ' := [.r s, .g (deD none), dt]) ((ifs_f tH).trans rfl)).trans ?_
      refine (sq_nx (M' := M2) (ρ' := [.r s, .g (deD none), dt]) ((ifs_f tP).trans ?_)).trans rfl
      refine (sq_nx (M' := M2) (ρ' := [.r s, .g (deD none), dt]) ((ifs_t tN).trans ?_)).trans rfl
      have h3 : b2 addD (b1 (fldD "Weaving" "entered") (sl 0)) (kk (.int 1)) [.r s, .g (deD none), dt] M = .ok (dI (w.ent + 1)) M := (b2_ok ((b1_ok (o0 M)).trans (fld_ok hs lk_entered)) (show kk (.int 1) _ M = .ok (dI 1) M from rfl)).trans rfl
      refine (sq_nx (sfl_ok h3 (o0 M) hs)).trans ?_
      rw [pt_entered]
      refine (sq_nx (drp_ok (app_ok ((b1_ok (o0 M1)).trans (fld_ok hs1 lk_taken)) ht1 (show kk .none _ M1 = .ok (.g .none) M1 from rfl) (by rw [List.length_map]; omega)))).trans rfl
  | n k l r =>
    have hT0 := hT
    rw [eT] at hT tH tN
    obtain ⟨iT, dl, dr, Sl, Sr, mm, rfl, hR, hL1, hR1, rfl⟩ := hT
    cases d with
    | some k' =>
      have ew : w.enter (some k') = (w.beg w.top (.n k' .e .e)).step w.ent := by
        unfold Wv.W.enter
        rw [eT]
      rw [ew]
      have tP : tst (b2 (eqD false) (b2 ixD (sl 1) (kk (.int 0))) (kk (.str "put"))) [.r s, .g (deD (some k')), .r iT] M = .ok true M := isput (o1 M)
      let P : MO := plc (dI k') (dI 0) (.g .none) (.g .none)
      let M1 := M ++ [P]
      have hP : M1[M.length]? = some P := get_push
      have rb : Rep M1 (.n k' .e .e) (.r M.length) (M.length :: ([] ++ [])) := ⟨M.length, .g .none, .g .none, [], [], 0, rfl, hP, ⟨rfl, rfl⟩, ⟨rfl, rfl⟩, rfl⟩
      obtain ⟨M2, b1', b2'⟩ := beg_ok (n := n) (ds := ds) I (by omega) (get_app hs) (get_app hw) (get_app ht) (RepX_app hQ) hT0.app rb (nd_cnt.mpr fun j => by
        have c := cnt j
        have h1 : (iT :: (Sl ++ Sr)).count M.length = 0 := List.count_eq_zero.mpr fun y => absurd (hT0.lt y) (Nat.lt_irrefl _)
        have h2 : Sw.count M.length = 0 := List.count_eq_zero.mpr fun y => by
          obtain ⟨_, _, _, _, e⟩ := hQ.at y
          exact absurd (lt_of e) (Nat.lt_irrefl _)
        have e0 : (M.length :: ([] ++ [] : List Nat)).count j = if M.length = j then 1 else 0 := by
          simp only [List.append_nil, List.count_cons, List.count_nil, beq_iff_eq, Nat.zero_add]
        simp only [List.count_append] at c ⊢
        rw [e0]
        by_cases z : M.length = j
        · rw [← z] at c ⊢
          rw [if_pos rfl]
          omega
        · rw [if_neg z]
          omega)
      have I2 : Wv.Inv (w.beg w.top (.n k' .e .e)) := I.beg fun m => by simp [HT.hs]
      have t2 := Wv.tot_beg w w.top (.n k' .e .e)
      have t3 : (HT.n k' .e .e).sz = 1 := rfl
      have lk2 : Wv.look (w.beg w.top (.n k' .e .e)).wk w.ent = some ⟨w.ent, w.mc + 1, w.top, .n k' .e .e⟩ := look_app (f := ⟨w.ent, w.mc + 1, w.top, .n k' .e .e⟩) fun g hg => by
        have := I.lt g hg
        show g.i ≠ w.ent
        omega
      have l2 : (w.beg w.top (.n k' .e .e)).wk.length < 1000 := by
        unfold Wv.W.beg
        simp only [List.length_append, List.length_cons, List.length_nil]
        omega
      obtain ⟨M3, c1', c2'⟩ := step_ok (n := n + 3) I2 (by omega) l2 lk2 b2'
      obtain ⟨dt2, iw2, it2, kvs2, St2, Sw2, hs2, _⟩ := b2'
      refine ⟨M3, def_nx (ρ := [.r s, .g (deD (some k')), .r iT]) rfl ?_, c2'⟩
      refine (sq_nx st1).trans ?_
      refine (sq_nx (M' := M) (ρ' := [.r s, .g (deD (some k')), .r iT]) ((ifs_f tH).trans rfl)).trans ?_
      refine (sq_nx (M' := M3) (ρ' := [.r s, .g (deD (some k')), .r iT]) ((ifs_t tP).trans ?_)).trans rfl
      have a1 : ac (b2 ixD (sl 1) (kk (.int 1))) (ac (kk (.int 0)) ac0) [.r s, .g (deD (some k')), .r iT] M = .ok [dI k', dI 0] M := by rfl
      have a2 : mkC "Place" (F_Place_init (n + 4)) (ac (b2 ixD (sl 1) (kk (.int 1))) (ac (kk (.int 0)) ac0)) [.r s, .g (deD (some k')), .r iT] M = .ok (.r M.length) M1 := new_ok a1 (fun z => nomatch z) (fun z => nomatch z)
      refine (sq_nx (drp_ok ((mt_ok (o0 M) hs lk_begin (ac_ok (o2 M) (ac_ok a2 ac0_ok))).trans b1'))).trans ?_
      have a3 : b2 subD (b1 (fldD "Weaving" "entered") (sl 0)) (kk (.int 1)) [.r s, .g (deD (some k')), .r iT] M2 = .ok (dI w.ent) M2 := by
        refine (b2_ok ((b1_ok (o0 M2)).trans (fld_ok hs2 lk_entered)) (show kk (.int 1) _ M2 = .ok (dI 1) M2 from rfl)).trans ?_
        show RE.ok (dI ((w.beg w.top (.n k' .e .e)).ent - 1)) M2 = _
        have : (w.beg w.top (.n k' .e .e)).ent - 1 = w.ent := by
          show w.ent + 1 - 1 = w.ent
          omega
        rw [this]
      refine (sq_nx (drp_ok ((mt_ok (o0 M2) hs2 lk_step (ac_ok a3 ac0_ok)).trans c1'))).trans rfl
    | none =>
      have tP : tst (b2 (eqD false) (b2 ixD (sl 1) (kk (.int 0))) (kk (.str "put"))) [.r s, .g (deD none), .r iT] M = .ok false M := isput (o1 M)
      have vl : ∀ {M : Mem} {k : Int}, M[iT]? = some (plc (dI k) (dI mm) dl dr) → b1 (fldD "Place" "left") (sl 2) [.r s, .g (deD none), .r iT] M = .ok dl M := fun {M k} h => (b1_ok (show sl 2 _ M = .ok (.r iT) M from rfl)).trans (fld_ok h lk_left)
      have vr : ∀ {M : Mem} {k : Int}, M[iT]? = some (plc (dI k) (dI mm) dl dr) → b1 (fldD "Place" "right") (sl 2) [.r s, .g (deD none), .r iT] M = .ok dr M := fun {M k} h => (b1_ok (show sl 2 _ M = .ok (.r iT) M from rfl)).trans (fld_ok h lk_right)
      have tA : tand (tnt (trV (cB (F_is_hole (n + 4)) (ac (b1 (fldD "Place" "left") (sl 2)) ac0)))) (tnt (trV (cB (F_is_hole (n + 4)) (ac (b1 (fldD "Place" "right") (sl 2)) ac0)))) [.r s, .g (deD none), .r iT] M = .ok (!(l.isH || r.isH)) M := by
        have h1 := tnt_ok (trV_ok ((cB_ok (ac_ok (vl hR) ac0_ok)).trans (is_hole_ok (n + 3) hL1)))
        have h2 := tnt_ok (trV_ok ((cB_ok (ac_ok (vr hR) ac0_ok)).trans (is_hole_ok (n + 3) hR1)))
        cases e : l.isH with
        | true =>
          rw [e] at h1
          exact tand_f h1
        | false =>
          rw [e] at h1
          exact (tand_t h1).trans h2
      have tX : ∀ {M' : Mem}, M'[iT]? = some (plc (dI k) (dI mm) dl dr) → tor (tst (b1 (isN false) (b1 (fldD "Place" "left") (sl 2)))) (tst (b1 (isN false) (b1 (fldD "Place" "right") (sl 2)))) [.r s, .g (deD none), .r iT] M' = .ok (l.isE || r.isE) M' := fun {M'} h => by
        have h1 : tst (b1 (isN false) (b1 (fldD "Place" "left") (sl 2))) [.r s, .g (deD none), .r iT] M' = .ok l.isE M' := tst_ok ((b1_ok (vl h)).trans ((isN_rep hL1 false).trans (by cases l.isE <;> rfl)))
        have h2 : tst (b1 (isN false) (b1 (fldD "Place" "right") (sl 2))) [.r s, .g (deD none), .r iT] M' = .ok r.isE M' := tst_ok ((b1_ok (vr h)).trans ((isN_rep hR1 false).trans (by cases r.isE <;> rfl)))
        cases e : l.isE with
        | true =>
          rw [e] at h1
          exact tor_t h1
        | false =>
          rw [e] at h1
          exact (tor_f h1).trans h2
      cases eH : (l.isH || r.isH) with
      | true =>
        rw [eH] at tA
        have ew : w.enter none = w := by
          unfold Wv.W.enter
          rw [eT]
          simp only
          rw [if_pos eH]
        rw [ew]
        refine ⟨M, def_nx (ρ := [.r s, .g (deD none), .r iT]) rfl ?_, R0⟩
        refine (sq_nx st1).trans ?_
        refine (sq_nx (M' := M) (ρ' := [.r s, .g (deD none), .r iT]) ((ifs_f tH).trans rfl)).trans ?_
        refine (sq_nx (M' := M) (ρ' := [.r s, .g (deD none), .r iT]) ((ifs_f tP).trans ?_)).trans rfl
        refine (sq_nx (M' := M) (ρ' := [.r s, .g (deD none), .r iT]) ((ifs_f tN).trans ?_)).trans rfl
        exact (sq_nx (M' := M) (ρ' := [.r s, .g (deD none), .r iT]) ((ifs_f tA).trans rfl)).trans rfl
      | false =>
        rw [eH] at tA
        let M1 := M.set it (.lst (w.tk.map tkD ++ [dI k]))
        have hs1 : M1[s]? = some (wvo (.r iT) ds w.ent iw it w.mc) := (get_set_ne (Ne.symm nst)).trans hs
        have hw1 : M1[iw]? = some (.dct kvs) := (get_set_ne (Ne.symm nwt)).trans hw
        have ht1 : M1[it]? = some (.lst ((w.tk ++ [some k]).map tkD)) := by
          rw [tk_app]
          exact get_set ht
        have nT : iT ≠ it := pl_ne ht lst_ne ⟨_, _, _, _, hR⟩
        have hR1' : M1[iT]? = some (plc (dI k) (dI mm) dl dr) := (get_set_ne (Ne.symm nT)).trans hR
        have hap : drp (app (b1 (fldD "Weaving" "taken") (sl 0)) (b1 (fldD "Place" "key") (sl 2))) [.r s, .g (deD none), .r iT] M = .ok (.nx [.r s, .g (deD none), .r iT]) M1 := drp_ok (app_ok ((b1_ok (o0 M)).trans (fld_ok hs lk_taken)) ht ((b1_ok (show sl 2 _ M = .ok (.r iT) M from rfl)).trans (fld_ok hR lk_key)) (by rw [List.length_map]; omega))
        have l1 := Rep_set (b := .lst (w.tk.map tkD ++ [dI k])) hL1 ht lst_ne
        have r1 := Rep_set (b := .lst (w.tk.map tkD ++ [dI k])) hR1 ht lst_ne
        have q1 := RepX_set (b := .lst (w.tk.map tkD ++ [dI k])) hQ ht lst_ne
        have wrap : ∀ {M' : Mem}, (ifs (tor (tst (b1 (isN false) (b1 (fldD "Place" "left") (sl 2)))) (tst (b1 (isN false) (b1 (fldD "Place" "right") (sl 2))))) (sq (sfl "Weaving" "top" (sl 0) (iff (tst (b1 (isN false) (b1 (fldD "Place" "left") (sl 2)))) (b1 (fldD "Place" "right") (sl 2)) (b1 (fldD "Place" "left") (sl 2))))
    (sq (sfl "Weaving" "entered" (sl 0) (b2 addD (b1 (fldD "Weaving" "entered") (sl 0)) (kk (.int 1))))
    skp)) (sq (drp (mtC "Weaving" "begin" (F_Weaving_begin (n + 4)) (sl 0) (ac (b1 (fldD "Place" "left") (sl 2)) (ac (b1 (fldD "Place" "right") (sl 2)) ac0))))
    skp)) [.r s, .g (deD none), .r iT] M1 = .ok (.nx [.r s, .g (deD none), .r iT]) M' → defF 3 2 (b_Weaving_enter (F_Weaving_step (n + 4)) (F_Weaving_begin (n + 4)) (F_Place_init (n + 4)) (F_is_hole (n + 4))) [.r s, .g (deD none)] M = .ok (.g .none) M' := fun {M'} h => by
          refine def_nx (ρ := [.r s, .g (deD none), .r iT]) rfl ?_
          refine (sq_nx st1).trans ?_
          refine (sq_nx (M' := M) (ρ' := [.r s, .g (deD none), .r iT]) ((ifs_f tH).trans rfl)).trans ?_
          refine (sq_nx (M' := M') (ρ' := [.r s, .g (deD none), .r iT]) ((ifs_f tP).trans ?_)).trans rfl
          refine (sq_nx (M' := M') (ρ' := [.r s, .g (deD none), .r iT]) ((ifs_f tN).trans ?_)).trans rfl
          refine (sq_nx (M' := M') (ρ' := [.r s, .g (deD none), .r iT]) ((ifs_t tA).trans ?_)).trans rfl
          exact (sq_nx hap).trans ((sq_nx h).trans rfl)
        cases eE : (l.isE || r.isE) with
        | true =>
          have ew : w.enter none = { w with top := if l.isE then r else l, ent := w.ent + 1, tk := w.tk ++ [some k] } := by
            unfold Wv.W.enter
            rw [eT]
            simp only
            rw [if_neg (by rw [eH]; exact fun z => nomatch z), if_pos eE]
          rw [ew]
          have tX1 := tX hR1'
          rw [eE] at tX1
          have tl : tst (b1 (isN false) (b1 (fldD "Place" "left") (sl 2))) [.r s, .g (deD none), .r iT] M1 = .ok l.isE M1 := tst_ok ((b1_ok (vl hR1')).trans ((isN_rep hL1 false).trans (by cases l.isE <;> rfl)))
          obtain ⟨dx, Sx, hx1, hx2, hx3⟩ : ∃ dx Sx, Rep M1 (if l.isE then r else l) dx Sx ∧ iff (tst (b1 (isN false) (b1 (fldD "Place" "left") (sl 2)))) (b1 (fldD "Place" "right") (sl 2)) (b1 (fldD "Place" "left") (sl 2)) [.r s, .g (deD none), .r iT] M1 = .ok dx M1 ∧ ∀ j, Sx.count j ≤ Sl.count j + Sr.count j := by
            cases e : l.isE with
            | true =>
              rw [e] at tl
              exact ⟨dr, Sr, r1, (iff_t tl).trans (vr hR1'), fun j => by omega⟩
            | false =>
              rw [e] at tl
              exact ⟨dl, Sl, l1, (iff_f tl).trans (vl hR1'), fun j => by omega⟩
          let M2 := M1.set s (wvo dx ds w.ent iw it w.mc)
          have hs2 : M2[s]? = some (wvo dx ds w.ent iw it w.mc) := get_set hs1
          let M3 := M2.set s (wvo dx ds (w.ent + 1) iw it w.mc)
          have hs3 : M3[s]? = some (wvo dx ds (w.ent + 1) iw it w.mc) := get_set hs2
          refine ⟨M3, wrap ((ifs_t tX1).trans ?_), dx, iw, it, kvs, Sx, Sw, hs3, (get_set_ne nsw).trans ((get_set_ne nsw).trans hw1), (get_set_ne nst).trans ((get_set_ne nst).trans ht1), Rep_set (Rep_set hx1 hs1 wvo_ne) hs2 wvo_ne, RepX_set (RepX_set q1 hs1 wvo_ne) hs2 wvo_ne, nd_cnt.mpr fun j => ?_⟩
          · refine (sq_nx (sfl_ok hx2 (o0 M1) hs1)).trans ?_
            rw [pt_top]
            have h3 : b2 addD (b1 (fldD "Weaving" "entered") (sl 0)) (kk (.int 1)) [.r s, .g (deD none), .r iT] M2 = .ok (dI (w.ent + 1)) M2 := (b2_ok ((b1_ok (o0 M2)).trans (fld_ok hs2 lk_entered)) (show kk (.int 1) _ M2 = .ok (dI 1) M2 from rfl)).trans rfl
            refine (sq_nx (sfl_ok h3 (o0 M2) hs2)).trans ?_
            rw [pt_entered]
            rfl
          · have c := cnt j
            have h := hx3 j
            simp only [List.count_append, List.count_cons] at c ⊢
            omega
        | false =>
          have ew : w.enter none = ({ w with tk := w.tk ++ [some k] } : Wv.W).beg l r := by
            unfold Wv.W.enter
            rw [eT]
            simp only
            rw [if_neg (by rw [eH]; exact fun z => nomatch z), if_neg (by rw [eE]; exact fun z => nomatch z)]
          rw [ew]
          have tX1 := tX hR1'
          rw [eE] at tX1
          have I1 : Wv.Inv { w with tk := w.tk ++ [some k] } := ⟨I.key, I.lt, I.nn, I.e0, I.nd, I.le, I.one, I.top, I.ok⟩
          obtain ⟨M2, b1', b2'⟩ := beg_ok (n := n) (ds := ds) (w := { w with tk := w.tk ++ [some k] }) I1 (show w.wk.length < 1000 by omega) hs1 hw1 ht1 q1 l1 r1 (nd_cnt.mpr fun j => by
            have c := cnt j
            simp only [List.count_append, List.count_cons] at c ⊢
            omega)
          refine ⟨M2, wrap ((ifs_f tX1).trans ?_), b2'⟩
          exact (sq_nx (drp_ok ((mt_ok (o0 M1) hs1 lk_begin (ac_ok (vl hR1') (ac_ok (vr hR1') ac0_ok))).trans b1'))).trans rfl
theorem atI_get {α : Type} {xs : List α} {i : Int} (h0 : 0 ≤ i) (h1 : i < xs.length) : L2.atI xs i = xs[i.toNat]? := by
  unfold L2.atI L2.ixN
  rw [if_pos h0, if_pos h1]
  rfl
/-- a turn -/
theorem turn_ok {n s : Nat} {M : Mem} {w : Wv.W} {des : List (Option Int)} {i : Int} (I : Wv.Inv w) (hn : Wv.tot w + 12 ≤ n) (hl : w.wk.length < 900) (htk : w.tk.length < 900) (hi : i = w.ent → i < des.length) (R : WR s (.tuple (des.map deD)) M w) :
    ∃ M', F_Weaving_turn (n + 1) [.r s, dI i] M = .ok (.g .none) M' ∧ WR s (.tuple (des.map deD)) M' (w.turn des i) := by
  have R0 := R
  obtain ⟨dt, iw, it, kvs, St, Sw, hs, hw, ht, hT, hQ, nd⟩ := R
  have o0 : ∀ M, sl 0 [.r s, dI i] M = .ok (.r s) M := fun _ => rfl
  have o1 : ∀ M, sl 1 [.r s, dI i] M = .ok (dI i) M := fun _ => rfl
  have tD : tst (dinI false (sl 1) (b1 (fldD "Weaving" "work") (sl 0))) [.r s, dI i] M = .ok (Wv.look w.wk i).isSome M := by
    rw [← RepX_lk i hQ]
    exact tst_ok (din_ok (o1 M) ((b1_ok (o0 M)).trans (fld_ok hs lk_work)) hw)
  show ∃ M', defF 2 2 (b_Weaving_turn (F_Weaving_step n) (F_Weaving_enter n)) [.r s, dI i] M = _ ∧ _
  cases e : Wv.look w.wk i with
  | some f =>
    rw [e] at tD
    have ew : w.turn des i = w.step i := by
      unfold Wv.W.turn
      rw [e]
    rw [ew]
    obtain ⟨n', rfl⟩ : ∃ m, n = m + 1 := ⟨n - 1, by omega⟩
    obtain ⟨M', h1, h2⟩ := step_ok (n := n') I (by omega) (by omega) e R0
    refine ⟨M', def_nx (ρ := [.r s, dI i]) rfl ?_, h2⟩
    refine (sq_nx (M' := M') (ρ' := [.r s, dI i]) ((ifs_t tD).trans ?_)).trans rfl
    exact (sq_nx (drp_ok ((mt_ok (o0 M) hs lk_step (ac_ok (o1 M) ac0_ok)).trans h1))).trans rfl
  | none =>
    rw [e] at tD
    have tQ : tst (b2 (eqD false) (sl 1) (b1 (fldD "Weaving" "entered") (sl 0))) [.r s, dI i] M = .ok (decide (i = w.ent)) M := tst_ok ((b2_ok (o1 M) ((b1_ok (o0 M)).trans (fld_ok hs lk_entered))).trans (eqI i w.ent M))
    by_cases z : i = w.ent
    · have e0 := I.e0
      have hi2 := hi z
      obtain ⟨d, hd⟩ : ∃ d, des[i.toNat]? = some d := ⟨des[i.toNat]'(by omega), List.getElem?_eq_getElem (by omega)⟩
      have ew : w.turn des i = w.enter d := by
        unfold Wv.W.turn
        rw [e]
        simp only
        rw [if_pos z, hd]
      rw [ew]
      rw [decide_eq_true z] at tQ
      obtain ⟨n', rfl⟩ : ∃ m, n = m + 2 := ⟨n - 2, by omega⟩
      obtain ⟨M', h1, h2⟩ := enter_ok (n := n') d I (by omega) hl htk R0
      have hx : b2 ixD (b1 (fldD "Weaving" "deeds") (sl 0)) (sl 1) [.r s, dI i] M = .ok (.g (deD d)) M := by
        refine (b2_ok ((b1_ok (o0 M)).trans (fld_ok hs lk_deeds)) (o1 M)).trans ?_
        have : L2.atI (des.map deD) i = some (deD d) := by
          rw [atI_get (by omega) (by rw [List.length_map]; exact hi2), List.getElem?_map, hd]
          rfl
        simp [ixD, bnd, ofO, asI, dI, rt, this]
      refine ⟨M', def_nx (ρ := [.r s, dI i]) rfl ?_, h2⟩
      refine (sq_nx (M' := M') (ρ' := [.r s, dI i]) ((ifs_f tD).trans ?_)).trans rfl
      refine (sq_nx (M' := M') (ρ' := [.r s, dI i]) ((ifs_t tQ).trans ?_)).trans rfl
      exact (sq_nx (drp_ok ((mt_ok (o0 M) hs lk_enter (ac_ok hx ac0_ok)).trans h1))).trans rfl
    · have ew : w.turn des i = w := by
        unfold Wv.W.turn
        rw [e]
        simp only
        rw [if_neg z]
      rw [ew]
      rw [decide_eq_false z] at tQ
      refine ⟨M, def_nx (ρ := [.r s, dI i]) rfl ?_, R0⟩
      refine (sq_nx (M' := M) (ρ' := [.r s, dI i]) ((ifs_f tD).trans ?_)).trans rfl
      exact (sq_nx (M' := M) (ρ' := [.r s, dI i]) ((ifs_f tQ).trans rfl)).trans rfl
end K07
set_option Elab.async false
set_option linter.all false
set_option maxRecDepth 100000
set_option maxHeartbeats 1000000
/-! wm8: opened, closed, the weaving's start -/
namespace Xt
open PySem
open Wv (HT En)
def ofTr : Tr → HT
  | .e => .e
  | .n k l r => .n k (ofTr l) (ofTr r)
theorem ofTr_hs : ∀ t : Tr, (ofTr t).hs = []
  | .e => rfl
  | .n k l r => by simp [ofTr, HT.hs, ofTr_hs l, ofTr_hs r]
theorem ofTr_sz : ∀ t : Tr, (ofTr t).sz = t.sz
  | .e => rfl
  | .n k l r => by simp [ofTr, HT.sz, Tr.sz, ofTr_sz l, ofTr_sz r]; omega
/-- a heap without holes -/
def toTr : HT → Tr
  | .e => .e
  | .h _ => .e
  | .n k l r => .n k (toTr l) (toTr r)
theorem ofTr_to : ∀ {t : HT}, t.hs = [] → ofTr (toTr t) = t
  | .e, _ => rfl
  | .h m, h => by simp [HT.hs] at h
  | .n k l r, h => by
    simp only [HT.hs, List.append_eq_nil_iff] at h
    simp [toTr, ofTr, ofTr_to h.1, ofTr_to h.2]
theorem toTr_of : ∀ t : Tr, toTr (ofTr t) = t
  | .e => rfl
  | .n k l r => by simp [toTr, ofTr, toTr_of l, toTr_of r]
/-- later, with all that was -/
structure Gr (M M' : Mem) : Prop where
  le : M.length ≤ M'.length
  eq : ∀ j, j < M.length → M'[j]? = M[j]?
theorem Gr.refl (M : Mem) : Gr M M := ⟨Nat.le_refl _, fun _ _ => rfl⟩
theorem Gr.trans {M M1 M2 : Mem} (a : Gr M M1) (b : Gr M1 M2) : Gr M M2 := ⟨Nat.le_trans a.le b.le, fun j h => (b.eq j (Nat.lt_of_lt_of_le h a.le)).trans (a.eq j h)⟩
theorem Gr.app (M : Mem) (N : Mem) : Gr M (M ++ N) := ⟨by simp, fun j h => List.getElem?_append_left h⟩
theorem Gr.set {M M1 : Mem} {i : Nat} {mo : MO} (a : Gr M M1) (h : M.length ≤ i) : Gr M (M1.set i mo) := ⟨by rw [List.length_set]; exact a.le, fun j hj => (get_set_ne (by omega)).trans (a.eq j hj)⟩
theorem Gr.get {M M1 : Mem} {i : Nat} {mo : MO} (a : Gr M M1) (h : M[i]? = some mo) : M1[i]? = some mo := (a.eq i (lt_of h)).trans h
theorem Rep.gr {M M1 : Mem} {t : HT} {d : Dv} {S : List Nat} (h : Rep M t d S) (a : Gr M M1) : Rep M1 t d S := h.frame fun j hj => a.eq j (h.lt hj)
end Xt
namespace K07
open Xt PySem
open Wv (HT En)
theorem opened_ok : ∀ (n : Nat) (t : Tr) (M : Mem), 2 * t.sz + 2 ≤ n → ∃ d M' S, F_opened n [.g t.d] M = .ok d M' ∧ Gr M M' ∧ Rep M' (ofTr t) d S ∧ S.Nodup ∧ (∀ j ∈ S, M.length ≤ j)
  | n, .e, M, h => by
    obtain ⟨n, rfl⟩ : ∃ m, n = m + 2 := ⟨n - 2, by omega⟩
    refine ⟨.g .none, M, [], ?_, .refl M, ⟨rfl, rfl⟩, List.nodup_nil, fun _ h => (nomatch h)⟩
    rfl
  | n, .n k l r, M, h => by
    simp only [Tr.sz] at h
    obtain ⟨n, rfl⟩ : ∃ m, n = m + 3 := ⟨n - 3, by omega⟩
    let i := M.length
    let M1 := M ++ [plc (dI k) (dI 0) (.g .none) (.g .none)]
    have g1 : Gr M M1 := .app _ _
    have hi1 : M1[i]? = some (plc (dI k) (dI 0) (.g .none) (.g .none)) := get_push
    obtain ⟨dl, M2, Sl, l1, l2, l3, l4, l5⟩ := opened_ok (n + 1) l M1 (by omega)
    obtain ⟨dr, M3, Sr, r1, r2, r3, r4, r5⟩ := opened_ok (n + 1) r M2 (by omega)
    have len1 : M1.length = i + 1 := by simp [M1, i]
    have hi3 := r2.get (l2.get hi1)
    let M4 := M3.set i (plc (dI k) (dI 0) dl (.g .none))
    let M5 := M4.set i (plc (dI k) (dI 0) dl dr)
    have hi4 : M4[i]? = some (plc (dI k) (dI 0) dl (.g .none)) := get_set hi3
    have hi5 : M5[i]? = some (plc (dI k) (dI 0) dl dr) := get_set hi4
    have gM : Gr M M5 := Gr.set (Gr.set ((g1.trans l2).trans r2) (Nat.le_refl _)) (Nat.le_refl _)
    have lt2 := l2.le
    have iSl : i ∉ Sl := fun y => by
      have := l5 i y
      omega
    have iSr : i ∉ Sr := fun y => by
      have := r5 i y
      omega
    have dis : ∀ j ∈ Sl, j ∉ Sr := fun j hj y => by
      have a := l3.lt hj
      have b := r5 j y
      omega
    refine ⟨.r i, M5, i :: (Sl ++ Sr), ?_, gM, ⟨i, dl, dr, Sl, Sr, 0, rfl, hi5, ((l3.gr r2).set iSl).set iSl, (r3.set iSr).set iSr, rfl⟩, ?_, fun j hj => ?_⟩
    · show defF 2 1 (b_opened (F_opened (n + 1)) (F_Place_init (n + 1))) [.g (.tuple [.int k, l.d, r.d])] M = _
      refine def_rt rfl ?_
      show b_opened _ _ [.g (.tuple [.int k, l.d, r.d]), .u] M = _
      refine (sq_nx (M' := M) (ρ' := [.g (.tuple [.int k, l.d, r.d]), .u]) rfl).trans ?_
      have a1 : ac (b2 ixD (sl 0) (kk (.int 0))) (ac (kk (.int 0)) ac0) [.g (.tuple [.int k, l.d, r.d]), .u] M = .ok [dI k, dI 0] M := rfl
      refine (sq_nx (M' := M1) (ρ' := [.g (.tuple [.int k, l.d, r.d]), .r i]) (asg_ok (new_ok a1 (fun z => nomatch z) (fun z => nomatch z)) rfl)).trans ?_
      have xl : ∀ M, ac (b2 ixD (sl 0) (kk (.int 1))) ac0 [.g (.tuple [.int k, l.d, r.d]), .r i] M = .ok [.g l.d] M := fun _ => rfl
      have xr : ∀ M, ac (b2 ixD (sl 0) (kk (.int 2))) ac0 [.g (.tuple [.int k, l.d, r.d]), .r i] M = .ok [.g r.d] M := fun _ => rfl
      have o1 : ∀ M, sl 1 [.g (.tuple [.int k, l.d, r.d]), .r i] M = .ok (.r i) M := fun _ => rfl
      have h2 := tup_ok (ac_ok ((cB_ok (xl M1)).trans l1) (ac_ok ((cB_ok (xr M2)).trans r1) ac0_ok))
      have t1 : tFl "Place" "left" (sl 1) dl [.g (.tuple [.int k, l.d, r.d]), .r i] M3 = .ok [.g (.tuple [.int k, l.d, r.d]), .r i] M4 := tFl_ok (o1 M3) hi3
      have t2 : tFl "Place" "right" (sl 1) dr [.g (.tuple [.int k, l.d, r.d]), .r i] M4 = .ok [.g (.tuple [.int k, l.d, r.d]), .r i] M5 := tFl_ok (o1 M4) hi4
      have t3 : tT 2 (tC (tFl "Place" "left" (sl 1)) (tC (tFl "Place" "right" (sl 1)) tZ)) (mkT [dl, dr]) [.g (.tuple [.int k, l.d, r.d]), .r i] M3 = .ok [.g (.tuple [.int k, l.d, r.d]), .r i] M5 := by
        refine (bnd_ok (show (ofO (asT (mkT [dl, dr])) : Co _) M3 = .ok [dl, dr] M3 from by rw [asT_mkT]; rfl)).trans ?_
        refine (bnd_ok t1).trans ?_
        exact (bnd_ok t2).trans rfl
      refine (sq_nx (asg_ok h2 t3)).trans ?_
      exact sq_rt (ret_ok (o1 M5))
    · refine List.nodup_cons.mpr ⟨fun y => ?_, List.nodup_append.mpr ⟨l4, r4, fun a ha b hb e => dis a ha (e ▸ hb)⟩⟩
      rcases List.mem_append.mp y with y | y
      · exact iSl y
      · exact iSr y
    · rcases List.mem_cons.mp hj with e | hj
      · rw [e]
        exact Nat.le_refl _
      · rcases List.mem_append.mp hj with hj | hj
        · have := l5 j hj
          omega
        · have := r5 j hj
          have : M.length ≤ M2.length := Nat.le_trans (by omega) lt2
          omega
theorem closed_ok : ∀ (n : Nat) (t : Tr) (d : Dv) (S : List Nat) (M : Mem), t.sz + 1 ≤ n → Rep M (ofTr t) d S → F_closed n [d] M = .ok (.g t.d) M
  | n, .e, d, S, M, h, R => by
    obtain ⟨n, rfl⟩ : ∃ m, n = m + 1 := ⟨n - 1, by omega⟩
    obtain ⟨rfl, _⟩ := R
    rfl
  | n, .n k l r, d, S, M, h, R => by
    simp only [Tr.sz] at h
    obtain ⟨n, rfl⟩ : ∃ m, n = m + 1 := ⟨n - 1, by omega⟩
    obtain ⟨i, dl, dr, Sl, Sr, mm, rfl, h3, h4, h5, rfl⟩ := R
    have c1 := closed_ok n l dl Sl M (by omega) h4
    have c2 := closed_ok n r dr Sr M (by omega) h5
    show defF 1 1 (b_closed (F_closed n)) [.r i] M = _
    refine def_rt rfl (sq_rt (ret_ok ?_))
    have o0 : ∀ M, sl 0 [.r i] M = .ok (.r i) M := fun _ => rfl
    refine (iff_f (tst_ok ((b1_ok (o0 M)).trans (isN_r false i M)))).trans ?_
    refine (tup_ok (ac_ok ((b1_ok (o0 M)).trans (fld_ok h3 lk_key)) (ac_ok ((cB_ok (ac_ok ((b1_ok (o0 M)).trans (fld_ok h3 lk_left)) ac0_ok)).trans c1) (ac_ok ((cB_ok (ac_ok ((b1_ok (o0 M)).trans (fld_ok h3 lk_right)) ac0_ok)).trans c2) ac0_ok)))).trans ?_
    rfl
def W0 (t : Tr) : Wv.W := ⟨ofTr t, 0, [], [], 0⟩
theorem init_ok {n : Nat} {t : Tr} {ds : PyData} {M : Mem} {s : Nat} (h : 2 * t.sz + 2 ≤ n) (hs : M[s]? = some (.ins "Weaving" [])) : ∃ M', F_Weaving_init (n + 1) [.r s, .g t.d, .g ds] M = .ok (.g .none) M' ∧ WR s ds M' (W0 t) := by
  obtain ⟨d, M1, S, a1, a2, a3, a4, a5⟩ := opened_ok n t M h
  have hdu := Rep_u a3
  have hs1 := a2.get hs
  let F1 : List (Str × Dv) := putD "top" d []
  let M2 := M1.set s (.ins "Weaving" F1)
  have hs2 : M2[s]? = some (.ins "Weaving" F1) := get_set hs1
  let F2 := putD "deeds" (.g ds) F1
  let M3 := M2.set s (.ins "Weaving" F2)
  have hs3 : M3[s]? = some (.ins "Weaving" F2) := get_set hs2
  let F3 := putD "entered" (dI 0) F2
  let M4 := M3.set s (.ins "Weaving" F3)
  have hs4 : M4[s]? = some (.ins "Weaving" F3) := get_set hs3
  let M4' := M4 ++ [MO.dct []]
  have hs4' : M4'[s]? = some (.ins "Weaving" F3) := get_app hs4
  let iw := M4.length
  let F4 := putD "work" (.r iw) F3
  let M5 := M4'.set s (.ins "Weaving" F4)
  have hs5 : M5[s]? = some (.ins "Weaving" F4) := get_set hs4'
  let M5' := M5 ++ [MO.lst []]
  have hs5' : M5'[s]? = some (.ins "Weaving" F4) := get_app hs5
  let it := M5.length
  let F5 := putD "taken" (.r it) F4
  let M6 := M5'.set s (.ins "Weaving" F5)
  have hs6 : M6[s]? = some (.ins "Weaving" F5) := get_set hs5'
  let M7 := M6.set s (wvo d ds 0 iw it 0)
  have hs7 : M7[s]? = some (wvo d ds 0 iw it 0) := get_set hs6
  have ins_ne : ∀ {F : List (Str × Dv)}, ∀ k m l r, (MO.ins "Weaving" F) ≠ plc k m l r := fun k m l r e => by
    have : ("Weaving" : Str) = "Place" := by injection e
    exact absurd this (by decide +kernel)
  have lts4 : s < iw := lt_of hs4
  have lts5 : s < it := lt_of hs5
  have hw5 : M5[iw]? = some (.dct []) := (get_set_ne (by omega)).trans get_push
  have ltwt : iw < it := lt_of hw5
  have hw7 : M7[iw]? = some (.dct []) := (get_set_ne (by omega)).trans ((get_set_ne (by omega)).trans (get_app hw5))
  have ht7 : M7[it]? = some (.lst []) := (get_set_ne (by omega)).trans ((get_set_ne (by omega)).trans get_push)
  have r7 : Rep M7 (ofTr t) d S := Rep_set (Rep_set (Rep_set (Rep_set (Rep_set (Rep_set a3 hs1 ins_ne) hs2 ins_ne) hs3 ins_ne).app hs4' ins_ne).app hs5' ins_ne) hs6 ins_ne
  refine ⟨M7, ?_, d, iw, it, [], S, [], hs7, hw7, ht7, r7, ⟨rfl, rfl⟩, by rw [List.append_nil]; exact a4⟩
  show defF 3 3 (b_Weaving_init (F_opened n)) [.r s, .g t.d, .g ds] M = _
  refine def_nx (ρ := [.r s, .g t.d, .g ds]) rfl ?_
  show b_Weaving_init _ [.r s, .g t.d, .g ds] M = _
  have o0 : ∀ M, sl 0 [.r s, .g t.d, .g ds] M = .ok (.r s) M := fun _ => rfl
  refine (sq_nx (sfl_ok ((cB_ok (ac_ok (show sl 1 [.r s, .g t.d, .g ds] M = .ok (.g t.d) M from rfl) ac0_ok)).trans a1) (o0 M1) hs1)).trans ?_
  refine (sq_nx (sfl_ok (show sl 2 [.r s, .g t.d, .g ds] M2 = .ok (.g ds) M2 from rfl) (o0 M2) hs2)).trans ?_
  refine (sq_nx (sfl_ok (show kk (.int 0) [.r s, .g t.d, .g ds] M3 = .ok (dI 0) M3 from rfl) (o0 M3) hs3)).trans ?_
  refine (sq_nx (sfl_ok (show newD [] M4 = .ok (.r iw) M4' from rfl) (o0 M4') hs4')).trans ?_
  refine (sq_nx (sfl_ok (show lstR ac0 [.r s, .g t.d, .g ds] M5 = .ok (.r it) M5' from rfl) (o0 M5') hs5')).trans ?_
  refine (sq_nx (sfl_ok (show kk (.int 0) [.r s, .g t.d, .g ds] M6 = .ok (dI 0) M6 from rfl) (o0 M6) hs6)).trans ?_
  rfl
end K07
set_option Elab.async false
set_option linter.all false
set_option maxRecDepth 100000
set_option maxHeartbeats 4000000
namespace K07
open Xt PySem
theorem isin_ok (n : Nat) (k a b : Int) (h1 : a ≤ k) (h2 : k ≤ b) : F_is_in (n + 1) [.g (.int k), .g (.int a), .g (.int b)] [] = .ok (vB true) [] := by
  simp [defF, chk, sq, ifs, tst, b2, b1, bnd, sl, kk, rt, ixD, atM, ofO, asI, L2.atI, L2.ixN, i2, i2c, tB, vB, dI, asg, tN, tT, tC, tZ, asT, tSub, stD, putM, Xt.ret, frZ, cB, ac, ac0, un1, skp, intD, lenD, addD, isN_none, isN_tup, isN_int, isN_lst, isN_tr, tru, grd_map, grd_mapI, grd_appI, tup, mkT, grd, szOk, trV, tor, tand, tnt, andV, ntV, iff, isi, isi2, knD, isTy, kn, pureC, Xt.ch, drp, par2, asG, asGp, fl, lstG, acS, lsP, eqI, neI, subD, leD, ltD, gtD, geD, F_is_in, b_is_in, leD, h1, h2]
theorem iskey_ok (n : Nat) (k : Int) (h1 : -1000000 ≤ k) (h2 : k ≤ 1000000) : F_is_key (n + 2) [.g (.int k)] [] = .ok (vB true) [] := by
  have e := isin_ok n k (-1000000) 1000000 h1 h2
  simp [defF, chk, sq, ifs, tst, b2, b1, bnd, sl, kk, rt, ixD, atM, ofO, asI, L2.atI, L2.ixN, i2, i2c, tB, vB, dI, asg, tN, tT, tC, tZ, asT, tSub, stD, putM, Xt.ret, frZ, cB, ac, ac0, un1, skp, intD, lenD, addD, isN_none, isN_tup, isN_int, isN_lst, isN_tr, tru, grd_map, grd_mapI, grd_appI, tup, mkT, grd, szOk, trV, tor, tand, tnt, andV, ntV, iff, isi, isi2, knD, isTy, kn, pureC, Xt.ch, drp, par2, asG, asGp, fl, lstG, acS, lsP, eqI, neI, subD, leD, ltD, gtD, geD, F_is_key, b_is_key, e, subD]
theorem form_ok : ∀ (n : Nat) (t : Tr) (lo deep : Int), t.hp lo → -1000001 ≤ lo → t.sz < n → (t.sz : Int) < deep → F_has_form (n + 2) [.g t.d, .g (.int lo), .g (.int deep)] [] = .ok (vB true) []
  | 0, _, _, _, _, _, h, _ => absurd h (Nat.not_lt_zero _)
  | n + 1, .e, lo, deep, _, _, _, _ => rfl
  | n + 1, .n k l r, lo, deep, ⟨h1, h2, h3, h4⟩, h5, h6, h7 => by
    have z : (Tr.n k l r).sz = 1 + l.sz + r.sz := rfl
    rw [z] at h6 h7
    have el := form_ok n l k (deep - 1) h3 (by omega) (by omega) (by omega)
    have er := form_ok n r k (deep - 1) h4 (by omega) (by omega) (by omega)
    have ek := iskey_ok n k (by omega) (by omega)
    have d0 : ¬ deep = 0 := by omega
    have hlo : ¬ k ≤ lo := by omega
    show defF 3 3 (b_has_form (F_has_form (n + 2)) (F_is_key (n + 2))) _ _ = _
    simp [defF, chk, sq, ifs, tst, b2, b1, bnd, sl, kk, rt, ixD, atM, ofO, asI, L2.atI, L2.ixN, i2, i2c, tB, vB, dI, asg, tN, tT, tC, tZ, asT, tSub, stD, putM, Xt.ret, frZ, cB, ac, ac0, un1, skp, intD, lenD, addD, isN_none, isN_tup, isN_int, isN_lst, isN_tr, tru, grd_map, grd_mapI, grd_appI, tup, mkT, grd, szOk, trV, tor, tand, tnt, andV, ntV, iff, isi, isi2, knD, isTy, kn, pureC, Xt.ch, drp, par2, asG, asGp, fl, lstG, acS, lsP, eqI, neI, subD, leD, ltD, gtD, geD, b_has_form, Tr.d, el, er, ek, d0, hlo]
theorem keys_ok : ∀ (n : Nat) (t : Tr), t.sz < n → t.sz ≤ 1000 → F_key_list n [.g t.d] [] = .ok (.g (.list (t.ks.map .int))) []
  | 0, _, h, _ => absurd h (Nat.not_lt_zero _)
  | n + 1, .e, _, _ => rfl
  | n + 1, .n k l r, h, h2 => by
    have z : (Tr.n k l r).sz = 1 + l.sz + r.sz := rfl
    rw [z] at h h2
    have el := keys_ok n l (by omega) (by omega)
    have er := keys_ok n r (by omega) (by omega)
    have c : (l.ks.length + r.ks.length + 1).ble 16777216 = true := by
      rw [Tr.ks_len, Tr.ks_len]
      exact Nat.ble_eq_true_of_le (by omega)
    show defF 1 1 (b_key_list (F_key_list n)) _ _ = _
    simp [defF, chk, sq, ifs, tst, b2, b1, bnd, sl, kk, rt, ixD, atM, ofO, asI, L2.atI, L2.ixN, i2, i2c, tB, vB, dI, asg, tN, tT, tC, tZ, asT, tSub, stD, putM, Xt.ret, frZ, cB, ac, ac0, un1, skp, intD, lenD, addD, isN_none, isN_tup, isN_int, isN_lst, isN_tr, tru, grd_map, grd_mapI, grd_appI, tup, mkT, grd, szOk, trV, tor, tand, tnt, andV, ntV, iff, isi, isi2, knD, isTy, kn, pureC, Xt.ch, drp, par2, asG, asGp, fl, lstG, acS, lsP, eqI, neI, subD, leD, ltD, gtD, geD, b_key_list, Tr.d, el, er, c, Tr.ks]
theorem heap_ok (n : Nat) (t : Tr) (h : t.hp (-1000001)) (h1 : t.sz < n) (h2 : t.sz < 200) (h3 : t.ks.Nodup) : F_is_heap (n + 3) [.g t.d] [] = .ok (vB true) [] := by
  have e1 := form_ok n t (-1000001) 200 h (by omega) h1 (by omega)
  have e2 := keys_ok (n + 2) t (by omega) (by omega)
  have e3 : ddI [] t.ks = t.ks := ddI_nd t.ks [] h3
  have l := Tr.ks_len t
  have c : (t.ks.length).ble 4000 = true := Nat.ble_eq_true_of_le (by omega)
  have c2 : (t.ks.length : Int) ≤ 200 := by omega
  show defF 2 1 (b_is_heap (F_key_list (n + 2)) (F_has_form (n + 2))) _ _ = _
  simp [defF, chk, sq, ifs, tst, b2, b1, bnd, sl, kk, rt, ixD, atM, ofO, asI, L2.atI, L2.ixN, i2, i2c, tB, vB, dI, asg, tN, tT, tC, tZ, asT, tSub, stD, putM, Xt.ret, frZ, cB, ac, ac0, un1, skp, intD, lenD, addD, isN_none, isN_tup, isN_int, isN_lst, isN_tr, tru, grd_map, grd_mapI, grd_appI, tup, mkT, grd, szOk, trV, tor, tand, tnt, andV, ntV, iff, isi, isi2, knD, isTy, kn, pureC, Xt.ch, drp, par2, asG, asGp, fl, lstG, acS, lsP, eqI, neI, subD, leD, ltD, gtD, geD, b_is_heap, e1, e2, lnS, itsP, intsP_map, e3, c, c2]
theorem need_heap_ok (n : Nat) (t : Tr) (h : t.hp (-1000001)) (h1 : t.sz < n) (h2 : t.sz < 200) (h3 : t.ks.Nodup) : F_need_heap (n + 4) [.g t.d] [] = .ok (.g .none) [] := by
  have e := heap_ok n t h h1 h2 h3
  show defF 1 1 (b_need_heap (F_is_heap (n + 3))) _ _ = _
  simp [defF, chk, sq, ifs, tst, b2, b1, bnd, sl, kk, rt, ixD, atM, ofO, asI, L2.atI, L2.ixN, i2, i2c, tB, vB, dI, asg, tN, tT, tC, tZ, asT, tSub, stD, putM, Xt.ret, frZ, cB, ac, ac0, un1, skp, intD, lenD, addD, isN_none, isN_tup, isN_int, isN_lst, isN_tr, tru, grd_map, grd_mapI, grd_appI, tup, mkT, grd, szOk, trV, tor, tand, tnt, andV, ntV, iff, isi, isi2, knD, isTy, kn, pureC, Xt.ch, drp, par2, asG, asGp, fl, lstG, acS, lsP, eqI, neI, subD, leD, ltD, gtD, geD, b_need_heap, e]
end K07
set_option Elab.async false
set_option linter.all false
set_option maxRecDepth 100000
set_option maxHeartbeats 1000000
/-! wm9: the deeds looked at -/
namespace Xt
open PySem
theorem e_pp (M : Mem) : eqD false (.g (.str "put")) (.g (.str "put")) M = .ok (.g (.bool true)) M := by
  have : PyData.eqv (.str ("put" : Str)) (.str ("put" : Str)) = true := by decide +kernel
  rw [eqS ok_put ok_put, this]
theorem e_pt (M : Mem) : eqD false (.g (.str "put")) (.g (.str "take")) M = .ok (.g (.bool false)) M := by
  have : PyData.eqv (.str ("put" : Str)) (.str ("take" : Str)) = false := by decide +kernel
  rw [eqS ok_put ok_take, this]
theorem e_tp (M : Mem) : eqD false (.g (.str "take")) (.g (.str "put")) M = .ok (.g (.bool false)) M := by
  have : PyData.eqv (.str ("take" : Str)) (.str ("put" : Str)) = false := by decide +kernel
  rw [eqS ok_take ok_put, this]
theorem e_tt (M : Mem) : eqD false (.g (.str "take")) (.g (.str "take")) M = .ok (.g (.bool true)) M := by
  have : PyData.eqv (.str ("take" : Str)) (.str ("take" : Str)) = true := by decide +kernel
  rw [eqS ok_take ok_take, this]
/-- deeds that can be woven -/
def okD : List Int → List (Option Int) → Prop
  | _, [] => True
  | s, none :: r => okD s r
  | s, some k :: r => (-1000000 ≤ k ∧ k ≤ 1000000 ∧ k ∉ s ∧ s.length < 200) ∧ okD (s ++ [k]) r
def seD (s : List Int) : List (Int × Dv) := s.map fun k => (k, vB true)
theorem dvV_se : ∀ {s : List Int} {k : Int}, k ∉ s → dvV (seD s) k = none
  | [], _, _ => rfl
  | j :: r, k, h => by
    have : ¬ j = k := fun e => h (by rw [e]; exact List.mem_cons_self ..)
    show (match decide (j = k) with
      | true => some (vB true)
      | false => dvV (seD r) k) = none
    rw [decide_eq_false this]
    exact dvV_se fun z => h (List.mem_cons_of_mem _ z)
theorem dvP_se {s : List Int} {k : Int} (h : k ∉ s) : dvP (seD s) k (vB true) = seD (s ++ [k]) := by
  unfold dvP
  rw [dvV_se h]
  simp [seD]
end Xt
namespace K07
open Xt PySem
theorem is_deed_ok (n : Nat) (d : Option Int) (h : ∀ k, d = some k → -1000000 ≤ k ∧ k ≤ 1000000) : F_is_deed (n + 3) [.g (deD d)] [] = .ok (vB true) [] := by
  show defF 1 1 (b_is_deed (F_is_key (n + 2))) _ _ = _
  cases d with
  | none => simp [defF, chk, sq, ifs, tst, b2, b1, bnd, sl, kk, rt, ixD, atM, ofO, asI, L2.atI, L2.ixN, i2, i2c, tB, vB, dI, asg, tN, tT, tC, tZ, asT, tSub, stD, putM, Xt.ret, frZ, cB, ac, ac0, un1, skp, intD, lenD, addD, isN_none, isN_tup, isN_int, isN_lst, isN_tr, tru, grd_map, grd_mapI, grd_appI, tup, mkT, grd, szOk, trV, tor, tand, tnt, andV, ntV, iff, isi, isi2, knD, isTy, kn, pureC, Xt.ch, drp, par2, asG, asGp, fl, lstG, acS, lsP, eqI, neI, subD, leD, ltD, gtD, geD, b_is_deed, deD, e_tt, e_tp, e_pp, e_pt]
  | some k =>
    have e := iskey_ok n k (h k rfl).1 (h k rfl).2
    simp [defF, chk, sq, ifs, tst, b2, b1, bnd, sl, kk, rt, ixD, atM, ofO, asI, L2.atI, L2.ixN, i2, i2c, tB, vB, dI, asg, tN, tT, tC, tZ, asT, tSub, stD, putM, Xt.ret, frZ, cB, ac, ac0, un1, skp, intD, lenD, addD, isN_none, isN_tup, isN_int, isN_lst, isN_tr, tru, grd_map, grd_mapI, grd_appI, tup, mkT, grd, szOk, trV, tor, tand, tnt, andV, ntV, iff, isi, isi2, knD, isTy, kn, pureC, Xt.ch, drp, par2, asG, asGp, fl, lstG, acS, lsP, eqI, neI, subD, leD, ltD, gtD, geD, b_is_deed, deD, e_tt, e_tp, e_pp, e_pt, e]
theorem seen_loop (ρ : Slots) (a b c d e : Dv) : ∀ (ks acc : List Int) (M : Mem) (x : Dv), (acc ++ ks).Nodup → dcL (tN 5) yes (sl 5) (kk (.bool true)) [a, b, c, d, e, x] (ks.map (Dv.g ∘ PyData.int)) (seD acc) M = .ok (seD (acc ++ ks)) M
  | [], acc, M, x, _ => by
    rw [List.append_nil]
    rfl
  | k :: r, acc, M, x, h => by
    have hk : k ∉ acc := fun z => (List.nodup_append.mp h).2.2 k z k (List.mem_cons_self ..) rfl
    have ih := seen_loop ρ a b c d e r (acc ++ [k]) M x (by simpa using h)
    show dcL (tN 5) yes (sl 5) (kk (.bool true)) [a, b, c, d, e, x] (r.map (Dv.g ∘ PyData.int)) (dvP (seD acc) k (vB true)) M = _
    rw [dvP_se hk, ih, List.append_assoc]
    rfl
def ndT : Dv → Slots → Co Slots := tT 2 (tC (tN 3) (tC (tN 4) tZ))
def ndB (F : List Dv → Co Dv) : Slots → Co Fl := (sq (ifs (tnt (trV (cB (pureC F) (ac (sl 4) ac0)))) (sq nvr
    skp) skp)
    (sq (ifs (tst (b2 (eqD false) (b2 ixD (sl 4) (kk (.int 0))) (kk (.str "put")))) (sq (ifs (tor (tst (dinI false (b2 ixD (sl 4) (kk (.int 1))) (sl 2))) (tst (b2 (eqD false) (cB lenD (ac (sl 2) ac0)) (kk (.int 200))))) (sq nvr
    skp) skp)
    (sq (asg (kk (.bool true)) (tSub (sl 2) (b2 ixD (sl 4) (kk (.int 1)))))
    skp)) skp)
    skp))
theorem pure_ok {F : List Dv → Co Dv} {xs : List PyData} {y : PyData} {M M' : Mem} (h : F (xs.map Dv.g) [] = .ok (.g y) M') : pureC F (xs.map Dv.g) M = .ok (.g y) M := by
  unfold pureC
  refine (bnd_ok (x := xs) (M' := M) (by rw [grd_map]; rfl)).trans ?_
  rw [h]
theorem deeds_loop (n : Nat) (a b : Dv) : ∀ (des : List (Option Int)) (j : Nat) (s : List Int) (y3 y4 y5 : Dv), okD s des → ∃ z3 z4 s', forL ndT (ndB (F_is_deed (n + 3))) (enT j ((des.map deD).map Dv.g)) [a, b, .r 0, y3, y4, y5] [.dct (seD s)] = .ok (.nx [a, b, .r 0, z3, z4, y5]) [.dct (seD s')]
  | [], j, s, y3, y4, y5, _ => ⟨y3, y4, s, rfl⟩
  | d :: r, j, s, y3, y4, y5, h => by
    have tt : ndT (mkT [dI j, .g (deD d)]) [a, b, .r 0, y3, y4, y5] [.dct (seD s)] = .ok [a, b, .r 0, dI j, .g (deD d), y5] [.dct (seD s)] := by
      simp [ndT, tT, tC, tN, tZ, ofO, bnd, asT_mkT, chk, rt]
    have o4 : ∀ M, sl 4 [a, b, .r 0, dI j, .g (deD d), y5] M = .ok (.g (deD d)) M := fun _ => rfl
    have o2 : ∀ M, sl 2 [a, b, .r 0, dI j, .g (deD d), y5] M = .ok (.r 0) M := fun _ => rfl
    have hk : ∀ k, d = some k → -1000000 ≤ k ∧ k ≤ 1000000 := fun k e => by
      subst e
      exact ⟨h.1.1, h.1.2.1⟩
    have t1 : tnt (trV (cB (pureC (F_is_deed (n + 3))) (ac (sl 4) ac0))) [a, b, .r 0, dI j, .g (deD d), y5] [.dct (seD s)] = .ok false [.dct (seD s)] := tnt_ok (trV_ok (b := true) ((cB_ok (ac_ok (o4 _) ac0_ok)).trans (pure_ok (xs := [deD d]) (is_deed_ok n d hk))))
    have t2 := isput (o4 [.dct (seD s)])
    have hm : ([.dct (seD s)] : Mem)[0]? = some (.dct (seD s)) := rfl
    cases d with
    | none =>
      obtain ⟨z3, z4, s', ih⟩ := deeds_loop n a b r (j + 1) s (dI j) (.g (deD none)) y5 h
      refine ⟨z3, z4, s', (for_go tt (ρ' := [a, b, .r 0, dI j, .g (deD none), y5]) (M' := [.dct (seD s)]) ?_).trans ih⟩
      unfold ndB
      refine (sq_nx (M' := [.dct (seD s)]) ((ifs_f t1).trans rfl)).trans ?_
      exact (sq_nx (M' := [.dct (seD s)]) ((ifs_f t2).trans rfl)).trans rfl
    | some k =>
      obtain ⟨⟨h1, h2, h3, h4⟩, h5⟩ := h
      obtain ⟨z3, z4, s', ih⟩ := deeds_loop n a b r (j + 1) (s ++ [k]) (dI j) (.g (deD (some k))) y5 h5
      refine ⟨z3, z4, s', (for_go tt (ρ' := [a, b, .r 0, dI j, .g (deD (some k)), y5]) (M' := [.dct (seD (s ++ [k]))]) ?_).trans ih⟩
      have x1 : ∀ M, b2 ixD (sl 4) (kk (.int 1)) [a, b, .r 0, dI j, .g (deD (some k)), y5] M = .ok (dI k) M := fun _ => rfl
      have t3 : tst (dinI false (b2 ixD (sl 4) (kk (.int 1))) (sl 2)) [a, b, .r 0, dI j, .g (deD (some k)), y5] [.dct (seD s)] = .ok false [.dct (seD s)] := by
        have := tst_ok (din_ok (x1 _) (o2 _) hm)
        rw [dvV_se h3] at this
        exact this
      have ln : (seD s).length = s.length := by simp [seD]
      have t4 : tst (b2 (eqD false) (cB lenD (ac (sl 2) ac0)) (kk (.int 200))) [a, b, .r 0, dI j, .g (deD (some k)), y5] [.dct (seD s)] = .ok false [.dct (seD s)] := by
        have l1 : cB lenD (ac (sl 2) ac0) [a, b, .r 0, dI j, .g (deD (some k)), y5] [.dct (seD s)] = .ok (dI (s.length : Int)) [.dct (seD s)] := by
          rw [← ln]
          rfl
        have := tst_ok ((b2_ok l1 (show kk (.int 200) [a, b, .r 0, dI j, .g (deD (some k)), y5] _ = .ok (dI 200) _ from rfl)).trans (eqI s.length 200 _))
        rw [decide_eq_false (by omega)] at this
        exact this
      unfold ndB
      refine (sq_nx (M' := [.dct (seD s)]) ((ifs_f t1).trans rfl)).trans ?_
      refine (sq_nx (M' := [.dct (seD (s ++ [k]))]) ((ifs_t t2).trans ?_)).trans rfl
      refine (sq_nx (M' := [.dct (seD s)]) ((ifs_f ((tor_f t3).trans t4)).trans rfl)).trans ?_
      refine (sq_nx (asg_ok (show kk (.bool true) _ [.dct (seD s)] = .ok (vB true) [.dct (seD s)] from rfl) (tSubD_ok (o2 _) (x1 _) hm (by omega)))).trans ?_
      rw [dvP_se h3]
      rfl
theorem need_deeds_ok (n : Nat) (t : Tr) (des : List (Option Int)) (h1 : t.sz < n) (h2 : t.sz ≤ 200) (h3 : t.ks.Nodup) (h4 : des.length ≤ 40) (h5 : okD t.ks des) : ∃ M, F_need_deeds (n + 4) [.g t.d, .g (.tuple (des.map deD))] [] = .ok (.g .none) M := by
  obtain ⟨z3, z4, s', hl⟩ := deeds_loop n (.g t.d) (.g (.tuple (des.map deD))) des 0 t.ks .u .u .u h5
  have hk := keys_ok (n + 3) t (by omega) (by omega)
  have lk := Tr.ks_len t
  have o0 : ∀ M, sl 0 [.g t.d, .g (.tuple (des.map deD)), .u, .u, .u, .u] M = .ok (.g t.d) M := fun _ => rfl
  have o1 : ∀ M, sl 1 [.g t.d, .g (.tuple (des.map deD)), .u, .u, .u, .u] M = .ok (.g (.tuple (des.map deD))) M := fun _ => rfl
  refine ⟨[.dct (seD s')], ?_⟩
  show defF 6 2 (b_need_deeds (F_is_deed (n + 3)) (F_key_list (n + 3))) [.g t.d, .g (.tuple (des.map deD))] [] = _
  refine def_nx (ρ := [.g t.d, .g (.tuple (des.map deD)), .r 0, z3, z4, .u]) rfl ?_
  show b_need_deeds _ _ [.g t.d, .g (.tuple (des.map deD)), .u, .u, .u, .u] [] = _
  refine (sq_nx (M' := []) (ρ' := [.g t.d, .g (.tuple (des.map deD)), .u, .u, .u, .u]) ((ifs_f (M1 := []) ?_).trans rfl)).trans ?_
  · have hl2 : ¬ (40 : Int) < ((des.map deD).length : Int) := by
      rw [List.length_map]
      omega
    have hl3 : ¬ (40 : Int) < (des.length : Int) := by omega
    simp [defF, chk, sq, ifs, tst, b2, b1, bnd, sl, kk, rt, ixD, atM, ofO, asI, L2.atI, L2.ixN, i2, i2c, tB, vB, dI, asg, tN, tT, tC, tZ, asT, tSub, stD, putM, Xt.ret, frZ, cB, ac, ac0, un1, skp, intD, lenD, addD, isN_none, isN_tup, isN_int, isN_lst, isN_tr, tru, grd_map, grd_mapI, grd_appI, tup, mkT, grd, szOk, trV, tor, tand, tnt, andV, ntV, iff, isi, isi2, knD, isTy, kn, pureC, Xt.ch, drp, par2, asG, asGp, fl, lstG, acS, lsP, eqI, neI, subD, leD, ltD, gtD, geD, hl2, hl3]
  · refine (sq_nx (M' := [.dct (seD t.ks)]) (ρ' := [.g t.d, .g (.tuple (des.map deD)), .r 0, .u, .u, .u]) (asg_ok (d := .r 0) (M1 := [.dct (seD t.ks)]) ?_ rfl)).trans ?_
    · unfold dcX
      have e1 : srcS (cB (pureC (F_key_list (n + 3))) (ac (sl 0) ac0)) [.g t.d, .g (.tuple (des.map deD)), .u, .u, .u, .u] [] = .ok (t.ks.map (Dv.g ∘ PyData.int)) [] := by
        refine (bnd_ok ((cB_ok (ac_ok (o0 []) ac0_ok)).trans (pure_ok (xs := [t.d]) hk))).trans ?_
        simp [its, ofO, rt]
      rw [bnd_ok e1]
      have hz : szOk (t.ks.map (Dv.g ∘ PyData.int)).length = true := by
        rw [List.length_map]
        exact Nat.ble_eq_true_of_le (by omega)
      unfold chk
      rw [hz]
      exact (bnd_ok (seen_loop [] (.g t.d) (.g (.tuple (des.map deD))) .u .u .u t.ks [] [] .u (by simpa using h3))).trans rfl
    · refine (sq_nx ((for_src (ds := enT 0 ((des.map deD).map Dv.g)) (M' := [.dct (seD t.ks)]) ?_).trans hl)).trans rfl
      rfl
end K07
set_option Elab.async false
set_option linter.all false
set_option maxRecDepth 100000
set_option maxHeartbeats 1000000
/-! wm10: woven -/
namespace Xt
open PySem
open Wv (HT En)
def tkP : Option Int → PyData
  | none => .none
  | some k => .int k
theorem tkD_P : ∀ x : Option Int, tkD x = .g (tkP x)
  | none => rfl
  | some _ => rfl
theorem mkT_tk (xs : List (Option Int)) : mkT (xs.map tkD) = .g (.tuple (xs.map tkP)) := by
  have : xs.map tkD = (xs.map tkP).map Dv.g := by
    rw [List.map_map]
    exact List.map_congr_left fun x _ => tkD_P x
  unfold mkT
  rw [this, grd_map]
theorem minI_head {k : Int} {r : List Int} (h : (k :: r).Pairwise (· < ·)) : minI k r = k := by
  obtain ⟨h1, h2⟩ := minI_ok r k
  rw [List.pairwise_cons] at h
  rcases List.mem_cons.mp h1 with e | e
  · exact e
  · have a := h.1 _ e
    have b := h2 k (List.mem_cons_self ..)
    omega
theorem b_min (a b : Int) (M : Mem) : min2D [dI a, dI b] M = .ok (dI (min a b)) M := by
  show RE.ok (dI (match decide (b < a) with | true => b | false => a)) M = _
  by_cases h : b < a
  · rw [decide_eq_true h]
    show RE.ok (dI b) M = _
    rw [show min a b = b by omega]
  · rw [decide_eq_false h]
    show RE.ok (dI a) M = _
    rw [show min a b = a by omega]
end Xt
namespace K07
open Xt PySem
open Wv (HT En)
def wvC : Slots → Co Bool := trV (b1 (fldD "Weaving" "work") (sl 3))
def wvB (F : List Dv → Co Dv) : Slots → Co Fl := (sq (drp (mtC "Weaving" "step" F (sl 3) (ac (cB mnD (ac (b1 (fldD "Weaving" "work") (sl 3)) ac0)) ac0)))
    skp)
theorem wv_loop {n s N L : Nat} {ds : PyData} {a b c y4 y5 y6 : Dv} (hn : N + L + 4 ≤ n) (hL : L < 900) : ∀ (f : Nat) (w : Wv.W) (M : Mem), Wv.Bd N L w → WR s ds M w → Wv.mu (N + L) w < f →
    ∃ M', whl wvC (wvB (F_Weaving_step (n + 1))) f [a, b, c, .r s, y4, y5, y6] M = .ok (.nx [a, b, c, .r s, y4, y5, y6]) M' ∧ WR s ds M' (w.comp f)
  | 0, w, M, B, R, h => absurd h (Nat.not_lt_zero _)
  | f + 1, w, M, B, R, h => by
    have R0 := R
    obtain ⟨dt, iw, it, kvs, St, Sw, hs, hw, ht, hT, hQ, nd⟩ := R
    have o3 : ∀ M, sl 3 [a, b, c, .r s, y4, y5, y6] M = .ok (.r s) M := fun _ => rfl
    have hwk : b1 (fldD "Weaving" "work") (sl 3) [a, b, c, .r s, y4, y5, y6] M = .ok (.r iw) M := (b1_ok (o3 M)).trans (fld_ok hs lk_work)
    have tc : wvC [a, b, c, .r s, y4, y5, y6] M = .ok (!kvs.isEmpty) M := by
      refine (bnd_ok hwk).trans ?_
      simp [tru, atM, hw, rt]
    have hk := hQ.keys
    cases ew : w.wk with
    | nil =>
      rw [ew] at hk
      have : kvs = [] := by simpa using hk
      rw [this] at tc
      rw [Wv.comp_nil ew]
      exact ⟨M, whl_end tc, R0⟩
    | cons g r =>
      rw [ew] at hk
      cases kvs with
      | nil => cases hk
      | cons p kr =>
        obtain ⟨k0, d0⟩ := p
        rw [List.map_cons, List.map_cons] at hk
        injection hk with hk1 hk2
        have hk1 : k0 = g.i := hk1
        subst hk1
        have key := B.inv.key
        rw [ew, List.map_cons] at key
        have hmn : mnD [.r iw] M = .ok (dI g.i) M := by
          have : minI g.i (kr.map (fun e => e.1)) = g.i := by
            rw [hk2]
            exact minI_head key
          simp [mnD, atM, hw, rt, this]
        have lk : Wv.look w.wk g.i = some g := by
          rw [ew]
          simp [Wv.look]
        obtain ⟨M1, h1, h2⟩ := step_ok (n := n) B.inv (by have := B.totN; omega) (by have := B.wk; omega) lk R0
        have es : w.step g.i = w.stepMin := by
          unfold Wv.W.stepMin
          rw [ew]
        rw [es] at h2
        have mulc := Wv.stepMin_lt B.inv B.totN (by rw [ew]; exact fun z => nomatch z)
        obtain ⟨M', g1, g2⟩ := wv_loop hn hL f w.stepMin M1 B.stepMin h2 (by omega)
        refine ⟨M', (whl_go tc ?_).trans g1, g2⟩
        exact (sq_nx (drp_ok ((mt_ok (o3 M) hs lk_step (ac_ok ((cB_ok (ac_ok hwk ac0_ok)).trans hmn) ac0_ok)).trans h1))).trans rfl
def trT : Dv → Slots → Co Slots := tT 2 (tC (tN 4) (tC (tN 5) tZ))
def trB (F G : List Dv → Co Dv) : Slots → Co Fl := (sq (ifs (tnt (trV (cB (pureC G) (ac (sl 5) (ac (kk (.int 0)) (ac (cB min2D (ac (b1 (fldD "Weaving" "entered") (sl 3)) (ac (b2 subD (cB lenD (ac (sl 1) ac0)) (kk (.int 1))) ac0))) ac0)))))) (sq nvr
    skp) skp)
    (sq (drp (mtC "Weaving" "turn" F (sl 3) (ac (sl 5) ac0)))
    skp))
theorem tr_loop {n k s N : Nat} {des : List (Option Int)} {a c y6 : Dv} (hn : N + des.length + 12 ≤ n) (hL : des.length < 900) : ∀ (l : List Int) (j : Nat) (w : Wv.W) (M : Mem) (y4 y5 : Dv), Wv.Bd N des.length w → WR s (.tuple (des.map deD)) M w → Wv.okT des w l →
    ∃ M' z4 z5, forL trT (trB (F_Weaving_turn (n + 1)) (F_is_in (k + 1))) (enT j ((l.map PyData.int).map Dv.g)) [a, .g (.tuple (des.map deD)), c, .r s, y4, y5, y6] M = .ok (.nx [a, .g (.tuple (des.map deD)), c, .r s, z4, z5, y6]) M' ∧ WR s (.tuple (des.map deD)) M' (w.run des l)
  | [], j, w, M, y4, y5, B, R, _ => ⟨M, y4, y5, rfl, R⟩
  | i :: r, j, w, M, y4, y5, B, R, ⟨⟨h1, h2, h3⟩, h4⟩ => by
    obtain ⟨M1, g1, g2⟩ := turn_ok (n := n) (i := i) B.inv (by have := B.totN; omega) (by have := B.wk; omega) (by have := B.tkL; omega) (fun _ => h3) R
    obtain ⟨M', z4, z5, e1, e2⟩ := tr_loop (a := a) (c := c) (y6 := y6) (k := k) hn hL r (j + 1) (w.turn des i) M1 (dI j) (dI i) (B.turn des i fun z => by omega) g2 h4
    obtain ⟨dt, iw, it, kvs, St, Sw, hs, _⟩ := R
    refine ⟨M', z4, z5, (for_go (ρ1 := [a, .g (.tuple (des.map deD)), c, .r s, dI j, dI i, y6]) (M1 := M) ?_ ?_).trans e1, e2⟩
    · show trT (mkT [dI j, dI i]) [a, .g (.tuple (des.map deD)), c, .r s, y4, y5, y6] M = _
      rfl
    · have o3 : ∀ M, sl 3 [a, .g (.tuple (des.map deD)), c, .r s, dI j, dI i, y6] M = .ok (.r s) M := fun _ => rfl
      have o5 : ∀ M, sl 5 [a, .g (.tuple (des.map deD)), c, .r s, dI j, dI i, y6] M = .ok (dI i) M := fun _ => rfl
      have l1 : b2 subD (cB lenD (ac (sl 1) ac0)) (kk (.int 1)) [a, .g (.tuple (des.map deD)), c, .r s, dI j, dI i, y6] M = .ok (dI ((des.length : Int) - 1)) M := by
        have : cB lenD (ac (sl 1) ac0) [a, .g (.tuple (des.map deD)), c, .r s, dI j, dI i, y6] M = .ok (dI (des.length : Int)) M := by
          rw [show (des.length : Int) = ((des.map deD).length : Int) by rw [List.length_map]]
          rfl
        exact (b2_ok this (show kk (.int 1) _ M = .ok (dI 1) M from rfl)).trans rfl
      have l2 : cB min2D (ac (b1 (fldD "Weaving" "entered") (sl 3)) (ac (b2 subD (cB lenD (ac (sl 1) ac0)) (kk (.int 1))) ac0)) [a, .g (.tuple (des.map deD)), c, .r s, dI j, dI i, y6] M = .ok (dI (min w.ent ((des.length : Int) - 1))) M := (cB_ok (ac_ok ((b1_ok (o3 M)).trans (fld_ok hs lk_entered)) (ac_ok l1 ac0_ok))).trans (b_min _ _ M)
      have l3 : cB (pureC (F_is_in (k + 1))) (ac (sl 5) (ac (kk (.int 0)) (ac (cB min2D (ac (b1 (fldD "Weaving" "entered") (sl 3)) (ac (b2 subD (cB lenD (ac (sl 1) ac0)) (kk (.int 1))) ac0))) ac0))) [a, .g (.tuple (des.map deD)), c, .r s, dI j, dI i, y6] M = .ok (vB true) M :=
        (cB_ok (ac_ok (o5 M) (ac_ok (show kk (.int 0) _ M = .ok (dI 0) M from rfl) (ac_ok l2 ac0_ok)))).trans (pure_ok (xs := [.int i, .int 0, .int (min w.ent ((des.length : Int) - 1))]) (isin_ok k i 0 _ h1 (by omega)))
      unfold trB
      refine (sq_nx (M' := M) ((ifs_f (tnt_ok (trV_ok l3))).trans rfl)).trans ?_
      exact (sq_nx (drp_ok ((mt_ok (o3 M) hs lk_turn (ac_ok (o5 M) ac0_ok)).trans g1))).trans rfl
theorem W0_bd (t : Tr) (L : Nat) : Wv.Bd t.sz L (W0 t) := by
  refine ⟨⟨List.Pairwise.nil, fun _ h => (nomatch h), fun _ h => (nomatch h), Int.le_refl _, List.nodup_nil, fun _ h => (nomatch h), fun m => ?_, fun m h => ?_, trivial⟩, ?_, ?_, ?_⟩
  · show ((ofTr t).hs ++ []).count m ≤ 1
    rw [ofTr_hs]
    simp
  · have h : m ∈ (ofTr t).hs := h
    rw [ofTr_hs] at h
    cases h
  · show ((((ofTr t).sz + 0 : Nat)) : Int) ≤ t.sz + 0
    rw [ofTr_sz]
    omega
  · exact Int.le_refl _
  · show (0 : Int) ≤ L
    omega
/-- what a weaving gives -/
def wvR (t : Tr) (des : List (Option Int)) (tns : List Int) : PyData :=
  .tuple [(toTr ((((W0 t).run des tns).comp 1000).top)).d, .tuple ((((W0 t).run des tns).comp 1000).tk.map tkP), .int (((W0 t).run des tns).wk.length : Nat)]
theorem woven_ok (n : Nat) (t : Tr) (des : List (Option Int)) (tns : List Int) (h1 : t.hp (-1000001)) (h2 : t.sz < 200) (h3 : t.ks.Nodup) (h4 : des.length ≤ 40) (h5 : okD t.ks des) (h6 : tns.length ≤ 2000) (h7 : Wv.okT des (W0 t) tns) (h8 : des.length * (t.sz + des.length + 1) < 1000) (hn : 2 * (t.sz + des.length) + 20 ≤ n) :
    ∃ M, F_woven (n + 2) [.g t.d, .g (.tuple (des.map deD)), .g (.tuple (tns.map .int))] [] = .ok (.g (wvR t des tns)) M := by
  obtain ⟨n, rfl⟩ : ∃ m, n = m + 4 := ⟨n - 4, by omega⟩
  have B0 := W0_bd t des.length
  have q1 := need_heap_ok n t h1 (by omega) h2 h3
  obtain ⟨Md, q2⟩ := need_deeds_ok n t des (by omega) (by omega) h3 h4 h5
  obtain ⟨M1, j1, j2⟩ := init_ok (n := n + 3) (t := t) (ds := .tuple (des.map deD)) (M := [.ins "Weaving" []]) (s := 0) (by omega) rfl
  obtain ⟨M2, z4, z5, t1, t2⟩ := tr_loop (n := n + 3) (k := n + 3) (s := 0) (N := t.sz) (des := des) (a := .g t.d) (c := .g (.tuple (tns.map .int))) (y6 := .u) (by omega) (by omega) tns 0 (W0 t) M1 .u .u B0 j2 h7
  have B1 := B0.run tns h7
  have hmu := Nat.le_trans B1.mu (Nat.le_of_lt h8)
  obtain ⟨M3, u1, u2⟩ := wv_loop (n := n + 3) (s := 0) (N := t.sz) (L := des.length) (a := .g t.d) (b := .g (.tuple (des.map deD))) (c := .g (.tuple (tns.map .int))) (y4 := z4) (y5 := z5) (y6 := dI (((W0 t).run des tns).wk.length : Nat)) (by omega) (by omega) 1000 _ M2 B1 t2 (Nat.lt_of_le_of_lt B1.mu h8)
  have B2 := B1.comp 1000
  have hdone := B1.done (k := 1000) (Nat.le_of_lt h8)
  have e0 := ofTr_to (B2.inv.top0 hdone)
  obtain ⟨dt, iw, it, kvs, St, Sw, hs, hw, ht, hT, _⟩ := u2
  rw [← e0] at hT
  have hz : (toTr ((((W0 t).run des tns).comp 1000).top)).sz ≤ t.sz + des.length := by
    have := B2.totN
    have e1 := ofTr_sz (toTr ((((W0 t).run des tns).comp 1000).top))
    rw [e0] at e1
    unfold Wv.tot at this
    omega
  have hc := closed_ok (n + 4) _ dt St M3 (by omega) hT
  obtain ⟨dt2, iw2, it2, kvs2, St2, Sw2, hs2, hw2, ht2, hT2, hQ2, _⟩ := t2
  refine ⟨M3, ?_⟩
  show defF 7 3 (b_woven (F_closed (n + 4)) (F_Weaving_step (n + 4)) (F_Weaving_turn (n + 4)) (F_is_in (n + 4)) (F_Weaving_init (n + 4)) (F_need_deeds (n + 4)) (F_need_heap (n + 4))) [.g t.d, .g (.tuple (des.map deD)), .g (.tuple (tns.map .int))] [] = _
  refine def_rt rfl ?_
  show b_woven _ _ _ _ _ _ _ [.g t.d, .g (.tuple (des.map deD)), .g (.tuple (tns.map .int)), .u, .u, .u, .u] [] = _
  have o0 : ∀ M, sl 0 [.g t.d, .g (.tuple (des.map deD)), .g (.tuple (tns.map .int)), .u, .u, .u, .u] M = .ok (.g t.d) M := fun _ => rfl
  have o1 : ∀ M, sl 1 [.g t.d, .g (.tuple (des.map deD)), .g (.tuple (tns.map .int)), .u, .u, .u, .u] M = .ok (.g (.tuple (des.map deD))) M := fun _ => rfl
  refine (sq_nx (drp_ok ((cB_ok (ac_ok (o0 []) ac0_ok)).trans (pure_ok (xs := [t.d]) q1)))).trans ?_
  refine (sq_nx (drp_ok ((cB_ok (ac_ok (o0 []) (ac_ok (o1 []) ac0_ok))).trans (pure_ok (xs := [t.d, .tuple (des.map deD)]) q2)))).trans ?_
  refine (sq_nx (M' := []) (ρ' := [.g t.d, .g (.tuple (des.map deD)), .g (.tuple (tns.map .int)), .u, .u, .u, .u]) ((ifs_f (M1 := []) ?_).trans rfl)).trans ?_
  · have hl3 : ¬ (2000 : Int) < (tns.length : Int) := by omega
    simp [defF, chk, sq, ifs, tst, b2, b1, bnd, sl, kk, rt, ixD, atM, ofO, asI, L2.atI, L2.ixN, i2, i2c, tB, vB, dI, asg, tN, tT, tC, tZ, asT, tSub, stD, putM, Xt.ret, frZ, cB, ac, ac0, un1, skp, intD, lenD, addD, isN_none, isN_tup, isN_int, isN_lst, isN_tr, tru, grd_map, grd_mapI, grd_appI, tup, mkT, grd, szOk, trV, tor, tand, tnt, andV, ntV, iff, isi, isi2, knD, isTy, kn, pureC, Xt.ch, drp, par2, asG, asGp, fl, lstG, acS, lsP, eqI, neI, subD, leD, ltD, gtD, geD, hl3]
  · refine (sq_nx (M' := M1) (ρ' := [.g t.d, .g (.tuple (des.map deD)), .g (.tuple (tns.map .int)), .r 0, .u, .u, .u]) (asg_ok (mk_ok (M1 := []) (ac_ok (o0 []) (ac_ok (o1 []) ac0_ok)) j1) rfl)).trans ?_
    have hsrc : srcE (ac (sl 2) ac0) [.g t.d, .g (.tuple (des.map deD)), .g (.tuple (tns.map .int)), .r 0, .u, .u, .u] M1 = .ok (enT 0 ((tns.map PyData.int).map Dv.g)) M1 := rfl
    refine (sq_nx ((for_src hsrc).trans t1)).trans ?_
    have o3 : ∀ (x : Dv) (M : Mem), sl 3 [.g t.d, .g (.tuple (des.map deD)), .g (.tuple (tns.map .int)), .r 0, z4, z5, x] M = .ok (.r 0) M := fun _ _ => rfl
    have hlen : cB lenD (ac (b1 (fldD "Weaving" "work") (sl 3)) ac0) [.g t.d, .g (.tuple (des.map deD)), .g (.tuple (tns.map .int)), .r 0, z4, z5, .u] M2 = .ok (dI (((W0 t).run des tns).wk.length : Nat)) M2 := by
      refine (cB_ok (ac_ok ((b1_ok (o3 _ M2)).trans (fld_ok hs2 lk_work)) ac0_ok)).trans ?_
      have : kvs2.length = ((W0 t).run des tns).wk.length := by
        have a := congrArg List.length hQ2.keys
        simpa using a
      simp [lenD, atM, hw2, rt, this]
    refine (sq_nx (asg_ok hlen rfl)).trans ?_
    refine (sq_nx u1).trans ?_
    have htk : cB tupL (ac (b1 (fldD "Weaving" "taken") (sl 3)) ac0) [.g t.d, .g (.tuple (des.map deD)), .g (.tuple (tns.map .int)), .r 0, z4, z5, dI (((W0 t).run des tns).wk.length : Nat)] M3 = .ok (.g (.tuple ((((W0 t).run des tns).comp 1000).tk.map tkP))) M3 := by
      refine (cB_ok (ac_ok ((b1_ok (o3 _ M3)).trans (fld_ok hs lk_taken)) ac0_ok)).trans ?_
      simp [tupL, atM, ht, rt, mkT_tk]
    refine sq_rt (ret_ok ((tup_ok (ac_ok ((cB_ok (ac_ok ((b1_ok (o3 _ M3)).trans (fld_ok hs lk_top)) ac0_ok)).trans hc) (ac_ok htk (ac_ok (show sl 6 _ M3 = .ok (dI (((W0 t).run des tns).wk.length : Nat)) M3 from rfl) ac0_ok)))).trans ?_))
    rfl
end K07
set_option Elab.async false
set_option linter.all false
set_option maxRecDepth 100000
set_option maxHeartbeats 1000000
/-! lm1: the law's own weaving -/
namespace Xt
open PySem
open Wv (HT En)
/-- a heap with holes as the law writes it -/
def hP : HT → PyData
  | .e => .none
  | .h m => .tuple [.str "hole", .int m]
  | .n k l r => .tuple [.int k, hP l, hP r]
theorem hP_of : ∀ t : Tr, hP (ofTr t) = t.d
  | .e => rfl
  | .n k l r => by simp [ofTr, hP, Tr.d, hP_of l, hP_of r]
theorem ok_hole : PyData.strOk ("hole" : Str) = true := by decide +kernel
theorem e_hh (M : Mem) : eqD false (.g (.str "hole")) (.g (.str "hole")) M = .ok (.g (.bool true)) M := by
  have : PyData.eqv (.str ("hole" : Str)) (.str ("hole" : Str)) = true := by decide +kernel
  rw [eqS ok_hole ok_hole, this]
theorem eqIS (a : Int) {b : Str} (hb : PyData.strOk b = true) (M : Mem) : eqD false (.g (.int a)) (.g (.str b)) M = .ok (.g (.bool false)) M := by
  have o : eqOk (.int a) (.str b) = true := by simp [eqOk, PyData.canLay0, PyData.depth, hb]
  have e : PyData.eqv (.int a) (.str b) = false := rfl
  show chk (eqOk (.int a) (.str b)) (rt (vB (PyData.eqv (.int a) (.str b)))) M = _
  rw [o, e]
  rfl
theorem isN_hP (b : Bool) (t : HT) (M : Mem) : isN b (.g (hP t)) M = .ok (vB (b != t.isE)) M := by
  cases t <;> cases b <;> rfl
theorem ix_ok {M : Mem} {ρ : Slots} {g : Slots → Co Dv} {s : Nat} {xs : List Dv} {i : Int} {d : Dv} (h : g ρ M = .ok (.r s) M) (hs : M[s]? = some (.lst xs)) (hi : L2.atI xs i = some d) : b2 ixD g (kk (.int i)) ρ M = .ok d M := by
  refine (b2_ok h (show kk (.int i) ρ M = .ok (dI i) M from rfl)).trans ?_
  simp [ixD, bnd, ofO, asI, dI, rt, atM, hs, hi]
theorem tSubL_ok {M : Mem} {ρ : Slots} {g g2 : Slots → Co Dv} {s : Nat} {xs : List Dv} {i : Int} {v : Dv} {n : Nat} (h : g ρ M = .ok (.r s) M) (h2 : g2 ρ M = .ok (dI i) M) (hs : M[s]? = some (.lst xs)) (hi : L2.ixN xs.length i = some n) : tSub g g2 v ρ M = .ok ρ (M.set s (.lst (xs.set n v))) := by
  unfold tSub
  rw [bnd_ok h]
  show bnd _ _ M = _
  rw [bnd_ok h2]
  simp [bnd, stD, ofO, asI, dI, rt, atM, hs, hi, putM]
theorem dvX_mid : ∀ {kp kq : List (Int × Dv)} {i : Int} {v : Dv}, (∀ p ∈ kp, p.1 ≠ i) → (∀ p ∈ kq, p.1 ≠ i) → dvX (kp ++ (i, v) :: kq) i = kp ++ kq
  | [], kq, i, v, _, h2 => by
    have : ∀ {l : List (Int × Dv)}, (∀ p ∈ l, p.1 ≠ i) → dvX l i = l := by
      intro l
      induction l with
      | nil => exact fun _ => rfl
      | cons a r ih =>
        intro h
        obtain ⟨j, d⟩ := a
        unfold dvX
        rw [decide_eq_false (h (j, d) (List.mem_cons_self ..)), ih fun p hp => h p (List.mem_cons_of_mem _ hp)]
    show (match decide (i = i) with
      | true => dvX kq i
      | false => (i, v) :: dvX kq i) = _
    rw [decide_eq_true rfl]
    exact this h2
  | (j, d) :: kp, kq, i, v, h, h2 => by
    show (match decide (j = i) with
      | true => dvX (kp ++ (i, v) :: kq) i
      | false => (j, d) :: dvX (kp ++ (i, v) :: kq) i) = _
    rw [decide_eq_false (h (j, d) (List.mem_cons_self ..)), dvX_mid (fun p hp => h p (List.mem_cons_of_mem _ hp)) h2]
    rfl
theorem dpop_ok {M : Mem} {ρ : Slots} {g g2 : Slots → Co Dv} {i : Nat} {k : Int} {kvs : List (Int × Dv)} {v : Dv} (h1 : g ρ M = .ok (.r i) M) (h2 : g2 ρ M = .ok (dI k) M) (h : M[i]? = some (.dct kvs)) (hv : dvV kvs k = some v) : dpopI g g2 ρ M = .ok v (M.set i (.dct (dvX kvs k))) := by
  unfold dpopI
  rw [bnd_ok h1]
  have e1 : dctOf (.r i) M = .ok i M := by simp [dctOf, atM, h, rt]
  rw [bnd_ok e1, bnd_ok h2]
  simp [bnd, ofO, asI, dI, rt, atM, h, hv]
/-- a deed at work, as the law writes it -/
def enP (f : En) : Int × Dv := (f.i, .g (.tuple [.int f.o, hP f.a, hP f.b]))
theorem enP_V : ∀ {wk : List En} {i : Int}, dvV (wk.map enP) i = (Wv.look wk i).map fun f => .g (.tuple [.int f.o, hP f.a, hP f.b])
  | [], _ => rfl
  | f :: r, i => by
    show (match decide (f.i = i) with
      | true => some (Dv.g (.tuple [.int f.o, hP f.a, hP f.b]))
      | false => dvV (r.map enP) i) = Option.map _ (if f.i = i then some f else Wv.look r i)
    by_cases h : f.i = i
    · rw [decide_eq_true h, if_pos h]
      rfl
    · rw [decide_eq_false h, if_neg h]
      exact enP_V
/-- the law's state -/
structure LR (s iw it : Nat) (M : Mem) (w : Wv.W) : Prop where
  hs : M[s]? = some (.lst [.g (hP w.top), dI w.ent, .r iw, .r it, dI w.mc])
  hw : M[iw]? = some (.dct (w.wk.map enP))
  ht : M[it]? = some (.lst (w.tk.map tkD))
  st : s ≠ it
/-- all else stays -/
structure Fr (s iw it : Nat) (M M' : Mem) : Prop where
  len : M'.length = M.length
  eq : ∀ j, j ≠ s → j ≠ iw → j ≠ it → M'[j]? = M[j]?
theorem Fr.refl {s iw it : Nat} (M : Mem) : Fr s iw it M M := ⟨rfl, fun _ _ _ _ => rfl⟩
theorem Fr.trans {s iw it : Nat} {M M1 M2 : Mem} (a : Fr s iw it M M1) (b : Fr s iw it M1 M2) : Fr s iw it M M2 := ⟨b.len.trans a.len, fun j h1 h2 h3 => (b.eq j h1 h2 h3).trans (a.eq j h1 h2 h3)⟩
theorem Fr.s {s iw it : Nat} {M : Mem} {mo : MO} : Fr s iw it M (M.set s mo) := ⟨List.length_set, fun j h1 _ _ => get_set_ne (Ne.symm h1)⟩
theorem Fr.w {s iw it : Nat} {M : Mem} {mo : MO} : Fr s iw it M (M.set iw mo) := ⟨List.length_set, fun j _ h2 _ => get_set_ne (Ne.symm h2)⟩
theorem Fr.t {s iw it : Nat} {M : Mem} {mo : MO} : Fr s iw it M (M.set it mo) := ⟨List.length_set, fun j _ _ h3 => get_set_ne (Ne.symm h3)⟩
end Xt
namespace K07
open Xt PySem
open Wv (HT En)
theorem q_hole_ok (n : Nat) (t : HT) : F_q_is_hole (n + 1) [.g (hP t)] [] = .ok (vB t.isH) [] := by
  show defF 1 1 b_q_is_hole _ _ = _
  cases t with
  | e => rfl
  | h m => simp [defF, chk, sq, ifs, tst, b2, b1, bnd, sl, kk, rt, ixD, atM, ofO, asI, L2.atI, L2.ixN, i2, i2c, tB, vB, dI, asg, tN, tT, tC, tZ, asT, tSub, stD, putM, Xt.ret, frZ, cB, ac, ac0, un1, skp, intD, lenD, addD, isN_none, isN_tup, isN_int, isN_lst, isN_tr, tru, grd_map, grd_mapI, grd_appI, tup, mkT, grd, szOk, trV, tor, tand, tnt, andV, ntV, iff, isi, isi2, knD, isTy, kn, pureC, Xt.ch, drp, par2, asG, asGp, fl, lstG, acS, lsP, eqI, neI, subD, leD, ltD, gtD, geD, b_q_is_hole, hP, e_hh, HT.isH]
  | n k l r => simp [defF, chk, sq, ifs, tst, b2, b1, bnd, sl, kk, rt, ixD, atM, ofO, asI, L2.atI, L2.ixN, i2, i2c, tB, vB, dI, asg, tN, tT, tC, tZ, asT, tSub, stD, putM, Xt.ret, frZ, cB, ac, ac0, un1, skp, intD, lenD, addD, isN_none, isN_tup, isN_int, isN_lst, isN_tr, tru, grd_map, grd_mapI, grd_appI, tup, mkT, grd, szOk, trV, tor, tand, tnt, andV, ntV, iff, isi, isi2, knD, isTy, kn, pureC, Xt.ch, drp, par2, asG, asGp, fl, lstG, acS, lsP, eqI, neI, subD, leD, ltD, gtD, geD, b_q_is_hole, hP, eqIS k ok_hole, HT.isH]
theorem put_in_ok (m : Int) (x : HT) : ∀ (t : HT) (n : Nat), t.dp + 1 ≤ n → F_q_put_in n [.g (hP t), dI m, .g (hP x)] [] = .ok (.g (hP (HT.fill m x t))) []
  | .e, n, h => by
    obtain ⟨n, rfl⟩ : ∃ k, n = k + 1 := ⟨n - 1, by omega⟩
    rfl
  | .h j, n, h => by
    obtain ⟨n, rfl⟩ : ∃ k, n = k + 1 := ⟨n - 1, by omega⟩
    show defF 3 3 (b_q_put_in (F_q_put_in n)) _ _ = _
    by_cases z : j = m
    · simp [defF, chk, sq, ifs, tst, b2, b1, bnd, sl, kk, rt, ixD, atM, ofO, asI, L2.atI, L2.ixN, i2, i2c, tB, vB, dI, asg, tN, tT, tC, tZ, asT, tSub, stD, putM, Xt.ret, frZ, cB, ac, ac0, un1, skp, intD, lenD, addD, isN_none, isN_tup, isN_int, isN_lst, isN_tr, tru, grd_map, grd_mapI, grd_appI, tup, mkT, grd, szOk, trV, tor, tand, tnt, andV, ntV, iff, isi, isi2, knD, isTy, kn, pureC, Xt.ch, drp, par2, asG, asGp, fl, lstG, acS, lsP, eqI, neI, subD, leD, ltD, gtD, geD, b_q_put_in, hP, e_hh, HT.fill, z]
    · simp [defF, chk, sq, ifs, tst, b2, b1, bnd, sl, kk, rt, ixD, atM, ofO, asI, L2.atI, L2.ixN, i2, i2c, tB, vB, dI, asg, tN, tT, tC, tZ, asT, tSub, stD, putM, Xt.ret, frZ, cB, ac, ac0, un1, skp, intD, lenD, addD, isN_none, isN_tup, isN_int, isN_lst, isN_tr, tru, grd_map, grd_mapI, grd_appI, tup, mkT, grd, szOk, trV, tor, tand, tnt, andV, ntV, iff, isi, isi2, knD, isTy, kn, pureC, Xt.ch, drp, par2, asG, asGp, fl, lstG, acS, lsP, eqI, neI, subD, leD, ltD, gtD, geD, b_q_put_in, hP, e_hh, HT.fill, z]
  | .n k l r, n, h => by
    simp only [HT.dp] at h
    obtain ⟨n, rfl⟩ : ∃ k, n = k + 1 := ⟨n - 1, by omega⟩
    have e1 := put_in_ok m x l n (by omega)
    have e2 := put_in_ok m x r n (by omega)
    simp only [dI] at e1 e2
    show defF 3 3 (b_q_put_in (F_q_put_in n)) _ _ = _
    simp [defF, chk, sq, ifs, tst, b2, b1, bnd, sl, kk, rt, ixD, atM, ofO, asI, L2.atI, L2.ixN, i2, i2c, tB, vB, dI, asg, tN, tT, tC, tZ, asT, tSub, stD, putM, Xt.ret, frZ, cB, ac, ac0, un1, skp, intD, lenD, addD, isN_none, isN_tup, isN_int, isN_lst, isN_tr, tru, grd_map, grd_mapI, grd_appI, tup, mkT, grd, szOk, trV, tor, tand, tnt, andV, ntV, iff, isi, isi2, knD, isTy, kn, pureC, Xt.ch, drp, par2, asG, asGp, fl, lstG, acS, lsP, eqI, neI, subD, leD, ltD, gtD, geD, b_q_put_in, hP, eqIS k ok_hole, HT.fill, e1, e2]
def lfB (F : List Dv → Co Dv) : Slots → Co Fl := (sq (asg (dgI (b2 ixD (sl 0) (kk (.int 2))) (sl 3)) (tT 3 (tC (tN 4) (tC (tN 5) (tC (tN 6) tZ)))))
    (sq (asg (tup (ac (sl 4) (ac (cB (pureC F) (ac (sl 5) (ac (sl 1) (ac (sl 2) ac0)))) (ac (cB (pureC F) (ac (sl 6) (ac (sl 1) (ac (sl 2) ac0)))) ac0)))) (tSub (b2 ixD (sl 0) (kk (.int 2))) (sl 3)))
    skp))
theorem lf_loop {n s iw it : Nat} {m : Int} {x : HT} {top : PyData} {ent mk : Int} {tks : List Dv} : ∀ (q p : List En) (M : Mem) (y3 y4 y5 y6 : Dv), M[s]? = some (.lst [.g top, dI ent, .r iw, .r it, dI mk]) → M[iw]? = some (.dct ((p ++ q).map enP)) → ((p ++ q).map En.i).Nodup → (p ++ q).length < 1000 → (∀ f ∈ q, max f.a.dp f.b.dp + 1 ≤ n) →
    ∃ M' z3 z4 z5 z6, forL (tN 3) (lfB (F_q_put_in n)) (q.map fun f => dI f.i) [.r s, dI m, .g (hP x), y3, y4, y5, y6] M = .ok (.nx [.r s, dI m, .g (hP x), z3, z4, z5, z6]) M' ∧ Fr s iw it M M' ∧ M'[s]? = M[s]? ∧ (iw ≠ it → M'[it]? = M[it]?) ∧ M'[iw]? = some (.dct ((p ++ q.map (En.fl m x)).map enP))
  | [], p, M, y3, y4, y5, y6, hs, hw, _, _, _ => ⟨M, y3, y4, y5, y6, rfl, .refl M, rfl, fun _ => rfl, hw⟩
  | f :: r, p, M, y3, y4, y5, y6, hs, hw, nd, hl, hn => by
    have nsw : s ≠ iw := ne_of hs hw (fun e => nomatch e)
    have ndm := nd
    rw [List.map_append, List.map_cons] at ndm
    obtain ⟨n1, n2, n3⟩ := List.nodup_append.mp ndm
    have hp : ∀ e ∈ p.map enP, e.1 ≠ f.i := fun e he => by
      obtain ⟨g, hg, rfl⟩ := List.mem_map.mp he
      exact n3 g.i (List.mem_map_of_mem hg) f.i (List.mem_cons_self ..)
    have hq : ∀ e ∈ r.map enP, e.1 ≠ f.i := fun e he => by
      obtain ⟨g, hg, rfl⟩ := List.mem_map.mp he
      intro z
      have : g.i = f.i := z
      exact (List.nodup_cons.mp n2).1 (this ▸ List.mem_map_of_mem hg)
    have hw2 : M[iw]? = some (.dct (p.map enP ++ (f.i, .g (.tuple [.int f.o, hP f.a, hP f.b])) :: r.map enP)) := by
      rw [hw, List.map_append, List.map_cons]
      rfl
    have hnf := hn f (List.mem_cons_self ..)
    have ea := put_in_ok m x f.a n (by omega)
    have eb := put_in_ok m x f.b n (by omega)
    let M1 := M.set iw (.dct ((p ++ [f.fl m x] ++ r).map enP))
    have hs1 : M1[s]? = some (.lst [.g top, dI ent, .r iw, .r it, dI mk]) := (get_set_ne (Ne.symm nsw)).trans hs
    have hw1 : M1[iw]? = some (.dct (((p ++ [f.fl m x]) ++ r).map enP)) := get_set hw
    obtain ⟨M', z3, z4, z5, z6, h1, h2, h3, h4, h5⟩ := lf_loop (n := n) (m := m) (x := x) (mk := mk) (tks := tks) r (p ++ [f.fl m x]) M1 (dI f.i) (dI f.o) (.g (hP f.a)) (.g (hP f.b)) hs1 hw1 (by simpa [En.fl] using nd) (by simpa using hl) (fun g hg => hn g (List.mem_cons_of_mem _ hg))
    refine ⟨M', z3, z4, z5, z6, (for_go (ρ1 := [.r s, dI m, .g (hP x), dI f.i, y4, y5, y6]) (M1 := M) rfl ?_).trans h1, Fr.w.trans h2, h3.trans (get_set_ne (Ne.symm nsw)), fun z => (h4 z).trans (get_set_ne z), ?_⟩
    · have o0 : ∀ (a b c d : Dv) (M : Mem), sl 0 [.r s, dI m, .g (hP x), a, b, c, d] M = .ok (.r s) M := fun _ _ _ _ _ => rfl
      have o3 : ∀ (b c d : Dv) (M : Mem), sl 3 [.r s, dI m, .g (hP x), dI f.i, b, c, d] M = .ok (dI f.i) M := fun _ _ _ _ => rfl
      refine (sq_nx (asg_ok (ρ' := [.r s, dI m, .g (hP x), dI f.i, dI f.o, .g (hP f.a), .g (hP f.b)]) (dgI_ok (ix_ok (o0 _ _ _ _ M) hs rfl) (o3 _ _ _ M) hw2 (dvV_mid hp)) rfl)).trans ?_
      have h2 : tup (ac (sl 4) (ac (cB (pureC (F_q_put_in n)) (ac (sl 5) (ac (sl 1) (ac (sl 2) ac0)))) (ac (cB (pureC (F_q_put_in n)) (ac (sl 6) (ac (sl 1) (ac (sl 2) ac0)))) ac0))) [.r s, dI m, .g (hP x), dI f.i, dI f.o, .g (hP f.a), .g (hP f.b)] M = .ok (mkT [dI f.o, .g (hP (HT.fill m x f.a)), .g (hP (HT.fill m x f.b))]) M :=
        tup_ok (ac_ok (show sl 4 _ M = .ok (dI f.o) M from rfl) (ac_ok ((cB_ok (ac_ok (show sl 5 _ M = .ok (.g (hP f.a)) M from rfl) (ac_ok (show sl 1 _ M = .ok (dI m) M from rfl) (ac_ok (show sl 2 _ M = .ok (.g (hP x)) M from rfl) ac0_ok)))).trans (pure_ok (xs := [hP f.a, .int m, hP x]) ea)) (ac_ok ((cB_ok (ac_ok (show sl 6 _ M = .ok (.g (hP f.b)) M from rfl) (ac_ok (show sl 1 _ M = .ok (dI m) M from rfl) (ac_ok (show sl 2 _ M = .ok (.g (hP x)) M from rfl) ac0_ok)))).trans (pure_ok (xs := [hP f.b, .int m, hP x]) eb)) ac0_ok)))
      refine (sq_nx (asg_ok h2 (tSubD_ok (ix_ok (o0 _ _ _ _ M) hs rfl) (o3 _ _ _ M) hw2 (by
        simp only [List.length_append, List.length_cons, List.length_map] at hl ⊢
        omega)))).trans ?_
      rw [dvP_mid hp hq]
      have : (p.map enP ++ (f.i, mkT [dI f.o, .g (hP (HT.fill m x f.a)), .g (hP (HT.fill m x f.b))]) :: r.map enP) = (p ++ [f.fl m x] ++ r).map enP := by
        rw [List.map_append, List.map_append, List.append_assoc]
        rfl
      rw [this]
      rfl
    · rw [h5]
      simp
theorem q_fill_ok {n s iw it : Nat} {m : Int} {x : HT} {M : Mem} {w : Wv.W} (R : LR s iw it M w) (nd : (w.wk.map En.i).Nodup) (hl : w.wk.length < 1000) (hn : w.top.dp + 1 ≤ n) (hn2 : ∀ f ∈ w.wk, max f.a.dp f.b.dp + 1 ≤ n) :
    ∃ M', F_q_fill (n + 1) [.r s, dI m, .g (hP x)] M = .ok (.g .none) M' ∧ Fr s iw it M M' ∧ LR s iw it M' { w with top := HT.fill m x w.top, wk := w.wk.map (En.fl m x) } := by
  obtain ⟨hs, hw, ht, hst⟩ := R
  have nsw : s ≠ iw := ne_of hs hw (fun e => nomatch e)
  have nwt : iw ≠ it := ne_of hw ht (fun e => nomatch e)
  let M1 := M.set s (.lst [.g (hP (HT.fill m x w.top)), dI w.ent, .r iw, .r it, dI w.mc])
  have hs1 : M1[s]? = some (.lst [.g (hP (HT.fill m x w.top)), dI w.ent, .r iw, .r it, dI w.mc]) := get_set hs
  have hw1 : M1[iw]? = some (.dct (([] ++ w.wk).map enP)) := (get_set_ne nsw).trans hw
  have ht1 : M1[it]? = some (.lst (w.tk.map tkD)) := (get_set_ne hst).trans ht
  obtain ⟨M2, z3, z4, z5, z6, h1, h2, h3, h4, h5⟩ := lf_loop (n := n) (m := m) (x := x) (tks := []) w.wk [] M1 .u .u .u .u hs1 hw1 nd (by simpa using hl) hn2
  refine ⟨M2, ?_, Fr.s.trans h2, ⟨h3.trans hs1, h5, (h4 nwt).trans ht1, hst⟩⟩
  show defF 7 3 (b_q_fill (F_q_put_in n)) [.r s, dI m, .g (hP x)] M = _
  refine def_nx (ρ := [.r s, dI m, .g (hP x), z3, z4, z5, z6]) rfl ?_
  show b_q_fill _ [.r s, dI m, .g (hP x), .u, .u, .u, .u] M = _
  have o0 : ∀ M, sl 0 [.r s, dI m, .g (hP x), .u, .u, .u, .u] M = .ok (.r s) M := fun _ => rfl
  have e0 := put_in_ok m x w.top n hn
  refine (sq_nx (asg_ok ((cB_ok (ac_ok (ix_ok (o0 M) hs rfl) (ac_ok (show sl 1 _ M = .ok (dI m) M from rfl) (ac_ok (show sl 2 _ M = .ok (.g (hP x)) M from rfl) ac0_ok)))).trans (pure_ok (xs := [hP w.top, .int m, hP x]) e0)) (tSubL_ok (i := 0) (n := 0) (o0 M) rfl hs rfl))).trans ?_
  have hsrc : srcS (cB lstX (ac (b2 ixD (sl 0) (kk (.int 2))) ac0)) [.r s, dI m, .g (hP x), .u, .u, .u, .u] M1 = .ok (w.wk.map fun f => dI f.i) M1 := by
    refine (bnd_ok (x := .g (.list ((w.wk.map enP).map fun kv => .int kv.1))) (M' := M1) ((cB_ok (ac_ok (ix_ok (o0 M1) hs1 rfl) ac0_ok)).trans ?_)).trans ?_
    · simp [lstX, atM, hw1, rt]
    · simp [its, ofO, rt, enP, dI]
  refine (sq_nx ((for_src hsrc).trans h1)).trans rfl
end K07
set_option Elab.async false
set_option linter.all false
set_option maxRecDepth 100000
set_option maxHeartbeats 1000000
/-! lm2: the law's own steps and enterings -/
namespace K07
open Xt PySem
open Wv (HT En)
def qstT (F : List Dv → Co Dv) : Slots → Co Fl := (sq (asg (b2 addD (b2 ixD (sl 0) (kk (.int 4))) (kk (.int 1))) (tSub (sl 0) (kk (.int 4))))
    (sq (asg (b2 ixD (sl 0) (kk (.int 4))) (tN 5))
    (sq (asg (tup (ac (sl 5) (ac (b2 ixD (sl 3) (kk (.int 2))) (ac (sl 4) ac0)))) (tSub (b2 ixD (sl 0) (kk (.int 2))) (sl 1)))
    (sq (drp (cB F (ac (sl 0) (ac (sl 2) (ac (tup (ac (b2 ixD (sl 3) (kk (.int 0))) (ac (tup (ac (kk (.str "hole")) (ac (sl 5) ac0))) (ac (b2 ixD (sl 3) (kk (.int 1))) ac0)))) ac0)))))
    skp))))
theorem qst_core {n s iw it : Nat} {M : Mem} {w : Wv.W} {f : En} {p q : List En} {k : Int} {l r b : HT} (I : Wv.Inv w) (sp : Wv.Sp w f p q) (hn : Wv.tot w + 4 ≤ n) (hl : w.wk.length < 1000) (R : LR s iw it M w)
    (hab : (f.a = .n k l r ∧ f.b = b) ∨ (f.a = b ∧ f.b = .n k l r)) :
    ∃ M' ρ', qstT (F_q_fill (n + 1)) [.r s, dI f.i, dI f.o, .g (hP (.n k l r)), .g (hP b), .u] M = .ok (.nx ρ') M' ∧ Fr s iw it M M' ∧ LR s iw it M' (w.stp f k l r b) := by
  obtain ⟨hs, hw, ht, hst⟩ := R
  have nsw : s ≠ iw := ne_of hs hw (fun e => nomatch e)
  have nwt : iw ≠ it := ne_of hw ht (fun e => nomatch e)
  have ok := sp.hp I
  have hfh : f.o ∉ l.hs ∧ f.o ∉ r.hs ∧ f.o ∉ b.hs := by
    have := ok.2
    unfold Wv.En.hs at this
    rcases hab with ⟨e1, e2⟩ | ⟨e1, e2⟩ <;> rw [e1, e2] at this <;> simp [HT.hs] at this ⊢ <;> simp [this]
  let c := w.mc + 1
  let M1 := M.set s (.lst [.g (hP w.top), dI w.ent, .r iw, .r it, dI c])
  have hs1 : M1[s]? = some (.lst [.g (hP w.top), dI w.ent, .r iw, .r it, dI c]) := get_set hs
  have hw1 : M1[iw]? = some (.dct (p.map enP ++ (f.i, .g (.tuple [.int f.o, hP f.a, hP f.b])) :: q.map enP)) := by
    have : M1[iw]? = some (.dct (w.wk.map enP)) := (get_set_ne nsw).trans hw
    rw [this, sp.eq, List.map_append, List.map_cons]
    rfl
  have hp : ∀ e ∈ p.map enP, e.1 ≠ f.i := fun e he => by
    obtain ⟨g, hg, rfl⟩ := List.mem_map.mp he
    exact sp.np g hg
  have hq : ∀ e ∈ q.map enP, e.1 ≠ f.i := fun e he => by
    obtain ⟨g, hg, rfl⟩ := List.mem_map.mp he
    exact sp.nq g hg
  let w' : Wv.W := { w with mc := c, wk := p ++ ⟨f.i, c, r, b⟩ :: q }
  let M2 := M1.set iw (.dct (w'.wk.map enP))
  have R2 : LR s iw it M2 w' := ⟨(get_set_ne (Ne.symm nsw)).trans hs1, get_set hw1, (get_set_ne nwt).trans ((get_set_ne hst).trans ht), hst⟩
  have key := I.key
  have kn : (w'.wk.map En.i).Nodup := by
    have : w'.wk.map En.i = w.wk.map En.i := by
      rw [sp.eq]
      simp [w']
    rw [this]
    exact key.imp fun h => by omega
  have lw : w'.wk.length < 1000 := by
    have : w'.wk.length = w.wk.length := by
      rw [sp.eq]
      simp [w']
    omega
  have fm : f ∈ w.wk := by
    rw [sp.eq]
    simp
  have dpf : r.dp ≤ Wv.tot w ∧ b.dp ≤ Wv.tot w := by
    have := dp_wk fm
    rcases hab with ⟨e1, e2⟩ | ⟨e1, e2⟩ <;> rw [e1, e2] at this <;> simp only [HT.dp] at this <;> omega
  obtain ⟨M3, h1, h2, h3⟩ := q_fill_ok (n := n) (m := f.o) (x := .n k (.h c) l) R2 kn lw (by have := dp_top w; show w.top.dp + 1 ≤ n; omega) (fun g hg => by
    have : g ∈ w.wk ∨ g = ⟨f.i, c, r, b⟩ := by
      rw [sp.eq]
      simp only [w', List.mem_append, List.mem_cons] at hg ⊢
      rcases hg with h | h | h
      · exact .inl (.inl h)
      · exact .inr h
      · exact .inl (.inr (.inr h))
    rcases this with h | h
    · have := dp_wk h
      omega
    · rw [h]
      show max r.dp b.dp + 1 ≤ n
      omega)
  have e2 : ({ w' with top := HT.fill f.o (.n k (.h c) l) w'.top, wk := w'.wk.map (En.fl f.o (.n k (.h c) l)) } : Wv.W) = w.stp f k l r b := by
    unfold Wv.W.stp
    have : w'.wk.map (En.fl f.o (.n k (.h c) l)) = w.wk.map fun g => if g.i = f.i then ⟨f.i, w.mc + 1, r, b⟩ else g.fl f.o (.n k (.h (w.mc + 1)) l) := by
      rw [sp.eq, Wv.stp_wk sp.np sp.nq]
      simp only [w', List.map_append, List.map_cons]
      rw [Wv.fl_id (f := ⟨f.i, c, r, b⟩) (by
        unfold Wv.En.hs
        rw [List.mem_append, not_or]
        exact ⟨hfh.2.1, hfh.2.2⟩)]
    rw [this]
  rw [e2] at h3
  refine ⟨M3, [.r s, dI f.i, dI f.o, .g (hP (.n k l r)), .g (hP b), dI c], ?_, (Fr.s.trans Fr.w).trans h2, h3⟩
  have o0 : ∀ (x : Dv) (M : Mem), sl 0 [.r s, dI f.i, dI f.o, .g (hP (.n k l r)), .g (hP b), x] M = .ok (.r s) M := fun _ _ => rfl
  have v1 : b2 addD (b2 ixD (sl 0) (kk (.int 4))) (kk (.int 1)) [.r s, dI f.i, dI f.o, .g (hP (.n k l r)), .g (hP b), .u] M = .ok (dI c) M := (b2_ok (ix_ok (o0 _ M) hs rfl) (show kk (.int 1) _ M = .ok (dI 1) M from rfl)).trans rfl
  unfold qstT
  refine (sq_nx (asg_ok v1 (tSubL_ok (i := 4) (n := 4) (o0 _ M) rfl hs rfl))).trans ?_
  refine (sq_nx (ρ' := [.r s, dI f.i, dI f.o, .g (hP (.n k l r)), .g (hP b), dI c]) (M' := M1) (asg_ok (ix_ok (o0 _ M1) hs1 rfl) rfl)).trans ?_
  have t1 : tup (ac (sl 5) (ac (b2 ixD (sl 3) (kk (.int 2))) (ac (sl 4) ac0))) [.r s, dI f.i, dI f.o, .g (hP (.n k l r)), .g (hP b), dI c] M1 = .ok (.g (.tuple [.int c, hP r, hP b])) M1 := rfl
  have lk : (p.map enP ++ (f.i, Dv.g (.tuple [.int f.o, hP f.a, hP f.b])) :: q.map enP).length < 1000 := by
    rw [sp.eq] at hl
    simp only [List.length_append, List.length_cons, List.length_map] at hl ⊢
    omega
  refine (sq_nx (asg_ok t1 (tSubD_ok (k := f.i) (ix_ok (o0 _ M1) hs1 rfl) rfl hw1 lk))).trans ?_
  rw [dvP_mid hp hq]
  have e3 : (p.map enP ++ (f.i, Dv.g (.tuple [.int c, hP r, hP b])) :: q.map enP) = w'.wk.map enP := by
    simp only [w', List.map_append, List.map_cons]
    rfl
  rw [e3]
  have t2 : ∀ M, tup (ac (b2 ixD (sl 3) (kk (.int 0))) (ac (tup (ac (kk (.str "hole")) (ac (sl 5) ac0))) (ac (b2 ixD (sl 3) (kk (.int 1))) ac0))) [.r s, dI f.i, dI f.o, .g (hP (.n k l r)), .g (hP b), dI c] M = .ok (.g (hP (.n k (.h c) l))) M := fun _ => rfl
  exact (sq_nx (drp_ok ((cB_ok (ac_ok (o0 _ M2) (ac_ok (show sl 2 _ M2 = .ok (dI f.o) M2 from rfl) (ac_ok (t2 M2) ac0_ok)))).trans h1))).trans rfl
theorem q_step_ok {n s iw it : Nat} {i : Int} {M : Mem} {w : Wv.W} {f : En} (I : Wv.Inv w) (hn : Wv.tot w + 4 ≤ n) (hl : w.wk.length < 1000) (hf : Wv.look w.wk i = some f) (R : LR s iw it M w) :
    ∃ M', F_q_step (n + 2) [.r s, dI i] M = .ok (.g .none) M' ∧ Fr s iw it M M' ∧ LR s iw it M' (w.step i) := by
  have R0 := R
  obtain ⟨hs, hw, ht, hst⟩ := R
  have nsw : s ≠ iw := ne_of hs hw (fun e => nomatch e)
  have nwt : iw ≠ it := ne_of hw ht (fun e => nomatch e)
  have hfi := (Wv.look_mem hf).2
  subst hfi
  obtain ⟨p, q, sp⟩ := I.sp hf
  have es : w.step f.i = w.act f f.a f.b := by
    unfold Wv.W.step
    rw [hf]
  rw [es]
  have hv : dvV (w.wk.map enP) f.i = some (.g (.tuple [.int f.o, hP f.a, hP f.b])) := by
    rw [enP_V, hf]
    rfl
  let σ : Slots := [.r s, dI f.i, dI f.o, .g (hP f.a), .g (hP f.b), .u]
  have o0 : ∀ M, sl 0 σ M = .ok (.r s) M := fun _ => rfl
  have st1 : asg (dgI (b2 ixD (sl 0) (kk (.int 2))) (sl 1)) (tT 3 (tC (tN 2) (tC (tN 3) (tC (tN 4) tZ)))) [.r s, dI f.i, .u, .u, .u, .u] M = .ok (.nx σ) M :=
    asg_ok (dgI_ok (i := iw) (k := f.i) (ix_ok (show sl 0 _ M = .ok (.r s) M from rfl) hs rfl) rfl hw hv) rfl
  have tH : tor (trV (cB (pureC (F_q_is_hole (n + 1))) (ac (sl 3) ac0))) (trV (cB (pureC (F_q_is_hole (n + 1))) (ac (sl 4) ac0))) σ M = .ok (f.a.isH || f.b.isH) M := by
    have h1 := trV_ok ((cB_ok (ac_ok (show sl 3 σ M = .ok (.g (hP f.a)) M from rfl) ac0_ok)).trans (pure_ok (xs := [hP f.a]) (q_hole_ok n f.a)))
    have h2 := trV_ok ((cB_ok (ac_ok (show sl 4 σ M = .ok (.g (hP f.b)) M from rfl) ac0_ok)).trans (pure_ok (xs := [hP f.b]) (q_hole_ok n f.b)))
    cases e : f.a.isH with
    | true =>
      rw [e] at h1
      exact tor_t h1
    | false =>
      rw [e] at h1
      exact (tor_f h1).trans h2
  have tE : tor (tst (b1 (isN false) (sl 3))) (tst (b1 (isN false) (sl 4))) σ M = .ok (f.a.isE || f.b.isE) M := by
    have h1 : tst (b1 (isN false) (sl 3)) σ M = .ok f.a.isE M := tst_ok ((b1_ok (show sl 3 σ M = .ok (.g (hP f.a)) M from rfl)).trans ((isN_hP false f.a M).trans (by cases f.a.isE <;> rfl)))
    have h2 : tst (b1 (isN false) (sl 4)) σ M = .ok f.b.isE M := tst_ok ((b1_ok (show sl 4 σ M = .ok (.g (hP f.b)) M from rfl)).trans ((isN_hP false f.b M).trans (by cases f.b.isE <;> rfl)))
    cases e : f.a.isE with
    | true =>
      rw [e] at h1
      exact tor_t h1
    | false =>
      rw [e] at h1
      exact (tor_f h1).trans h2
  let fS : Slots → Co Fl := (sq (drp (dpopI (b2 ixD (sl 0) (kk (.int 2))) (sl 1)))
    (sq (drp (cB (F_q_fill (n + 1)) (ac (sl 0) (ac (sl 2) (ac (iff (tst (b1 (isN false) (sl 4))) (sl 3) (sl 4)) ac0)))))
    (sq retN
    skp)))
  have eb : b_q_step (F_q_fill (n + 1)) (F_q_is_hole (n + 1)) = sq (asg (dgI (b2 ixD (sl 0) (kk (.int 2))) (sl 1)) (tT 3 (tC (tN 2) (tC (tN 3) (tC (tN 4) tZ)))))
    (sq (ifs (tor (trV (cB (pureC (F_q_is_hole (n + 1))) (ac (sl 3) ac0))) (trV (cB (pureC (F_q_is_hole (n + 1))) (ac (sl 4) ac0)))) (sq retN skp) skp)
    (sq (ifs (tor (tst (b1 (isN false) (sl 3))) (tst (b1 (isN false) (sl 4)))) fS skp)
    (sq (ifs (tst (b2 ltD (b2 ixD (sl 4) (kk (.int 0))) (b2 ixD (sl 3) (kk (.int 0))))) (sq (par2 3 4 (ac (sl 4) (ac (sl 3) ac0))) skp) skp)
    (qstT (F_q_fill (n + 1)))))) := rfl
  show ∃ M', defF 6 2 (b_q_step (F_q_fill (n + 1)) (F_q_is_hole (n + 1))) [.r s, dI f.i] M = _ ∧ _
  rw [eb]
  cases eH : (f.a.isH || f.b.isH) with
  | true =>
    rw [eH] at tH
    rw [act_h eH]
    refine ⟨M, def_rt rfl ?_, .refl M, R0⟩
    refine (sq_nx st1).trans ?_
    exact sq_rt ((ifs_t tH).trans (sq_rt rfl))
  | false =>
    rw [eH] at tH
    cases eE : (f.a.isE || f.b.isE) with
    | true =>
      rw [eE] at tE
      rw [act_e eH eE]
      let w' : Wv.W := { w with wk := p ++ q }
      let M1 := M.set iw (.dct (w'.wk.map enP))
      have R1 : LR s iw it M1 w' := ⟨(get_set_ne (Ne.symm nsw)).trans hs, get_set hw, (get_set_ne nwt).trans ht, hst⟩
      have key := I.key
      have kn : (w'.wk.map En.i).Nodup := by
        have k1 : (w.wk.map En.i).Nodup := key.imp fun h => by omega
        rw [sp.eq] at k1
        exact k1.sublist ((List.Sublist.append (List.Sublist.refl _) (List.sublist_cons_self _ _)).map _)
      have lw : w'.wk.length < 1000 := by
        rw [sp.eq] at hl
        simp only [w', List.length_append, List.length_cons] at hl ⊢
        omega
      let x := if f.b.isE then f.a else f.b
      obtain ⟨M2, h1, h2, h3⟩ := q_fill_ok (n := n) (m := f.o) (x := x) R1 kn lw (by have := dp_top w; show w.top.dp + 1 ≤ n; omega) (fun g hg => by
        have : g ∈ w.wk := by
          rw [sp.eq]
          simp only [w', List.mem_append, List.mem_cons] at hg ⊢
          rcases hg with h | h
          · exact .inl h
          · exact .inr (.inr h)
        have := dp_wk this
        omega)
      have e2 : ({ w' with top := HT.fill f.o x w'.top, wk := w'.wk.map (En.fl f.o x) } : Wv.W) = w.fin f x := by
        unfold Wv.W.fin
        rw [sp.eq, Wv.fin_wk sp.np sp.nq]
      rw [e2] at h3
      refine ⟨M2, def_rt rfl ?_, Fr.w.trans h2, h3⟩
      refine (sq_nx st1).trans ?_
      refine (sq_nx (ifs_f tH)).trans ?_
      refine sq_rt ((ifs_t tE).trans ?_)
      have ed : dvX (w.wk.map enP) f.i = w'.wk.map enP := by
        have e1 : w.wk.map enP = p.map enP ++ (f.i, .g (.tuple [.int f.o, hP f.a, hP f.b])) :: q.map enP := by
          rw [sp.eq, List.map_append, List.map_cons]
          rfl
        rw [e1, dvX_mid]
        · simp [w']
        · intro e he
          obtain ⟨g, hg, rfl⟩ := List.mem_map.mp he
          exact sp.np g hg
        · intro e he
          obtain ⟨g, hg, rfl⟩ := List.mem_map.mp he
          exact sp.nq g hg
      have dp := dpop_ok (i := iw) (k := f.i) (ix_ok (i := 2) (o0 M) hs rfl) (show sl 1 σ M = .ok (dI f.i) M from rfl) hw hv
      rw [ed] at dp
      refine (sq_nx (drp_ok dp)).trans ?_
      have hx : iff (tst (b1 (isN false) (sl 4))) (sl 3) (sl 4) σ M1 = .ok (.g (hP x)) M1 := by
        have t4 : tst (b1 (isN false) (sl 4)) σ M1 = .ok f.b.isE M1 := tst_ok ((b1_ok (show sl 4 σ M1 = .ok (.g (hP f.b)) M1 from rfl)).trans ((isN_hP false f.b M1).trans (by cases f.b.isE <;> rfl)))
        show _ = RE.ok (Dv.g (hP (if f.b.isE then f.a else f.b))) M1
        cases e : f.b.isE with
        | true =>
          rw [e] at t4
          exact (iff_t t4).trans rfl
        | false =>
          rw [e] at t4
          exact (iff_f t4).trans rfl
      refine (sq_nx (drp_ok ((cB_ok (ac_ok (o0 M1) (ac_ok (show sl 2 σ M1 = .ok (dI f.o) M1 from rfl) (ac_ok hx ac0_ok)))).trans h1))).trans ?_
      exact sq_rt rfl
    | false =>
      rw [eE] at tE
      cases ea : f.a with
      | e => rw [ea] at eE; simp [HT.isE] at eE
      | h m => rw [ea] at eH; simp [HT.isH] at eH
      | n k l r =>
        cases ebb : f.b with
        | e => rw [ebb] at eE; simp [HT.isE] at eE
        | h m => rw [ebb] at eH; simp [HT.isH] at eH
        | n k' l' r' =>
          have eσ : σ = [.r s, dI f.i, dI f.o, .g (hP (.n k l r)), .g (hP (.n k' l' r')), .u] := by
            show [_, _, _, Dv.g (hP f.a), Dv.g (hP f.b), _] = _
            rw [ea, ebb]
          rw [eσ] at st1 tH tE
          have tL : tst (b2 ltD (b2 ixD (sl 4) (kk (.int 0))) (b2 ixD (sl 3) (kk (.int 0)))) [.r s, dI f.i, dI f.o, .g (hP (.n k l r)), .g (hP (.n k' l' r')), .u] M = .ok (decide (k' < k)) M := rfl
          by_cases z : k' < k
          · rw [decide_eq_true z] at tL
            have ew : w.act f (.n k l r) (.n k' l' r') = w.stp f k' l' r' (.n k l r) := if_pos z
            rw [ew]
            obtain ⟨M', ρ', h1, h2, h3⟩ := qst_core (n := n) (k := k') (l := l') (r := r') (b := .n k l r) I sp hn hl R0 (.inr ⟨ea, ebb⟩)
            refine ⟨M', def_nx (ρ := ρ') rfl ?_, h2, h3⟩
            refine (sq_nx st1).trans ?_
            refine (sq_nx (ifs_f tH)).trans ?_
            refine (sq_nx (ifs_f tE)).trans ?_
            exact (sq_nx (M' := M) (ρ' := [.r s, dI f.i, dI f.o, .g (hP (.n k' l' r')), .g (hP (.n k l r)), .u]) ((ifs_t tL).trans rfl)).trans h1
          · rw [decide_eq_false z] at tL
            have ew : w.act f (.n k l r) (.n k' l' r') = w.stp f k l r (.n k' l' r') := if_neg z
            rw [ew]
            obtain ⟨M', ρ', h1, h2, h3⟩ := qst_core (n := n) (k := k) (l := l) (r := r) (b := .n k' l' r') I sp hn hl R0 (.inl ⟨ea, ebb⟩)
            refine ⟨M', def_nx (ρ := ρ') rfl ?_, h2, h3⟩
            refine (sq_nx st1).trans ?_
            refine (sq_nx (ifs_f tH)).trans ?_
            refine (sq_nx (ifs_f tE)).trans ?_
            exact (sq_nx (M' := M) (ρ' := [.r s, dI f.i, dI f.o, .g (hP (.n k l r)), .g (hP (.n k' l' r')), .u]) ((ifs_f tL).trans rfl)).trans h1
end K07
set_option Elab.async false
set_option linter.all false
set_option maxRecDepth 100000
set_option maxHeartbeats 1000000
/-! lm3: the law's own enterings -/
namespace K07
open Xt PySem
open Wv (HT En)
theorem q_beg {s iw it : Nat} {M : Mem} {w : Wv.W} {a b : HT} {tk : List (Option Int)} (I : Wv.Inv w) (R : LR s iw it M w) (h2 : M[it]? = M[it]?) :
    dvP (w.wk.map enP) w.ent (.g (.tuple [.int (w.mc + 1), hP a, hP b])) = (w.beg a b).wk.map enP := by
  have kn : ∀ e ∈ w.wk.map enP, e.1 ≠ w.ent := fun e he => by
    obtain ⟨g, hg, rfl⟩ := List.mem_map.mp he
    have := I.lt g hg
    show g.i ≠ w.ent
    omega
  unfold dvP
  rw [dvV_none kn]
  show _ = (w.wk ++ [_]).map enP
  rw [List.map_append]
  rfl
theorem q_enter_ok {n s iw it : Nat} {M : Mem} {w : Wv.W} (d : Option Int) (I : Wv.Inv w) (hn : Wv.tot w + 6 ≤ n) (hl : w.wk.length < 900) (htk : w.tk.length < 900) (R : LR s iw it M w) :
    ∃ M', F_q_enter (n + 3) [.r s, .g (deD d)] M = .ok (.g .none) M' ∧ Fr s iw it M M' ∧ LR s iw it M' (w.enter d) := by
  have R0 := R
  obtain ⟨hs, hw, ht, hst⟩ := R
  have nsw : s ≠ iw := ne_of hs hw (fun e => nomatch e)
  have nwt : iw ≠ it := ne_of hw ht (fun e => nomatch e)
  let σ : Slots := [.r s, .g (deD d), .g (hP w.top)]
  have o0 : ∀ M, sl 0 σ M = .ok (.r s) M := fun _ => rfl
  have o2 : ∀ M, sl 2 σ M = .ok (.g (hP w.top)) M := fun _ => rfl
  have o1 : ∀ M, sl 1 σ M = .ok (.g (deD d)) M := fun _ => rfl
  have st1 : asg (b2 ixD (sl 0) (kk (.int 0))) (tN 2) [.r s, .g (deD d), .u] M = .ok (.nx σ) M := asg_ok (ix_ok (i := 0) (show sl 0 _ M = .ok (.r s) M from rfl) hs rfl) rfl
  have tH : trV (cB (pureC (F_q_is_hole (n + 2))) (ac (sl 2) ac0)) σ M = .ok w.top.isH M := trV_ok ((cB_ok (ac_ok (o2 M) ac0_ok)).trans (pure_ok (xs := [hP w.top]) (q_hole_ok (n + 1) w.top)))
  have tN' : tst (b1 (isN false) (sl 2)) σ M = .ok w.top.isE M := tst_ok ((b1_ok (o2 M)).trans ((isN_hP false w.top M).trans (by cases w.top.isE <;> rfl)))
  have tP := isput (o1 M)
  show ∃ M', defF 3 2 (b_q_enter (F_q_step (n + 2)) (F_q_is_hole (n + 2))) [.r s, .g (deD d)] M = _ ∧ _
  have lenk : (w.wk.map enP).length < 1000 := by
    rw [List.length_map]
    omega
  -- a put
  have put : ∀ k, d = some k → w.top.isH = false → ∃ M', defF 3 2 (b_q_enter (F_q_step (n + 2)) (F_q_is_hole (n + 2))) [.r s, .g (deD d)] M = .ok (.g .none) M' ∧ Fr s iw it M M' ∧ LR s iw it M' ((w.beg w.top (.n k .e .e)).step w.ent) := fun k hd hH => by
    subst hd
    rw [hH] at tH
    let M1 := M.set s (.lst [.g (hP w.top), dI w.ent, .r iw, .r it, dI (w.mc + 1)])
    have hs1 : M1[s]? = some (.lst [.g (hP w.top), dI w.ent, .r iw, .r it, dI (w.mc + 1)]) := get_set hs
    have hw1 : M1[iw]? = some (.dct (w.wk.map enP)) := (get_set_ne nsw).trans hw
    let w2 := w.beg w.top (.n k .e .e)
    let M2 := M1.set iw (.dct (w2.wk.map enP))
    have hs2 : M2[s]? = some (.lst [.g (hP w.top), dI w.ent, .r iw, .r it, dI (w.mc + 1)]) := (get_set_ne (Ne.symm nsw)).trans hs1
    let M3 := M2.set s (.lst [.g (hP (.h (w.mc + 1))), dI w.ent, .r iw, .r it, dI (w.mc + 1)])
    have hs3 : M3[s]? = some (.lst [.g (hP (.h (w.mc + 1))), dI w.ent, .r iw, .r it, dI (w.mc + 1)]) := get_set hs2
    let M4 := M3.set s (.lst [.g (hP (.h (w.mc + 1))), dI (w.ent + 1), .r iw, .r it, dI (w.mc + 1)])
    have hs4 : M4[s]? = some (.lst [.g (hP (.h (w.mc + 1))), dI (w.ent + 1), .r iw, .r it, dI (w.mc + 1)]) := get_set hs3
    have R4 : LR s iw it M4 w2 := ⟨hs4, (get_set_ne nsw).trans ((get_set_ne nsw).trans (get_set hw1)), (get_set_ne hst).trans ((get_set_ne hst).trans ((get_set_ne nwt).trans ((get_set_ne hst).trans ht))), hst⟩
    have I2 : Wv.Inv w2 := I.beg fun m => by simp [HT.hs]
    have t2 := Wv.tot_beg w w.top (.n k .e .e)
    have t3 : (HT.n k .e .e).sz = 1 := rfl
    have lk2 : Wv.look w2.wk w.ent = some ⟨w.ent, w.mc + 1, w.top, .n k .e .e⟩ := look_app (f := ⟨w.ent, w.mc + 1, w.top, .n k .e .e⟩) fun g hg => by
      have := I.lt g hg
      show g.i ≠ w.ent
      omega
    have l2 : w2.wk.length < 1000 := by
      show (w.wk ++ [_]).length < 1000
      simp only [List.length_append, List.length_cons, List.length_nil]
      omega
    obtain ⟨M5, g1, g2, g3⟩ := q_step_ok (n := n) I2 (by show Wv.tot (w.beg w.top (.n k .e .e)) + 4 ≤ n; omega) l2 lk2 R4
    refine ⟨M5, def_nx (ρ := [.r s, .g (deD (some k)), .g (hP w.top)]) rfl ?_, (((Fr.s.trans Fr.w).trans Fr.s).trans Fr.s).trans g2, g3⟩
    refine (sq_nx st1).trans ?_
    refine (sq_nx (M' := M) (ρ' := [.r s, .g (deD (some k)), .g (hP w.top)]) ((ifs_f tH).trans rfl)).trans ?_
    refine (sq_nx (M' := M5) (ρ' := [.r s, .g (deD (some k)), .g (hP w.top)]) ((ifs_t tP).trans ?_)).trans rfl
    have v1 : b2 addD (b2 ixD (sl 0) (kk (.int 4))) (kk (.int 1)) [.r s, .g (deD (some k)), .g (hP w.top)] M = .ok (dI (w.mc + 1)) M := (b2_ok (ix_ok (o0 M) hs rfl) (show kk (.int 1) _ M = .ok (dI 1) M from rfl)).trans rfl
    refine (sq_nx (asg_ok v1 (tSubL_ok (i := 4) (n := 4) (o0 M) rfl hs rfl))).trans ?_
    have v2 : tup (ac (b2 ixD (sl 0) (kk (.int 4))) (ac (sl 2) (ac (tup (ac (b2 ixD (sl 1) (kk (.int 1))) (ac (kk .none) (ac (kk .none) ac0)))) ac0))) [.r s, .g (deD (some k)), .g (hP w.top)] M1 = .ok (mkT [dI (w.mc + 1), .g (hP w.top), .g (hP (.n k .e .e))]) M1 := tup_ok (ac_ok (ix_ok (o0 M1) hs1 rfl) (ac_ok (o2 M1) (ac_ok (show tup _ _ M1 = .ok (.g (hP (.n k .e .e))) M1 from rfl) ac0_ok)))
    refine (sq_nx (asg_ok v2 (tSubD_ok (k := w.ent) (ix_ok (i := 2) (o0 M1) hs1 rfl) (ix_ok (i := 1) (o0 M1) hs1 rfl) hw1 lenk))).trans ?_
    have eP := q_beg (a := w.top) (b := .n k .e .e) (tk := []) I R0 rfl
    have em : mkT [dI (w.mc + 1), .g (hP w.top), .g (hP (.n k .e .e))] = .g (.tuple [.int (w.mc + 1), hP w.top, hP (.n k .e .e)]) := rfl
    rw [em, eP]
    have v3 : tup (ac (tup (ac (kk (.str "hole")) (ac (b2 ixD (sl 0) (kk (.int 4))) ac0))) (ac (b2 addD (b2 ixD (sl 0) (kk (.int 1))) (kk (.int 1))) ac0)) [.r s, .g (deD (some k)), .g (hP w.top)] M2 = .ok (mkT [.g (hP (.h (w.mc + 1))), dI (w.ent + 1)]) M2 :=
      tup_ok (ac_ok ((tup_ok (ac_ok (show kk (.str "hole") _ M2 = .ok (.g (.str "hole")) M2 from rfl) (ac_ok (ix_ok (i := 4) (o0 M2) hs2 rfl) ac0_ok))).trans rfl) (ac_ok ((b2_ok (ix_ok (i := 1) (o0 M2) hs2 rfl) (show kk (.int 1) _ M2 = .ok (dI 1) M2 from rfl)).trans rfl) ac0_ok))
    have t4 : tT 2 (tC (tSub (sl 0) (kk (.int 0))) (tC (tSub (sl 0) (kk (.int 1))) tZ)) (mkT [.g (hP (.h (w.mc + 1))), dI (w.ent + 1)]) [.r s, .g (deD (some k)), .g (hP w.top)] M2 = .ok [.r s, .g (deD (some k)), .g (hP w.top)] M4 := by
      refine (bnd_ok (show (ofO (asT (mkT [.g (hP (.h (w.mc + 1))), dI (w.ent + 1)])) : Co _) M2 = .ok [.g (hP (.h (w.mc + 1))), dI (w.ent + 1)] M2 from by rw [asT_mkT]; rfl)).trans ?_
      refine (bnd_ok (tSubL_ok (i := 0) (n := 0) (o0 M2) rfl hs2 rfl)).trans ?_
      exact (bnd_ok (tSubL_ok (i := 1) (n := 1) (o0 M3) rfl hs3 rfl)).trans rfl
    refine (sq_nx (asg_ok v3 t4)).trans ?_
    have v5 : b2 subD (b2 ixD (sl 0) (kk (.int 1))) (kk (.int 1)) [.r s, .g (deD (some k)), .g (hP w.top)] M4 = .ok (dI w.ent) M4 := by
      refine (b2_ok (ix_ok (i := 1) (o0 M4) hs4 rfl) (show kk (.int 1) _ M4 = .ok (dI 1) M4 from rfl)).trans ?_
      show RE.ok (dI (w.ent + 1 - 1)) M4 = _
      rw [show w.ent + 1 - 1 = w.ent by omega]
    exact (sq_nx (drp_ok ((cB_ok (ac_ok (o0 M4) (ac_ok v5 ac0_ok))).trans g1))).trans rfl
  cases eT : w.top with
  | h m =>
    have ew : w.enter d = w := by
      unfold Wv.W.enter
      rw [eT]
    rw [ew]
    have : w.top.isH = true := by rw [eT]; rfl
    rw [this] at tH
    refine ⟨M, def_rt rfl ?_, .refl M, R0⟩
    refine (sq_nx st1).trans ?_
    exact sq_rt ((ifs_t tH).trans (sq_rt rfl))
  | e =>
    have hH : w.top.isH = false := by rw [eT]; rfl
    have hE : w.top.isE = true := by rw [eT]; rfl
    cases d with
    | some k =>
      have ew : w.enter (some k) = (w.beg w.top (.n k .e .e)).step w.ent := by
        unfold Wv.W.enter
        rw [eT]
      rw [ew]
      exact put k rfl hH
    | none =>
      have ew : w.enter none = { w with ent := w.ent + 1, tk := w.tk ++ [none] } := by
        unfold Wv.W.enter
        rw [eT]
      rw [ew]
      rw [hH] at tH
      rw [hE] at tN'
      let M1 := M.set s (.lst [.g (hP w.top), dI (w.ent + 1), .r iw, .r it, dI w.mc])
      have hs1 : M1[s]? = some (.lst [.g (hP w.top), dI (w.ent + 1), .r iw, .r it, dI w.mc]) := get_set hs
      have ht1 : M1[it]? = some (.lst (w.tk.map tkD)) := (get_set_ne hst).trans ht
      let M2 := M1.set it (.lst (w.tk.map tkD ++ [.g .none]))
      refine ⟨M2, def_nx (ρ := σ) rfl ?_, Fr.s.trans Fr.t, ⟨(get_set_ne (Ne.symm hst)).trans hs1, (get_set_ne (Ne.symm nwt)).trans ((get_set_ne nsw).trans hw), by rw [tk_app]; exact get_set ht1, hst⟩⟩
      refine (sq_nx st1).trans ?_
      refine (sq_nx (M' := M) (ρ' := σ) ((ifs_f tH).trans rfl)).trans ?_
      refine (sq_nx (M' := M2) (ρ' := σ) ((ifs_f tP).trans ?_)).trans rfl
      refine (sq_nx (M' := M2) (ρ' := σ) ((ifs_t tN').trans ?_)).trans rfl
      have v1 : b2 addD (b2 ixD (sl 0) (kk (.int 1))) (kk (.int 1)) σ M = .ok (dI (w.ent + 1)) M := (b2_ok (ix_ok (o0 M) hs rfl) (show kk (.int 1) _ M = .ok (dI 1) M from rfl)).trans rfl
      refine (sq_nx (asg_ok v1 (tSubL_ok (i := 1) (n := 1) (o0 M) rfl hs rfl))).trans ?_
      exact (sq_nx (drp_ok (app_ok (ix_ok (i := 3) (o0 M1) hs1 rfl) ht1 (show kk .none _ M1 = .ok (.g .none) M1 from rfl) (by rw [List.length_map]; omega)))).trans rfl
  | n k l r =>
    have hH : w.top.isH = false := by rw [eT]; rfl
    have hE : w.top.isE = false := by rw [eT]; rfl
    cases d with
    | some k' =>
      have ew : w.enter (some k') = (w.beg w.top (.n k' .e .e)).step w.ent := by
        unfold Wv.W.enter
        rw [eT]
      rw [ew]
      exact put k' rfl hH
    | none =>
      rw [hH] at tH
      rw [hE] at tN'
      have eσ : σ = [.r s, .g (deD none), .g (hP (.n k l r))] := by
        show [_, _, Dv.g (hP w.top)] = _
        rw [eT]
      have vl : ∀ M, b2 ixD (sl 2) (kk (.int 1)) σ M = .ok (.g (hP l)) M := fun M => by rw [eσ]; rfl
      have vr : ∀ M, b2 ixD (sl 2) (kk (.int 2)) σ M = .ok (.g (hP r)) M := fun M => by rw [eσ]; rfl
      have vk : ∀ M, b2 ixD (sl 2) (kk (.int 0)) σ M = .ok (dI k) M := fun M => by rw [eσ]; rfl
      have tA : tand (tnt (trV (cB (pureC (F_q_is_hole (n + 2))) (ac (b2 ixD (sl 2) (kk (.int 1))) ac0)))) (tnt (trV (cB (pureC (F_q_is_hole (n + 2))) (ac (b2 ixD (sl 2) (kk (.int 2))) ac0)))) σ M = .ok (!(l.isH || r.isH)) M := by
        have h1 := tnt_ok (trV_ok ((cB_ok (ac_ok (vl M) ac0_ok)).trans (pure_ok (xs := [hP l]) (q_hole_ok (n + 1) l))))
        have h2 := tnt_ok (trV_ok ((cB_ok (ac_ok (vr M) ac0_ok)).trans (pure_ok (xs := [hP r]) (q_hole_ok (n + 1) r))))
        cases e : l.isH with
        | true =>
          rw [e] at h1
          exact tand_f h1
        | false =>
          rw [e] at h1
          exact (tand_t h1).trans h2
      have tX : ∀ M', tor (tst (b1 (isN false) (b2 ixD (sl 2) (kk (.int 1))))) (tst (b1 (isN false) (b2 ixD (sl 2) (kk (.int 2))))) σ M' = .ok (l.isE || r.isE) M' := fun M' => by
        have h1 : tst (b1 (isN false) (b2 ixD (sl 2) (kk (.int 1)))) σ M' = .ok l.isE M' := tst_ok ((b1_ok (vl M')).trans ((isN_hP false l M').trans (by cases l.isE <;> rfl)))
        have h2 : tst (b1 (isN false) (b2 ixD (sl 2) (kk (.int 2)))) σ M' = .ok r.isE M' := tst_ok ((b1_ok (vr M')).trans ((isN_hP false r M').trans (by cases r.isE <;> rfl)))
        cases e : l.isE with
        | true =>
          rw [e] at h1
          exact tor_t h1
        | false =>
          rw [e] at h1
          exact (tor_f h1).trans h2
      cases eH : (l.isH || r.isH) with
      | true =>
        rw [eH] at tA
        have ew : w.enter none = w := by
          unfold Wv.W.enter
          rw [eT]
          simp only
          rw [if_pos eH]
        rw [ew]
        refine ⟨M, def_nx (ρ := σ) rfl ?_, .refl M, R0⟩
        refine (sq_nx st1).trans ?_
        refine (sq_nx (M' := M) (ρ' := σ) ((ifs_f tH).trans rfl)).trans ?_
        refine (sq_nx (M' := M) (ρ' := σ) ((ifs_f tP).trans ?_)).trans rfl
        refine (sq_nx (M' := M) (ρ' := σ) ((ifs_f tN').trans ?_)).trans rfl
        exact (sq_nx (M' := M) (ρ' := σ) ((ifs_f tA).trans rfl)).trans rfl
      | false =>
        rw [eH] at tA
        let M1 := M.set it (.lst (w.tk.map tkD ++ [dI k]))
        have hs1 : M1[s]? = some (.lst [.g (hP w.top), dI w.ent, .r iw, .r it, dI w.mc]) := (get_set_ne (Ne.symm hst)).trans hs
        have hw1 : M1[iw]? = some (.dct (w.wk.map enP)) := (get_set_ne (Ne.symm nwt)).trans hw
        have ht1 : M1[it]? = some (.lst ((w.tk ++ [some k]).map tkD)) := by
          rw [tk_app]
          exact get_set ht
        have hap : drp (app (b2 ixD (sl 0) (kk (.int 3))) (b2 ixD (sl 2) (kk (.int 0)))) σ M = .ok (.nx σ) M1 := drp_ok (app_ok (ix_ok (i := 3) (o0 M) hs rfl) ht (vk M) (by rw [List.length_map]; omega))
        -- the entered count at the end
        have fin : ∀ {M2 : Mem} {tp : PyData} {mk : Int}, M2[s]? = some (.lst [.g tp, dI w.ent, .r iw, .r it, dI mk]) → asg (b2 addD (b2 ixD (sl 0) (kk (.int 1))) (kk (.int 1))) (tSub (sl 0) (kk (.int 1))) σ M2 = .ok (.nx σ) (M2.set s (.lst [.g tp, dI (w.ent + 1), .r iw, .r it, dI mk])) := fun {M2 tp mk} h =>
          asg_ok ((b2_ok (ix_ok (i := 1) (o0 M2) h rfl) (show kk (.int 1) _ M2 = .ok (dI 1) M2 from rfl)).trans rfl) (tSubL_ok (i := 1) (n := 1) (o0 M2) rfl h rfl)
        cases eE : (l.isE || r.isE) with
        | true =>
          have ew : w.enter none = { w with top := if l.isE then r else l, ent := w.ent + 1, tk := w.tk ++ [some k] } := by
            unfold Wv.W.enter
            rw [eT]
            simp only
            rw [if_neg (by rw [eH]; exact fun z => nomatch z), if_pos eE]
          rw [ew]
          have tX1 := tX M1
          rw [eE] at tX1
          let x := if l.isE then r else l
          have hx : iff (tst (b1 (isN false) (b2 ixD (sl 2) (kk (.int 1))))) (b2 ixD (sl 2) (kk (.int 2))) (b2 ixD (sl 2) (kk (.int 1))) σ M1 = .ok (.g (hP x)) M1 := by
            have h1 : tst (b1 (isN false) (b2 ixD (sl 2) (kk (.int 1)))) σ M1 = .ok l.isE M1 := tst_ok ((b1_ok (vl M1)).trans ((isN_hP false l M1).trans (by cases l.isE <;> rfl)))
            show _ = RE.ok (Dv.g (hP (if l.isE then r else l))) M1
            cases e : l.isE with
            | true =>
              rw [e] at h1
              exact (iff_t h1).trans (vr M1)
            | false =>
              rw [e] at h1
              exact (iff_f h1).trans (vl M1)
          let M2 := M1.set s (.lst [.g (hP x), dI w.ent, .r iw, .r it, dI w.mc])
          have hs2 : M2[s]? = some (.lst [.g (hP x), dI w.ent, .r iw, .r it, dI w.mc]) := get_set hs1
          let M3 := M2.set s (.lst [.g (hP x), dI (w.ent + 1), .r iw, .r it, dI w.mc])
          refine ⟨M3, def_nx (ρ := σ) rfl ?_, (Fr.t.trans Fr.s).trans Fr.s, ⟨get_set hs2, (get_set_ne nsw).trans ((get_set_ne nsw).trans hw1), (get_set_ne hst).trans ((get_set_ne hst).trans ht1), hst⟩⟩
          refine (sq_nx st1).trans ?_
          refine (sq_nx (M' := M) (ρ' := σ) ((ifs_f tH).trans rfl)).trans ?_
          refine (sq_nx (M' := M3) (ρ' := σ) ((ifs_f tP).trans ?_)).trans rfl
          refine (sq_nx (M' := M3) (ρ' := σ) ((ifs_f tN').trans ?_)).trans rfl
          refine (sq_nx (M' := M3) (ρ' := σ) ((ifs_t tA).trans ?_)).trans rfl
          refine (sq_nx hap).trans ?_
          refine (sq_nx (M' := M2) (ρ' := σ) ((ifs_t tX1).trans ((sq_nx (asg_ok hx (tSubL_ok (i := 0) (n := 0) (o0 M1) rfl hs1 rfl))).trans rfl))).trans ?_
          exact (sq_nx (fin hs2)).trans rfl
        | false =>
          have ew : w.enter none = ({ w with tk := w.tk ++ [some k] } : Wv.W).beg l r := by
            unfold Wv.W.enter
            rw [eT]
            simp only
            rw [if_neg (by rw [eH]; exact fun z => nomatch z), if_neg (by rw [eE]; exact fun z => nomatch z)]
          rw [ew]
          have tX1 := tX M1
          rw [eE] at tX1
          have I1 : Wv.Inv { w with tk := w.tk ++ [some k] } := ⟨I.key, I.lt, I.nn, I.e0, I.nd, I.le, I.one, I.top, I.ok⟩
          let c := w.mc + 1
          let M2 := M1.set s (.lst [.g (hP w.top), dI w.ent, .r iw, .r it, dI c])
          have hs2 : M2[s]? = some (.lst [.g (hP w.top), dI w.ent, .r iw, .r it, dI c]) := get_set hs1
          have hw2 : M2[iw]? = some (.dct (w.wk.map enP)) := (get_set_ne nsw).trans hw1
          let w2 := w.beg l r
          let M3 := M2.set iw (.dct (w2.wk.map enP))
          have hs3 : M3[s]? = some (.lst [.g (hP w.top), dI w.ent, .r iw, .r it, dI c]) := (get_set_ne (Ne.symm nsw)).trans hs2
          let M4 := M3.set s (.lst [.g (hP (.h c)), dI w.ent, .r iw, .r it, dI c])
          have hs4 : M4[s]? = some (.lst [.g (hP (.h c)), dI w.ent, .r iw, .r it, dI c]) := get_set hs3
          let M5 := M4.set s (.lst [.g (hP (.h c)), dI (w.ent + 1), .r iw, .r it, dI c])
          refine ⟨M5, def_nx (ρ := σ) rfl ?_, (((Fr.t.trans Fr.s).trans Fr.w).trans Fr.s).trans Fr.s, ⟨get_set hs4, (get_set_ne nsw).trans ((get_set_ne nsw).trans (get_set hw2)), (get_set_ne hst).trans ((get_set_ne hst).trans ((get_set_ne nwt).trans ((get_set_ne hst).trans ht1))), hst⟩⟩
          refine (sq_nx st1).trans ?_
          refine (sq_nx (M' := M) (ρ' := σ) ((ifs_f tH).trans rfl)).trans ?_
          refine (sq_nx (M' := M5) (ρ' := σ) ((ifs_f tP).trans ?_)).trans rfl
          refine (sq_nx (M' := M5) (ρ' := σ) ((ifs_f tN').trans ?_)).trans rfl
          refine (sq_nx (M' := M5) (ρ' := σ) ((ifs_t tA).trans ?_)).trans rfl
          refine (sq_nx hap).trans ?_
          refine (sq_nx (M' := M4) (ρ' := σ) ((ifs_f tX1).trans ?_)).trans ((sq_nx (fin hs4)).trans rfl)
          have v1 : b2 addD (b2 ixD (sl 0) (kk (.int 4))) (kk (.int 1)) σ M1 = .ok (dI c) M1 := (b2_ok (ix_ok (o0 M1) hs1 rfl) (show kk (.int 1) _ M1 = .ok (dI 1) M1 from rfl)).trans rfl
          refine (sq_nx (asg_ok v1 (tSubL_ok (i := 4) (n := 4) (o0 M1) rfl hs1 rfl))).trans ?_
          have v2 : tup (ac (b2 ixD (sl 0) (kk (.int 4))) (ac (b2 ixD (sl 2) (kk (.int 1))) (ac (b2 ixD (sl 2) (kk (.int 2))) ac0))) σ M2 = .ok (mkT [dI c, .g (hP l), .g (hP r)]) M2 := tup_ok (ac_ok (ix_ok (i := 4) (o0 M2) hs2 rfl) (ac_ok (vl M2) (ac_ok (vr M2) ac0_ok)))
          refine (sq_nx (asg_ok v2 (tSubD_ok (k := w.ent) (ix_ok (i := 2) (o0 M2) hs2 rfl) (ix_ok (i := 1) (o0 M2) hs2 rfl) hw2 lenk))).trans ?_
          have eP := q_beg (a := l) (b := r) (tk := []) I R0 rfl
          have em : mkT [dI c, .g (hP l), .g (hP r)] = .g (.tuple [.int (w.mc + 1), hP l, hP r]) := rfl
          rw [em, eP]
          have v3 : tup (ac (kk (.str "hole")) (ac (b2 ixD (sl 0) (kk (.int 4))) ac0)) σ M3 = .ok (.g (hP (.h c))) M3 := (tup_ok (ac_ok (show kk (.str "hole") _ M3 = .ok (.g (.str "hole")) M3 from rfl) (ac_ok (ix_ok (i := 4) (o0 M3) hs3 rfl) ac0_ok))).trans rfl
          exact (sq_nx (asg_ok v3 (tSubL_ok (i := 0) (n := 0) (o0 M3) rfl hs3 rfl))).trans rfl
end K07
set_option linter.all false
set_option maxRecDepth 100000
namespace Xt
open PySem
/-- the law's row of draws -/
def RW (ns : List Int) (a b c : Int) : MO := .lst [.g (.list (ns.map .int)), dI a, dI b, dI c]
theorem small_of {i : Int} (h : i.natAbs ≤ 2147483647) : small i = true := by
  unfold small
  refine Nat.ble_eq_true_of_le ?_
  have : (2147483647 : Nat) < 2 ^ 4096 := by decide +kernel
  omega
end Xt
namespace K07
open Xt PySem
theorem tk (ns : List Int) (a b c many : Int) (rest : Mem) (hm : 0 < many) (hm2 : many ≤ 1000) (ha : 0 ≤ a) (hb : 0 ≤ b) (hb2 : b < 2147483647) :
    ∃ d a' b' c', 0 ≤ d ∧ d < many ∧ 0 ≤ a' ∧ 0 ≤ b' ∧ b' < 2147483647 ∧ defF 4 2 b_q_taken [.r 0, dI many] (RW ns a b c :: rest) = .ok (dI d) (RW ns a' b' c' :: rest) := by
  have m1 : ∀ x, divOk x many = true := fun x => by
    unfold divOk
    rw [decide_eq_true hm, small_of (by omega)]
    rfl
  have m2 : mulOk b 48271 = true := by
    unfold mulOk
    rw [small_of (by omega), small_of (by decide)]
    rfl
  have m7 : ∀ x, divOk x 7 = true := fun x => by
    unfold divOk
    rw [small_of (by decide)]
    rfl
  have mp : powOk 10 18 = true := by decide +kernel
  have mD : ∀ (x : Int) (e : Dv), mulD (.g (.int x)) e = i2c mulOk (fun i j => dI (i * j)) (.g (.int x)) e := fun _ _ => rfl
  by_cases hc : 0 < c
  · refine ⟨c % many, a, b, c / many, Int.emod_nonneg _ (by omega), Int.emod_lt_of_pos _ hm, ha, hb, hb2, ?_⟩
    simp [b_q_taken, defF, chk, RW, sq, ifs, tst, b2, bnd, sl, kk, rt, ixD, atM, ofO, asI, L2.atI, L2.ixN, i2, i2c, tB, vB, dI, asg, tN, tSub, stD, putM, Xt.ret, b1, frZ, cB, ac, ac0, un1, m1, skp, intD, hc, hm]
  · by_cases hl : a + 1 > (ns.length : Int)
    · refine ⟨((b * 48271 + 11) % 2147483647 / 7) % many, a + 1, (b * 48271 + 11) % 2147483647, c, Int.emod_nonneg _ (by omega), Int.emod_lt_of_pos _ hm, by omega, by omega, by omega, ?_⟩
      have hl' : (ns.length : Int) < a + 1 := hl
      simp [b_q_taken, defF, chk, RW, sq, ifs, tst, b2, bnd, sl, kk, rt, ixD, atM, ofO, asI, L2.atI, L2.ixN, i2, i2c, tB, vB, dI, asg, tN, tSub, stD, putM, Xt.ret, b1, frZ, cB, ac, ac0, un1, m1, m2, m7, mD, skp, intD, hc, hm, lenD, hl', addD]
    · have hj : a.toNat < ns.length := by omega
      have e1 : (ns.map PyData.int)[a.toNat]? = some (.int ns[a.toNat]) := by rw [List.getElem?_map, List.getElem?_eq_getElem hj]; rfl
      have hl' : ¬ ((ns.length : Int) < a + 1) := hl
      have ha2 : a < (ns.length : Int) := by omega
      have e3 : a + 1 - 1 = a := by omega
      by_cases hg : 10 ^ 18 ≤ ns[a.toNat]
      · refine ⟨ns[a.toNat] % many, a + 1, (b * 48271 + ns[a.toNat] + 11) % 2147483647, ns[a.toNat] / many, Int.emod_nonneg _ (by omega), Int.emod_lt_of_pos _ hm, by omega, by omega, by omega, ?_⟩
        have hg' : (1000000000000000000 : Int) ≤ ns[a.toNat] := hg
        simp [b_q_taken, defF, chk, RW, sq, ifs, tst, b2, bnd, sl, kk, rt, ixD, atM, ofO, asI, L2.atI, L2.ixN, i2, i2c, tB, vB, dI, asg, tN, tSub, stD, putM, Xt.ret, b1, frZ, cB, ac, ac0, un1, m1, m2, m7, mD, mp, skp, intD, hc, hm, lenD, hl', addD, e1, e3, ha, ha2, hg', hj]
      · refine ⟨ns[a.toNat] % many, a + 1, (b * 48271 + ns[a.toNat] + 11) % 2147483647, c, Int.emod_nonneg _ (by omega), Int.emod_lt_of_pos _ hm, by omega, by omega, by omega, ?_⟩
        have hg' : ¬ (1000000000000000000 : Int) ≤ ns[a.toNat] := hg
        simp [b_q_taken, defF, chk, RW, sq, ifs, tst, b2, bnd, sl, kk, rt, ixD, atM, ofO, asI, L2.atI, L2.ixN, i2, i2c, tB, vB, dI, asg, tN, tSub, stD, putM, Xt.ret, b1, frZ, cB, ac, ac0, un1, m1, m2, m7, mD, mp, skp, intD, hc, hm, lenD, hl', addD, e1, e3, ha, ha2, hg', hj]
end K07
set_option Elab.async false
set_option linter.all false
set_option maxRecDepth 100000
set_option maxHeartbeats 1000000
/-! lm4: the law's draws -/
namespace Xt
open PySem
def RowOk (ns : List Int) (m : MO) : Prop := ∃ a b c, 0 ≤ a ∧ 0 ≤ b ∧ b < 2147483647 ∧ m = RW ns a b c
/-- the row at 0 -/
def Row (ns : List Int) (M : Mem) : Prop := ∃ m, M[0]? = some m ∧ RowOk ns m
/-- later: the row drawn from, more objects -/
structure Ex (M M' : Mem) : Prop where
  le : M.length ≤ M'.length
  eq : ∀ j, 0 < j → j < M.length → M'[j]? = M[j]?
theorem Ex.refl (M : Mem) : Ex M M := ⟨Nat.le_refl _, fun _ _ _ => rfl⟩
theorem Ex.trans {M M1 M2 : Mem} (a : Ex M M1) (b : Ex M1 M2) : Ex M M2 := ⟨Nat.le_trans a.le b.le, fun j h0 h => (b.eq j h0 (Nat.lt_of_lt_of_le h a.le)).trans (a.eq j h0 h)⟩
theorem Ex.set0 {M : Mem} {m : MO} : Ex M (M.set 0 m) := ⟨by rw [List.length_set]; exact Nat.le_refl _, fun j h0 _ => get_set_ne (by omega)⟩
theorem Ex.app {M N : Mem} : Ex M (M ++ N) := ⟨by simp, fun j _ h => List.getElem?_append_left h⟩
theorem Ex.set {M M1 : Mem} {i : Nat} {mo : MO} (a : Ex M M1) (h : M.length ≤ i) : Ex M (M1.set i mo) := ⟨by rw [List.length_set]; exact a.le, fun j h0 hj => (get_set_ne (by omega)).trans (a.eq j h0 hj)⟩
theorem Ex.get {M M1 : Mem} {i : Nat} {mo : MO} (a : Ex M M1) (h0 : 0 < i) (h : M[i]? = some mo) : M1[i]? = some mo := (a.eq i h0 (lt_of h)).trans h
theorem lcL_flt {tf : Dv → Slots → Co Slots} {tt : Slots → Co Bool} {te : Slots → Co Dv} {ρ : Slots} {M : Mem} (p : Dv → Bool) (f : Dv → PyData) : ∀ ds : List Dv, (∀ d ∈ ds, ∃ ρ1, tf d ρ M = .ok ρ1 M ∧ tt ρ1 M = .ok (p d) M ∧ (p d = true → te ρ1 M = .ok (.g (f d)) M)) → lcL tf tt te ρ ds M = .ok ((ds.filter p).map f) M
  | [], _ => rfl
  | d :: r, h => by
    obtain ⟨ρ1, h1, h2, h3⟩ := h d (List.mem_cons_self ..)
    have ih := lcL_flt (tf := tf) (tt := tt) (te := te) (ρ := ρ) p f r fun d hd => h d (List.mem_cons_of_mem _ hd)
    unfold lcL
    have e1 : nox (tf d ρ) M = .ok ρ1 M := by unfold nox; rw [h1]
    have e2 : nox (tt ρ1) M = .ok (p d) M := by unfold nox; rw [h2]
    rw [bnd_ok e1, bnd_ok e2]
    cases z : p d with
    | true =>
      have e3 : nox (te ρ1) M = .ok (.g (f d)) M := by unfold nox; rw [h3 z]
      show bnd _ _ M = _
      rw [bnd_ok e3]
      show bnd (lcL tf tt te ρ r) _ M = _
      rw [bnd_ok ih, List.filter_cons_of_pos z]
      rfl
    | false =>
      rw [List.filter_cons_of_neg (by rw [z]; exact fun y => nomatch y)]
      exact ih
theorem rngs_map : ∀ (n : Nat) (lo : Int), rngs 1 lo n = (List.range n).map fun (i : Nat) => dI (lo + i)
  | 0, lo => rfl
  | n + 1, lo => by
    rw [rngs, rngs_map n (lo + 1), List.range_succ_eq_map, List.map_cons, List.map_map]
    congr 1
    · simp
    · refine List.map_congr_left fun i _ => ?_
      show dI (lo + 1 + (i : Int)) = dI (lo + ((i + 1 : Nat) : Int))
      rw [show lo + 1 + (i : Int) = lo + ((i + 1 : Nat) : Int) by push_cast; omega]
theorem lcX_ok {own : List Nat} {src : Slots → Co (List Dv)} {tf : Dv → Slots → Co Slots} {tt : Slots → Co Bool} {te : Slots → Co Dv} {ρ : Slots} {M : Mem} {ds : List Dv} {xs : List PyData} (h1 : src ρ M = .ok ds M) (h2 : ds.length ≤ 10000) (h3 : lcL tf tt te (wip ρ own) ds M = .ok xs M) : lcX own src tf tt te ρ M = .ok (.g (.list xs)) M := by
  unfold lcX
  rw [bnd_ok h1]
  have : szOk ds.length = true := Nat.ble_eq_true_of_le (by omega)
  unfold chk
  rw [this]
  exact (bnd_ok h3).trans rfl
def isNe (k : Int) : Dv → Bool
  | .g (.int j) => decide (j ≠ k)
  | _ => false
def unG : Dv → PyData
  | .g x => x
  | _ => .none
def dn3 : Dv → PyData
  | .g (.int j) => .int (3 * j - 4)
  | _ => .none
theorem isNe_map (k : Int) : ∀ l : List Int, (((l.map PyData.int).map Dv.g).filter (isNe k)).map unG = (l.filter fun j => decide (j ≠ k)).map .int
  | [] => rfl
  | j :: r => by
    have ih := isNe_map k r
    simp only [List.map_cons, List.filter_cons]
    have e : isNe k (.g (.int j)) = decide (j ≠ k) := rfl
    rw [e]
    by_cases z : j ≠ k
    · rw [decide_eq_true z]
      simp only [if_true, List.map_cons]
      rw [ih]
      rfl
    · rw [decide_eq_false z]
      simp only [Bool.false_eq_true, if_false]
      exact ih
theorem flt_len (k : Int) : ∀ l : List Int, (l.filter fun j => decide (j ≠ k)).length + l.count k = l.length
  | [] => rfl
  | j :: r => by
    have ih := flt_len k r
    rw [List.filter_cons, List.count_cons, List.length_cons]
    by_cases z : j = k
    · simp [z] at ih ⊢
      omega
    · simp [z] at ih ⊢
      omega
end Xt
namespace K07
open Xt PySem
open Wv (HT En)
theorem tkR {ns : List Int} {M : Mem} (n : Nat) (many : Int) (hm : 0 < many) (hm2 : many ≤ 1000) (h : Row ns M) : ∃ d M', 0 ≤ d ∧ d < many ∧ Row ns M' ∧ Ex M M' ∧ M'.length = M.length ∧ F_q_taken (n + 1) [.r 0, dI many] M = .ok (dI d) M' := by
  obtain ⟨m, h0, a, b, c, ha, hb, hb2, rfl⟩ := h
  cases M with
  | nil => cases h0
  | cons x rest =>
    have : x = RW ns a b c := by simpa using h0
    subst this
    obtain ⟨d, a', b', c', h1, h2, h3, h4, h5, h6⟩ := tk ns a b c many rest hm hm2 ha hb hb2
    exact ⟨d, RW ns a' b' c' :: rest, h1, h2, ⟨_, rfl, a', b', c', h3, h4, h5, rfl⟩, ⟨Nat.le_refl _, fun j hj _ => by
      cases j with
      | zero => omega
      | succ j => rfl⟩, rfl, h6⟩
theorem pickR {ns : List Int} {M : Mem} (n : Nat) (xs : List PyData) (hx : 0 < xs.length) (hx2 : xs.length ≤ 1000) (h : Row ns M) : ∃ (i : Nat) (hi : i < xs.length) (M' : Mem), Row ns M' ∧ Ex M M' ∧ M'.length = M.length ∧ F_q_pick (n + 2) [.r 0, .g (.list xs)] M = .ok (.g xs[i]) M' := by
  obtain ⟨d, M', h1, h2, h3, h4, h5, h6⟩ := tkR n xs.length (by omega) (by omega) h
  have hi : d.toNat < xs.length := by omega
  refine ⟨d.toNat, hi, M', h3, h4, h5, ?_⟩
  show defF 2 2 (b_q_pick (F_q_taken (n + 1))) [.r 0, .g (.list xs)] M = _
  refine def_rt rfl (sq_rt (ret_ok ?_))
  have e1 : cB (F_q_taken (n + 1)) (ac (sl 0) (ac (cB lenD (ac (sl 1) ac0)) ac0)) ([.r 0, .g (.list xs)] ++ List.replicate (2 - 2) .u) M = .ok (dI d) M' := (cB_ok (ac_ok (show sl 0 _ M = .ok (.r 0) M from rfl) (ac_ok (show cB lenD (ac (sl 1) ac0) _ M = .ok (dI xs.length) M from rfl) ac0_ok))).trans h6
  refine (b2_ok (show sl 1 _ M = .ok (.g (.list xs)) M from rfl) e1).trans ?_
  have : L2.atI xs d = some xs[d.toNat] := by
    rw [atI_get h1 (by omega), List.getElem?_eq_getElem hi]
  simp [ixD, bnd, ofO, asI, dI, rt, this]
def odB (F : List Dv → Co Dv) : Slots → Co Fl := (sq (asg (cB F (ac (sl 0) (ac (sl 4) ac0))) (tN 6))
    (sq (par2 3 4 (ac (b2 addD (sl 3) (tup (ac (sl 6) ac0))) (ac (lcX [8] (srcS (sl 4)) (tN 8) (tst (b2 (eqD true) (sl 8) (sl 6))) (sl 8)) ac0)))
    skp))
theorem addT (xs ys : List PyData) (M : Mem) : addD (.g (.tuple xs)) (.g (.tuple ys)) M = .ok (.g (.tuple (xs ++ ys))) M ∨ 16777216 < (xs ++ ys).length := by
  by_cases h : (xs ++ ys).length ≤ 16777216
  · left
    have : szOk (xs ++ ys).length = true := Nat.ble_eq_true_of_le h
    have h2 : szOk (xs.length + ys.length) = true := by rw [← List.length_append]; exact this
    simp [addD, chk, h2, rt]
  · right
    omega
theorem od_loop {ns : List Int} {n : Nat} {x1 x2 : Dv} (lo hi : Int) : ∀ (ds : List Dv) (A B : List Int) (M : Mem) (x5 x6 x7 x8 : Dv), ds.length = B.length → (A ++ B).Nodup → (A ++ B).length ≤ 900 → (∀ k ∈ A ++ B, lo ≤ k ∧ k ≤ hi) → (∀ d ∈ ds, d ≠ .u) → Row ns M →
    ∃ (C : List Int) (M' : Mem) (y5 y6 y7 y8 : Dv), forL (tN 5) (odB (F_q_pick (n + 2))) ds [.r 0, x1, x2, .g (.tuple (A.map .int)), .g (.list (B.map .int)), x5, x6, x7, x8] M = .ok (.nx [.r 0, x1, x2, .g (.tuple (C.map .int)), .g (.list []), y5, y6, y7, y8]) M' ∧ C.Nodup ∧ C.length = (A ++ B).length ∧ (∀ k ∈ C, lo ≤ k ∧ k ≤ hi) ∧ Row ns M' ∧ Ex M M' ∧ M'.length = M.length
  | [], A, B, M, x5, x6, x7, x8, hl, nd, hz, hb, _, hr => by
    have : B = [] := List.length_eq_zero_iff.mp hl.symm
    subst this
    rw [List.append_nil] at nd hz hb ⊢
    exact ⟨A, M, x5, x6, x7, x8, rfl, nd, rfl, hb, hr, .refl M, rfl⟩
  | d :: r, A, B, M, x5, x6, x7, x8, hl, nd, hz, hb, hu, hr => by
    obtain ⟨i, hi', M1, r1, r2, r3, r4⟩ := pickR n (B.map .int) (by rw [List.length_map, ← hl, List.length_cons]; omega) (by rw [List.length_map]; simp only [List.length_append] at hz; omega) hr
    have hiB : i < B.length := by simpa using hi'
    let k := B[i]
    have ek : (B.map PyData.int)[i] = .int k := by simp [k]
    rw [ek] at r4
    have kB : k ∈ B := List.getElem_mem hiB
    let B' := B.filter fun j => decide (j ≠ k)
    obtain ⟨ndA, ndB, dis⟩ := List.nodup_append.mp nd
    have hB' : B'.length + 1 = B.length := by
      have c1 : B.count k = 1 := by
        have a := List.nodup_iff_count.mp ndB k
        have b := List.count_pos_iff.mpr kB
        omega
      have e := flt_len k B
      show (B.filter fun j => decide (j ≠ k)).length + 1 = B.length
      omega
    have ndn : ((A ++ [k]) ++ B').Nodup := by
      refine List.nodup_append.mpr ⟨List.nodup_append.mpr ⟨ndA, by simp, fun a ha b hb' => by
        rw [List.mem_singleton] at hb'
        rw [hb']
        exact dis a ha k kB⟩, ndB.filter _, fun a ha b hb' => ?_⟩
      have hbm := List.mem_filter.mp hb'
      rcases List.mem_append.mp ha with h | h
      · exact dis a h b hbm.1
      · rw [List.mem_singleton] at h
        rw [h]
        have : b ≠ k := by simpa using hbm.2
        exact fun e => this e.symm
    obtain ⟨C, M', y5, y6, y7, y8, g1, g2, g3, g4, g5, g6, g7⟩ := od_loop (ns := ns) (n := n) (x1 := x1) (x2 := x2) lo hi r (A ++ [k]) B' M1 d (dI k) x7 x8 (by simp only [List.length_cons] at hl; omega) ndn (by simp only [List.length_append, List.length_cons, List.length_nil] at hz ⊢; omega) (fun j hj => by
      refine hb j ?_
      rcases List.mem_append.mp hj with h | h
      · rcases List.mem_append.mp h with h | h
        · exact List.mem_append_left _ h
        · rw [List.mem_singleton] at h
          rw [h]
          exact List.mem_append_right _ kB
      · exact List.mem_append_right _ (List.mem_filter.mp h).1) (fun d hd => hu d (List.mem_cons_of_mem _ hd)) r1
    refine ⟨C, M', y5, y6, y7, y8, (for_go (ρ1 := [.r 0, x1, x2, .g (.tuple (A.map .int)), .g (.list (B.map .int)), d, x6, x7, x8]) (M1 := M) rfl ?_).trans g1, g2, ?_, g4, g5, r2.trans g6, g7.trans r3⟩
    · refine (sq_nx (asg_ok (ρ' := [.r 0, x1, x2, .g (.tuple (A.map .int)), .g (.list (B.map .int)), d, dI k, x7, x8]) ((cB_ok (ac_ok (show sl 0 _ M = .ok (.r 0) M from rfl) (ac_ok (show sl 4 _ M = .ok (.g (.list (B.map .int))) M from rfl) ac0_ok))).trans r4) rfl)).trans ?_
      have a1 : b2 addD (sl 3) (tup (ac (sl 6) ac0)) [.r 0, x1, x2, .g (.tuple (A.map .int)), .g (.list (B.map .int)), d, dI k, x7, x8] M1 = .ok (.g (.tuple ((A ++ [k]).map .int))) M1 := by
        refine (b2_ok (show sl 3 _ M1 = .ok (.g (.tuple (A.map .int))) M1 from rfl) (show tup (ac (sl 6) ac0) _ M1 = .ok (.g (.tuple [.int k])) M1 from rfl)).trans ?_
        rcases addT (A.map .int) [.int k] M1 with h | h
        · rw [h]
          simp
        · simp only [List.length_append, List.length_map, List.length_cons, List.length_nil] at h hz
          omega
      have a2 : lcX [8] (srcS (sl 4)) (tN 8) (tst (b2 (eqD true) (sl 8) (sl 6))) (sl 8) [.r 0, x1, x2, .g (.tuple (A.map .int)), .g (.list (B.map .int)), d, dI k, x7, x8] M1 = .ok (.g (.list (B'.map .int))) M1 := by
        have hsrc : srcS (sl 4) [.r 0, x1, x2, .g (.tuple (A.map .int)), .g (.list (B.map .int)), d, dI k, x7, x8] M1 = .ok ((B.map PyData.int).map Dv.g) M1 := rfl
        refine lcX_ok hsrc (by rw [List.length_map, List.length_map]; simp only [List.length_append] at hz; omega) ?_
        have e := lcL_flt (tf := tN 8) (tt := tst (b2 (eqD true) (sl 8) (sl 6))) (te := sl 8) (ρ := wip [.r 0, x1, x2, .g (.tuple (A.map .int)), .g (.list (B.map .int)), d, dI k, x7, x8] [8]) (M := M1) (isNe k) unG ((B.map PyData.int).map Dv.g) (fun e he => by
          obtain ⟨z, hz', rfl⟩ := List.mem_map.mp he
          obtain ⟨j, hj, rfl⟩ := List.mem_map.mp hz'
          refine ⟨[.r 0, x1, x2, .g (.tuple (A.map .int)), .g (.list (B.map .int)), d, dI k, x7, .g (.int j)], rfl, ?_, fun _ => rfl⟩
          refine tst_ok ((b2_ok (show sl 8 _ M1 = .ok (dI j) M1 from rfl) (show sl 6 _ M1 = .ok (dI k) M1 from rfl)).trans ((neI j k M1).trans ?_))
          simp [vB, isNe])
        rw [e]
        rw [isNe_map]
      unfold par2
      refine (sq_nx (M' := M1) (ρ' := [.r 0, x1, x2, .g (.tuple ((A ++ [k]).map .int)), .g (.list (B'.map .int)), d, dI k, x7, x8]) ((bnd_ok (ac_ok a1 (ac_ok a2 ac0_ok))).trans rfl)).trans rfl
    · rw [g3]
      simp only [List.length_append, List.length_cons, List.length_nil]
      omega
theorem orderR {ns : List Int} {M : Mem} (n : Nat) (most : Nat) (hm : most ≤ 800) (h : Row ns M) :
    ∃ (L : List Int) (M' : Mem), F_q_order (n + 3) [.r 0, dI (most : Int)] M = .ok (.g (.tuple (L.map .int))) M' ∧ L.Nodup ∧ L.length ≤ most ∧ (∀ k ∈ L, -4 ≤ k ∧ k ≤ 3 * most) ∧ Row ns M' ∧ Ex M M' ∧ M'.length = M.length := by
  obtain ⟨d, M1, h1, h2, h3, h4, h5, h6⟩ := tkR (n + 1) (most + 1) (by omega) (by omega) h
  obtain ⟨q, rfl⟩ := Int.eq_ofNat_of_zero_le h1
  let B : List Int := (List.range q).map fun (i : Nat) => 3 * (i : Int) - 4
  have lB : B.length = q := by simp [B]
  have ndB : B.Nodup := by
    refine List.Pairwise.map _ (fun (a b : Nat) hab => ?_) (List.nodup_range (n := q))
    show 3 * (a : Int) - 4 ≠ 3 * (b : Int) - 4
    have : a ≠ b := hab
    omega
  have hB : ∀ k ∈ B, -4 ≤ k ∧ k ≤ 3 * (most : Int) := fun k hk => by
    obtain ⟨i, hi, rfl⟩ := List.mem_map.mp hk
    have := List.mem_range.mp hi
    omega
  obtain ⟨C, M', y5, y6, y7, y8, g1, g2, g3, g4, g5, g6, g7⟩ := od_loop (ns := ns) (n := n) (x1 := dI most) (x2 := dI q) (-4) (3 * most) (rngs 1 0 q) [] B M1 .u .u .u .u (by rw [rngs_len, lB]) (by simpa using ndB) (by simp [lB]; omega) (by simpa using hB) (fun d hd => by
    rw [rngs_map] at hd
    obtain ⟨i, _, rfl⟩ := List.mem_map.mp hd
    exact fun z => nomatch z) h3
  refine ⟨C, M', ?_, g2, by rw [g3]; simp [lB]; omega, g4, g5, h4.trans g6, g7.trans h5⟩
  show defF 9 2 (b_q_order (F_q_pick (n + 2)) (F_q_taken (n + 2))) [.r 0, dI most] M = _
  refine def_rt rfl ?_
  show b_q_order _ _ [.r 0, dI most, .u, .u, .u, .u, .u, .u, .u] M = _
  have a1 : b2 addD (sl 1) (kk (.int 1)) [.r 0, dI most, .u, .u, .u, .u, .u, .u, .u] M = .ok (dI ((most : Int) + 1)) M := rfl
  have a2 : par2 2 3 (ac (cB (F_q_taken (n + 2)) (ac (sl 0) (ac (b2 addD (sl 1) (kk (.int 1))) ac0))) (ac (tup ac0) ac0)) [.r 0, dI most, .u, .u, .u, .u, .u, .u, .u] M = .ok (.nx [.r 0, dI most, dI q, .g (.tuple []), .u, .u, .u, .u, .u]) M1 := by
    unfold par2
    exact (bnd_ok (ac_ok ((cB_ok (ac_ok (show sl 0 _ M = .ok (.r 0) M from rfl) (ac_ok a1 ac0_ok))).trans h6) (ac_ok (show tup ac0 _ M1 = .ok (.g (.tuple [])) M1 from rfl) ac0_ok))).trans rfl
  refine (sq_nx a2).trans ?_
  have rk : rOk (q : Int) = true := Nat.ble_eq_true_of_le (by omega)
  have hsrc : ∀ (x4 : Dv) (M : Mem), srcR1 (ac (sl 2) ac0) [.r 0, dI most, dI q, .g (.tuple []), x4, .u, .u, .u, .u] M = .ok (rngs 1 0 q) M := fun x4 M => by
    simp [srcR1, bnd, ac, ac0, sl, rt, dI, ofO, asI, chk, rk]
  have a3 : lcX [7] (srcR1 (ac (sl 2) ac0)) (tN 7) yes (b2 subD (b2 mulD (kk (.int 3)) (sl 7)) (kk (.int 4))) [.r 0, dI most, dI q, .g (.tuple []), .u, .u, .u, .u, .u] M1 = .ok (.g (.list (B.map .int))) M1 := by
    refine lcX_ok (hsrc .u M1) (by rw [rngs_len]; omega) ?_
    have e := lcL_flt (tf := tN 7) (tt := yes) (te := b2 subD (b2 mulD (kk (.int 3)) (sl 7)) (kk (.int 4))) (ρ := wip [.r 0, dI most, dI q, .g (.tuple []), .u, .u, .u, .u, .u] [7]) (M := M1) (fun _ => true) dn3 (rngs 1 0 q) (fun e he => by
      rw [rngs_map] at he
      obtain ⟨i, hi, rfl⟩ := List.mem_map.mp he
      have hi2 := List.mem_range.mp hi
      refine ⟨[.r 0, dI most, dI q, .g (.tuple []), .u, .u, .u, dI (0 + (i : Int)), .u], rfl, rfl, fun _ => ?_⟩
      have mo : mulOk 3 (0 + (i : Int)) = true := by
        unfold mulOk
        rw [small_of (by decide), small_of (by omega)]
        rfl
      have : b2 mulD (kk (.int 3)) (sl 7) [.r 0, dI most, dI q, .g (.tuple []), .u, .u, .u, dI (0 + (i : Int)), .u] M1 = .ok (dI (3 * (0 + (i : Int)))) M1 := by
        refine (b2_ok (show kk (.int 3) _ M1 = .ok (dI 3) M1 from rfl) (show sl 7 _ M1 = .ok (dI (0 + (i : Int))) M1 from rfl)).trans ?_
        show i2c mulOk (fun i j => dI (i * j)) (dI 3) (dI (0 + (i : Int))) M1 = _
        simp [i2c, bnd, ofO, asI, dI, rt, chk] at mo ⊢
        rw [mo]
        rfl
      exact (b2_ok this (show kk (.int 4) _ M1 = .ok (dI 4) M1 from rfl)).trans rfl)
    rw [e, rngs_map]
    congr 1
    rw [List.filter_eq_self.mpr fun _ _ => rfl]
    simp only [List.map_map, B]
    refine List.map_congr_left fun i _ => ?_
    show PyData.int (3 * (0 + (i : Int)) - 4) = .int (3 * (i : Int) - 4)
    rw [Int.zero_add]
  refine (sq_nx (asg_ok (ρ' := [.r 0, dI most, dI q, .g (.tuple []), .g (.list (B.map .int)), .u, .u, .u, .u]) a3 rfl)).trans ?_
  refine (sq_nx ((for_src (hsrc _ M1)).trans g1)).trans ?_
  exact sq_rt (ret_ok rfl)
end K07
set_option Elab.async false
set_option linter.all false
set_option maxRecDepth 100000
set_option maxHeartbeats 1000000
/-! lm5: any heap drawn, keys, alike -/
namespace Xt
open PySem
theorem atI_get {α : Type} {xs : List α} {i : Int} (h0 : 0 ≤ i) (h1 : i < xs.length) : L2.atI xs i = xs[i.toNat]? := by
  unfold L2.atI L2.ixN
  rw [if_pos h0, if_pos h1]
  rfl
def RdL (M : Mem) (d : Dv) (xs : List Int) : Prop := d = .g (.list (xs.map .int)) ∨ ∃ j, 0 < j ∧ d = .r j ∧ M[j]? = some (.lst (xs.map dI))
theorem RdL.ex {M M' : Mem} {d : Dv} {xs : List Int} (h : RdL M d xs) (e : Ex M M') : RdL M' d xs := by
  rcases h with h | ⟨j, h0, h1, h2⟩
  · exact .inl h
  · exact .inr ⟨j, h0, h1, e.get h0 h2⟩
theorem grd_dI (xs : List Int) : grd (xs.map dI) = some (xs.map .int) := grd_mapI xs
theorem RdL.asGp {M : Mem} {d : Dv} {xs : List Int} (h : RdL M d xs) : asGp d M = some (.list (xs.map .int)) := by
  rcases h with rfl | ⟨j, h0, rfl, h2⟩
  · rfl
  · simp [Xt.asGp, h2, grd_dI]
theorem RdL.u {M : Mem} {d : Dv} {xs : List Int} (h : RdL M d xs) : d ≠ .u := by
  rcases h with rfl | ⟨j, h0, rfl, h2⟩ <;> exact fun z => nomatch z
theorem lay_ints : ∀ xs : List Int, PyData.canLayAll0 (xs.map .int) = true
  | [] => rfl
  | x :: r => by simp [PyData.canLayAll0, PyData.canLay0, lay_ints r]
theorem eqOk_e {x y : PyData} (h : PyData.canLay0 x = true) (h2 : PyData.canLay0 y = true) (h3 : y.depth ≤ 200) : eqOk x y = true := by
  unfold eqOk
  rw [h, h2]
  exact Nat.ble_eq_true_of_le (Nat.le_trans (Nat.min_le_right _ _) h3)
theorem eqE_list {M : Mem} {d : Dv} {xs : List Int} (h : RdL M d xs) (neg : Bool) : eqD neg d (.g (.list [])) M = .ok (vB (if neg then !xs.isEmpty else xs.isEmpty)) M := by
  have o : eqOk (.list (xs.map .int)) (.list []) = true := eqOk_e (by simp [PyData.canLay0, lay_ints]) rfl (by simp [PyData.depth, PyData.depthAll])
  have e1 : asG d M = .ok (.list (xs.map .int)) M := by
    unfold asG
    rw [h.asGp]
    rfl
  have v : PyData.eqv (.list (xs.map .int)) (.list []) = xs.isEmpty := by cases xs <;> rfl
  unfold eqD
  rw [bnd_ok e1]
  show chk (eqOk _ _) _ M = _
  rw [o, v]
  rfl
theorem ixR {M : Mem} {d : Dv} {x : Int} {r : List Int} (h : RdL M d (x :: r)) : ixD d (dI 0) M = .ok (dI x) M := by
  have a0 : ∀ {α : Type} (a : α) (l : List α), L2.atI (a :: l) 0 = some a := fun a l => by
    rw [atI_get (Int.le_refl _) (by rw [List.length_cons]; omega)]
    rfl
  rcases h with rfl | ⟨j, h0, rfl, h2⟩
  · simp [ixD, bnd, ofO, asI, dI, rt, a0]
  · simp [ixD, bnd, ofO, asI, dI, rt, atM, h2, a0]
theorem slcR {M : Mem} {d : Dv} {x : Int} {r : List Int} (h : RdL M d (x :: r)) : slV d (some 1) none M = .ok (.g (.list (r.map .int))) M := by
  have e : cutD ((x :: r).map PyData.int) (some 1) none = r.map .int := cut1 _ _
  rcases h with rfl | ⟨j, h0, rfl, h2⟩
  · unfold slV
    refine (bnd_ok (x := PyData.list ((x :: r).map .int)) (M' := M) rfl).trans ?_
    show RE.ok _ M = _
    rw [e]
  · unfold slV
    refine (bnd_ok (x := PyData.list ((x :: r).map .int)) (M' := M) ?_).trans ?_
    · unfold asG
      have : asGp (.r j) M = some (.list ((x :: r).map .int)) := by simp only [asGp, h2, grd_dI]; rfl
      rw [this]
      rfl
    · show RE.ok _ M = _
      rw [e]
end Xt
namespace K07
open Xt PySem
def anB (F : List Dv → Co Dv) : Slots → Co Fl := (sq (ifs (tst (b2 (eqD false) (cB F (ac (sl 0) (ac (kk (.int 2)) ac0))) (kk (.int 0)))) (sq (drp (app (sl 2) (sl 4)))
    skp) (sq (drp (app (sl 3) (sl 4)))
    skp))
    skp)
theorem an_loop {ns : List Int} {n : Nat} {d : Dv} {i2 i3 : Nat} (h2 : 0 < i2) (h3 : 0 < i3) (h23 : i2 ≠ i3) : ∀ (r A B : List Int) (M : Mem) (x4 : Dv), A.length + B.length + r.length < 900 → M[i2]? = some (.lst (A.map dI)) → M[i3]? = some (.lst (B.map dI)) → Row ns M →
    ∃ (P Q : List Int) (M' : Mem) (y4 : Dv), forL (tN 4) (anB (F_q_taken (n + 1))) ((r.map PyData.int).map Dv.g) [.r 0, d, .r i2, .r i3, x4] M = .ok (.nx [.r 0, d, .r i2, .r i3, y4]) M' ∧ M'[i2]? = some (.lst ((A ++ P).map dI)) ∧ M'[i3]? = some (.lst ((B ++ Q).map dI)) ∧ P.Sublist r ∧ Q.Sublist r ∧ (P ++ Q).Perm r ∧ Row ns M' ∧ M'.length = M.length ∧ ∀ j, 0 < j → j ≠ i2 → j ≠ i3 → M'[j]? = M[j]?
  | [], A, B, M, x4, _, e2, e3, hr => ⟨[], [], M, x4, rfl, by rw [List.append_nil]; exact e2, by rw [List.append_nil]; exact e3, .refl _, .refl _, .refl _, hr, rfl, fun _ _ _ _ => rfl⟩
  | x :: r, A, B, M, x4, hl, e2, e3, hr => by
    obtain ⟨q, M1, q1, q2, q3, q4, q5, q6⟩ := tkR n 2 (by decide) (by decide) hr
    have e2' := q4.get h2 e2
    have e3' := q4.get h3 e3
    rw [List.length_cons] at hl
    have o0 : ∀ M, sl 0 [.r 0, d, .r i2, .r i3, dI x] M = .ok (.r 0) M := fun _ => rfl
    have o2 : ∀ M, sl 2 [.r 0, d, .r i2, .r i3, dI x] M = .ok (.r i2) M := fun _ => rfl
    have o3 : ∀ M, sl 3 [.r 0, d, .r i2, .r i3, dI x] M = .ok (.r i3) M := fun _ => rfl
    have o4 : ∀ M, sl 4 [.r 0, d, .r i2, .r i3, dI x] M = .ok (dI x) M := fun _ => rfl
    have t1 : tst (b2 (eqD false) (cB (F_q_taken (n + 1)) (ac (sl 0) (ac (kk (.int 2)) ac0))) (kk (.int 0))) [.r 0, d, .r i2, .r i3, dI x] M = .ok (decide (q = 0)) M1 := tst_ok ((b2_ok ((cB_ok (ac_ok (o0 M) (ac_ok (show kk (.int 2) _ M = .ok (dI 2) M from rfl) ac0_ok))).trans q6) (show kk (.int 0) _ M1 = .ok (dI 0) M1 from rfl)).trans (eqI q 0 M1))
    by_cases z : q = 0
    · rw [decide_eq_true z] at t1
      let M2 := M1.set i2 (.lst (A.map dI ++ [dI x]))
      have f2 : M2[i2]? = some (.lst ((A ++ [x]).map dI)) := by
        rw [List.map_append]
        exact get_set e2'
      have f3 : M2[i3]? = some (.lst (B.map dI)) := (get_set_ne h23).trans e3'
      have r2 : Row ns M2 := by
        obtain ⟨m, g1, g2⟩ := q3
        exact ⟨m, (get_set_ne (by omega)).trans g1, g2⟩
      obtain ⟨P, Q, M', y4, g1, g2, g3, g4, g5, g6, g7, g8, g9⟩ := an_loop (ns := ns) (n := n) (d := d) h2 h3 h23 r (A ++ [x]) B M2 (dI x) (by simp only [List.length_append, List.length_cons, List.length_nil]; omega) f2 f3 r2
      refine ⟨x :: P, Q, M', y4, (for_go (ρ1 := [.r 0, d, .r i2, .r i3, dI x]) (M1 := M) rfl ?_).trans g1, by rw [g2]; simp, g3, g4.cons₂ x, g5.trans (List.sublist_cons_self _ _), (g6.cons x), g7, g8.trans (by rw [List.length_set, q5]), fun j j0 j2 j3 => (g9 j j0 j2 j3).trans ((get_set_ne (Ne.symm j2)).trans ?_)⟩
      · unfold anB
        refine (sq_nx (M' := M2) ((ifs_t t1).trans ((sq_nx (drp_ok (app_ok (o2 M1) e2' (o4 M1) (by rw [List.length_map]; omega)))).trans rfl))).trans rfl
      · by_cases hj : j < M.length
        · exact q4.eq j j0 hj
        · rw [List.getElem?_eq_none (by omega), List.getElem?_eq_none (by omega)]
    · rw [decide_eq_false z] at t1
      let M2 := M1.set i3 (.lst (B.map dI ++ [dI x]))
      have f3 : M2[i3]? = some (.lst ((B ++ [x]).map dI)) := by
        rw [List.map_append]
        exact get_set e3'
      have f2 : M2[i2]? = some (.lst (A.map dI)) := (get_set_ne (Ne.symm h23)).trans e2'
      have r2 : Row ns M2 := by
        obtain ⟨m, g1, g2⟩ := q3
        exact ⟨m, (get_set_ne (by omega)).trans g1, g2⟩
      obtain ⟨P, Q, M', y4, g1, g2, g3, g4, g5, g6, g7, g8, g9⟩ := an_loop (ns := ns) (n := n) (d := d) h2 h3 h23 r A (B ++ [x]) M2 (dI x) (by simp only [List.length_append, List.length_cons, List.length_nil]; omega) f2 f3 r2
      refine ⟨P, x :: Q, M', y4, (for_go (ρ1 := [.r 0, d, .r i2, .r i3, dI x]) (M1 := M) rfl ?_).trans g1, g2, by rw [g3]; simp, g4.trans (List.sublist_cons_self _ _), g5.cons₂ x, (List.perm_middle.trans (g6.cons x)), g7, g8.trans (by rw [List.length_set, q5]), fun j j0 j2 j3 => (g9 j j0 j2 j3).trans ((get_set_ne (Ne.symm j3)).trans ?_)⟩
      · unfold anB
        refine (sq_nx (M' := M2) ((ifs_f t1).trans ((sq_nx (drp_ok (app_ok (o3 M1) e3' (o4 M1) (by rw [List.length_map]; omega)))).trans rfl))).trans rfl
      · by_cases hj : j < M.length
        · exact q4.eq j j0 hj
        · rw [List.getElem?_eq_none (by omega), List.getElem?_eq_none (by omega)]
theorem anyR {ns : List Int} : ∀ (N : Nat) (xs : List Int), xs.length ≤ N → ∀ (n : Nat) (d : Dv) (M : Mem), N + 3 ≤ n → Row ns M → RdL M d xs → xs.Pairwise (· < ·) → (∀ x ∈ xs, x ≤ 1000000) → xs.length ≤ 500 →
    ∃ (t : Tr) (M' : Mem), F_q_any n [.r 0, d] M = .ok (.g t.d) M' ∧ Row ns M' ∧ Ex M M' ∧ t.ks.Perm xs ∧ (∀ lo, (∀ x ∈ xs, lo < x) → t.hp lo)
  | N, [], _, n, d, M, hn, hr, hd, _, _, _ => by
    obtain ⟨n, rfl⟩ : ∃ k, n = k + 1 := ⟨n - 1, by omega⟩
    refine ⟨.e, M, ?_, hr, .refl M, .refl _, fun _ _ => trivial⟩
    show defF 5 2 (b_q_any (F_q_any n) (F_q_taken n)) [.r 0, d] M = _
    refine def_rt rfl ?_
    show b_q_any _ _ [.r 0, d, .u, .u, .u] M = _
    have t1 : tst (b2 (eqD false) (sl 1) (lstG ac0)) [.r 0, d, .u, .u, .u] M = .ok true M := tst_ok ((b2_ok (show sl 1 _ M = .ok d M from sl_ok rfl hd.u) (show lstG ac0 _ M = .ok (.g (.list [])) M from rfl)).trans (eqE_list hd false))
    exact sq_rt ((ifs_t t1).trans rfl)
  | 0, x :: r, h, _, _, _, _, _, _, _, _, _ => by simp at h
  | N + 1, x :: r, hN, n, d, M, hn, hr, hd, pw, hb, hl => by
    obtain ⟨n, rfl⟩ : ∃ k, n = k + 2 := ⟨n - 2, by omega⟩
    rw [List.pairwise_cons] at pw
    simp only [List.length_cons] at hN hl
    let i2 := M.length
    let M1 := M ++ [MO.lst []]
    let M2 := M1 ++ [MO.lst []]
    let i3 := M1.length
    have l1 : M1.length = i2 + 1 := by simp [M1, i2]
    have e2 : M2[i2]? = some (.lst (([] : List Int).map dI)) := get_app get_push
    have e3 : M2[i3]? = some (.lst (([] : List Int).map dI)) := get_push
    have hM0 : 0 < M.length := by
      obtain ⟨m, g, _⟩ := hr
      exact lt_of g
    have x2 : Ex M M2 := Ex.app.trans Ex.app
    have r2 : Row ns M2 := by
      obtain ⟨m, g1, g2⟩ := hr
      exact ⟨m, get_app (get_app g1), g2⟩
    have hd2 := hd.ex x2
    obtain ⟨P, Q, M3, y4, g1, g2, g3, g4, g5, g6, g7, g8, g9⟩ := an_loop (ns := ns) (n := n) (d := d) (i2 := i2) (i3 := i3) hM0 (by omega) (by omega) r [] [] M2 .u (by simp; omega) e2 e3 r2
    have lt2 : ∀ j, 0 < j → j < M.length → M3[j]? = M[j]? := fun j j0 hj => (g9 j j0 (by omega) (by omega)).trans (x2.eq j j0 hj)
    have x3 : Ex M M3 := ⟨by rw [g8]; exact x2.le, lt2⟩
    have pP := pw.2.sublist g4
    have pQ := pw.2.sublist g5
    have lP := g4.length_le
    have lQ := g5.length_le
    obtain ⟨tl, M4, a1, a2, a3, a4, a5⟩ := anyR N P (by omega) (n + 1) (.r i2) M3 (by omega) g7 (.inr ⟨i2, hM0, rfl, g2⟩) pP (fun y hy => hb y (List.mem_cons_of_mem _ (g4.subset hy))) (by omega)
    obtain ⟨tr, M5, b1, b2', b3, b4, b5⟩ := anyR N Q (by omega) (n + 1) (.r i3) M4 (by omega) a2 (.inr ⟨i3, by omega, rfl, a3.get (by omega) g3⟩) pQ (fun y hy => hb y (List.mem_cons_of_mem _ (g5.subset hy))) (by omega)
    have hd3 := hd.ex x3
    refine ⟨.n x tl tr, M5, ?_, b2', (x3.trans a3).trans b3, ?_, fun lo hlo => ⟨hlo x (List.mem_cons_self ..), hb x (List.mem_cons_self ..), a5 x fun y hy => pw.1 y (g4.subset hy), b5 x fun y hy => pw.1 y (g5.subset hy)⟩⟩
    · show defF 5 2 (b_q_any (F_q_any (n + 1)) (F_q_taken (n + 1))) [.r 0, d] M = _
      refine def_rt rfl ?_
      show b_q_any _ _ [.r 0, d, .u, .u, .u] M = _
      have t1 : tst (b2 (eqD false) (sl 1) (lstG ac0)) [.r 0, d, .u, .u, .u] M = .ok false M := tst_ok ((b2_ok (show sl 1 _ M = .ok d M from sl_ok rfl hd.u) (show lstG ac0 _ M = .ok (.g (.list [])) M from rfl)).trans (eqE_list hd false))
      refine (sq_nx (M' := M) (ρ' := [.r 0, d, .u, .u, .u]) ((ifs_f t1).trans rfl)).trans ?_
      refine (sq_nx (M' := M2) (ρ' := [.r 0, d, .r i2, .r i3, .u]) rfl).trans ?_
      have o1 : ∀ (a : Dv) (M : Mem), sl 1 [.r 0, d, .r i2, .r i3, a] M = .ok d M := fun _ _ => sl_ok rfl hd.u
      have hsrc : srcS (slcG (sl 1) (pn1 (kk (.int 1))) pn0) [.r 0, d, .r i2, .r i3, .u] M2 = .ok ((r.map PyData.int).map Dv.g) M2 := by
        refine (bnd_ok (x := .g (.list (r.map .int))) (M' := M2) ?_).trans rfl
        refine (bnd_ok (o1 .u M2)).trans ?_
        exact slcR hd2
      refine (sq_nx ((for_src hsrc).trans g1)).trans ?_
      refine sq_rt (ret_ok ((tup_ok (ac_ok ((b2_ok (o1 y4 M3) (show kk (.int 0) _ M3 = .ok (dI 0) M3 from rfl)).trans (ixR hd3)) (ac_ok ((cB_ok (ac_ok (show sl 0 _ M3 = .ok (.r 0) M3 from rfl) (ac_ok (show sl 2 _ M3 = .ok (.r i2) M3 from rfl) ac0_ok))).trans a1) (ac_ok ((cB_ok (ac_ok (show sl 0 _ M4 = .ok (.r 0) M4 from rfl) (ac_ok (show sl 3 _ M4 = .ok (.r i3) M4 from rfl) ac0_ok))).trans b1) ac0_ok)))).trans ?_))
      rfl
    · show (x :: (tl.ks ++ tr.ks)).Perm (x :: r)
      exact ((a4.append b4).trans g6).cons x
theorem q_keys_ok : ∀ (n : Nat) (t : Tr), t.sz < n → t.sz ≤ 1000 → F_q_keys n [.g t.d] [] = .ok (.g (.list (t.ks.map .int))) []
  | 0, _, h, _ => absurd h (Nat.not_lt_zero _)
  | n + 1, .e, _, _ => rfl
  | n + 1, .n k l r, h, h2 => by
    have z : (Tr.n k l r).sz = 1 + l.sz + r.sz := rfl
    rw [z] at h h2
    have el := q_keys_ok n l (by omega) (by omega)
    have er := q_keys_ok n r (by omega) (by omega)
    have l1 := Tr.ks_len l
    have l2 := Tr.ks_len r
    have c1 : (l.ks.length + 1).ble 16777216 = true := Nat.ble_eq_true_of_le (by omega)
    have c2 : (l.ks.length + r.ks.length + 1).ble 16777216 = true := Nat.ble_eq_true_of_le (by omega)
    have c3 : (l.ks.length + 1 + r.ks.length).ble 16777216 = true := Nat.ble_eq_true_of_le (by omega)
    have c4 : (1 + l.ks.length).ble 16777216 = true := Nat.ble_eq_true_of_le (by omega)
    have c5 : (1 + l.ks.length + r.ks.length).ble 16777216 = true := Nat.ble_eq_true_of_le (by omega)
    show defF 1 1 (b_q_keys (F_q_keys n)) _ _ = _
    simp [defF, chk, sq, ifs, tst, b2, b1, bnd, sl, kk, rt, ixD, atM, ofO, asI, L2.atI, L2.ixN, i2, i2c, tB, vB, dI, asg, tN, tT, tC, tZ, asT, tSub, stD, putM, Xt.ret, frZ, cB, ac, ac0, un1, skp, intD, lenD, addD, isN_none, isN_tup, isN_int, isN_lst, isN_tr, tru, grd_map, grd_mapI, grd_appI, tup, mkT, grd, szOk, trV, tor, tand, tnt, andV, ntV, iff, isi, isi2, knD, isTy, kn, pureC, Xt.ch, drp, par2, asG, asGp, fl, lstG, acS, lsP, eqI, neI, subD, leD, ltD, gtD, geD, b_q_keys, Tr.d, el, er, c1, c2, c3, c4, c5, Tr.ks]
/-- alike with itself -/
theorem alike_int (n : Nat) (a : Int) : F_q_alike (n + 1) [.g (.int a), .g (.int a)] [] = .ok (vB true) [] := by
  have eB : ∀ (a b : Bool) (M : Mem), eqD false (.g (.bool a)) (.g (.bool b)) M = .ok (.g (.bool (a == b))) M := fun a b M => by cases a <;> cases b <;> rfl
  show defF 3 2 (b_q_alike (F_q_alike n)) _ _ = _
  simp [defF, chk, sq, ifs, tst, b2, b1, bnd, sl, kk, rt, ixD, atM, ofO, asI, L2.atI, L2.ixN, i2, i2c, tB, vB, dI, asg, tN, tT, tC, tZ, asT, tSub, stD, putM, Xt.ret, frZ, cB, ac, ac0, un1, skp, intD, lenD, addD, isN_none, isN_tup, isN_int, isN_lst, isN_tr, tru, grd_map, grd_mapI, grd_appI, tup, mkT, grd, szOk, trV, tor, tand, tnt, andV, ntV, iff, isi, isi2, knD, isTy, kn, pureC, Xt.ch, drp, par2, asG, asGp, fl, lstG, acS, lsP, eqI, neI, subD, leD, ltD, gtD, geD, b_q_alike, eB]
theorem alike_none (n : Nat) : F_q_alike (n + 1) [.g .none, .g .none] [] = .ok (vB true) [] := by
  show defF 3 2 (b_q_alike (F_q_alike n)) _ _ = _
  rfl
theorem alike_tup (n : Nat) (xs : List PyData) (hl : xs.length ≤ 1000) (h : ∀ x ∈ xs, F_q_alike n [.g x, .g x] [] = .ok (vB true) []) : F_q_alike (n + 1) [.g (.tuple xs), .g (.tuple xs)] [] = .ok (vB true) [] := by
  show defF 3 2 (b_q_alike (F_q_alike n)) [.g (.tuple xs), .g (.tuple xs)] [] = _
  refine def_rt rfl ?_
  show b_q_alike _ [.g (.tuple xs), .g (.tuple xs), .u] [] = _
  refine sq_rt ((ifs_t (M1 := []) rfl).trans ?_)
  refine (sq_nx (M' := []) (ρ' := [.g (.tuple xs), .g (.tuple xs), .u]) ((ifs_f (M1 := []) rfl).trans rfl)).trans ?_
  have t2 : tst (b2 (eqD true) (cB lenD (ac (sl 0) ac0)) (cB lenD (ac (sl 1) ac0))) [.g (.tuple xs), .g (.tuple xs), .u] [] = .ok false [] := by
    refine tst_ok ((b2_ok (show cB lenD (ac (sl 0) ac0) _ [] = .ok (dI xs.length) [] from rfl) (show cB lenD (ac (sl 1) ac0) _ [] = .ok (dI xs.length) [] from rfl)).trans ((neI _ _ []).trans ?_))
    simp [vB]
  refine (sq_nx (M' := []) (ρ' := [.g (.tuple xs), .g (.tuple xs), .u]) ((ifs_f t2).trans rfl)).trans ?_
  refine sq_rt (ret_ok ?_)
  have rk : rOk (xs.length : Int) = true := Nat.ble_eq_true_of_le (by omega)
  have hlc : lcX [2] (srcR1 (ac (cB lenD (ac (sl 1) ac0)) ac0)) (tN 2) (tnt (trV (cB (pureC (F_q_alike n)) (ac (b2 ixD (sl 0) (sl 2)) (ac (b2 ixD (sl 1) (sl 2)) ac0))))) (sl 2) [.g (.tuple xs), .g (.tuple xs), .u] [] = .ok (.g (.list [])) [] := by
    have hsrc : srcR1 (ac (cB lenD (ac (sl 1) ac0)) ac0) [.g (.tuple xs), .g (.tuple xs), .u] [] = .ok (rngs 1 0 xs.length) [] := by
      simp [srcR1, bnd, ac, ac0, sl, rt, cB, lenD, dI, ofO, asI, chk, rk]
    refine lcX_ok hsrc (by rw [rngs_len]; omega) ?_
    have e := lcL_flt (tf := tN 2) (tt := tnt (trV (cB (pureC (F_q_alike n)) (ac (b2 ixD (sl 0) (sl 2)) (ac (b2 ixD (sl 1) (sl 2)) ac0))))) (te := sl 2) (ρ := wip [.g (.tuple xs), .g (.tuple xs), .u] [2]) (M := []) (fun _ => false) unG (rngs 1 0 xs.length) (fun e he => by
      rw [rngs_map] at he
      obtain ⟨i, hi, rfl⟩ := List.mem_map.mp he
      have hi2 := List.mem_range.mp hi
      refine ⟨[.g (.tuple xs), .g (.tuple xs), dI (0 + (i : Int))], rfl, ?_, fun z => nomatch z⟩
      have ix : L2.atI xs (0 + (i : Int)) = some xs[i] := by
        rw [atI_get (by omega) (by omega)]
        have : (0 + (i : Int)).toNat = i := by omega
        rw [this, List.getElem?_eq_getElem hi2]
      have v0 : b2 ixD (sl 0) (sl 2) [.g (.tuple xs), .g (.tuple xs), dI (0 + (i : Int))] [] = .ok (.g xs[i]) [] := by
        simp [b2, sl, ixD, bnd, ofO, asI, dI, rt] at ix ⊢
        rw [ix]
        rfl
      have v1 : b2 ixD (sl 1) (sl 2) [.g (.tuple xs), .g (.tuple xs), dI (0 + (i : Int))] [] = .ok (.g xs[i]) [] := by
        simp [b2, sl, ixD, bnd, ofO, asI, dI, rt] at ix ⊢
        rw [ix]
        rfl
      exact tnt_ok (trV_ok (b := true) ((cB_ok (ac_ok v0 (ac_ok v1 ac0_ok))).trans (pure_ok (xs := [xs[i], xs[i]]) (h _ (List.getElem_mem hi2))))))
    rw [e]
    have : (rngs 1 0 xs.length).filter (fun _ => false) = [] := List.filter_eq_nil_iff.mpr fun _ _ z => nomatch z
    rw [this]
    rfl
  refine (b2_ok hlc (show lstG ac0 _ [] = .ok (.g (.list [])) [] from rfl)).trans ?_
  rfl
theorem alike_tr : ∀ (t : Tr) (n : Nat), t.sz + 1 ≤ n → F_q_alike n [.g t.d, .g t.d] [] = .ok (vB true) []
  | .e, n, h => by
    obtain ⟨n, rfl⟩ : ∃ k, n = k + 1 := ⟨n - 1, by omega⟩
    exact alike_none n
  | .n k l r, n, h => by
    simp only [Tr.sz] at h
    obtain ⟨n, rfl⟩ : ∃ k, n = k + 2 := ⟨n - 2, by omega⟩
    refine alike_tup (n + 1) [.int k, l.d, r.d] (by simp) fun x hx => ?_
    simp only [List.mem_cons, List.not_mem_nil, or_false] at hx
    rcases hx with rfl | rfl | rfl
    · exact alike_int n k
    · exact alike_tr l (n + 1) (by omega)
    · exact alike_tr r (n + 1) (by omega)
end K07
set_option Elab.async false
set_option linter.all false
set_option maxRecDepth 100000
set_option maxHeartbeats 1000000
/-! lm6: the law of k07 -/
namespace Xt
open PySem
open Wv (HT En)
theorem LR.ex {s iw it : Nat} {M M' : Mem} {w : Wv.W} (R : LR s iw it M w) (e : Ex M M') (hs : 0 < s) (hw : 0 < iw) (ht : 0 < it) : LR s iw it M' w := ⟨e.get hs R.hs, e.get hw R.hw, e.get ht R.ht, R.st⟩
theorem Row.fr {ns : List Int} {s iw it : Nat} {M M' : Mem} (h : Row ns M) (f : Fr s iw it M M') (hs : 0 < s) (hw : 0 < iw) (ht : 0 < it) : Row ns M' := by
  obtain ⟨m, h1, h2⟩ := h
  exact ⟨m, (f.eq 0 (by omega) (by omega) (by omega)).trans h1, h2⟩
/-- the keys put in -/
def puts : List (Option Int) → List Int
  | [] => []
  | none :: r => puts r
  | some k :: r => k :: puts r
theorem puts_app : ∀ a b : List (Option Int), puts (a ++ b) = puts a ++ puts b
  | [], _ => rfl
  | none :: a, b => puts_app a b
  | some k :: a, b => by
    show k :: puts (a ++ b) = k :: (puts a ++ puts b)
    rw [puts_app a b]
theorem puts_len : ∀ a : List (Option Int), (puts a).length ≤ a.length
  | [] => Nat.le_refl _
  | none :: a => Nat.le_succ_of_le (puts_len a)
  | some k :: a => Nat.succ_le_succ (puts_len a)
theorem okD_app : ∀ {s : List Int} {a : List (Option Int)} {d : Option Int}, okD s a → (∀ k, d = some k → -1000000 ≤ k ∧ k ≤ 1000000 ∧ k ∉ s ++ puts a ∧ (s ++ puts a).length < 200) → okD s (a ++ [d])
  | s, [], none, _, _ => trivial
  | s, [], some k, _, h => by
    have := h k rfl
    simp only [puts, List.append_nil] at this
    exact ⟨this, trivial⟩
  | s, none :: a, d, h, h2 => okD_app (a := a) (show okD s a from h) h2
  | s, some k :: a, d, ⟨h1, h3⟩, h2 => ⟨h1, okD_app h3 fun j hj => by
    have := h2 j hj
    simpa [puts] using this⟩
theorem lay_deD (d : Option Int) : PyData.canLay0 (deD d) = true := by
  cases d <;> simp [deD, PyData.canLay0, PyData.canLayAll0, ok_put, ok_take]
theorem lay_deDs : ∀ ds : List (Option Int), PyData.canLayAll0 (ds.map deD) = true
  | [] => rfl
  | d :: r => by simp [PyData.canLayAll0, lay_deD d, lay_deDs r]
theorem neT (xs : List (Option Int)) (M : Mem) : eqD true (.g (.tuple (xs.map deD))) (.g (.tuple [])) M = .ok (vB (!xs.isEmpty)) M := by
  have o : eqOk (.tuple (xs.map deD)) (.tuple []) = true := eqOk_e (by simp [PyData.canLay0, lay_deDs]) rfl (by simp [PyData.depth, PyData.depthAll])
  have v : PyData.eqv (.tuple (xs.map deD)) (.tuple []) = xs.isEmpty := by cases xs <;> rfl
  show chk (eqOk _ _) (rt (vB (!PyData.eqv (.tuple (xs.map deD)) (.tuple [])))) M = _
  rw [o, v]
  rfl
theorem dep_ints : ∀ xs : List Int, PyData.depthAll (xs.map .int) ≤ 1
  | [] => by simp [PyData.depthAll]
  | x :: r => by
    have := dep_ints r
    simp [PyData.depthAll, PyData.depth]
    omega
theorem any_ints (k : Int) : ∀ xs : List Int, ((xs.map PyData.int).any fun z => PyData.eqv z (.int k)) = decide (k ∈ xs)
  | [] => rfl
  | x :: r => by
    have ih := any_ints k r
    rw [List.map_cons, List.any_cons, ih]
    have e : PyData.eqv (.int x) (.int k) = decide (x = k) := rfl
    rw [e]
    by_cases z : x = k
    · simp [z]
    · have : ¬ k = x := fun y => z y.symm
      simp [z, this]
theorem notin_ok (k : Int) (xs : List Int) (M : Mem) : inD true (dI k) (.g (.list (xs.map .int))) M = .ok (vB (!decide (k ∈ xs))) M := by
  have o : inOk (.int k) (xs.map .int) = true := by
    unfold inOk
    rw [lay_ints]
    have := dep_ints xs
    have d2 : PyData.depth (.int k) = 0 ∨ PyData.depth (.int k) = 1 := by simp [PyData.depth]
    refine Bool.and_eq_true_iff.mpr ⟨rfl, Bool.and_eq_true_iff.mpr ⟨rfl, Nat.ble_eq_true_of_le (Nat.le_trans (Nat.min_le_left _ _) (by omega))⟩⟩
  show chk (inOk (.int k) (xs.map .int)) (rt (vB (!((xs.map PyData.int).any fun z => PyData.eqv z (.int k))))) M = _
  rw [o, any_ints]
  rfl
end Xt
namespace K07
open Xt PySem
open Wv (HT En)
/-- the drawn deeds -/
def ddB (F G : List Dv → Co Dv) : Slots → Co Fl := (sq (asg (b2 addD (sl 3) (iff (tst (b2 (eqD false) (cB F (ac (sl 1) (ac (kk (.int 3)) ac0))) (kk (.int 0)))) (tup (ac (tup (ac (kk (.str "take")) ac0)) ac0)) (tup (ac (tup (ac (kk (.str "put")) (ac (cB G (ac (sl 1) (ac (lstG (ac (b2 addD (sl 4) (kk (.int 60))) (ac (b2 subD (b1 ngD (kk (.int 20))) (sl 4)) (ac (b2 subD (b2 mulD (kk (.int 3)) (sl 4)) (kk (.int 3))) ac0)))) ac0))) ac0))) ac0)))) (tN 3))
    skp)
theorem dd_loop {ns : List Int} {n : Nat} {a c : Dv} {z : List Dv} (hz : z.length = 8) : ∀ (q lo : Nat) (D : List (Option Int)) (M : Mem) (x4 : Dv), lo + q ≤ 100 → D.length + q ≤ 100 → (∀ k ∈ puts D, -1000 ≤ k ∧ k ≤ 1000) → Row ns M →
    ∃ (D' : List (Option Int)) (M' : Mem) (y4 : Dv), forL (tN 4) (ddB (F_q_taken (n + 2)) (F_q_pick (n + 2))) ((List.range q).map fun (i : Nat) => dI ((lo : Int) + i)) (a :: .r 0 :: c :: .g (.tuple (D.map deD)) :: x4 :: z) M = .ok (.nx (a :: .r 0 :: c :: .g (.tuple (D'.map deD)) :: y4 :: z)) M' ∧ D'.length = D.length + q ∧ (∀ k ∈ puts D', -1000 ≤ k ∧ k ≤ 1000) ∧ Row ns M' ∧ Ex M M'
  | 0, lo, D, M, x4, _, _, hp, hr => ⟨D, M, x4, rfl, rfl, hp, hr, .refl M⟩
  | q + 1, lo, D, M, x4, hq, hD, hp, hr => by
    let σ : Slots := a :: .r 0 :: c :: .g (.tuple (D.map deD)) :: dI (lo : Int) :: z
    have el : ((List.range (q + 1)).map fun (i : Nat) => dI ((lo : Int) + i)) = dI (lo : Int) :: ((List.range q).map fun (i : Nat) => dI (((lo + 1 : Nat) : Int) + i)) := by
      rw [List.range_succ_eq_map, List.map_cons, List.map_map]
      congr 1
      refine List.map_congr_left fun i _ => ?_
      show dI ((lo : Int) + ((i + 1 : Nat) : Int)) = dI (((lo + 1 : Nat) : Int) + i)
      rw [show (lo : Int) + ((i + 1 : Nat) : Int) = ((lo + 1 : Nat) : Int) + i by push_cast; omega]
    rw [el]
    obtain ⟨d, M1, h1, h2, h3, h4, h5, h6⟩ := tkR (n + 1) 3 (by decide) (by decide) hr
    have o1 : ∀ M, sl 1 σ M = .ok (.r 0) M := fun _ => rfl
    have o3 : ∀ M, sl 3 σ M = .ok (.g (.tuple (D.map deD))) M := fun _ => rfl
    have o4 : ∀ M, sl 4 σ M = .ok (dI (lo : Int)) M := fun _ => rfl
    have t1 : tst (b2 (eqD false) (cB (F_q_taken (n + 2)) (ac (sl 1) (ac (kk (.int 3)) ac0))) (kk (.int 0))) σ M = .ok (decide (d = 0)) M1 := tst_ok ((b2_ok ((cB_ok (ac_ok (o1 M) (ac_ok (show kk (.int 3) _ M = .ok (dI 3) M from rfl) ac0_ok))).trans h6) (show kk (.int 0) _ M1 = .ok (dI 0) M1 from rfl)).trans (eqI d 0 M1))
    have fin : ∀ (e : Option Int) (M2 : Mem), Row ns M2 → Ex M M2 → (∀ k, e = some k → -1000 ≤ k ∧ k ≤ 1000) → iff (tst (b2 (eqD false) (cB (F_q_taken (n + 2)) (ac (sl 1) (ac (kk (.int 3)) ac0))) (kk (.int 0)))) (tup (ac (tup (ac (kk (.str "take")) ac0)) ac0)) (tup (ac (tup (ac (kk (.str "put")) (ac (cB (F_q_pick (n + 2)) (ac (sl 1) (ac (lstG (ac (b2 addD (sl 4) (kk (.int 60))) (ac (b2 subD (b1 ngD (kk (.int 20))) (sl 4)) (ac (b2 subD (b2 mulD (kk (.int 3)) (sl 4)) (kk (.int 3))) ac0)))) ac0))) ac0))) ac0)) σ M = .ok (.g (.tuple [deD e])) M2 →
        ∃ (D' : List (Option Int)) (M' : Mem) (y4 : Dv), forL (tN 4) (ddB (F_q_taken (n + 2)) (F_q_pick (n + 2))) (dI (lo : Int) :: ((List.range q).map fun (i : Nat) => dI (((lo + 1 : Nat) : Int) + i))) (a :: .r 0 :: c :: .g (.tuple (D.map deD)) :: x4 :: z) M = .ok (.nx (a :: .r 0 :: c :: .g (.tuple (D'.map deD)) :: y4 :: z)) M' ∧ D'.length = D.length + (q + 1) ∧ (∀ k ∈ puts D', -1000 ≤ k ∧ k ≤ 1000) ∧ Row ns M' ∧ Ex M M' := fun e M2 r2 x2 he hv => by
      obtain ⟨D', M', y4, g1, g2, g3, g4, g5⟩ := dd_loop (ns := ns) (n := n) (a := a) (c := c) (z := z) hz q (lo + 1) (D ++ [e]) M2 (dI (lo : Int)) (by omega) (by simp only [List.length_append, List.length_cons, List.length_nil]; omega) (fun k hk => by
        rw [puts_app] at hk
        rcases List.mem_append.mp hk with h | h
        · exact hp k h
        · cases e with
          | none => cases h
          | some j =>
            have : k = j := by simpa [puts] using h
            exact he k (by rw [this])) r2
      refine ⟨D', M', y4, (for_go (ρ1 := σ) (M1 := M) rfl ?_).trans g1, by rw [g2]; simp only [List.length_append, List.length_cons, List.length_nil]; omega, g3, g4, x2.trans g5⟩
      refine (sq_nx (asg_ok (M1 := M2) (d := .g (.tuple ((D ++ [e]).map deD))) ((b2_ok (o3 M) hv).trans ?_) rfl)).trans rfl
      rcases addT (D.map deD) [deD e] M2 with h | h
      · rw [h, List.map_append]
        rfl
      · simp only [List.length_append, List.length_map, List.length_cons, List.length_nil] at h
        omega
    by_cases zz : d = 0
    · rw [decide_eq_true zz] at t1
      exact fin none M1 h3 h4 (fun k h => nomatch h) ((iff_t t1).trans rfl)
    · rw [decide_eq_false zz] at t1
      have rng : (lo : Int) ≤ 100 ∧ 0 ≤ (lo : Int) := by omega
      have mo : mulOk 3 (lo : Int) = true := by
        unfold mulOk
        rw [small_of (by decide), small_of (by omega)]
        rfl
      have vl : lstG (ac (b2 addD (sl 4) (kk (.int 60))) (ac (b2 subD (b1 ngD (kk (.int 20))) (sl 4)) (ac (b2 subD (b2 mulD (kk (.int 3)) (sl 4)) (kk (.int 3))) ac0))) σ M1 = .ok (.g (.list [.int ((lo : Int) + 60), .int (-20 - (lo : Int)), .int (3 * (lo : Int) - 3)])) M1 := by
        have p1 : b2 addD (sl 4) (kk (.int 60)) σ M1 = .ok (dI ((lo : Int) + 60)) M1 := (b2_ok (o4 M1) (show kk (.int 60) _ M1 = .ok (dI 60) M1 from rfl)).trans rfl
        have p2 : b2 subD (b1 ngD (kk (.int 20))) (sl 4) σ M1 = .ok (dI (-20 - (lo : Int))) M1 := (b2_ok (show b1 ngD (kk (.int 20)) _ M1 = .ok (dI (-20)) M1 from rfl) (o4 M1)).trans rfl
        have p3 : b2 mulD (kk (.int 3)) (sl 4) σ M1 = .ok (dI (3 * (lo : Int))) M1 := by
          refine (b2_ok (show kk (.int 3) _ M1 = .ok (dI 3) M1 from rfl) (o4 M1)).trans ?_
          show i2c mulOk (fun i j => dI (i * j)) (dI 3) (dI (lo : Int)) M1 = _
          simp [i2c, bnd, ofO, asI, dI, rt, chk, mo]
        have p4 : b2 subD (b2 mulD (kk (.int 3)) (sl 4)) (kk (.int 3)) σ M1 = .ok (dI (3 * (lo : Int) - 3)) M1 := (b2_ok p3 (show kk (.int 3) _ M1 = .ok (dI 3) M1 from rfl)).trans rfl
        unfold lstG
        refine (bnd_ok (ac_ok p1 (ac_ok p2 (ac_ok p4 ac0_ok)))).trans rfl
      obtain ⟨i, hi, M2, r1, r2, r3, r4⟩ := pickR n [.int ((lo : Int) + 60), .int (-20 - (lo : Int)), .int (3 * (lo : Int) - 3)] (by simp) (by simp) h3
      obtain ⟨k, hk1, hk2⟩ : ∃ k, ([.int ((lo : Int) + 60), .int (-20 - (lo : Int)), .int (3 * (lo : Int) - 3)] : List PyData)[i] = .int k ∧ -1000 ≤ k ∧ k ≤ 1000 := by
        have : i = 0 ∨ i = 1 ∨ i = 2 := by simp at hi; omega
        rcases this with rfl | rfl | rfl
        · exact ⟨(lo : Int) + 60, rfl, by omega⟩
        · exact ⟨-20 - (lo : Int), rfl, by omega⟩
        · exact ⟨3 * (lo : Int) - 3, rfl, by omega⟩
      rw [hk1] at r4
      refine fin (some k) M2 r1 (h4.trans r2) (fun j h => by cases h; exact hk2) ((iff_f t1).trans ?_)
      refine (tup_ok (ac_ok (tup_ok (ac_ok (show kk (.str "put") _ M1 = .ok (.g (.str "put")) M1 from rfl) (ac_ok ((cB_ok (ac_ok (o1 M1) (ac_ok vl ac0_ok))).trans r4) ac0_ok))) ac0_ok)).trans rfl
/-- the deeds that are kept -/
def gdB : Slots → Co Fl := (sq (ifs (tor (tst (b2 (eqD false) (b2 ixD (sl 7) (kk (.int 0))) (kk (.str "take")))) (tst (b2 (inD true) (b2 ixD (sl 7) (kk (.int 1))) (sl 5)))) (sq (par2 6 5 (ac (b2 addD (sl 6) (tup (ac (sl 7) ac0))) (ac (b2 addD (sl 5) (iff (tst (b2 (eqD false) (b2 ixD (sl 7) (kk (.int 0))) (kk (.str "put")))) (lstG (ac (b2 ixD (sl 7) (kk (.int 1))) ac0)) (lstG ac0))) ac0)))
    skp) skp)
    skp)
theorem addLi (xs ys : List PyData) (M : Mem) (h : (xs ++ ys).length ≤ 16777216) : addD (.g (.list xs)) (.g (.list ys)) M = .ok (.g (.list (xs ++ ys))) M := by
  have h2 : szOk (xs.length + ys.length) = true := by
    rw [← List.length_append]
    exact Nat.ble_eq_true_of_le h
  simp [addD, chk, h2, rt, asG, asGp, bnd, ofO]
theorem istake {M : Mem} {ρ : Slots} {g : Slots → Co Dv} {d : Option Int} (h : g ρ M = .ok (.g (deD d)) M) : tst (b2 (eqD false) (b2 ixD g (kk (.int 0))) (kk (.str "take"))) ρ M = .ok d.isNone M := by
  cases d with
  | some k => exact tst_ok ((b2_ok ((b2_ok h (show kk (.int 0) ρ M = .ok (dI 0) M from rfl)).trans (show ixD _ _ M = .ok (.g (.str "put")) M from rfl)) (show kk _ ρ M = .ok (.g (.str "take")) M from rfl)).trans (e_pt M))
  | none => exact tst_ok ((b2_ok ((b2_ok h (show kk (.int 0) ρ M = .ok (dI 0) M from rfl)).trans (show ixD _ _ M = .ok (.g (.str "take")) M from rfl)) (show kk _ ρ M = .ok (.g (.str "take")) M from rfl)).trans (e_tt M))
theorem gd_loop {ks : List Int} {a b c d e : Dv} {z : List Dv} (hz : z.length = 5) (hk : ks.length ≤ 50) : ∀ (D G : List (Option Int)) (M : Mem) (x7 : Dv), G.length + D.length ≤ 50 → (∀ k ∈ puts D, -1000 ≤ k ∧ k ≤ 1000) → okD ks G →
    ∃ (G' : List (Option Int)) (y7 : Dv) (y5 : Dv), forL (tN 7) gdB ((D.map deD).map Dv.g) (a :: b :: c :: d :: e :: .g (.list ((ks ++ puts G).map .int)) :: .g (.tuple (G.map deD)) :: x7 :: z) M = .ok (.nx (a :: b :: c :: d :: e :: y5 :: .g (.tuple (G'.map deD)) :: y7 :: z)) M ∧ G'.length ≤ G.length + D.length ∧ okD ks G'
  | [], G, M, x7, _, _, ok => ⟨G, x7, _, rfl, Nat.le_refl _, ok⟩
  | f :: D, G, M, x7, hl, hp, ok => by
    rw [List.length_cons] at hl
    let σ : Slots := a :: b :: c :: d :: e :: .g (.list ((ks ++ puts G).map .int)) :: .g (.tuple (G.map deD)) :: .g (deD f) :: z
    have o7 : ∀ M, sl 7 σ M = .ok (.g (deD f)) M := fun _ => rfl
    have o5 : ∀ M, sl 5 σ M = .ok (.g (.list ((ks ++ puts G).map .int))) M := fun _ => rfl
    have o6 : ∀ M, sl 6 σ M = .ok (.g (.tuple (G.map deD))) M := fun _ => rfl
    have hp' : ∀ k ∈ puts D, -1000 ≤ k ∧ k ≤ 1000 := fun k hk => by
      refine hp k ?_
      cases f with
      | none => exact hk
      | some j => exact List.mem_cons_of_mem _ hk
    have tk := istake (o7 M)
    have lk : (ks ++ puts G).length ≤ 150 := by
      have := puts_len G
      rw [List.length_append]
      omega
    have aT : b2 addD (sl 6) (tup (ac (sl 7) ac0)) σ M = .ok (.g (.tuple ((G ++ [f]).map deD))) M := by
      refine (b2_ok (o6 M) (show tup (ac (sl 7) ac0) σ M = .ok (.g (.tuple [deD f])) M from rfl)).trans ?_
      rcases addT (G.map deD) [deD f] M with h | h
      · rw [h, List.map_append]
        rfl
      · simp only [List.length_append, List.length_map, List.length_cons, List.length_nil] at h
        omega
    have keep : okD ks (G ++ [f]) → (b2 addD (sl 5) (iff (tst (b2 (eqD false) (b2 ixD (sl 7) (kk (.int 0))) (kk (.str "put")))) (lstG (ac (b2 ixD (sl 7) (kk (.int 1))) ac0)) (lstG ac0))) σ M = .ok (.g (.list ((ks ++ puts (G ++ [f])).map .int))) M → tor (tst (b2 (eqD false) (b2 ixD (sl 7) (kk (.int 0))) (kk (.str "take")))) (tst (b2 (inD true) (b2 ixD (sl 7) (kk (.int 1))) (sl 5))) σ M = .ok true M →
        ∃ (G' : List (Option Int)) (y7 : Dv) (y5 : Dv), forL (tN 7) gdB (((f :: D).map deD).map Dv.g) (a :: b :: c :: d :: e :: .g (.list ((ks ++ puts G).map .int)) :: .g (.tuple (G.map deD)) :: x7 :: z) M = .ok (.nx (a :: b :: c :: d :: e :: y5 :: .g (.tuple (G'.map deD)) :: y7 :: z)) M ∧ G'.length ≤ G.length + (f :: D).length ∧ okD ks G' := fun ok2 aL t => by
      obtain ⟨G', y7, y5, g1, g2, g3⟩ := gd_loop (a := a) (b := b) (c := c) (d := d) (e := e) hz hk D (G ++ [f]) M (.g (deD f)) (by simp only [List.length_append, List.length_cons, List.length_nil]; omega) hp' ok2
      refine ⟨G', y7, y5, (for_go (ρ1 := σ) (M1 := M) rfl ?_).trans g1, by simp only [List.length_append, List.length_cons, List.length_nil] at g2 ⊢; omega, g3⟩
      unfold gdB
      refine (sq_nx (M' := M) ((ifs_t t).trans ((sq_nx (M' := M) ?_).trans rfl))).trans rfl
      unfold par2
      exact (bnd_ok (ac_ok aT (ac_ok aL ac0_ok))).trans rfl
    cases f with
    | none =>
      refine keep (okD_app ok fun k h => nomatch h) ?_ (tor_t tk)
      have tp := isput (o7 M)
      refine (b2_ok (o5 M) ((iff_f tp).trans (show lstG ac0 σ M = .ok (.g (.list [])) M from rfl))).trans ?_
      rw [addLi _ _ M (by rw [List.append_nil, List.length_map]; omega)]
      have : puts (G ++ [none]) = puts G := by rw [puts_app]; simp [puts]
      rw [this, List.append_nil]
    | some k =>
      have hk2 := hp k (List.mem_cons_self ..)
      have vk : b2 ixD (sl 7) (kk (.int 1)) σ M = .ok (dI k) M := rfl
      have tn : tst (b2 (inD true) (b2 ixD (sl 7) (kk (.int 1))) (sl 5)) σ M = .ok (!decide (k ∈ ks ++ puts G)) M := tst_ok ((b2_ok vk (o5 M)).trans (notin_ok k _ M))
      by_cases hm : k ∈ ks ++ puts G
      · rw [decide_eq_true hm] at tn
        obtain ⟨G', y7, y5, g1, g2, g3⟩ := gd_loop (a := a) (b := b) (c := c) (d := d) (e := e) hz hk D G M (.g (deD (some k))) (by omega) hp' ok
        refine ⟨G', y7, y5, (for_go (ρ1 := σ) (M1 := M) rfl ?_).trans g1, by rw [List.length_cons]; omega, g3⟩
        unfold gdB
        exact (sq_nx (M' := M) ((ifs_f ((tor_f tk).trans tn)).trans rfl)).trans rfl
      · rw [decide_eq_false hm] at tn
        refine keep (okD_app ok fun j h => by cases h; exact ⟨by omega, by omega, hm, by omega⟩) ?_ ((tor_f tk).trans tn)
        have tp := isput (o7 M)
        refine (b2_ok (o5 M) ((iff_t tp).trans (show lstG (ac (b2 ixD (sl 7) (kk (.int 1))) ac0) σ M = .ok (.g (.list [.int k])) M from rfl))).trans ?_
        rw [addLi _ _ M (by simp only [List.length_append, List.length_map, List.length_cons, List.length_nil] at lk ⊢; omega)]
        have : puts (G ++ [some k]) = puts G ++ [k] := by rw [puts_app]; rfl
        rw [this]
        simp
/-- the turns -/
def tnB (c_q_taken c_q_step c_q_enter : List Dv → Co Dv) : Slots → Co Fl := (sq (asg (iff (tst (b2 (eqD false) (cB c_q_taken (ac (sl 1) (ac (kk (.int 2)) ac0))) (kk (.int 0)))) (cB c_q_taken (ac (sl 1) (ac (b2 addD (cB min2D (ac (b2 ixD (sl 8) (kk (.int 1))) (ac (b2 subD (cB lenD (ac (sl 3) ac0)) (kk (.int 1))) ac0))) (kk (.int 1))) ac0))) (cB min2D (ac (b2 ixD (sl 8) (kk (.int 1))) (ac (b2 subD (cB lenD (ac (sl 3) ac0)) (kk (.int 1))) ac0)))) (tN 11))
    (sq (asg (b2 addD (sl 9) (tup (ac (sl 11) ac0))) (tN 9))
    (sq (ifs (tst (dinI false (sl 11) (b2 ixD (sl 8) (kk (.int 2))))) (sq (drp (cB c_q_step (ac (sl 8) (ac (sl 11) ac0))))
    skp) (sq (ifs (tst (b2 (eqD false) (sl 11) (b2 ixD (sl 8) (kk (.int 1))))) (sq (drp (cB c_q_enter (ac (sl 8) (ac (b2 ixD (sl 3) (sl 11)) ac0))))
    skp) skp)
    skp))
    skp)))
theorem tn_loop {ns : List Int} {n N s iw it : Nat} {des : List (Option Int)} {a c x4 x5 x6 x7 x12 : Dv} (hs0 : 0 < s) (hw0 : 0 < iw) (ht0 : 0 < it) (hn : N + des.length + 10 ≤ n) (hL : 0 < des.length) (hL2 : des.length < 900) : ∀ (ds : List Dv) (T : List Int) (w : Wv.W) (M : Mem) (x10 x11 : Dv), (∀ d ∈ ds, d ≠ .u) → T.length + ds.length ≤ 2000 → Wv.Bd N des.length w → LR s iw it M w → Row ns M →
    ∃ (l : List Int) (M' : Mem) (y10 y11 : Dv), forL (tN 10) (tnB (F_q_taken (n + 3)) (F_q_step (n + 3)) (F_q_enter (n + 3))) ds [a, .r 0, c, .g (.tuple (des.map deD)), x4, x5, x6, x7, .r s, .g (.tuple (T.map .int)), x10, x11, x12] M = .ok (.nx [a, .r 0, c, .g (.tuple (des.map deD)), x4, x5, x6, x7, .r s, .g (.tuple ((T ++ l).map .int)), y10, y11, x12]) M' ∧ l.length = ds.length ∧ Wv.okT des w l ∧ LR s iw it M' (w.run des l) ∧ Row ns M'
  | [], T, w, M, x10, x11, _, _, B, R, hr => ⟨[], M, x10, x11, by rw [List.append_nil]; rfl, rfl, trivial, R, hr⟩
  | d :: ds, T, w, M, x10, x11, hu, hT, B, R, hr => by
    rw [List.length_cons] at hT
    let ρ (x11 : Dv) (T : List Int) : Slots := [a, .r 0, c, .g (.tuple (des.map deD)), x4, x5, x6, x7, .r s, .g (.tuple (T.map .int)), d, x11, x12]
    have o1 : ∀ x T M, sl 1 (ρ x T) M = .ok (.r 0) M := fun _ _ _ => rfl
    have o8 : ∀ x T M, sl 8 (ρ x T) M = .ok (.r s) M := fun _ _ _ => rfl
    have o3 : ∀ x T M, sl 3 (ρ x T) M = .ok (.g (.tuple (des.map deD))) M := fun _ _ _ => rfl
    have o9 : ∀ x T M, sl 9 (ρ x T) M = .ok (.g (.tuple (T.map .int))) M := fun _ _ _ => rfl
    have o11 : ∀ i T M, sl 11 (ρ (dI i) T) M = .ok (dI i) M := fun _ _ _ => rfl
    have e0 := B.inv.e0
    have le := B.ent
    obtain ⟨q, M1, q1, q2, q3, q4, q5, q6⟩ := tkR (n + 2) 2 (by decide) (by decide) hr
    have R1 := R.ex q4 hs0 hw0 ht0
    let m := min w.ent ((des.length : Int) - 1)
    have vm : ∀ {M : Mem}, LR s iw it M w → cB min2D (ac (b2 ixD (sl 8) (kk (.int 1))) (ac (b2 subD (cB lenD (ac (sl 3) ac0)) (kk (.int 1))) ac0)) (ρ x11 T) M = .ok (dI m) M := fun {M} R => by
      have l1 : cB lenD (ac (sl 3) ac0) (ρ x11 T) M = .ok (dI (des.length : Int)) M := by
        rw [show (des.length : Int) = ((des.map deD).length : Int) by rw [List.length_map]]
        rfl
      exact (cB_ok (ac_ok (ix_ok (i := 1) (o8 _ _ M) R.hs rfl) (ac_ok ((b2_ok l1 (show kk (.int 1) _ M = .ok (dI 1) M from rfl)).trans rfl) ac0_ok))).trans (b_min _ _ M)
    have t1 : tst (b2 (eqD false) (cB (F_q_taken (n + 3)) (ac (sl 1) (ac (kk (.int 2)) ac0))) (kk (.int 0))) (ρ x11 T) M = .ok (decide (q = 0)) M1 := tst_ok ((b2_ok ((cB_ok (ac_ok (o1 _ _ M) (ac_ok (show kk (.int 2) _ M = .ok (dI 2) M from rfl) ac0_ok))).trans q6) (show kk (.int 0) _ M1 = .ok (dI 0) M1 from rfl)).trans (eqI q 0 M1))
    obtain ⟨i, M2, v1, v2, v3, v4, v5⟩ : ∃ (i : Int) (M2 : Mem), iff (tst (b2 (eqD false) (cB (F_q_taken (n + 3)) (ac (sl 1) (ac (kk (.int 2)) ac0))) (kk (.int 0)))) (cB (F_q_taken (n + 3)) (ac (sl 1) (ac (b2 addD (cB min2D (ac (b2 ixD (sl 8) (kk (.int 1))) (ac (b2 subD (cB lenD (ac (sl 3) ac0)) (kk (.int 1))) ac0))) (kk (.int 1))) ac0))) (cB min2D (ac (b2 ixD (sl 8) (kk (.int 1))) (ac (b2 subD (cB lenD (ac (sl 3) ac0)) (kk (.int 1))) ac0))) (ρ x11 T) M = .ok (dI i) M2 ∧ 0 ≤ i ∧ i ≤ m ∧ Row ns M2 ∧ LR s iw it M2 w := by
      by_cases z : q = 0
      · rw [decide_eq_true z] at t1
        obtain ⟨i, M2, p1, p2, p3, p4, p5, p6⟩ := tkR (n + 2) (m + 1) (by omega) (by omega) q3
        refine ⟨i, M2, (iff_t t1).trans ((cB_ok (ac_ok (o1 _ _ M1) (ac_ok ((b2_ok (vm R1) (show kk (.int 1) _ M1 = .ok (dI 1) M1 from rfl)).trans rfl) ac0_ok))).trans p6), p1, by omega, p3, R1.ex p4 hs0 hw0 ht0⟩
      · rw [decide_eq_false z] at t1
        exact ⟨m, M1, (iff_f t1).trans (vm R1), by omega, Int.le_refl _, q3, R1⟩
    have hi : 0 ≤ i ∧ i ≤ w.ent ∧ i < des.length := by omega
    have B2 : Wv.Bd N des.length (w.turn des i) := B.turn des i fun z => by omega
    -- the turn itself
    have aT : b2 addD (sl 9) (tup (ac (sl 11) ac0)) (ρ (dI i) T) M2 = .ok (.g (.tuple ((T ++ [i]).map .int))) M2 := by
      refine (b2_ok (o9 _ _ M2) (show tup (ac (sl 11) ac0) _ M2 = .ok (.g (.tuple [.int i])) M2 from rfl)).trans ?_
      rcases addT (T.map .int) [.int i] M2 with h | h
      · rw [h, List.map_append]
        rfl
      · simp only [List.length_append, List.length_map, List.length_cons, List.length_nil] at h
        omega
    have tD : tst (dinI false (sl 11) (b2 ixD (sl 8) (kk (.int 2)))) (ρ (dI i) (T ++ [i])) M2 = .ok (Wv.look w.wk i).isSome M2 := by
      have e : (dvV (w.wk.map enP) i).isSome = (Wv.look w.wk i).isSome := by
        rw [enP_V]
        cases Wv.look w.wk i <;> rfl
      rw [← e]
      exact tst_ok (din_ok (o11 i _ M2) (ix_ok (i := 2) (o8 _ _ M2) v5.hs rfl) v5.hw)
    have fin : ∀ {M3 : Mem}, (ifs (tst (dinI false (sl 11) (b2 ixD (sl 8) (kk (.int 2))))) (sq (drp (cB (F_q_step (n + 3)) (ac (sl 8) (ac (sl 11) ac0)))) skp) (sq (ifs (tst (b2 (eqD false) (sl 11) (b2 ixD (sl 8) (kk (.int 1))))) (sq (drp (cB (F_q_enter (n + 3)) (ac (sl 8) (ac (b2 ixD (sl 3) (sl 11)) ac0)))) skp) skp) skp)) (ρ (dI i) (T ++ [i])) M2 = .ok (.nx (ρ (dI i) (T ++ [i]))) M3 → LR s iw it M3 (w.turn des i) → Row ns M3 →
        ∃ (l : List Int) (M' : Mem) (y10 y11 : Dv), forL (tN 10) (tnB (F_q_taken (n + 3)) (F_q_step (n + 3)) (F_q_enter (n + 3))) (d :: ds) [a, .r 0, c, .g (.tuple (des.map deD)), x4, x5, x6, x7, .r s, .g (.tuple (T.map .int)), x10, x11, x12] M = .ok (.nx [a, .r 0, c, .g (.tuple (des.map deD)), x4, x5, x6, x7, .r s, .g (.tuple ((T ++ l).map .int)), y10, y11, x12]) M' ∧ l.length = (d :: ds).length ∧ Wv.okT des w l ∧ LR s iw it M' (w.run des l) ∧ Row ns M' := fun {M3} hrun R3 r3 => by
      obtain ⟨l, M', y10, y11, g1, g2, g3, g4, g5⟩ := tn_loop (ns := ns) (a := a) (c := c) (x4 := x4) (x5 := x5) (x6 := x6) (x7 := x7) (x12 := x12) hs0 hw0 ht0 hn hL hL2 ds (T ++ [i]) (w.turn des i) M3 d (dI i) (fun d hd => hu d (List.mem_cons_of_mem _ hd)) (by simp only [List.length_append, List.length_cons, List.length_nil]; omega) B2 R3 r3
      refine ⟨i :: l, M', y10, y11, (for_go (ρ1 := ρ x11 T) (M1 := M) rfl ?_).trans (g1.trans (by rw [List.append_assoc]; rfl)), by rw [List.length_cons, g2, List.length_cons], ⟨hi, g3⟩, g4, g5⟩
      unfold tnB
      refine (sq_nx (asg_ok (ρ' := ρ (dI i) T) v1 rfl)).trans ?_
      refine (sq_nx (asg_ok (ρ' := ρ (dI i) (T ++ [i])) aT rfl)).trans ?_
      exact (sq_nx hrun).trans rfl
    cases e : Wv.look w.wk i with
    | some f =>
      rw [e] at tD
      have ew : w.turn des i = w.step i := by
        unfold Wv.W.turn
        rw [e]
      obtain ⟨M3, s1, s2, s3⟩ := q_step_ok (n := n + 1) B.inv (by have := B.totN; omega) (by have := B.wk; omega) e v5
      refine fin ((ifs_t tD).trans ((sq_nx (drp_ok ((cB_ok (ac_ok (o8 _ _ M2) (ac_ok (o11 i _ M2) ac0_ok))).trans s1))).trans rfl)) (by rw [ew]; exact s3) (v4.fr s2 hs0 hw0 ht0)
    | none =>
      rw [e] at tD
      have tQ : tst (b2 (eqD false) (sl 11) (b2 ixD (sl 8) (kk (.int 1)))) (ρ (dI i) (T ++ [i])) M2 = .ok (decide (i = w.ent)) M2 := tst_ok ((b2_ok (o11 i _ M2) (ix_ok (i := 1) (o8 _ _ M2) v5.hs rfl)).trans (eqI i w.ent M2))
      by_cases z : i = w.ent
      · rw [decide_eq_true z] at tQ
        obtain ⟨g, hg⟩ : ∃ g, des[i.toNat]? = some g := ⟨des[i.toNat]'(by omega), List.getElem?_eq_getElem (by omega)⟩
        have ew : w.turn des i = w.enter g := by
          unfold Wv.W.turn
          rw [e]
          simp only
          rw [if_pos z, hg]
        obtain ⟨M3, s1, s2, s3⟩ := q_enter_ok (n := n) g B.inv (by have := B.totN; omega) (by have := B.wk; omega) (by have := B.tkL; omega) v5
        have hx : b2 ixD (sl 3) (sl 11) (ρ (dI i) (T ++ [i])) M2 = .ok (.g (deD g)) M2 := by
          refine (b2_ok (o3 _ _ M2) (o11 i _ M2)).trans ?_
          have : L2.atI (des.map deD) i = some (deD g) := by
            rw [Xt.atI_get (by omega) (by rw [List.length_map]; omega), List.getElem?_map, hg]
            rfl
          simp [ixD, bnd, ofO, asI, dI, rt, this]
        refine fin ((ifs_f tD).trans ?_) (by rw [ew]; exact s3) (v4.fr s2 hs0 hw0 ht0)
        exact (sq_nx (M' := M3) ((ifs_t tQ).trans ((sq_nx (drp_ok ((cB_ok (ac_ok (o8 _ _ M2) (ac_ok hx ac0_ok))).trans s1))).trans rfl))).trans rfl
      · rw [decide_eq_false z] at tQ
        have ew : w.turn des i = w := by
          unfold Wv.W.turn
          rw [e]
          simp only
          rw [if_neg z]
        refine fin ((ifs_f tD).trans ?_) (by rw [ew]; exact v5) v4
        exact (sq_nx (M' := M2) ((ifs_f tQ).trans rfl)).trans rfl
/-- on to the end -/
def ceB (c_q_step : List Dv → Co Dv) : Slots → Co Fl := (sq (ifs (tst (b2 (eqD true) (cB lstX (ac (b2 ixD (sl 8) (kk (.int 2))) ac0)) (lstG ac0))) (sq (drp (cB c_q_step (ac (sl 8) (ac (cB (mxL minI) (ac (cB lstX (ac (b2 ixD (sl 8) (kk (.int 2))) ac0)) ac0)) ac0))))
    skp) skp)
    skp)
theorem ce_loop {n N L s iw it : Nat} {z1 : List Dv} {x12 : Dv} {x11 : Dv} (hz : z1.length = 8) {x9 : Dv} (hn : N + L + 10 ≤ n) (hL : L < 900) : ∀ (ds : List Dv) (w : Wv.W) (M : Mem) (x10 : Dv), Wv.Bd N L w → LR s iw it M w →
    ∃ (M' : Mem) (y10 : Dv), forL (tN 10) (ceB (F_q_step (n + 2))) ds (z1 ++ [.r s, x9, x10, x11, x12]) M = .ok (.nx (z1 ++ [.r s, x9, y10, x11, x12])) M' ∧ LR s iw it M' (w.comp ds.length)
  | [], w, M, x10, B, R => ⟨M, x10, rfl, R⟩
  | d :: ds, w, M, x10, B, R => by
    have hset : (z1 ++ [.r s, x9, x10, x11, x12]).set 10 d = z1 ++ [.r s, x9, d, x11, x12] := by
      rw [List.set_append_right _ _ (by omega), hz]
      rfl
    have o8 : ∀ M, sl 8 (z1 ++ [.r s, x9, d, x11, x12]) M = .ok (.r s) M := fun M => sl_ok (by rw [List.getElem?_append_right (by omega), hz]; rfl) (fun z => nomatch z)
    have hl : cB lstX (ac (b2 ixD (sl 8) (kk (.int 2))) ac0) (z1 ++ [.r s, x9, d, x11, x12]) M = .ok (.g (.list ((w.wk.map En.i).map .int))) M := by
      refine (cB_ok (ac_ok (ix_ok (i := 2) (o8 M) R.hs rfl) ac0_ok)).trans ?_
      simp [lstX, atM, R.hw, rt, enP]
    have t1 : tst (b2 (eqD true) (cB lstX (ac (b2 ixD (sl 8) (kk (.int 2))) ac0)) (lstG ac0)) (z1 ++ [.r s, x9, d, x11, x12]) M = .ok (!(w.wk.map En.i).isEmpty) M := tst_ok ((b2_ok hl (show lstG ac0 _ M = .ok (.g (.list [])) M from rfl)).trans (eqE_list (.inl rfl) true))
    have go : ∀ {M1 : Mem}, ceB (F_q_step (n + 2)) (z1 ++ [.r s, x9, d, x11, x12]) M = .ok (.nx (z1 ++ [.r s, x9, d, x11, x12])) M1 → LR s iw it M1 w.stepMin → ∃ (M' : Mem) (y10 : Dv), forL (tN 10) (ceB (F_q_step (n + 2))) (d :: ds) (z1 ++ [.r s, x9, x10, x11, x12]) M = .ok (.nx (z1 ++ [.r s, x9, y10, x11, x12])) M' ∧ LR s iw it M' (w.comp (d :: ds).length) := fun {M1} h1 R1 => by
      obtain ⟨M', y10, g1, g2⟩ := ce_loop (x9 := x9) (x11 := x11) (x12 := x12) hz hn hL ds w.stepMin M1 d B.stepMin R1
      exact ⟨M', y10, (for_go (ρ1 := z1 ++ [.r s, x9, d, x11, x12]) (M1 := M) (by show rt _ M = _; rw [hset]; rfl) h1).trans g1, g2⟩
    cases ew : w.wk with
    | nil =>
      rw [ew] at t1
      rw [← Wv.stepMin_nil ew] at R
      exact go (by unfold ceB; exact (sq_nx (M' := M) ((ifs_f t1).trans rfl)).trans rfl) R
    | cons g r =>
      have key := B.inv.key
      rw [ew, List.map_cons] at key
      rw [ew] at t1 hl
      have lk : Wv.look w.wk g.i = some g := by
        rw [ew]
        simp [Wv.look]
      obtain ⟨M1, h1, h2, h3⟩ := q_step_ok (n := n) B.inv (by have := B.totN; omega) (by have := B.wk; omega) lk R
      have es : w.step g.i = w.stepMin := by
        unfold Wv.W.stepMin
        rw [ew]
      rw [es] at h3
      refine go ?_ h3
      have hm : cB (mxL minI) (ac (cB lstX (ac (b2 ixD (sl 8) (kk (.int 2))) ac0)) ac0) (z1 ++ [.r s, x9, d, x11, x12]) M = .ok (dI g.i) M := by
        refine (cB_ok (ac_ok hl ac0_ok)).trans ?_
        have e1 : minI g.i (r.map En.i) = g.i := minI_head key
        have e2 : intsP (((g :: r).map En.i).map .int) = some ((g :: r).map En.i) := intsP_map _
        simp only [List.map_cons, List.map_map] at e2
        simp [mxL, one1, asG, asGp, bnd, ofO, rt, lsP, e2, e1]
      unfold ceB
      refine (sq_nx (M' := M1) ((ifs_t t1).trans ((sq_nx (drp_ok ((cB_ok (ac_ok (o8 M) (ac_ok hm ac0_ok))).trans h1))).trans rfl))).trans rfl
end K07
set_option Elab.async false
set_option linter.all false
set_option maxRecDepth 100000
set_option maxHeartbeats 1000000
/-! lm7: the law holds -/
namespace K07
open Xt PySem
open Wv (HT En)
theorem law_gen (ns : List Int) (m : Nat) (hm : 97 ≤ m) : ∃ M, F_law (m + 3 + 1) [.g (.list (ns.map .int))] [] = .ok (vB true) M := by
  generalize hS : Dv.g (.list (ns.map .int)) = S
  have hSu : S ≠ .u := by rw [← hS]; exact fun z => nomatch z
  have r0 : Row ns [RW ns 0 14507 0] := ⟨_, rfl, 0, 14507, 0, by decide, by decide, by decide, rfl⟩
  -- the heap
  obtain ⟨L, M1, o1, o2, o3, o4, o5, o6, o7⟩ := orderR m 10 (by decide) r0
  have pl := sortI_perm L
  have xsl : (sortI L).length ≤ 10 := by rw [pl.length_eq]; exact o3
  have pw : (sortI L).Pairwise (· < ·) := by
    have nd : (sortI L).Nodup := pl.nodup_iff.mpr o2
    exact (sortI_srtd L).imp₂ (fun a b h1 h2 => by
      have h2 : a ≠ b := h2
      omega) nd
  obtain ⟨t, M2, a1, a2, a3, a4, a5⟩ := anyR 10 (sortI L) xsl (m + 3) (.g (.list ((sortI L).map .int))) M1 (by omega) o5 (.inl rfl) pw (fun x hx => by have := o4 x (pl.subset hx); omega) (by omega)
  have hp := a5 (-1000001) fun x hx => by have := o4 x (pl.subset hx); omega
  have nd : t.ks.Nodup := (a4.trans pl).nodup_iff.mpr o2
  have lk := Tr.ks_len t
  have sz : t.sz ≤ 10 := by rw [← lk, a4.length_eq]; exact xsl
  -- the deeds
  obtain ⟨q, M3, q1, q2, q3, q4, q5, q6⟩ := tkR (m + 2) 9 (by decide) (by decide) a2
  obtain ⟨q, rfl⟩ := Int.eq_ofNat_of_zero_le q1
  obtain ⟨D, M4, y4, d1, d2, d3, d4, d5⟩ := dd_loop (ns := ns) (n := m + 1) (a := S) (c := .g t.d) (z := [.u, .u, .u, .u, .u, .u, .u, .u]) rfl q 0 [] M3 .u (by omega) (by simp; omega) (fun k h => nomatch h) q3
  obtain ⟨des, y7, y5, g1, g2, g3⟩ := gd_loop (ks := t.ks) (a := S) (b := .r 0) (c := .g t.d) (d := .g (.tuple (D.map deD))) (e := y4) (z := [.u, .u, .u, .u, .u]) rfl (by omega) D [] M4 .u (by simp at d2 ⊢; omega) d3 trivial
  have ld : des.length ≤ 8 := by simp at g2 d2; omega
  -- the state
  have hM4 : 0 < M4.length := by
    obtain ⟨_, h, _⟩ := d4
    exact lt_of h
  let iw := M4.length
  let M5 := M4 ++ [MO.dct []]
  let it := M5.length
  let M6 := M5 ++ [MO.lst []]
  let s := M6.length
  let M7 := M6 ++ [MO.lst [.g t.d, dI 0, .r iw, .r it, dI 0]]
  have l5 : it = iw + 1 := by simp [it, M5, iw]
  have l6 : s = it + 1 := by simp [s, M6, it]
  have R7 : LR s iw it M7 (W0 t) := ⟨by
    show M7[s]? = some (.lst [.g (hP (ofTr t)), dI 0, .r iw, .r it, dI 0])
    rw [hP_of]
    exact get_push, get_app (get_app get_push), get_app get_push, by omega⟩
  have r7 : Row ns M7 := by
    obtain ⟨mo, h1, h2⟩ := d4
    exact ⟨mo, get_app (get_app (get_app h1)), h2⟩
  have B0 := W0_bd t des.length
  have sp : 0 < s ∧ 0 < iw ∧ 0 < it := ⟨by omega, hM4, by omega⟩
  -- the turns
  let σ7 (x10 x11 : Dv) (T : List Int) : Slots := [S, .r 0, .g t.d, .g (.tuple (des.map deD)), y4, y5, .g (.tuple (des.map deD)), y7, .r s, .g (.tuple (T.map .int)), x10, x11, .u]
  obtain ⟨l, M8, y10, y11, t1, t2, t3, t4, t5⟩ : ∃ (l : List Int) (M8 : Mem) (y10 y11 : Dv), lw7 (m + 3) (σ7 .u .u []) M7 = .ok (.nx (σ7 y10 y11 l)) M8 ∧ l.length ≤ 40 ∧ Wv.okT des (W0 t) l ∧ LR s iw it M8 ((W0 t).run des l) ∧ Row ns M8 := by
    have o3' : sl 3 (σ7 .u .u []) M7 = .ok (.g (.tuple (des.map deD))) M7 := rfl
    have tE : tst (b2 (eqD true) (sl 3) (tup ac0)) (σ7 .u .u []) M7 = .ok (!des.isEmpty) M7 := tst_ok ((b2_ok o3' (show tup ac0 _ M7 = .ok (.g (.tuple [])) M7 from rfl)).trans (neT des M7))
    cases hd : des.isEmpty with
    | true =>
      rw [hd] at tE
      refine ⟨[], M7, .u, .u, ?_, Nat.zero_le _, trivial, R7, r7⟩
      have hsrc : srcR1 (ac (iff (tst (b2 (eqD true) (sl 3) (tup ac0))) (cB (F_q_taken (m + 3)) (ac (sl 1) (ac (kk (.int 40)) ac0))) (kk (.int 0))) ac0) (σ7 .u .u []) M7 = .ok [] M7 := (bnd_ok (ac_ok ((iff_f tE).trans (show kk (.int 0) _ M7 = .ok (dI 0) M7 from rfl)) ac0_ok)).trans rfl
      exact (for_src hsrc).trans rfl
    | false =>
      rw [hd] at tE
      have hpos : 0 < des.length := by
        cases des with
        | nil => cases hd
        | cons _ _ => simp
      obtain ⟨j, M8, j1, j2, j3, j4, j5, j6⟩ := tkR (m + 2) 40 (by decide) (by decide) r7
      obtain ⟨j, rfl⟩ := Int.eq_ofNat_of_zero_le j1
      have R8 := R7.ex j4 sp.1 sp.2.1 sp.2.2
      obtain ⟨l, M9, y10, y11, u1, u2, u3, u4, u5⟩ := tn_loop (ns := ns) (n := m) (N := t.sz) (a := S) (c := .g t.d) (x4 := y4) (x5 := y5) (x6 := .g (.tuple (des.map deD))) (x7 := y7) (x12 := .u) sp.1 sp.2.1 sp.2.2 (by omega) hpos (by omega) (rngs 1 0 j) [] (W0 t) M8 .u .u (fun d hd => by
        rw [rngs_map] at hd
        obtain ⟨i, _, rfl⟩ := List.mem_map.mp hd
        exact fun z => nomatch z) (by rw [rngs_len]; simp; omega) B0 R8 j3
      refine ⟨l, M9, y10, y11, ?_, by rw [u2, rngs_len]; omega, u3, u4, u5⟩
      have rk : rOk (j : Int) = true := Nat.ble_eq_true_of_le (by omega)
      have hsrc : srcR1 (ac (iff (tst (b2 (eqD true) (sl 3) (tup ac0))) (cB (F_q_taken (m + 3)) (ac (sl 1) (ac (kk (.int 40)) ac0))) (kk (.int 0))) ac0) (σ7 .u .u []) M7 = .ok (rngs 1 0 j) M8 := by
        refine (bnd_ok (ac_ok ((iff_t tE).trans ((cB_ok (ac_ok (show sl 1 _ M7 = .ok (.r 0) M7 from rfl) (ac_ok (show kk (.int 40) _ M7 = .ok (dI 40) M7 from rfl) ac0_ok))).trans j6)) ac0_ok)).trans ?_
        simp [bnd, ofO, asI, dI, rt, chk, rk]
      exact (for_src hsrc).trans u1
  have B1 := B0.run l t3
  have hmu : des.length * (t.sz + des.length + 1) ≤ 8 * 19 := Nat.mul_le_mul ld (by omega)
  -- on to the end
  let still : Nat := ((W0 t).run des l).wk.length
  let z8 : List Dv := [S, .r 0, .g t.d, .g (.tuple (des.map deD)), y4, y5, .g (.tuple (des.map deD)), y7]
  obtain ⟨M9, y10', e1, R9⟩ := ce_loop (n := m + 1) (N := t.sz) (L := des.length) (z1 := z8) (x9 := .g (.tuple (l.map .int))) (x11 := y11) (x12 := dI still) rfl (by omega) (by omega) (rngs 1 0 400) ((W0 t).run des l) M8 y10 B1 t4
  rw [rngs_len] at R9
  have ec : ((W0 t).run des l).comp 1000 = ((W0 t).run des l).comp 400 := Wv.comp_le (B1.done (k := 400) (by omega)) (by omega)
  have B2 := B1.comp 400
  have hd := B1.done (k := 400) (by omega)
  have top0 := ofTr_to (B2.inv.top0 hd)
  obtain ⟨Mw, w1⟩ := woven_ok (m + 1) t des l hp (by omega) nd (by omega) g3 (by omega) t3 (by omega) (by omega)
  have hsz : (toTr (((W0 t).run des l).comp 400).top).sz ≤ 18 := by
    have := B2.totN
    have e1 := ofTr_sz (toTr (((W0 t).run des l).comp 400).top)
    rw [top0] at e1
    unfold Wv.tot at this
    omega
  have htk : (((W0 t).run des l).comp 400).tk.length ≤ 8 := by
    have := B2.tkL
    omega
  have al : F_q_alike (m + 3) [.g (wvR t des l), .g (wvR t des l)] [] = .ok (vB true) [] := by
    refine alike_tup (m + 2) _ (by simp) fun x hx => ?_
    rw [ec] at hx
    simp only [List.mem_cons, List.not_mem_nil, or_false] at hx
    rcases hx with rfl | rfl | rfl
    · exact alike_tr _ _ (by omega)
    · refine alike_tup (m + 1) _ (by rw [List.length_map]; omega) fun y hy => ?_
      obtain ⟨o, _, rfl⟩ := List.mem_map.mp hy
      cases o with
      | none => exact alike_none m
      | some k => exact alike_int m k
    · exact alike_int (m + 1) _
  refine ⟨M9, ?_⟩
  rw [F_law_eq]
  refine def_rt rfl ?_
  show (sq (lw0 (m + 3)) _) [S, .u, .u, .u, .u, .u, .u, .u, .u, .u, .u, .u, .u] [] = _
  have z0 : lw0 (m + 3) [S, .u, .u, .u, .u, .u, .u, .u, .u, .u, .u, .u, .u] [] = .ok (.nx [S, .r 0, .u, .u, .u, .u, .u, .u, .u, .u, .u, .u, .u]) [RW ns 0 14507 0] := by
    rw [← hS]
    rfl
  refine (sq_nx z0).trans ?_
  have z1 : lw1 (m + 3) [S, .r 0, .u, .u, .u, .u, .u, .u, .u, .u, .u, .u, .u] [RW ns 0 14507 0] = .ok (.nx [S, .r 0, .g t.d, .g (.tuple []), .u, .u, .u, .u, .u, .u, .u, .u, .u]) M2 := by
    have v1 : cB (F_q_order (m + 3)) (ac (sl 1) (ac (kk (.int 10)) ac0)) [S, .r 0, .u, .u, .u, .u, .u, .u, .u, .u, .u, .u, .u] [RW ns 0 14507 0] = .ok (.g (.tuple (L.map .int))) M1 := (cB_ok (ac_ok (show sl 1 _ _ = .ok (.r 0) _ from rfl) (ac_ok (show kk (.int 10) _ _ = .ok (dI 10) _ from rfl) ac0_ok))).trans o1
    have v2 : cB srtX (ac (cB (F_q_order (m + 3)) (ac (sl 1) (ac (kk (.int 10)) ac0))) ac0) [S, .r 0, .u, .u, .u, .u, .u, .u, .u, .u, .u, .u, .u] [RW ns 0 14507 0] = .ok (.g (.list ((sortI L).map .int))) M1 := by
      refine (cB_ok (ac_ok v1 ac0_ok)).trans ?_
      simp [srtX, one1, asG, asGp, bnd, ofO, rt, itsP, intsP_map]
    refine (bnd_ok (ac_ok ((cB_ok (ac_ok (show sl 1 _ _ = .ok (.r 0) _ from rfl) (ac_ok v2 ac0_ok))).trans a1) (ac_ok (show tup ac0 _ M2 = .ok (.g (.tuple [])) M2 from rfl) ac0_ok))).trans rfl
  refine (sq_nx z1).trans ?_
  have z2 : lw2 (m + 3) [S, .r 0, .g t.d, .g (.tuple []), .u, .u, .u, .u, .u, .u, .u, .u, .u] M2 = .ok (.nx [S, .r 0, .g t.d, .g (.tuple (D.map deD)), y4, .u, .u, .u, .u, .u, .u, .u, .u]) M4 := by
    have rk : rOk (q : Int) = true := Nat.ble_eq_true_of_le (by omega)
    have hsrc : srcR1 (ac (cB (F_q_taken (m + 3)) (ac (sl 1) (ac (kk (.int 9)) ac0))) ac0) [S, .r 0, .g t.d, .g (.tuple []), .u, .u, .u, .u, .u, .u, .u, .u, .u] M2 = .ok ((List.range q).map fun (i : Nat) => dI (((0 : Nat) : Int) + i)) M3 := by
      refine (bnd_ok (ac_ok ((cB_ok (ac_ok (show sl 1 _ M2 = .ok (.r 0) M2 from rfl) (ac_ok (show kk (.int 9) _ M2 = .ok (dI 9) M2 from rfl) ac0_ok))).trans q6) ac0_ok)).trans ?_
      have := rngs_map q 0
      simp [bnd, ofO, asI, dI, rt, chk, rk] at this ⊢
      rw [this]
    exact (for_src hsrc).trans d1
  refine (sq_nx z2).trans ?_
  have z3 : lw3 (m + 3) [S, .r 0, .g t.d, .g (.tuple (D.map deD)), y4, .u, .u, .u, .u, .u, .u, .u, .u] M4 = .ok (.nx [S, .r 0, .g t.d, .g (.tuple (D.map deD)), y4, .g (.list (t.ks.map .int)), .g (.tuple []), .u, .u, .u, .u, .u, .u]) M4 := by
    refine (bnd_ok (ac_ok ((cB_ok (ac_ok (show sl 2 _ M4 = .ok (.g t.d) M4 from rfl) ac0_ok)).trans (pure_ok (xs := [t.d]) (q_keys_ok (m + 3) t (by omega) (by omega)))) (ac_ok (show tup ac0 _ M4 = .ok (.g (.tuple [])) M4 from rfl) ac0_ok))).trans rfl
  refine (sq_nx z3).trans ?_
  have z4 : lw4 (m + 3) [S, .r 0, .g t.d, .g (.tuple (D.map deD)), y4, .g (.list (t.ks.map .int)), .g (.tuple []), .u, .u, .u, .u, .u, .u] M4 = .ok (.nx [S, .r 0, .g t.d, .g (.tuple (D.map deD)), y4, y5, .g (.tuple (des.map deD)), y7, .u, .u, .u, .u, .u]) M4 := by
    have hsrc : srcS (sl 3) [S, .r 0, .g t.d, .g (.tuple (D.map deD)), y4, .g (.list (t.ks.map .int)), .g (.tuple []), .u, .u, .u, .u, .u, .u] M4 = .ok ((D.map deD).map Dv.g) M4 := rfl
    have e0 : t.ks ++ puts [] = t.ks := List.append_nil _
    rw [e0] at g1
    exact (for_src hsrc).trans g1
  refine (sq_nx z4).trans ?_
  refine (sq_nx (M' := M4) (ρ' := [S, .r 0, .g t.d, .g (.tuple (des.map deD)), y4, y5, .g (.tuple (des.map deD)), y7, .u, .u, .u, .u, .u]) rfl).trans ?_
  refine (sq_nx (M' := M7) (ρ' := σ7 .u .u []) rfl).trans ?_
  refine (sq_nx t1).trans ?_
  have z8' : lw8 (m + 3) (σ7 y10 y11 l) M8 = .ok (.nx (z8 ++ [.r s, .g (.tuple (l.map .int)), y10, y11, dI still])) M8 := by
    refine asg_ok (d := dI still) (M1 := M8) ((cB_ok (ac_ok (ix_ok (i := 2) (show sl 8 (σ7 y10 y11 l) M8 = .ok (.r s) M8 from rfl) t4.hs rfl) ac0_ok)).trans ?_) rfl
    simp [lenD, atM, t4.hw, rt, still]
  refine (sq_nx z8').trans ?_
  have z9 : lw9 (m + 3) (z8 ++ [.r s, .g (.tuple (l.map .int)), y10, y11, dI still]) M8 = .ok (.nx (z8 ++ [.r s, .g (.tuple (l.map .int)), y10', y11, dI still])) M9 := by
    have hsrc : srcR1 (ac (kk (.int 400)) ac0) (z8 ++ [.r s, .g (.tuple (l.map .int)), y10, y11, dI still]) M8 = .ok (rngs 1 0 400) M8 := by
      have rk : rOk 400 = true := by decide +kernel
      refine (bnd_ok (ac_ok (show kk (.int 400) _ M8 = .ok (dI 400) M8 from rfl) ac0_ok)).trans ?_
      simp only [bnd, ofO, asI, dI, rt, chk, rk]
      rfl
    exact (for_src hsrc).trans e1
  refine (sq_nx z9).trans ?_
  refine sq_rt (ret_ok ?_)
  have o8 : ∀ M, sl 8 (z8 ++ [.r s, .g (.tuple (l.map .int)), y10', y11, dI still]) M = .ok (.r s) M := fun _ => rfl
  have v1 : cB (pureC (F_woven (m + 3))) (ac (sl 2) (ac (sl 3) (ac (sl 9) ac0))) (z8 ++ [.r s, .g (.tuple (l.map .int)), y10', y11, dI still]) M9 = .ok (.g (wvR t des l)) M9 := (cB_ok (ac_ok (show sl 2 _ M9 = .ok (.g t.d) M9 from rfl) (ac_ok (show sl 3 _ M9 = .ok (.g (.tuple (des.map deD))) M9 from rfl) (ac_ok (show sl 9 _ M9 = .ok (.g (.tuple (l.map .int))) M9 from rfl) ac0_ok)))).trans (pure_ok (xs := [t.d, .tuple (des.map deD), .tuple (l.map .int)]) w1)
  have v2 : tup (ac (b2 ixD (sl 8) (kk (.int 0))) (ac (cB tupL (ac (b2 ixD (sl 8) (kk (.int 3))) ac0)) (ac (sl 12) ac0))) (z8 ++ [.r s, .g (.tuple (l.map .int)), y10', y11, dI still]) M9 = .ok (.g (wvR t des l)) M9 := by
    have p1 : cB tupL (ac (b2 ixD (sl 8) (kk (.int 3))) ac0) (z8 ++ [.r s, .g (.tuple (l.map .int)), y10', y11, dI still]) M9 = .ok (.g (.tuple ((((W0 t).run des l).comp 400).tk.map tkP))) M9 := by
      refine (cB_ok (ac_ok (ix_ok (i := 3) (o8 M9) R9.hs rfl) ac0_ok)).trans ?_
      simp [tupL, atM, R9.ht, rt, mkT_tk]
    refine (tup_ok (ac_ok (ix_ok (i := 0) (o8 M9) R9.hs rfl) (ac_ok p1 (ac_ok (show sl 12 _ M9 = .ok (dI still) M9 from rfl) ac0_ok)))).trans ?_
    unfold wvR
    rw [ec]
    have : hP (((W0 t).run des l).comp 400).top = (toTr (((W0 t).run des l).comp 400).top).d := by
      rw [← hP_of, top0]
    rw [this]
    rfl
  exact (cB_ok (ac_ok v1 (ac_ok v2 ac0_ok))).trans (pure_ok (xs := [wvR t des l, wvR t des l]) al)
theorem law_true (ns : List Int) : ∃ M, F_law 101 [.g (.list (ns.map .int))] [] = .ok (vB true) M := law_gen ns 97 (Nat.le_refl _)
end K07
open PySem PySem.W PySem.Calls PyProof.Rows
theorem PySem.Challenge.cw_turnheaps_k07_whole_weavings_holds : PySem.Challenge.rw_turnheaps_k07_whole_weavings.Holds := by
  w_on; o_law
  refine HandSHeadRun.head_any (r := OpenLaw.row PySem.Challenge.rw_turnheaps_k07_whole_weavings) (q := view (OpenLaw.row PySem.Challenge.rw_turnheaps_k07_whole_weavings).prog [43]) (H := K07.hk) (ob := K07.ob) (M := 4000) (loose := K07.names) (d := HandSHeadRun.topDef (OpenLaw.row PySem.Challenge.rw_turnheaps_k07_whole_weavings).prog 43) (kwd := []) K07.ob_eq
    (by kernel_rfl) (fun s => by kernel_rfl) K07.run (by kernel_rfl) (by kernel_rfl) (by kernel_rfl) (by rfl) (by first | assumption | decide +kernel) (by decide +kernel) ⟨rfl, rfl, rfl, rfl, rfl, by decide +kernel⟩ ?hw ?hc
  case hw => w_witness2
  case hc =>
    refine LamX.walk_ofTsE (l := PySem.Challenge.rw_turnheaps_k07_whole_weavings) (n := 63) (k := 101) (x := "_law_script") (CX := fun _ => L2.CX0) rfl (by decide) (by kernel_rfl) ⟨rfl, by decide, by decide⟩ ?F (fun _ _ _ _ _ z => z)
    intro w mg fa h Y G hmg0
    obtain ⟨K, KX, c⟩ := Y
    have hmg : mg ("law" : PySem.Str) = some (.ref fa) := by
      have e : (HandSHeadRun.topDef (OpenLaw.row PySem.Challenge.rw_turnheaps_k07_whole_weavings).prog 43).name = ("law" : PySem.Str) := by kernel_rfl
      rw [← e]
      exact hmg0
    obtain ⟨fd, hb, hF⟩ := K07.facts (P := (PySem.Challenge.rw_turnheaps_k07_whole_weavings).prog) (w := w) KX G hmg c 100 K07.law_true
    refine ⟨K, KX, fd, K07.tf.map (He.cT K), Xt.spL ⟨K, mg, (K07.tf.map (He.cT K)).map (·.2), K07.nmK K⟩, fun p hp => ?_, fun p hp => ?_, fun p hp => ?_, hb, fun H a ns hl _ hT hS => ⟨a, ns, rfl, hS, fun P hP => ?_, fun _ => rfl⟩, hF⟩
    · obtain ⟨q, hq, rfl⟩ := List.mem_map.mp hp
      exact c.empty q hq
    · obtain ⟨q, hq, rfl⟩ := List.mem_map.mp hp
      exact c.out q hq
    · obtain ⟨q, hq, rfl⟩ := List.mem_map.mp hp
      exact PySem.W.codeHd_of_K KX (c.hd q hq)
    · obtain ⟨p, hp, rfl⟩ := List.mem_map.mp hP
      exact ⟨#[], hT p hp, trivial, fun q _ pos cv z => by simp [codeAmong] at z⟩
