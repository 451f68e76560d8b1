import PyProof.Rows.All
import Wide.All
import OpenK.AllK
import Wide.FinOn
import PySem.Challenge.RW_turnheaps_k16_shapes_refused
import HandS.ForMost
import HandS.ForExc
import HandS.Defaults
import HandS.WideBits
import HandS.Lambda
import HandS.Gcd
import HandS.IsInst
import HandS.TupAny
import HandS.TupMul
import HandS.Deep
import HandS.Style
import HandS.Flow
import HandS.TupLe
import HandS.SetFor
import HandS.SortInts
import KE.KMathGC
import HandS.HeadHook4
import HandS.Small
import HandS.AnyAll
import HandS.GenList
import HandS.DictTup
import HandS.HeadWalk
import HandS.Head0
import HandS.Head1
import HandS.Head2
import HandS.Star
import HandS.Conv
import HandS.Zip
import HandS.Strs
import HandS.ExcOwn
import HandS.ExcIs
set_option Elab.async false
set_option linter.all false
set_option maxRecDepth 100000
/-! Xt: each def of the text as a plain function over data and a small memory; the promise of a def says that it gives what its function gives. -/
namespace Xt
open PySem PySem.Spec PyProof.Rows L2

/-! ### data -/
/-- what a slot holds: data that never change; an object of the memory; a tuple with such in it; nothing that is told -/
inductive Dv where
  | g (x : PyData)
  | r (i : Nat)
  | t (xs : List Dv)
  | u
/-- an object that may change -/
inductive MO where
  | lst (xs : List Dv)
  | dct (kvs : List (Int × Dv))
  | ins (c : Str) (fs : List (Str × Dv))
  | dead
abbrev Mem := List MO
structure Exn where
  cls : Str
  ix : Option PyData
inductive RE (α : Type) where
  | fail
  | ok (a : α) (M : Mem)
  | ex (c : Exn) (M : Mem)
abbrev Co (α : Type) := Mem → RE α
def bnd {α β : Type} (f : Co α) (k : α → Co β) : Co β := fun M => match f M with
  | .fail => .fail
  | .ok a M' => k a M'
  | .ex c M' => .ex c M'
def rt {α : Type} (a : α) : Co α := fun M => .ok a M
def fl {α : Type} : Co α := fun _ => .fail
def ofO {α : Type} : Option α → Co α
  | some a => rt a
  | none => fl
/-- what stands in the memory at i -/
def atM {α : Type} (i : Nat) (k : MO → Co α) : Co α := fun M => match M[i]? with
  | some mo => k mo M
  | none => .fail
abbrev Slots := List Dv

/-! ### how data stand in the abstract heap -/
/-- a list that does not change any more: locked, or written by the top -/
def LsF (K : PySem.W.Frag) (H : Hp) (a : Addr) (xs : List V) : Prop :=
  (∃ o, H a = some (.frz o (.lst xs))) ∨ ∃ (o : Obj) (its : Array Value) (n : Nat), K.lookup a = some o ∧ o.cls = .type "list" ∧ o.dict = none ∧ o.data = .seq its n ∧ its.size ≤ sizeLine ∧ Vals xs its.toList
theorem LsF.sq {K : PySem.W.Frag} {H : Hp} {a : Addr} {xs : List V} (h : LsF K H a xs) : SqL K H a xs := by
  rcases h with ⟨o, h⟩ | h
  · exact .inl (.inr ⟨o, h⟩)
  · exact .inr h
mutual
inductive RpV (K : PySem.W.Frag) (H : Hp) : V → PyData → Prop
  | non : RpV K H .non .none
  | bl (b : Bool) : RpV K H (.bl b) (.bool b)
  | int (i : Int) : RpV K H (.int i) (.int i)
  | str (x : Str) : RpV K H (.str x) (.str x)
  | lst {a : Addr} {xs : List V} {ds : List PyData} : LsF K H a xs → RpVs K H xs ds → RpV K H (.ref a) (.list ds)
  | tup {a : Addr} {xs : List V} {ds : List PyData} : H a = some (.tup xs) → RpVs K H xs ds → RpV K H (.ref a) (.tuple ds)
  | dct {a : Addr} {o : Obj} {kvs : List (Key × V)} {kds : List (PyData × PyData)} : H a = some (.frz o (.dK kvs)) → RpKs K H kvs kds → RpV K H (.ref a) (.dict kds)
inductive RpVs (K : PySem.W.Frag) (H : Hp) : List V → List PyData → Prop
  | nil : RpVs K H [] []
  | cons {v : V} {vs : List V} {d : PyData} {ds : List PyData} : RpV K H v d → RpVs K H vs ds → RpVs K H (v :: vs) (d :: ds)
inductive RpKs (K : PySem.W.Frag) (H : Hp) : List (Key × V) → List (PyData × PyData) → Prop
  | nil : RpKs K H [] []
  | cons {i : Int} {v : V} {kvs : List (Key × V)} {d : PyData} {kds : List (PyData × PyData)} : RpV K H v d → RpKs K H kvs kds → RpKs K H ((.inl i, v) :: kvs) ((.int i, d) :: kds)
end
/-- what is locked and what is a tuple stays -/
structure Keep (H H' : Hp) : Prop where
  frz : ∀ a o u, H a = some (.frz o u) → H' a = some (.frz o u)
  tup : ∀ a xs, H a = some (.tup xs) → H' a = some (.tup xs)
theorem Keep.refl (H : Hp) : Keep H H := ⟨fun _ _ _ h => h, fun _ _ h => h⟩
theorem Keep.trans {H H1 H2 : Hp} (a : Keep H H1) (b : Keep H1 H2) : Keep H H2 := ⟨fun x o u h => b.frz x o u (a.frz x o u h), fun x o h => b.tup x o (a.tup x o h)⟩
section
variable {K : PySem.W.Frag} {H H' : Hp}
theorem LsF.mono {a : Addr} {xs : List V} (k : Keep H H') (h : LsF K H a xs) : LsF K H' a xs := by
  rcases h with ⟨o, h⟩ | h
  · exact .inl ⟨o, k.frz _ _ _ h⟩
  · exact .inr h
mutual
theorem RpV.mono (k : Keep H H') : ∀ {v : V} {d : PyData}, RpV K H v d → RpV K H' v d
  | _, _, .non => .non
  | _, _, .bl b => .bl b
  | _, _, .int i => .int i
  | _, _, .str x => .str x
  | _, _, .lst h r => .lst (h.mono k) (RpVs.mono k r)
  | _, _, .tup h r => .tup (k.tup _ _ h) (RpVs.mono k r)
  | _, _, .dct h r => .dct (k.frz _ _ _ h) (RpKs.mono k r)
theorem RpVs.mono (k : Keep H H') : ∀ {vs : List V} {ds : List PyData}, RpVs K H vs ds → RpVs K H' vs ds
  | _, _, .nil => .nil
  | _, _, .cons h r => .cons (RpV.mono k h) (RpVs.mono k r)
theorem RpKs.mono (k : Keep H H') : ∀ {vs : List (Key × V)} {ds : List (PyData × PyData)}, RpKs K H vs ds → RpKs K H' vs ds
  | _, _, .nil => .nil
  | _, _, .cons h r => .cons (RpV.mono k h) (RpKs.mono k r)
end
theorem RpVs.length : ∀ {vs : List V} {ds : List PyData}, RpVs K H vs ds → vs.length = ds.length
  | _, _, .nil => rfl
  | _, _, .cons _ r => by rw [List.length_cons, List.length_cons, RpVs.length r]
theorem RpKs.length : ∀ {vs : List (Key × V)} {ds : List (PyData × PyData)}, RpKs K H vs ds → vs.length = ds.length
  | _, _, .nil => rfl
  | _, _, .cons _ r => by rw [List.length_cons, List.length_cons, RpKs.length r]
/-- the library's own reading of such data (no dict in it) -/
def flat : PyData → Bool
  | .dict _ => false
  | _ => true
mutual
def noDct : PyData → Bool
  | .dict _ => false
  | .list xs => noDcts xs
  | .tuple xs => noDcts xs
  | _ => true
def noDcts : List PyData → Bool
  | [] => true
  | x :: xs => noDct x && noDcts xs
end
mutual
theorem RpV.dp : ∀ {v : V} {d : PyData}, RpV K H v d → noDct d = true → Dp K H v d
  | _, _, .non, _ => .non
  | _, _, .bl b, _ => .bl b
  | _, _, .int i, _ => .int i
  | _, _, .str x, _ => .str x
  | _, _, .lst h r, z => .lst h.sq (RpVs.dp r (by rw [noDct] at z; exact z))
  | _, _, .tup h r, z => .tup (.inl (.inl h)) (RpVs.dp r (by rw [noDct] at z; exact z))
  | _, _, .dct h r, z => by rw [noDct] at z; cases z
theorem RpVs.dp : ∀ {vs : List V} {ds : List PyData}, RpVs K H vs ds → noDcts ds = true → DpAll K H vs ds
  | _, _, .nil, _ => .nil
  | _, _, .cons h r, z => by
    rw [noDcts] at z
    obtain ⟨z1, z2⟩ := Bool.and_eq_true_iff.mp z
    exact .cons (RpV.dp h z1) (RpVs.dp r z2)
end
end

/-! ### slots, memory -/
/-- the written part, the module's names, the tables of code objects -/
structure Gx where
  K : PySem.W.Frag
  mg : Str → Option Value
  tbs : List Addr
  nm : Addr → Option Str
mutual
inductive RpD (G : Gx) (ι : List Addr) (H : Hp) : V → Dv → Prop
  | g {v : V} {x : PyData} : RpV G.K H v x → RpD G ι H v (.g x)
  | r {a : Addr} {i : Nat} : ι[i]? = some a → RpD G ι H (.ref a) (.r i)
  | t {a : Addr} {vs : List V} {xs : List Dv} : H a = some (.tup vs) → RpDs G ι H vs xs → RpD G ι H (.ref a) (.t xs)
inductive RpDs (G : Gx) (ι : List Addr) (H : Hp) : List V → List Dv → Prop
  | nil : RpDs G ι H [] []
  | cons {v : V} {vs : List V} {d : Dv} {ds : List Dv} : RpD G ι H v d → RpDs G ι H vs ds → RpDs G ι H (v :: vs) (d :: ds)
end
inductive RpI (G : Gx) (ι : List Addr) (H : Hp) : List (Key × V) → List (Int × Dv) → Prop
  | nil : RpI G ι H [] []
  | cons {i : Int} {v : V} {kvs : List (Key × V)} {d : Dv} {kds : List (Int × Dv)} : RpD G ι H v d → RpI G ι H kvs kds → RpI G ι H ((.inl i, v) :: kvs) ((i, d) :: kds)
inductive RpF (G : Gx) (ι : List Addr) (H : Hp) : List (Str × V) → List (Str × Dv) → Prop
  | nil : RpF G ι H [] []
  | cons {f : Str} {v : V} {kvs : List (Str × V)} {d : Dv} {kds : List (Str × Dv)} : RpD G ι H v d → RpF G ι H kvs kds → RpF G ι H ((f, v) :: kvs) ((f, d) :: kds)
section
variable {G : Gx} {ι ι' : List Addr} {H H' : Hp}
theorem pre_get {ι ι' : List Addr} (p : ι <+: ι') {i : Nat} {a : Addr} (h : ι[i]? = some a) : ι'[i]? = some a := by
  obtain ⟨t, rfl⟩ := p
  rw [List.getElem?_append_left (List.getElem?_eq_some_iff.mp h).1]
  exact h
mutual
theorem RpD.mono (p : ι <+: ι') (k : Keep H H') : ∀ {v : V} {d : Dv}, RpD G ι H v d → RpD G ι' H' v d
  | _, _, .g h => .g (h.mono k)
  | _, _, .r h => .r (pre_get p h)
  | _, _, .t h r => .t (k.tup _ _ h) (RpDs.mono p k r)
theorem RpDs.mono (p : ι <+: ι') (k : Keep H H') : ∀ {vs : List V} {ds : List Dv}, RpDs G ι H vs ds → RpDs G ι' H' vs ds
  | _, _, .nil => .nil
  | _, _, .cons h r => .cons (RpD.mono p k h) (RpDs.mono p k r)
end
theorem RpI.mono (p : ι <+: ι') (k : Keep H H') {vs : List (Key × V)} {ds : List (Int × Dv)} (h : RpI G ι H vs ds) : RpI G ι' H' vs ds := by
  induction h with
  | nil => exact .nil
  | cons h _ ih => exact .cons (h.mono p k) ih
theorem RpF.mono (p : ι <+: ι') (k : Keep H H') {vs : List (Str × V)} {ds : List (Str × Dv)} (h : RpF G ι H vs ds) : RpF G ι' H' vs ds := by
  induction h with
  | nil => exact .nil
  | cons h _ ih => exact .cons (h.mono p k) ih
theorem RpDs.length : ∀ {vs : List V} {ds : List Dv}, RpDs G ι H vs ds → vs.length = ds.length
  | _, _, .nil => rfl
  | _, _, .cons _ r => by rw [List.length_cons, List.length_cons, RpDs.length r]
theorem RpDs.append : ∀ {vs ws : List V} {ds es : List Dv}, RpDs G ι H vs ds → RpDs G ι H ws es → RpDs G ι H (vs ++ ws) (ds ++ es)
  | _, _, _, _, .nil, h => h
  | _, _, _, _, .cons h r, z => .cons h (RpDs.append r z)
theorem RpDs.get : ∀ {vs : List V} {ds : List Dv} {i : Nat} {d : Dv}, RpDs G ι H vs ds → ds[i]? = some d → ∃ v, vs[i]? = some v ∧ RpD G ι H v d
  | _, _, _, _, .nil, h => by simp at h
  | _, _, 0, _, .cons h _, e => by
    simp at e
    subst e
    exact ⟨_, rfl, h⟩
  | _, _, i + 1, _, .cons _ r, e => by
    obtain ⟨v, h1, h2⟩ := RpDs.get (i := i) r (by simpa using e)
    exact ⟨v, by simpa using h1, h2⟩
theorem RpDs.set {v : V} {d : Dv} (h : RpD G ι H v d) : ∀ {vs : List V} {ds : List Dv} (i : Nat), RpDs G ι H vs ds → RpDs G ι H (vs.set i v) (ds.set i d)
  | _, _, _, .nil => .nil
  | _, _, 0, .cons _ r => .cons h r
  | _, _, i + 1, .cons q r => .cons q (RpDs.set h i r)
theorem RpDs.take : ∀ {vs : List V} {ds : List Dv} (n : Nat), RpDs G ι H vs ds → RpDs G ι H (vs.take n) (ds.take n)
  | _, _, 0, _ => .nil
  | _, _, _ + 1, .nil => .nil
  | _, _, n + 1, .cons h r => .cons h (RpDs.take n r)
theorem RpDs.drop : ∀ {vs : List V} {ds : List Dv} (n : Nat), RpDs G ι H vs ds → RpDs G ι H (vs.drop n) (ds.drop n)
  | _, _, 0, h => h
  | _, _, _ + 1, .nil => .nil
  | _, _, n + 1, .cons _ r => RpDs.drop n r
theorem RpDs.snoc {vs : List V} {ds : List Dv} {v : V} {d : Dv} (h : RpDs G ι H vs ds) (z : RpD G ι H v d) : RpDs G ι H (vs ++ [v]) (ds ++ [d]) := h.append (.cons z .nil)
/-- data as slots' values and back -/
theorem RpVs.ds : ∀ {vs : List V} {xs : List PyData}, RpVs G.K H vs xs → RpDs G ι H vs (xs.map Dv.g)
  | _, _, .nil => .nil
  | _, _, .cons h r => .cons (.g h) (RpVs.ds r)
/-- all of them data -/
def grd : List Dv → Option (List PyData)
  | [] => some []
  | .g x :: r => (grd r).map (x :: ·)
  | _ :: _ => none
theorem RpDs.grd : ∀ {vs : List V} {ds : List Dv} {xs : List PyData}, RpDs G ι H vs ds → Xt.grd ds = some xs → RpVs G.K H vs xs
  | _, _, _, .nil, e => by
    cases e
    exact .nil
  | _, .g x :: r, xs, .cons (.g h) q, e => by
    rw [Xt.grd] at e
    cases e1 : Xt.grd r with
    | none =>
      rw [e1] at e
      cases e
    | some ys =>
      rw [e1] at e
      cases e
      exact .cons h (RpDs.grd q e1)
  | _, .r _ :: _, _, _, e => by cases e
  | _, .t _ :: _, _, _, e => by cases e
  | _, .u :: _, _, _, e => by cases e
end
def isTbl : HO → Bool
  | .tbl _ => true
  | _ => false
/-- one object of the memory -/
def MoR (G : Gx) (ι : List Addr) (H : Hp) (a : Addr) : MO → Prop
  | .lst xs => ∃ vs, H a = some (.lst vs) ∧ RpDs G ι H vs xs
  | .dct kvs => ∃ kws, H a = some (.dK kws) ∧ RpI G ι H kws kvs
  | .ins c fs => ∃ C dx fvs, G.mg c = some (.ref C) ∧ H a = some (.ins C dx fvs) ∧ RpF G ι H fvs fs
  | .dead => ∃ o, H a = some o ∧ isTbl o = false
/-- a table of code objects; where it has a name, all of it bears that name -/
def TbR (nm : Addr → Option Str) (H : Hp) (P : Addr) : Prop := ∃ ps : Array Value, H P = some (.tbl ps) ∧ TriplesOk ps.toList ∧ ∀ q, nm P = some q → ∀ (pos : Pos) (cv : Value), codeAmong pos ps.toList = some cv → ∃ c, cv = .ref c ∧ H c = some (LamX.CodeO c q)
theorem TbR.to {nm : Addr → Option Str} {H H' : Hp} {P : Addr} (t : TbR nm H P) (k1 : ∀ ps, H P = some (.tbl ps) → H' P = some (.tbl ps)) (k2 : ∀ c f, H c = some (.ext f) → H' c = some (.ext f)) : TbR nm H' P := by
  obtain ⟨ps, h, t, n⟩ := t
  refine ⟨ps, k1 ps h, t, fun q e pos cv hc => ?_⟩
  obtain ⟨c, e1, e2⟩ := n q e pos cv hc
  exact ⟨c, e1, k2 c _ e2⟩
structure MemR (G : Gx) (ι : List Addr) (H : Hp) (M : Mem) : Prop where
  len : ι.length = M.length
  nd : ι.Nodup
  ob : ∀ (i : Nat) (a : Addr) (mo : MO), ι[i]? = some a → M[i]? = some mo → MoR G ι H a mo
  tab : ∀ P ∈ G.tbs, TbR G.nm H P
/-- from one state to a later one -/
structure Ext (G : Gx) (ι : List Addr) (H : Hp) (ι' : List Addr) (M' : Mem) (H' : Hp) : Prop where
  pre : ι <+: ι'
  mem : MemR G ι' H' M'
  keep : Keep H H'
  frame : ∀ b o, H b = some o → isTbl o = false → b ∉ ι → H' b = some o
  tbl : ∀ b ps, H b = some (.tbl ps) → ∃ qs, H' b = some (.tbl qs)
  fresh : ∀ a ∈ ι', a ∉ ι → H a = none
theorem Ext.refl {G : Gx} {ι : List Addr} {H : Hp} {M : Mem} (m : MemR G ι H M) : Ext G ι H ι M H :=
  ⟨List.prefix_refl _, m, .refl _, fun _ _ h _ _ => h, fun _ ps h => ⟨ps, h⟩, fun _ h n => absurd h n⟩
theorem Ext.trans {G : Gx} {ι ι1 ι2 : List Addr} {H H1 H2 : Hp} {M1 M2 : Mem} (a : Ext G ι H ι1 M1 H1) (b : Ext G ι1 H1 ι2 M2 H2) : Ext G ι H ι2 M2 H2 where
  pre := a.pre.trans b.pre
  mem := b.mem
  keep := a.keep.trans b.keep
  frame := fun x o h1 h2 h3 => b.frame x o (a.frame x o h1 h2 h3) h2 fun z => by
    rw [a.fresh x z h3] at h1
    cases h1
  tbl := fun x ps h => by
    obtain ⟨qs, e⟩ := a.tbl x ps h
    exact b.tbl x qs e
  fresh := fun x h n => by
    by_cases z : x ∈ ι1
    · exact a.fresh x z n
    · have e := b.fresh x h z
      cases q : H x with
      | none => rfl
      | some o =>
        cases t : isTbl o with
        | false =>
          rw [a.frame x o q t n] at e
          cases e
        | true =>
          cases o with
          | tbl ps =>
            obtain ⟨qs, e2⟩ := a.tbl x ps q
            rw [e2] at e
            cases e
          | _ => cases t
/-- slots -/
structure StR (G : Gx) (H : Hp) (σ : L2.St) (ι : List Addr) (ρ : Slots) (M : Mem) : Prop where
  len : σ.length = ρ.length
  mem : MemR G ι H M
  sl : ∀ (i : Nat) (d : Dv), ρ[i]? = some d → d ≠ .u → ∃ v, σ[i]? = some (some v) ∧ RpD G ι H v d
theorem StR.ext {G : Gx} {ι ι1 : List Addr} {H H1 : Hp} {M M1 : Mem} {σ : L2.St} {ρ : Slots} (s : StR G H σ ι ρ M) (x : Ext G ι H ι1 M1 H1) : StR G H1 σ ι1 ρ M1 :=
  ⟨s.len, x.mem, fun i d h n => by
    obtain ⟨v, e, r⟩ := s.sl i d h n
    exact ⟨v, e, r.mono x.pre x.keep⟩⟩
/-- an exception: its class by name, its index -/
def ExR (G : Gx) (H : Hp) (c : Exn) (cls : Value) (dx : Option Addr) : Prop :=
  (∃ C, G.mg c.cls = some (.ref C) ∧ cls = .ref C) ∧ match c.ix with
    | none => dx = none
    | some x => ∃ d v, dx = some d ∧ H d = some (.xd [("index", v)]) ∧ RpV G.K H v x
/-- what follows, whatever the addresses -/
def Post {α : Type} (G : Gx) (E : XK) (ι : List Addr) (H : Hp) (Q : α → List Addr → Mem → Hp → Prop) : RE α → Prop
  | .fail => False
  | .ok a M' => ∀ ι' H', Ext G ι H ι' M' H' → Q a ι' M' H'
  | .ex c M' => ∀ ι' H' cls dx, Ext G ι H ι' M' H' → ExR G H' c cls dx → E cls dx H'
section
variable {α β : Type} {G : Gx} {E : XK} {ι ι1 : List Addr} {H H1 : Hp} {M M1 : Mem}
theorem Post.mono {Q Q' : α → List Addr → Mem → Hp → Prop} {r : RE α} (h : Post G E ι H Q r) (k : ∀ a ι' M' H', Ext G ι H ι' M' H' → Q a ι' M' H' → Q' a ι' M' H') : Post G E ι H Q' r := by
  cases r with
  | fail => exact h
  | ok a M' => exact fun ι' H' x => k a ι' M' H' x (h ι' H' x)
  | ex c M' => exact h
theorem Post.shift {Q : α → List Addr → Mem → Hp → Prop} {r : RE α} (x : Ext G ι H ι1 M1 H1) (h : Post G E ι H Q r) : Post G E ι1 H1 Q r := by
  cases r with
  | fail => exact h
  | ok a M' => exact fun ι' H' y => h ι' H' (x.trans y)
  | ex c M' => exact fun ι' H' cls dx y => h ι' H' cls dx (x.trans y)
theorem Post.bnd {f : Co α} {k : α → Co β} {Q : β → List Addr → Mem → Hp → Prop} (h : Post G E ι H Q (bnd f k M)) :
    Post G E ι H (fun a ι1 M1 H1 => Post G E ι1 H1 Q (k a M1)) (f M) := by
  unfold Xt.bnd at h
  cases e : f M with
  | fail =>
    rw [e] at h
    exact h
  | ok a M' =>
    rw [e] at h
    intro ι1 H1 x
    exact Post.shift x h
  | ex c M' =>
    rw [e] at h
    exact h
theorem Post.atM {i : Nat} {k : MO → Co α} {Q : α → List Addr → Mem → Hp → Prop} (h : Post G E ι H Q (Xt.atM i k M)) : ∃ mo, M[i]? = some mo ∧ Post G E ι H Q (k mo M) := by
  unfold Xt.atM at h
  cases e : M[i]? with
  | none =>
    rw [e] at h
    exact h.elim
  | some mo =>
    rw [e] at h
    exact ⟨mo, rfl, h⟩
theorem Post.ofO {o : Option α} {k : α → Co β} {Q : β → List Addr → Mem → Hp → Prop} (h : Post G E ι H Q (Xt.bnd (ofO o) k M)) : ∃ a, o = some a ∧ Post G E ι H Q (k a M) := by
  cases o with
  | none => exact False.elim h
  | some a => exact ⟨a, rfl, h⟩
theorem Post.rt (m : MemR G ι H M) {a : α} {Q : α → List Addr → Mem → Hp → Prop} (h : Post G E ι H Q (rt a M)) : Q a ι M H := h ι H (.refl m)
end

/-! ### readings -/
/-- an expression: f's value is what follows -/
def QE (G : Gx) (Q : VK) : Dv → List Addr → Mem → Hp → Prop := fun d ι' _ H' => ∀ v, RpD G ι' H' v d → Q v H'
def rdE (G : Gx) (E : XK) (f : Slots → Co Dv) : TE := fun σ H Q => ∃ ι ρ M, StR G H σ ι ρ M ∧ Post G E ι H (QE G Q) (f ρ M)
def rdA (G : Gx) (E : XK) (f : Slots → Co (List Dv)) : TA := fun σ H Q => ∃ ι ρ M, StR G H σ ι ρ M ∧ Post G E ι H (fun ds ι' _ H' => ∀ vs, RpDs G ι' H' vs ds → Q vs H') (f ρ M)
def rdT (G : Gx) (E : XK) (f : Slots → Co Bool) : TT := fun σ H Q => ∃ ι ρ M, StR G H σ ι ρ M ∧ Post G E ι H (fun b _ _ H' => Q b H') (f ρ M)
/-- a statement's end -/
inductive Fl where
  | nx (ρ : Slots)
  | rt (d : Dv)
  | bk (ρ : Slots)
  | ct (ρ : Slots)
def QS (G : Gx) (D : Ends) : Fl → List Addr → Mem → Hp → Prop := fun f ι' M' H' => match f with
  | .nx ρ => ∀ σ, StR G H' σ ι' ρ M' → D.nx σ H'
  | .rt d => ∀ v, RpD G ι' H' v d → D.rt v H'
  | .bk ρ => ∀ σ, StR G H' σ ι' ρ M' → D.bk σ H'
  | .ct ρ => ∀ σ, StR G H' σ ι' ρ M' → D.ct σ H'
def rdS (G : Gx) (E : XK) (f : Slots → Co Fl) : TS := fun D σ H => ∃ ι ρ M, StR G H σ ι ρ M ∧ Post G E ι H (QS G D) (f ρ M)

/-! ### another reading of the same -/
section
variable {X : Cx}
theorem peI {e : Expr} {t t' : TE} (h : PE X e t) (k : ∀ σ H Q, t' σ H Q → t σ H Q) : PE X e t' := ⟨fun pins s σ H Q I z => h.run pins s σ H Q I (k σ H Q z)⟩
theorem paI {e : List Expr} {t t' : TA} (h : PA X e t) (k : ∀ σ H Q, t' σ H Q → t σ H Q) : PA X e t' := ⟨fun pos pins s σ H Q I z => h.run pos pins s σ H Q I (k σ H Q z)⟩
theorem ptI {e : Expr} {t t' : TT} (h : PT X e t) (k : ∀ σ H Q, t' σ H Q → t σ H Q) : PT X e t' := ⟨fun pins s σ H Q I z => h.run pins s σ H Q I (k σ H Q z)⟩
theorem pwI {e : Expr} {t t' : TT} (h : PW X e t) (k : ∀ σ H Q, t' σ H Q → t σ H Q) : PW X e t' := ⟨fun w pins s σ H Q I z => h.run w pins s σ H Q I (k σ H Q z)⟩
theorem psI {e : Stmt} {t t' : TS} (h : PS X e t) (k : ∀ D σ H, t' D σ H → t D σ H) : PS X e t' := ⟨fun pins s σ H D I z => h.run pins s σ H D I (k D σ H z)⟩
theorem pssI {e : List Stmt} {t t' : TS} (h : PSs X e t) (k : ∀ D σ H, t' D σ H → t D σ H) : PSs X e t' := ⟨fun pins s σ H D I z => h.run pins s σ H D I (k D σ H z)⟩
/-- the value may be locked behind an expression -/
theorem pe_frz {e : Expr} {t : TE} (h : PE X e t) : PE X e (fun σ H Q => t σ H fun v H1 => Q v H1 ∨ ∃ d u, v = .ref d ∧ H1 d = some u ∧ Mut (some u) ∧ ∀ od, Q v (upd H1 d (.frz od u))) := by
  refine ⟨fun pins s σ H Q I z => ?_⟩
  refine thn (h.run pins s σ H _ I z) fun u s1 ⟨x, H1, I1, r1, q⟩ => ?_
  rcases q with q | ⟨d, w, rfl, hd, mu, q⟩
  · exact ⟨x, H1, I1, r1, q⟩
  · obtain ⟨od, I2⟩ := I1.lock hd mu
    exact ⟨_, _, I2, r1, q od⟩
end
end Xt
set_option Elab.async false
set_option linter.all false
set_option maxRecDepth 100000
set_option maxHeartbeats 1000000
namespace Xt
open PySem PySem.Spec PyProof.Rows L2

/-! ### new objects, changed objects -/
section
variable {G : Gx} {E : XK} {ι : List Addr} {H : Hp} {M : Mem} {p : Addr} {o : HO}
theorem keep_new (hp : H p = none) : Keep H (upd H p o) :=
  ⟨fun a ob u h => by rw [upd_ne (ne_of_none h hp)]; exact h, fun a xs h => by rw [upd_ne (ne_of_none h hp)]; exact h⟩
theorem MemR.at (m : MemR G ι H M) {a : Addr} (h : a ∈ ι) : ∃ o, H a = some o := by
  obtain ⟨i, hi, e⟩ := List.getElem_of_mem h
  have h1 : ι[i]? = some a := by rw [List.getElem?_eq_getElem hi, e]
  have h2 : i < M.length := by rw [← m.len]; exact hi
  have q := m.ob i a M[i] h1 (List.getElem?_eq_getElem h2)
  cases z : M[i] with
  | lst xs =>
    rw [z] at q
    obtain ⟨vs, q, _⟩ := q
    exact ⟨_, q⟩
  | dct xs =>
    rw [z] at q
    obtain ⟨vs, q, _⟩ := q
    exact ⟨_, q⟩
  | ins c xs =>
    rw [z] at q
    obtain ⟨C, dx, fvs, _, q, _⟩ := q
    exact ⟨_, q⟩
  | dead =>
    rw [z] at q
    obtain ⟨o, q, _⟩ := q
    exact ⟨o, q⟩
theorem MoR.mono {ι' : List Addr} {H' : Hp} {a : Addr} {mo : MO} (pr : ι <+: ι') (k : Keep H H') (e : H' a = H a) (h : MoR G ι H a mo) : MoR G ι' H' a mo := by
  cases mo with
  | lst xs =>
    obtain ⟨vs, h1, h2⟩ := h
    exact ⟨vs, e.trans h1, h2.mono pr k⟩
  | dct xs =>
    obtain ⟨vs, h1, h2⟩ := h
    exact ⟨vs, e.trans h1, h2.mono pr k⟩
  | ins c xs =>
    obtain ⟨C, dx, fvs, h0, h1, h2⟩ := h
    exact ⟨C, dx, fvs, h0, e.trans h1, h2.mono pr k⟩
  | dead =>
    obtain ⟨o, h, z⟩ := h
    exact ⟨o, e.trans h, z⟩
/-- a new object that is not of the memory -/
theorem Ext.new (m : MemR G ι H M) (hp : H p = none) : Ext G ι H ι M (upd H p o) where
  pre := List.prefix_refl _
  mem := ⟨m.len, m.nd, fun i a mo h1 h2 => by
    obtain ⟨u, hu⟩ := m.at (List.mem_of_getElem? h1)
    exact (m.ob i a mo h1 h2).mono (List.prefix_refl _) (keep_new hp) (upd_ne (ne_of_none hu hp)), fun P hP => (m.tab P hP).to (fun ps h => by rw [upd_ne (ne_of_none h hp)]; exact h) fun c f h => by rw [upd_ne (ne_of_none h hp)]; exact h⟩
  keep := keep_new hp
  frame := fun b u h _ _ => by rw [upd_ne (ne_of_none h hp)]; exact h
  tbl := fun b ps h => ⟨ps, by rw [upd_ne (ne_of_none h hp)]; exact h⟩
  fresh := fun a h n => absurd h n
/-- .. that is -/
theorem Ext.alloc {mo : MO} (m : MemR G ι H M) (hp : H p = none) (h : MoR G (ι ++ [p]) (upd H p o) p mo) : Ext G ι H (ι ++ [p]) (M ++ [mo]) (upd H p o) where
  pre := List.prefix_append _ _
  mem := by
    refine ⟨by rw [List.length_append, List.length_append, m.len]; rfl, ?_, fun i a mo' h1 h2 => ?_, fun P hP => ?_⟩
    · refine List.nodup_append.mpr ⟨m.nd, by simp, fun a ha b hb e => ?_⟩
      obtain ⟨u, hu⟩ := m.at ha
      have hb' : b = p := by simpa using hb
      rw [e, hb', hp] at hu
      cases hu
    · by_cases hi : i < ι.length
      · rw [List.getElem?_append_left hi] at h1
        rw [List.getElem?_append_left (by rw [← m.len]; exact hi)] at h2
        obtain ⟨u, hu⟩ := m.at (List.mem_of_getElem? h1)
        exact (m.ob i a mo' h1 h2).mono (List.prefix_append _ _) (keep_new hp) (upd_ne (ne_of_none hu hp))
      · rw [List.getElem?_append_right (by omega)] at h1
        rw [List.getElem?_append_right (by rw [← m.len]; omega)] at h2
        have z : i - ι.length = 0 := by
          by_cases z : i - ι.length = 0
          · exact z
          · obtain ⟨k, e⟩ : ∃ k, i - ι.length = k + 1 := ⟨i - ι.length - 1, by omega⟩
            rw [e] at h1
            simp at h1
        rw [z] at h1
        rw [← m.len, z] at h2
        have e1 : p = a := by simpa using h1
        have e2 : mo = mo' := by simpa using h2
        rw [← e1, ← e2]
        exact h
    · exact (m.tab P hP).to (fun ps h => by rw [upd_ne (ne_of_none h hp)]; exact h) fun c f h => by rw [upd_ne (ne_of_none h hp)]; exact h
  keep := keep_new hp
  frame := fun b u h _ _ => by rw [upd_ne (ne_of_none h hp)]; exact h
  tbl := fun b ps h => ⟨ps, by rw [upd_ne (ne_of_none h hp)]; exact h⟩
  fresh := fun a h n => by
    rcases List.mem_append.mp h with z | z
    · exact absurd z n
    · have e : a = p := by simpa using z
      rw [e]
      exact hp
/-- may be written -/
def wr : HO → Bool
  | .lst _ => true
  | .dK _ => true
  | .ins _ _ _ => true
  | _ => false
theorem keep_store {w : HO} (ha : H p = some w) (hw : wr w = true) : Keep H (upd H p o) :=
  ⟨fun a ob u h => by
    rw [upd_ne (fun z => by
      rw [z, ha] at h
      cases h
      cases hw)]
    exact h, fun a xs h => by
    rw [upd_ne (fun z => by
      rw [z, ha] at h
      cases h
      cases hw)]
    exact h⟩
theorem Ext.store {i : Nat} {mo : MO} {w : HO} (m : MemR G ι H M) (hi : ι[i]? = some p) (ha : H p = some w) (hw : wr w = true) (h : MoR G ι (upd H p o) p mo) : Ext G ι H ι (M.set i mo) (upd H p o) where
  pre := List.prefix_refl _
  mem := by
    refine ⟨by rw [List.length_set, m.len], m.nd, fun j a mo' h1 h2 => ?_, fun P hP => ?_⟩
    · by_cases hj : i = j
      · subst hj
        rw [hi] at h1
        cases h1
        have hl : i < M.length := by rw [← m.len]; exact (List.getElem?_eq_some_iff.mp hi).1
        rw [List.getElem?_set_self hl] at h2
        cases h2
        exact h
      · rw [List.getElem?_set_ne hj] at h2
        have ne : a ≠ p := fun z => by
          subst z
          obtain ⟨l1, e1⟩ := List.getElem?_eq_some_iff.mp h1
          obtain ⟨l2, e2⟩ := List.getElem?_eq_some_iff.mp hi
          exact hj ((List.getElem_inj m.nd).mp (e2.trans e1.symm))
        exact (m.ob j a mo' h1 h2).mono (List.prefix_refl _) (keep_store ha hw) (upd_ne ne)
    · refine (m.tab P hP).to (fun ps h => ?_) fun c f h => ?_
      · rw [upd_ne (fun z => by
          rw [z, ha] at h
          cases h
          cases hw)]
        exact h
      · rw [upd_ne (fun z => by
          rw [z, ha] at h
          cases h
          cases hw)]
        exact h
  keep := keep_store ha hw
  frame := fun b u h _ n => by
    rw [upd_ne (fun z => n (by rw [z]; exact List.mem_of_getElem? hi))]
    exact h
  tbl := fun b ps h => ⟨ps, by
    rw [upd_ne (fun z => by
      rw [z, ha] at h
      cases h
      cases hw)]
    exact h⟩
  fresh := fun a h n => absurd h n
end

/-! ### operations by values -/
/-- F's result is what r gives -/
def OpS (G : Gx) (E : XK) (r : R2) (F : Dv → Dv → Co Dv) : Prop := ∀ (ι : List Addr) (M : Mem) (H : Hp) (x y : V) (d e : Dv) (Q : VK), MemR G ι H M → RpD G ι H x d → RpD G ι H y e → Post G E ι H (QE G Q) (F d e M) → r x y H Q
def CaS (G : Gx) (E : XK) (r : List V → Hp → VK → Prop) (F : List Dv → Co Dv) : Prop := ∀ (ι : List Addr) (M : Mem) (H : Hp) (xs : List V) (ds : List Dv) (Q : VK), MemR G ι H M → RpDs G ι H xs ds → Post G E ι H (QE G Q) (F ds M) → r xs H Q
def b2 (F : Dv → Dv → Co Dv) (f g : Slots → Co Dv) : Slots → Co Dv := fun ρ => bnd (f ρ) fun x => bnd (g ρ) fun y => F x y
def b1 (F : Dv → Co Dv) (f : Slots → Co Dv) : Slots → Co Dv := fun ρ => bnd (f ρ) F
section
variable {X : Cx} {G : Gx} {E : XK} {e e1 e2 : Expr} {f g : Slots → Co Dv} {pos : Pos}
theorem rd_b2 {r : R2} {F : Dv → Dv → Co Dv} {t : TE} (hF : OpS G E r F) {σ : L2.St} {H : Hp} {Q : VK} (h : rdE G E (b2 F f g) σ H Q) : tOp r (rdE G E f) (rdE G E g) σ H Q := by
  obtain ⟨ι, ρ, M, st, p⟩ := h
  refine ⟨ι, ρ, M, st, (Post.bnd p).mono fun d ι1 M1 H1 x1 p1 v rv => ?_⟩
  refine ⟨ι1, ρ, M1, st.ext x1, (Post.bnd p1).mono fun d2 ι2 M2 H2 x2 p2 w rw => ?_⟩
  exact hF ι2 M2 H2 v w d d2 Q x2.mem (rv.mono x2.pre x2.keep) rw p2
theorem xbin {op : Operator} {r : R2} {F : Dv → Dv → Co Dv} (ho : OpR X (binaryOp op) r) (hF : OpS G E r F) (ha : PE X e1 (rdE G E f)) (hb : PE X e2 (rdE G E g)) : PE X (.BinOp e1 op e2 pos) (rdE G E (b2 F f g)) :=
  peI (pe_op ho ha hb) fun _ _ _ h => rd_b2 (t := rdE G E f) hF h
theorem xcmp {op : CmpOp} {r : R2} {F : Dv → Dv → Co Dv} (ho : OpR X (compareOp op) r) (hF : OpS G E r F) (ha : PE X e1 (rdE G E f)) (hb : PE X e2 (rdE G E g)) (hm : behindInMarks op e2 = false := by first | exact nobehind _ (by decide) (by decide) | rfl) : PE X (.Compare e1 [op] [e2] pos) (rdE G E (b2 F f g)) :=
  peI (pe_cmpR ho ha hb hm) fun _ _ _ h => rd_b2 (t := rdE G E f) hF h
/-- a value that is a bool, as a test -/
def tB : Dv → Co Bool := fun d => match d with
  | .g (.bool b) => rt b
  | _ => fl
def tst (f : Slots → Co Dv) : Slots → Co Bool := fun ρ => bnd (f ρ) tB
theorem rd_tst {σ : L2.St} {H : Hp} {Q : Bool → Hp → Prop} (h : rdT G E (tst f) σ H Q) : rdE G E f σ H (fun x H' => ∃ k, x = V.bl k ∧ Q k H') := by
  obtain ⟨ι, ρ, M, st, p⟩ := h
  refine ⟨ι, ρ, M, st, (Post.bnd p).mono fun d ι1 M1 H1 x1 p1 v rv => ?_⟩
  cases rv with
  | g rv =>
    cases rv with
    | bl b => exact ⟨b, rfl, Post.rt x1.mem p1⟩
    | _ => exact False.elim p1
  | _ => exact False.elim p1
theorem xtcmp {op : CmpOp} {r : R2} {F : Dv → Dv → Co Dv} (ho : OpR X (compareOp op) r) (hF : OpS G E r F) (ha : PE X e1 (rdE G E f)) (hb : PE X e2 (rdE G E g)) (hm : behindInMarks op e2 = false := by first | exact nobehind _ (by decide) (by decide) | rfl) : PT X (.Compare e1 [op] [e2] pos) (rdT G E (tst (b2 F f g))) :=
  ptI (pt_cmpR ho ha hb hm) fun _ _ _ h => by
    have q := rd_tst h
    exact rd_b2 (t := rdE G E f) hF q
/-- a chain a op b op' c -/
def ch (F F' : Dv → Dv → Co Dv) (f g h : Slots → Co Dv) : Slots → Co Dv := fun ρ => bnd (f ρ) fun x => bnd (g ρ) fun y => bnd (F x y) fun z => bnd (tB z) fun b => match b with
  | true => bnd (h ρ) fun w => F' y w
  | false => rt (.g (.bool false))
theorem rd_ch {r r' : R2} {F F' : Dv → Dv → Co Dv} {h3 : Slots → Co Dv} (hF : OpS G E r F) (hF' : OpS G E r' F') {σ : L2.St} {H : Hp} {Q : VK} (h : rdE G E (ch F F' f g h3) σ H Q) : tChain r r' (rdE G E f) (rdE G E g) (rdE G E h3) σ H Q := by
  obtain ⟨ι, ρ, M, st, p⟩ := h
  refine ⟨ι, ρ, M, st, (Post.bnd p).mono fun d ι1 M1 H1 x1 p1 v rv => ?_⟩
  refine ⟨ι1, ρ, M1, st.ext x1, (Post.bnd p1).mono fun d2 ι2 M2 H2 x2 p2 w rw => ?_⟩
  refine hF ι2 M2 H2 v w d d2 _ x2.mem (rv.mono x2.pre x2.keep) rw ((Post.bnd p2).mono fun d3 ι3 M3 H3 x3 p3 z rz => ?_)
  cases rz with
  | g rz =>
    cases rz with
    | bl b =>
      refine ⟨b, rfl, ?_⟩
      have p4 := Post.rt x3.mem (Post.bnd p3)
      cases b with
      | true =>
        refine iteT ?_
        refine ⟨ι3, ρ, M3, ((st.ext x1).ext x2).ext x3, (Post.bnd p4).mono fun d4 ι4 M4 H4 x4 p5 w' rw' => ?_⟩
        exact hF' ι4 M4 H4 w w' d2 d4 Q x4.mem ((rw.mono x3.pre x3.keep).mono x4.pre x4.keep) rw' p5
      | false =>
        refine iteF ?_
        exact Post.rt x3.mem p4 _ (.g (.bl false))
    | _ => exact False.elim (Post.bnd p3)
  | _ => exact False.elim (Post.bnd p3)
theorem xchain {op op' : CmpOp} {r r' : R2} {F F' : Dv → Dv → Co Dv} {e3 : Expr} {h3 : Slots → Co Dv} (ho : OpR X (compareOp op) r) (ho' : OpR X (compareOp op') r') (hF : OpS G E r F) (hF' : OpS G E r' F') (ha : PE X e1 (rdE G E f)) (hb : PE X e2 (rdE G E g)) (hc : PE X e3 (rdE G E h3))
    (hm : lastMarks [op, op'] [e2, e3] = false := by rfl) : PE X (.Compare e1 [op, op'] [e2, e3] pos) (rdE G E (ch F F' f g h3)) :=
  peI (pe_chain ho ho' ha hb hc hm) fun _ _ _ h => rd_ch hF hF' h
theorem xtchain {op op' : CmpOp} {r r' : R2} {F F' : Dv → Dv → Co Dv} {e3 : Expr} {h3 : Slots → Co Dv} (ho : OpR X (compareOp op) r) (ho' : OpR X (compareOp op') r') (hF : OpS G E r F) (hF' : OpS G E r' F') (ha : PE X e1 (rdE G E f)) (hb : PE X e2 (rdE G E g)) (hc : PE X e3 (rdE G E h3))
    (hm : lastMarks [op, op'] [e2, e3] = false := by rfl) : PT X (.Compare e1 [op, op'] [e2, e3] pos) (rdT G E (tst (ch F F' f g h3))) :=
  ptI (pt_chain ho ho' ha hb hc hm) fun _ _ _ h => rd_ch hF hF' (rd_tst h)

/-! ### names, constants -/
def sl (i : Nat) : Slots → Co Dv := fun ρ => match ρ[i]? with
  | none => fl
  | some .u => fl
  | some d => rt d
def kk (x : PyData) : Slots → Co Dv := fun _ => rt (.g x)
theorem rd_sl {i : Nat} {σ : L2.St} {H : Hp} {Q : VK} (h : rdE G E (sl i) σ H Q) : tVar i σ H Q := by
  obtain ⟨ι, ρ, M, st, p⟩ := h
  cases e : ρ[i]? with
  | none =>
    have z : sl i ρ M = .fail := by
      unfold sl
      rw [e]
      rfl
    rw [z] at p
    exact p.elim
  | some d =>
    by_cases hd : d = .u
    · have z : sl i ρ M = .fail := by
        unfold sl
        rw [e, hd]
        rfl
      rw [z] at p
      exact p.elim
    · obtain ⟨v, e1, r⟩ := st.sl i d e hd
      have z : sl i ρ M = .ok d M := by
        unfold sl
        rw [e]
        cases d <;> first | rfl | exact absurd rfl hd
      rw [z] at p
      exact ⟨v, e1, p ι H (.refl st.mem) v r⟩
theorem xv (i : Nat) {x : Str} (hN : X.N[i]? = some x := by rfl) (hv : Vis X.env.scope x := by first | exact Or.inl rfl | exact Or.inr (Or.inl rfl) | exact Or.inr (Or.inr rfl)) (hd : (x == ("__debug__" : Str)) = false := by decide)
    (hcd : (x == ("__classdict__" : Str)) = false := by decide) : PE X (.Name x pos) (rdE G E (sl i)) := peI (pe_var hN hv hd hcd) fun _ _ _ h => rd_sl h
theorem rd_kk {v : V} {x : PyData} (r : ∀ H, RpV G.K H v x) {σ : L2.St} {H : Hp} {Q : VK} (h : rdE G E (kk x) σ H Q) : tC v σ H Q := by
  obtain ⟨ι, ρ, M, st, p⟩ := h
  exact Post.rt st.mem p v (.g (r H))
theorem xint {i j} : PE X (.Constant (.int i) j pos) (rdE G E (kk (.int i))) := peI pe_int fun _ _ _ h => rd_kk (fun _ => .int i) h
theorem xbl {b j} : PE X (.Constant (.bool b) j pos) (rdE G E (kk (.bool b))) := peI pe_bl fun _ _ _ h => rd_kk (fun _ => .bl b) h
theorem xnon {j} : PE X (.Constant .none j pos) (rdE G E (kk .none)) := peI pe_non fun _ _ _ h => rd_kk (fun _ => .non) h
theorem xstr {x j} : PE X (.Constant (.str x) j pos) (rdE G E (kk (.str x))) := peI pe_str fun _ _ _ h => rd_kk (fun _ => .str x) h
theorem xgint {x : Str} {i : Int} (hg : Gl X x) (hm : ∃ t, X.mg x = some (.int i t)) (hd : (x == ("__debug__" : Str)) = false := by decide) : PE X (.Name x pos) (rdE G E (kk (.int i))) := by
  obtain ⟨t, hm⟩ := hm
  exact peI (pe_glob (v := .int i) hg hm ⟨t, rfl⟩ hd) fun _ _ _ h => rd_kk (fun _ => .int i) h

/-! ### if, and, or, not -/
def iff (c : Slots → Co Bool) (f g : Slots → Co Dv) : Slots → Co Dv := fun ρ => bnd (c ρ) fun b => match b with
  | true => f ρ
  | false => g ρ
theorem xif {c : Expr} {cf : Slots → Co Bool} (hc : PT X c (rdT G E cf)) (ha : PE X e1 (rdE G E f)) (hb : PE X e2 (rdE G E g)) : PE X (.IfExp c e1 e2 pos) (rdE G E (iff cf f g)) :=
  peI (pe_ifExp hc ha hb) fun σ H Q h => by
    obtain ⟨ι, ρ, M, st, p⟩ := h
    refine ⟨ι, ρ, M, st, (Post.bnd p).mono fun b ι1 M1 H1 x1 p1 => ?_⟩
    cases b with
    | true => exact iteT ⟨ι1, ρ, M1, st.ext x1, p1⟩
    | false => exact iteF ⟨ι1, ρ, M1, st.ext x1, p1⟩
def tand (f g : Slots → Co Bool) : Slots → Co Bool := fun ρ => bnd (f ρ) fun b => match b with
  | true => g ρ
  | false => rt false
def tor (f g : Slots → Co Bool) : Slots → Co Bool := fun ρ => bnd (f ρ) fun b => match b with
  | true => rt true
  | false => g ρ
def tnt (f : Slots → Co Bool) : Slots → Co Bool := fun ρ => bnd (f ρ) fun b => rt (!b)
theorem xwand {a b : Expr} {rest : List Expr} {f g : Slots → Co Bool} (ha : PT X a (rdT G E f)) (hb : PW X (.BoolOp .And (b :: rest) pos) (rdT G E g)) : PW X (.BoolOp .And (a :: b :: rest) pos) (rdT G E (tand f g)) :=
  pwI (pw_and ha hb) fun σ H Q h => by
    obtain ⟨ι, ρ, M, st, p⟩ := h
    refine ⟨ι, ρ, M, st, (Post.bnd p).mono fun b ι1 M1 H1 x1 p1 => ?_⟩
    cases b with
    | true => exact iteT ⟨ι1, ρ, M1, st.ext x1, p1⟩
    | false => exact iteF (Post.rt x1.mem p1)
theorem xwor {a b : Expr} {rest : List Expr} {f g : Slots → Co Bool} (ha : PT X a (rdT G E f)) (hb : PW X (.BoolOp .Or (b :: rest) pos) (rdT G E g)) : PW X (.BoolOp .Or (a :: b :: rest) pos) (rdT G E (tor f g)) :=
  pwI (pw_or ha hb) fun σ H Q h => by
    obtain ⟨ι, ρ, M, st, p⟩ := h
    refine ⟨ι, ρ, M, st, (Post.bnd p).mono fun b ι1 M1 H1 x1 p1 => ?_⟩
    cases b with
    | true => exact iteT (Post.rt x1.mem p1)
    | false => exact iteF ⟨ι1, ρ, M1, st.ext x1, p1⟩
theorem xwand1 {a : Expr} {f : Slots → Co Bool} (ha : PT X a (rdT G E f)) : PW X (.BoolOp .And [a] pos) (rdT G E f) := pw_and1 ha
theorem xwor1 {a : Expr} {f : Slots → Co Bool} (ha : PT X a (rdT G E f)) : PW X (.BoolOp .Or [a] pos) (rdT G E f) := pw_or1 ha
theorem xtnot {a : Expr} {f : Slots → Co Bool} (ha : PT X a (rdT G E f)) : PT X (.UnaryOp .Not a pos) (rdT G E (tnt f)) :=
  ptI (pt_not ha) fun σ H Q h => by
    obtain ⟨ι, ρ, M, st, p⟩ := h
    refine ⟨ι, ρ, M, st, (Post.bnd p).mono fun b ι1 M1 H1 x1 p1 => ?_⟩
    exact Post.rt x1.mem p1
/-- truth of a value -/
def tru : Dv → Co Bool := fun d => match d with
  | .g .none => rt false
  | .g (.bool b) => rt b
  | .g (.int i) => rt (i != 0)
  | .g (.list xs) => rt (!xs.isEmpty)
  | .g (.tuple xs) => rt (!xs.isEmpty)
  | .r i => atM i fun mo => match mo with
    | .lst xs => rt (!xs.isEmpty)
    | .dct xs => rt (!xs.isEmpty)
    | _ => fl
  | _ => fl
theorem len_empty {α β : Type} {xs : List α} {ys : List β} (h : xs.length = ys.length) : xs.isEmpty = ys.isEmpty := by
  cases xs with
  | nil =>
    cases ys with
    | nil => rfl
    | cons _ _ => cases h
  | cons _ _ =>
    cases ys with
    | nil => cases h
    | cons _ _ => rfl
theorem RpI.length {ι : List Addr} {H : Hp} {vs : List (Key × V)} {ds : List (Int × Dv)} (h : RpI G ι H vs ds) : vs.length = ds.length := by
  induction h with
  | nil => rfl
  | cons _ _ ih => rw [List.length_cons, List.length_cons, ih]
theorem MemR.lstE {ι : List Addr} {H : Hp} {M : Mem} {i : Nat} {a : Addr} {xs : List Dv} (m : MemR G ι H M) (h1 : ι[i]? = some a) (h2 : M[i]? = some (.lst xs)) : ∃ vs, H a = some (.lst vs) ∧ RpDs G ι H vs xs := m.ob i a _ h1 h2
theorem MemR.dctE {ι : List Addr} {H : Hp} {M : Mem} {i : Nat} {a : Addr} {xs : List (Int × Dv)} (m : MemR G ι H M) (h1 : ι[i]? = some a) (h2 : M[i]? = some (.dct xs)) : ∃ vs, H a = some (.dK vs) ∧ RpI G ι H vs xs := m.ob i a _ h1 h2
theorem xtru {a : Expr} (hK : X.K = G.K) (ha : PE X a (rdE G E f)) (he : ∀ whole, isTrue a X.env whole = (do let v ← whole; standAt a.pos; holding [v] (truthy v)) := by intro _; rfl) : PT X a (rdT G E (fun ρ => bnd (f ρ) tru)) :=
  ptI (pt_truth ha he) fun σ H Q h => by
    obtain ⟨ι, ρ, M, st, p⟩ := h
    refine ⟨ι, ρ, M, st, (Post.bnd p).mono fun d ι1 M1 H1 x1 p1 v rv => ?_⟩
    rw [hK]
    cases rv with
    | g rv =>
      cases rv with
      | non => exact ⟨_, rfl, p1 ι1 H1 (.refl x1.mem)⟩
      | bl b => exact ⟨_, rfl, p1 ι1 H1 (.refl x1.mem)⟩
      | int i => exact ⟨_, rfl, p1 ι1 H1 (.refl x1.mem)⟩
      | lst h r =>
        refine ⟨_, .inl ⟨_, h.sq, rfl⟩, ?_⟩
        rw [len_empty r.length]
        exact p1 ι1 H1 (.refl x1.mem)
      | tup h r =>
        refine ⟨_, .inr (.inl ⟨_, .of h, rfl⟩), ?_⟩
        rw [len_empty r.length]
        exact p1 ι1 H1 (.refl x1.mem)
      | _ => exact False.elim p1
    | @r a i hi =>
      obtain ⟨mo, e, p2⟩ := Post.atM p1
      cases mo with
      | lst xs =>
        obtain ⟨vs, h1, h2⟩ := x1.mem.lstE hi e
        refine ⟨_, .inl ⟨_, .of h1, rfl⟩, ?_⟩
        rw [len_empty h2.length]
        exact Post.rt x1.mem p2
      | dct xs =>
        obtain ⟨vs, h1, h2⟩ := x1.mem.dctE hi e
        refine ⟨_, .inr (.inr ⟨_, h1, rfl⟩), ?_⟩
        rw [len_empty h2.length]
        exact Post.rt x1.mem p2
      | _ => exact p2.elim
    | _ => exact False.elim p1
/-- and, or, not of bools, as values -/
def vB (b : Bool) : Dv := .g (.bool b)
theorem xand {a b : Expr} {rest : List Expr} (ha : PE X a (rdE G E f)) (hb : PE X (.BoolOp .And (b :: rest) pos) (rdE G E g)) : PE X (.BoolOp .And (a :: b :: rest) pos) (rdE G E (fun ρ => bnd (tst f ρ) fun c => match c with | true => g ρ | false => rt (vB false))) :=
  peI (pe_and ha hb) fun σ H Q h => by
    obtain ⟨ι, ρ, M, st, p⟩ := h
    refine rd_tst ⟨ι, ρ, M, st, (Post.bnd p).mono fun c ι1 M1 H1 x1 p1 => ?_⟩
    cases c with
    | true => exact iteT ⟨ι1, ρ, M1, st.ext x1, p1⟩
    | false => exact iteF (Post.rt x1.mem p1 _ (.g (.bl false)))
theorem xor_ {a b : Expr} {rest : List Expr} (ha : PE X a (rdE G E f)) (hb : PE X (.BoolOp .Or (b :: rest) pos) (rdE G E g)) : PE X (.BoolOp .Or (a :: b :: rest) pos) (rdE G E (fun ρ => bnd (tst f ρ) fun c => match c with | true => rt (vB true) | false => g ρ)) :=
  peI (pe_or ha hb) fun σ H Q h => by
    obtain ⟨ι, ρ, M, st, p⟩ := h
    refine rd_tst ⟨ι, ρ, M, st, (Post.bnd p).mono fun c ι1 M1 H1 x1 p1 => ?_⟩
    cases c with
    | true => exact iteT (Post.rt x1.mem p1 _ (.g (.bl true)))
    | false => exact iteF ⟨ι1, ρ, M1, st.ext x1, p1⟩
theorem xone {a : Expr} {op : BoolOp} (ha : PE X a (rdE G E f)) : PE X (.BoolOp op [a] pos) (rdE G E f) := pe_one ha
theorem xnot {a : Expr} (ha : PE X a (rdE G E f)) : PE X (.UnaryOp .Not a pos) (rdE G E (fun ρ => bnd (tst f ρ) fun c => rt (vB (!c)))) :=
  peI (pe_not ha) fun σ H Q h => by
    obtain ⟨ι, ρ, M, st, p⟩ := h
    exact rd_tst ⟨ι, ρ, M, st, (Post.bnd p).mono fun c ι1 M1 H1 x1 p1 => Post.rt x1.mem p1 _ (.g (.bl _))⟩

/-! ### argument lists, displays -/
theorem xa0 : PA X [] (rdA G E (fun _ => rt [])) := paI pa_nil fun σ H Q h => by
  obtain ⟨ι, ρ, M, st, p⟩ := h
  exact Post.rt st.mem p [] .nil
def ac (f : Slots → Co Dv) (g : Slots → Co (List Dv)) : Slots → Co (List Dv) := fun ρ => bnd (f ρ) fun x => bnd (g ρ) fun xs => rt (x :: xs)
theorem xa1 {es : List Expr} {gs : Slots → Co (List Dv)} (ha : PE X e (rdE G E f)) (hr : PA X es (rdA G E gs)) (hs : starEach (e :: es) X.env = (false, eval e X.env) :: starEach es X.env := by rfl) : PA X (e :: es) (rdA G E (ac f gs)) :=
  paI (pa_cons ha hr hs) fun σ H Q h => by
    obtain ⟨ι, ρ, M, st, p⟩ := h
    refine ⟨ι, ρ, M, st, (Post.bnd p).mono fun d ι1 M1 H1 x1 p1 v rv => ?_⟩
    refine ⟨ι1, ρ, M1, st.ext x1, (Post.bnd p1).mono fun ds ι2 M2 H2 x2 p2 ws rw => ?_⟩
    exact Post.rt x2.mem p2 _ (.cons (rv.mono x2.pre x2.keep) rw)
def mkT (ds : List Dv) : Dv := match grd ds with
  | some xs => .g (.tuple xs)
  | none => .t ds
theorem mkT_rp {ι : List Addr} {H : Hp} {a : Addr} {vs : List V} {ds : List Dv} (h : H a = some (.tup vs)) (r : RpDs G ι H vs ds) : RpD G ι H (.ref a) (mkT ds) := by
  unfold mkT
  cases e : grd ds with
  | none => exact .t h r
  | some xs => exact .g (.tup h (r.grd e))
def szOk (n : Nat) : Bool := Nat.ble n 16777216
theorem szOk_le {n : Nat} (h : szOk n = true) : n ≤ sizeLine := by
  rw [sizeLine_eq]
  exact Nat.le_of_ble_eq_true h
def chk {α : Type} (b : Bool) (k : Co α) : Co α := match b with
  | true => k
  | false => fl
theorem Post.chk {α : Type} {b : Bool} {k : Co α} {ι : List Addr} {H : Hp} {M : Mem} {Q : α → List Addr → Mem → Hp → Prop} (h : Post G E ι H Q (Xt.chk b k M)) : b = true ∧ Post G E ι H Q (k M) := by
  cases b with
  | true => exact ⟨rfl, h⟩
  | false => exact False.elim h
def tup (f : Slots → Co (List Dv)) : Slots → Co Dv := fun ρ => bnd (f ρ) fun ds => chk (szOk ds.length) (rt (mkT ds))
theorem xtup {es : List Expr} {k} {gs : Slots → Co (List Dv)} (h : PA X es (rdA G E gs)) : PE X (.Tuple es k pos) (rdE G E (tup gs)) :=
  peI (pe_tup h) fun σ H Q h => by
    obtain ⟨ι, ρ, M, st, p⟩ := h
    refine ⟨ι, ρ, M, st, (Post.bnd p).mono fun ds ι1 M1 H1 x1 p1 vs rv => ?_⟩
    obtain ⟨z, p2⟩ := Post.chk p1
    refine ⟨by rw [rv.length]; exact szOk_le z, fun a ha => ?_⟩
    have x2 : Ext G ι1 H1 ι1 M1 (upd H1 a (.tup vs)) := .new x1.mem ha
    exact Post.rt x2.mem (p2.shift x2) _ (mkT_rp upd_same (rv.mono x2.pre x2.keep))
/-- a list display: an object of the memory -/
def newL (ds : List Dv) : Co Dv := fun M => .ok (.r M.length) (M ++ [.lst ds])
def lstR (f : Slots → Co (List Dv)) : Slots → Co Dv := fun ρ => bnd (f ρ) fun ds => chk (szOk ds.length) (newL ds)
theorem get_last {α : Type} (l : List α) (a : α) : (l ++ [a])[l.length]? = some a := by simp
theorem xlstR {es : List Expr} {gs : Slots → Co (List Dv)} (h : PA X es (rdA G E gs)) : PE X (.List es pos) (rdE G E (lstR gs)) :=
  peI (pe_lst h) fun σ H Q h => by
    obtain ⟨ι, ρ, M, st, p⟩ := h
    refine ⟨ι, ρ, M, st, (Post.bnd p).mono fun ds ι1 M1 H1 x1 p1 vs rv => ?_⟩
    obtain ⟨z, p2⟩ := Post.chk p1
    refine ⟨by rw [rv.length]; exact szOk_le z, fun a ha => ?_⟩
    have x2 : Ext G ι1 H1 (ι1 ++ [a]) (M1 ++ [.lst ds]) (upd H1 a (.lst vs)) := .alloc x1.mem ha ⟨vs, upd_same, rv.mono (List.prefix_append _ _) (keep_new ha)⟩
    refine p2 _ _ x2 _ (.r ?_)
    rw [← x1.mem.len]
    exact get_last _ _
/-- .. or data at once: locked -/
def lstG (f : Slots → Co (List Dv)) : Slots → Co Dv := fun ρ => bnd (f ρ) fun ds => chk (szOk ds.length) (bnd (ofO (grd ds)) fun xs => rt (.g (.list xs)))
theorem upd2 {H : Hp} {a : Addr} {o u : HO} : upd (upd H a o) a u = upd H a u := upd_upd
/-- a new list at a free place, then locked -/
theorem lockL {ι : List Addr} {H : Hp} {M : Mem} {vs : List V} {xs : List PyData} {Q : VK} {a : Addr} (m : MemR G ι H M) (ha : H a = none) (r : RpVs G.K H vs xs) (p : Post G E ι H (QE G Q) (rt (.g (.list xs)) M)) :
    Q (.ref a) (upd H a (.lst vs)) ∨ ∃ d u, V.ref a = .ref d ∧ (upd H a (.lst vs)) d = some u ∧ Mut (some u) ∧ ∀ od, Q (.ref a) (upd (upd H a (.lst vs)) d (.frz od u)) := by
  refine .inr ⟨a, .lst vs, rfl, upd_same, trivial, fun od => ?_⟩
  rw [upd2]
  have x2 : Ext G ι H ι M (upd H a (.frz od (.lst vs))) := .new m ha
  exact Post.rt x2.mem (p.shift x2) _ (.g (.lst (.inl ⟨od, upd_same⟩) (r.mono x2.keep)))
theorem xlstG {es : List Expr} {gs : Slots → Co (List Dv)} (h : PA X es (rdA G E gs)) : PE X (.List es pos) (rdE G E (lstG gs)) :=
  peI (pe_frz (pe_lst h)) fun σ H Q h => by
    obtain ⟨ι, ρ, M, st, p⟩ := h
    refine ⟨ι, ρ, M, st, (Post.bnd p).mono fun ds ι1 M1 H1 x1 p1 vs rv => ?_⟩
    obtain ⟨z, p2⟩ := Post.chk p1
    obtain ⟨xs, e, p3⟩ := Post.ofO p2
    exact ⟨by rw [rv.length]; exact szOk_le z, fun a ha => lockL x1.mem ha (rv.grd e) p3⟩
/-- an object of the memory becomes data: it is locked and not of the memory any more -/
def frD : Dv → Co Dv := fun d => match d with
  | .r i => atM i fun mo => match mo with
    | .lst ds => bnd (ofO (grd ds)) fun xs => fun M => .ok (.g (.list xs)) (M.set i .dead)
    | _ => fl
  | d => rt d
theorem xfrz {e : Expr} (h : PE X e (rdE G E f)) : PE X e (rdE G E (b1 frD f)) :=
  peI (pe_frz h) fun σ H Q h => by
    obtain ⟨ι, ρ, M, st, p⟩ := h
    refine ⟨ι, ρ, M, st, (Post.bnd p).mono fun d ι1 M1 H1 x1 p1 v rv => ?_⟩
    cases rv with
    | g rv => exact .inl (p1 ι1 H1 (.refl x1.mem) _ (.g rv))
    | t h r => exact .inl (p1 ι1 H1 (.refl x1.mem) _ (.t h r))
    | @r a i hi =>
      obtain ⟨mo, e, p2⟩ := Post.atM p1
      cases mo with
      | lst ds =>
        obtain ⟨xs, q, p3⟩ := Post.ofO p2
        obtain ⟨vs, h1, h2⟩ := x1.mem.lstE hi e
        refine .inr ⟨a, _, rfl, h1, trivial, fun od => ?_⟩
        have x2 : Ext G ι1 H1 ι1 (M1.set i .dead) (upd H1 a (.frz od (.lst vs))) := .store x1.mem hi h1 rfl ⟨_, upd_same, rfl⟩
        exact p3 _ _ x2 _ (.g (.lst (.inl ⟨od, upd_same⟩) ((h2.grd q).mono x2.keep)))
      | _ => exact p2.elim
end
end Xt
set_option Elab.async false
set_option linter.all false
set_option maxRecDepth 100000
set_option maxHeartbeats 1000000
namespace Xt
open PySem PySem.Spec PyProof.Rows L2

/-! ### looking at a value -/
def asI : Dv → Option Int
  | .g (.int i) => some i
  | _ => none
def asB : Dv → Option Bool
  | .g (.bool b) => some b
  | _ => none
/-- data, off the memory too -/
def asGp (d : Dv) (M : Mem) : Option PyData := match d with
  | .g x => some x
  | .r i => (match M[i]? with
    | some (.lst ds) => (grd ds).map PyData.list
    | _ => none)
  | _ => none
def asG (d : Dv) : Co PyData := fun M => ofO (asGp d M) M
mutual
theorem noDct_of : ∀ d : PyData, d.canLay0 = true → noDct d = true
  | .none, _ => rfl
  | .bool _, _ => rfl
  | .int _, _ => rfl
  | .str _, _ => rfl
  | .list xs, h => noDcts_of xs h
  | .tuple xs, h => noDcts_of xs h
  | .dict _, h => by cases h
theorem noDcts_of : ∀ xs : List PyData, PyData.canLayAll0 xs = true → noDcts xs = true
  | [], _ => rfl
  | x :: xs, h => by
    obtain ⟨h1, h2⟩ := Bool.and_eq_true_iff.mp (show (x.canLay0 && PyData.canLayAll0 xs) = true from h)
    show (noDct x && noDcts xs) = true
    rw [noDct_of x h1, noDcts_of xs h2]
    rfl
end
section
variable {G : Gx} {E : XK} {ι : List Addr} {H : Hp} {M : Mem} {v : V} {d : Dv}
theorem asI_rp {i : Int} (r : RpD G ι H v d) (e : asI d = some i) : v = .int i ∧ d = .g (.int i) := by
  cases r with
  | g r =>
    cases r <;> first
      | (cases e; exact ⟨rfl, rfl⟩)
      | cases e
  | _ => cases e
theorem asB_rp {i : Bool} (r : RpD G ι H v d) (e : asB d = some i) : v = .bl i ∧ d = .g (.bool i) := by
  cases r with
  | g r =>
    cases r <;> first
      | (cases e; exact ⟨rfl, rfl⟩)
      | cases e
  | _ => cases e
/-- a list of the memory -/
theorem asGp_r {i : Nat} {x : PyData} (e : asGp (.r i) M = some x) : ∃ ds xs, M[i]? = some (.lst ds) ∧ grd ds = some xs ∧ x = .list xs := by
  have e2 : (match M[i]? with
    | some (.lst ds) => (grd ds).map PyData.list
    | _ => none) = some x := e
  cases q : M[i]? with
  | none =>
    rw [q] at e2
    cases e2
  | some mo =>
    rw [q] at e2
    cases mo with
    | lst ds =>
      have e3 : (grd ds).map PyData.list = some x := e2
      cases q2 : grd ds with
      | none =>
        rw [q2] at e3
        cases e3
      | some xs =>
        rw [q2] at e3
        exact ⟨ds, xs, rfl, q2, (Option.some.inj e3).symm⟩
    | _ => cases e2
theorem Post.asGe {α : Type} {k : PyData → Co α} {Q : α → List Addr → Mem → Hp → Prop} (p : Post G E ι H Q (Xt.bnd (Xt.asG d) k M)) : ∃ x, asGp d M = some x ∧ Post G E ι H Q (k x M) := by
  have p2 : Post G E ι H Q (Xt.bnd (Xt.ofO (asGp d M)) k M) := p
  exact Post.ofO p2
/-- the library's reading of data -/
theorem Post.asG {α : Type} {k : PyData → Co α} {Q : α → List Addr → Mem → Hp → Prop} (m : MemR G ι H M) (r : RpD G ι H v d) (p : Post G E ι H Q (Xt.bnd (Xt.asG d) k M)) :
    ∃ x, (noDct x = true → Dp G.K H v x) ∧ Post G E ι H Q (k x M) := by
  obtain ⟨x, e, p1⟩ := Post.asGe p
  refine ⟨x, fun z => ?_, p1⟩
  cases r with
  | g r =>
    cases e
    exact r.dp z
  | @r a i hi =>
    obtain ⟨ds, xs, e1, e2, rfl⟩ := asGp_r e
    obtain ⟨vs, h1, h2⟩ := m.lstE hi e1
    exact .lst (.of h1) ((h2.grd e2).dp z)
  | t _ _ => cases e

/-! ### numbers -/
def i2 (f : Int → Int → Dv) : Dv → Dv → Co Dv := fun d e => bnd (ofO (asI d)) fun i => bnd (ofO (asI e)) fun j => rt (f i j)
def i2c (c : Int → Int → Bool) (f : Int → Int → Dv) : Dv → Dv → Co Dv := fun d e => bnd (ofO (asI d)) fun i => bnd (ofO (asI e)) fun j => chk (c i j) (rt (f i j))
theorem os_i2 {f : Int → Int → V} {f' : Int → Int → Dv} (h : ∀ ι H i j, RpD G ι H (f i j) (f' i j)) : OpS G E (rI0 f) (i2 f') := fun ι M H x y d e Q m rx ry p => by
  obtain ⟨i, e1, p⟩ := Post.ofO p
  obtain ⟨j, e2, p⟩ := Post.ofO p
  exact ⟨i, j, (asI_rp rx e1).1, (asI_rp ry e2).1, Post.rt m p _ (h _ _ _ _)⟩
theorem os_i2c {C : Int → Int → Prop} {c : Int → Int → Bool} {f : Int → Int → V} {f' : Int → Int → Dv} (hc : ∀ i j, c i j = true → C i j) (h : ∀ ι H i j, c i j = true → RpD G ι H (f i j) (f' i j)) : OpS G E (rI C f) (i2c c f') := fun ι M H x y d e Q m rx ry p => by
  obtain ⟨i, e1, p⟩ := Post.ofO p
  obtain ⟨j, e2, p⟩ := Post.ofO p
  obtain ⟨c1, p⟩ := Post.chk p
  exact ⟨i, j, (asI_rp rx e1).1, (asI_rp ry e2).1, hc i j c1, Post.rt m p _ (h _ _ _ _ c1)⟩
def dI (i : Int) : Dv := .g (.int i)
theorem rpI {ι : List Addr} {H : Hp} {i : Int} : RpD G ι H (.int i) (dI i) := .g (.int i)
theorem rpB {ι : List Addr} {H : Hp} {b : Bool} : RpD G ι H (.bl b) (vB b) := .g (.bl b)
abbrev subD : Dv → Dv → Co Dv := i2 fun i j => dI (i - j)
theorem os_sub : OpS G E (rI0 fun i j => .int (i - j)) subD := os_i2 fun _ _ _ _ => rpI
/-- below 2 ^ 4096 -/
def small (i : Int) : Bool := Nat.blt i.natAbs (2 ^ 4096)
theorem small_lt {i : Int} (h : small i = true) : i.natAbs < 2 ^ 4096 := Nat.le_of_ble_eq_true h
def mulOk (i j : Int) : Bool := small i && small j
theorem mulOk_x {i j : Int} (h : mulOk i j = true) : CMulX i j := by
  obtain ⟨h1, h2⟩ := Bool.and_eq_true_iff.mp h
  exact mulx_ok (small_lt h1) (small_lt h2) (by decide)
def divOk (_ j : Int) : Bool := decide (0 < j) && small j
theorem divOk_w {i j : Int} (h : divOk i j = true) : CDivW i j := by
  obtain ⟨h1, h2⟩ := Bool.and_eq_true_iff.mp h
  have h3 := of_decide_eq_true h1
  refine ⟨h3, ?_⟩
  have h4 := small_lt h2
  have h5 : j.natAbs ≠ 0 := by omega
  have := (Nat.log2_lt h5).mpr h4
  omega
abbrev fdivD : Dv → Dv → Co Dv := i2c divOk fun i j => dI (i / j)
theorem os_fdiv : OpS G E (rI CDivW fun i j => .int (i / j)) fdivD := os_i2c (fun _ _ h => divOk_w h) fun _ _ _ _ _ => rpI
abbrev modD : Dv → Dv → Co Dv := i2c (fun _ j => decide (0 < j)) fun i j => dI (i % j)
theorem os_mod : OpS G E (rI (fun _ j => 0 < j) fun i j => .int (i % j)) modD := os_i2c (fun _ _ h => of_decide_eq_true h) fun _ _ _ _ _ => rpI
def powOk (i j : Int) : Bool := decide (0 ≤ j) && (decide (j ≤ 1000000) && Nat.blt i.natAbs (2 ^ 64))
theorem powOk_c {i j : Int} (h : powOk i j = true) : CPow i j := by
  obtain ⟨h1, h2⟩ := Bool.and_eq_true_iff.mp h
  obtain ⟨h3, h4⟩ := Bool.and_eq_true_iff.mp h2
  exact ⟨of_decide_eq_true h1, of_decide_eq_true h3, Nat.le_of_ble_eq_true h4⟩
abbrev powD : Dv → Dv → Co Dv := i2c powOk fun i j => dI (i ^ j.toNat)
theorem os_pow : OpS G E (rI CPow fun i j => .int (i ^ j.toNat)) powD := os_i2c (fun _ _ h => powOk_c h) fun _ _ _ _ _ => rpI
abbrev shlD : Dv → Dv → Co Dv := i2c powOk fun i j => dI (i * 2 ^ j.toNat)
theorem os_shl : OpS G E (rI CPow fun i j => .int (i * 2 ^ j.toNat)) shlD := os_i2c (fun _ _ h => powOk_c h) fun _ _ _ _ _ => rpI
abbrev ltD : Dv → Dv → Co Dv := i2 fun i j => vB (decide (i < j))
abbrev leD : Dv → Dv → Co Dv := i2 fun i j => vB (decide (i ≤ j))
abbrev gtD : Dv → Dv → Co Dv := i2 fun i j => vB (decide (j < i))
abbrev geD : Dv → Dv → Co Dv := i2 fun i j => vB (decide (j ≤ i))
theorem os_lt : OpS G E (rI0 fun i j => .bl (decide (i < j))) ltD := os_i2 fun _ _ _ _ => rpB
theorem os_le : OpS G E (rI0 fun i j => .bl (decide (i ≤ j))) leD := os_i2 fun _ _ _ _ => rpB
theorem os_gt : OpS G E (rI0 fun i j => .bl (decide (j < i))) gtD := os_i2 fun _ _ _ _ => rpB
theorem os_ge : OpS G E (rI0 fun i j => .bl (decide (j ≤ i))) geD := os_i2 fun _ _ _ _ => rpB

/-! ### == of data -/
def eqOk (x y : PyData) : Bool := PyData.canLay0 x && (PyData.canLay0 y && Nat.ble (min x.depth y.depth) 200)
def eqD (neg : Bool) : Dv → Dv → Co Dv := fun d e => bnd (asG d) fun x => bnd (asG e) fun y => chk (eqOk x y) (rt (vB (if neg then !PyData.eqv x y else PyData.eqv x y)))
def rEqX (K : PySem.W.Frag) (A : Around) (neg : Bool) : R2 := fun x y H Q => ∃ d e, Dp K H x d ∧ Dp K H y e ∧ d.canLay0 = true ∧ e.canLay0 = true ∧ A.units + min d.depth e.depth < cLine ∧ Q (.bl (if neg then !PyData.eqv d e else PyData.eqv d e)) H
theorem op_eqX {X : Cx} : OpR X (compareOp .Eq) (rEqX X.K X.A false) := by
  intro pins s σ H x y v u Q I rx ry h
  obtain ⟨d, e, hd, he, sd, se, hr, q⟩ := h
  obtain ⟨as, r1⟩ := Dp.reads I d x v hd rx
  obtain ⟨bs, r2⟩ := Dp.reads I e y u he ry
  exact SeqAt.compareEq_reads r1 r2 sd se hr ⟨.bl _, H, I, rfl, q⟩
theorem op_neX {X : Cx} : OpR X (compareOp .NotEq) (rEqX X.K X.A true) := by
  intro pins s σ H x y v u Q I rx ry h
  obtain ⟨d, e, hd, he, sd, se, hr, q⟩ := h
  obtain ⟨as, r1⟩ := Dp.reads I d x v hd rx
  obtain ⟨bs, r2⟩ := Dp.reads I e y u he ry
  exact SeqAt.compareNe_reads r1 r2 sd se hr ⟨.bl _, H, I, rfl, q⟩
theorem os_eq {A : Around} {neg : Bool} (hu : A.units + 200 < cLine) : OpS G E (rEqX G.K A neg) (eqD neg) := fun ι M H x y d e Q m rx ry p => by
  obtain ⟨a, h1, p⟩ := Post.asG m rx p
  obtain ⟨b, h2, p⟩ := Post.asG m ry p
  obtain ⟨c, p⟩ := Post.chk p
  obtain ⟨c1, c2⟩ := Bool.and_eq_true_iff.mp c
  obtain ⟨c3, c4⟩ := Bool.and_eq_true_iff.mp c2
  exact ⟨a, b, h1 (noDct_of _ c1), h2 (noDct_of _ c3), c1, c3, by
    have := Nat.le_of_ble_eq_true c4
    omega, Post.rt m p _ rpB⟩

/-! ### is None -/
def isN (neg : Bool) : Dv → Co Dv := fun d => match d with
  | .g .none => rt (vB (!neg))
  | .g _ => rt (vB neg)
  | .r _ => rt (vB neg)
  | .t _ => rt (vB neg)
  | .u => fl
theorem isN_rp {neg : Bool} {Q : VK} (m : MemR G ι H M) (r : RpD G ι H v d) (p : Post G E ι H (QE G Q) (isN neg d M)) : Q (.bl (if neg then !decide (v = .non) else decide (v = .non))) H := by
  cases neg <;> cases r with
  | g r => cases r <;> exact Post.rt m p _ rpB
  | _ => exact Post.rt m p _ rpB
end
section
variable {X : Cx} {G : Gx} {E : XK} {e e1 e2 : Expr} {f g : Slots → Co Dv} {pos : Pos}
theorem xisN {j pos'} (ha : PE X e (rdE G E f)) : PE X (.Compare e [.Is] [.Constant .none j pos'] pos) (rdE G E (b1 (isN false) f)) :=
  peI (pe_cmp (pc_isN ha)) fun σ H Q h => by
    obtain ⟨ι, ρ, M, st, p⟩ := h
    exact ⟨ι, ρ, M, st, (Post.bnd p).mono fun d ι1 M1 H1 x1 p1 v rv => isN_rp (neg := false) x1.mem rv p1⟩
theorem xnotN {j pos'} (ha : PE X e (rdE G E f)) : PE X (.Compare e [.IsNot] [.Constant .none j pos'] pos) (rdE G E (b1 (isN true) f)) :=
  peI (pe_cmp (pc_notN ha)) fun σ H Q h => by
    obtain ⟨ι, ρ, M, st, p⟩ := h
    exact ⟨ι, ρ, M, st, (Post.bnd p).mono fun d ι1 M1 H1 x1 p1 v rv => isN_rp (neg := true) x1.mem rv p1⟩
theorem xtisN {j pos'} (ha : PE X e (rdE G E f)) : PT X (.Compare e [.Is] [.Constant .none j pos'] pos) (rdT G E (tst (b1 (isN false) f))) :=
  ptI (pt_cmp (pc_isN ha)) fun σ H Q h => by
    obtain ⟨ι, ρ, M, st, p⟩ := rd_tst h
    exact ⟨ι, ρ, M, st, (Post.bnd p).mono fun d ι1 M1 H1 x1 p1 v rv => isN_rp (Q := fun x H' => ∃ k, x = V.bl k ∧ Q k H') (neg := false) x1.mem rv p1⟩
theorem xtnotN {j pos'} (ha : PE X e (rdE G E f)) : PT X (.Compare e [.IsNot] [.Constant .none j pos'] pos) (rdT G E (tst (b1 (isN true) f))) :=
  ptI (pt_cmp (pc_notN ha)) fun σ H Q h => by
    obtain ⟨ι, ρ, M, st, p⟩ := rd_tst h
    exact ⟨ι, ρ, M, st, (Post.bnd p).mono fun d ι1 M1 H1 x1 p1 v rv => isN_rp (Q := fun x H' => ∃ k, x = V.bl k ∧ Q k H') (neg := true) x1.mem rv p1⟩

/-! ### +, where lists may come: the new one is locked -/
abbrev VF (Q : VK) : VK := fun v H1 => Q v H1 ∨ ∃ d u, v = .ref d ∧ H1 d = some u ∧ Mut (some u) ∧ ∀ od, Q v (upd H1 d (.frz od u))
def OpF (G : Gx) (E : XK) (r : R2) (F : Dv → Dv → Co Dv) : Prop := ∀ (ι : List Addr) (M : Mem) (H : Hp) (x y : V) (d e : Dv) (Q : VK), MemR G ι H M → RpD G ι H x d → RpD G ι H y e → Post G E ι H (QE G Q) (F d e M) → r x y H (VF Q)
theorem xbinF {op : Operator} {r : R2} {F : Dv → Dv → Co Dv} (ho : OpR X (binaryOp op) r) (hF : OpF G E r F) (ha : PE X e1 (rdE G E f)) (hb : PE X e2 (rdE G E g)) : PE X (.BinOp e1 op e2 pos) (rdE G E (b2 F f g)) :=
  peI (pe_frz (pe_op ho ha hb)) fun σ H Q h => by
    obtain ⟨ι, ρ, M, st, p⟩ := h
    refine ⟨ι, ρ, M, st, (Post.bnd p).mono fun d ι1 M1 H1 x1 p1 v rv => ?_⟩
    refine ⟨ι1, ρ, M1, st.ext x1, (Post.bnd p1).mono fun d2 ι2 M2 H2 x2 p2 w rw => ?_⟩
    exact hF ι2 M2 H2 v w d d2 Q x2.mem (rv.mono x2.pre x2.keep) rw p2
/-- list + list, any two that are read -/
def rCatF (K : PySem.W.Frag) : R2 := fun x y H Q => ∃ l b xs zs, x = .ref l ∧ y = .ref b ∧ SqL K H l xs ∧ SqL K H b zs ∧ xs.length + zs.length ≤ sizeLine ∧ ∀ p, H p = none → Q (.ref p) (upd H p (.lst (xs ++ zs)))
theorem op_catF : OpR X (binaryOp .Add) (rCatF X.K) := by
  intro pins s σ H x y v u Q I rx ry h
  obtain ⟨l, b, xs, zs, rfl, rfl, h1, h2, hz, q⟩ := h
  cases rx
  cases ry
  obtain ⟨its, rv, ⟨⟨c1, dd1, dt1, sl1⟩, n1, ho1, hc1, hd1, hs1⟩, z1⟩ := I.list h1
  obtain ⟨jts, rw, ⟨⟨c2, dd2, dt2, sl2⟩, n2, ho2, hc2, hd2, hs2⟩, z2⟩ := I.list h2
  simp only at hc1 hd1 hs1 hc2 hd2 hs2
  subst hc1 hd1 hs1 hc2 hd2 hs2
  have e1 := rv.length
  have e2 := rw.length
  have e : its.toArray ++ jts.toArray = (its ++ jts).toArray := by simp
  refine concat_meets ⟨_, ho1, rfl⟩ ⟨_, ho2, rfl⟩ noFill_list_add seq_list_add PySem.F.slot_list_add PySem.F.entry_list_add (PySem.F.args_list_add_2 _ _)
    (list_addW l b its.toArray jts.toArray n1 n2 none none sl1 sl2 (by rw [List.size_toArray, List.size_toArray]; omega)) ⟨ho1, ho2, ?_⟩
  rw [e]
  refine ⟨.ref s.heap.objs.size, _, I.laid (t' := s.toks) (o := .lst (xs ++ zs)) (fun b ob q => Heap.get?_push_of_some _ q) (Nat.le_refl _) ?_, rfl, q _ (I.hok.fresh (Nat.le_refl _))⟩
  exact ⟨by rw [List.length_append]; exact hz, _, 0, rv.append rw, Heap.get?_push_size _ rfl⟩
def addD : Dv → Dv → Co Dv := fun d e => match d with
  | .g (.int i) => bnd (ofO (asI e)) fun j => rt (dI (i + j))
  | .g (.tuple xs) => (match e with
    | .g (.tuple ys) => chk (szOk (xs.length + ys.length)) (rt (.g (.tuple (xs ++ ys))))
    | _ => fl)
  | d => bnd (asG d) fun x => bnd (asG e) fun y => match x, y with
    | .list xs, .list ys => chk (szOk (xs.length + ys.length)) (rt (.g (.list (xs ++ ys))))
    | _, _ => fl
def rAdd (K : PySem.W.Frag) : R2 := fun x y H Q => (rI0 fun i j => .int (i + j)) x y H Q ∨ (rCatA K x y H Q ∨ rCatF K x y H Q)
theorem op_addX : OpR X (binaryOp .Add) (rAdd X.K) := OpR.or op_add (OpR.or op_catA op_catF)
end
section
variable {G : Gx} {E : XK} {ι : List Addr} {H : Hp} {M : Mem} {v : V} {d : Dv}
theorem RpVs.append {K : PySem.W.Frag} : ∀ {vs ws : List V} {ds es : List PyData}, RpVs K H vs ds → RpVs K H ws es → RpVs K H (vs ++ ws) (ds ++ es)
  | _, _, _, _, .nil, h => h
  | _, _, _, _, .cons h r, z => .cons h (RpVs.append r z)
/-- a list's data -/
theorem asG_lst {xs : List PyData} (m : MemR G ι H M) (r : RpD G ι H v d) (e : asGp d M = some (.list xs)) : ∃ a vs, v = .ref a ∧ SqL G.K H a vs ∧ RpVs G.K H vs xs := by
  cases r with
  | g r =>
    cases e
    cases r with
    | lst h r => exact ⟨_, _, rfl, h.sq, r⟩
  | @r a i hi =>
    obtain ⟨ds, ys, e1, e2, e3⟩ := asGp_r e
    cases e3
    obtain ⟨vs, h1, h2⟩ := m.lstE hi e1
    exact ⟨_, _, rfl, .of h1, h2.grd e2⟩
  | t _ _ => cases e
/-- a list just made, to be locked -/
theorem lockF {vs : List V} {xs : List PyData} {Q : VK} (m : MemR G ι H M) (r : RpVs G.K H vs xs) (p : Post G E ι H (QE G Q) (rt (.g (.list xs)) M)) : ∀ a, H a = none → VF Q (.ref a) (upd H a (.lst vs)) := fun a ha => lockL m ha r p
theorem of_catF {xs ys : List PyData} {x y : V} {d e : Dv} {Q : VK} (m : MemR G ι H M) (rx : RpD G ι H x d) (ry : RpD G ι H y e) (e1 : asGp d M = some (.list xs)) (e2 : asGp e M = some (.list ys))
    (p : Post G E ι H (QE G Q) (chk (szOk (xs.length + ys.length)) (rt (.g (.list (xs ++ ys)))) M)) : rCatF G.K x y H (VF Q) := by
  obtain ⟨a, vs, rfl, h1, r1⟩ := asG_lst m rx e1
  obtain ⟨b, ws, rfl, h2, r2⟩ := asG_lst m ry e2
  obtain ⟨c, p⟩ := Post.chk p
  exact ⟨a, b, vs, ws, rfl, rfl, h1, h2, by rw [r1.length, r2.length]; exact szOk_le c, lockF m (r1.append r2) p⟩
theorem of_add : OpF G E (rAdd G.K) addD := fun ι M H x y d e Q m rx ry p => by
  have gen : ∀ {d}, RpD G ι H x d → Post G E ι H (QE G Q) ((bnd (asG d) fun x => bnd (asG e) fun y => match x, y with
    | .list xs, .list ys => chk (szOk (xs.length + ys.length)) (rt (.g (.list (xs ++ ys))))
    | _, _ => fl) M) → rAdd G.K x y H (VF Q) := fun {d} rx p => by
    obtain ⟨a, e1, p⟩ := Post.asGe p
    obtain ⟨b, e2, p⟩ := Post.asGe p
    cases a with
    | list xs =>
      cases b with
      | list ys => exact .inr (.inr (of_catF m rx ry e1 e2 p))
      | _ => exact p.elim
    | _ => exact p.elim
  cases rx with
  | g rx =>
    cases rx with
    | int i =>
      obtain ⟨j, e2, p⟩ := Post.ofO p
      exact .inl ⟨i, j, rfl, (asI_rp ry e2).1, .inl (Post.rt m p _ rpI)⟩
    | @tup a vs xs h1 r1 =>
      cases ry with
      | g ry =>
        cases ry with
        | @tup b ws ys h2 r2 =>
          obtain ⟨c, p⟩ := Post.chk p
          refine .inr (.inl ⟨a, b, vs, ws, rfl, rfl, .of h1, .of h2, by rw [r1.length, r2.length]; exact szOk_le c, fun z => ?_, fun _ z => ?_, fun _ _ q hq => ?_⟩)
          · have e1 : xs = [] := by
              cases xs with
              | nil => rfl
              | cons _ _ =>
                rw [z] at r1
                cases r1
            rw [e1, List.nil_append] at p
            exact .inl (Post.rt m p _ (.g (.tup h2 r2)))
          · have e1 : ys = [] := by
              cases ys with
              | nil => rfl
              | cons _ _ =>
                rw [z] at r2
                cases r2
            rw [e1, List.append_nil] at p
            exact .inl (Post.rt m p _ (.g (.tup h1 r1)))
          · have x2 : Ext G ι H ι M (upd H q (.tup (vs ++ ws))) := .new m hq
            exact .inl (Post.rt x2.mem (p.shift x2) _ (.g (.tup upd_same ((r1.append r2).mono x2.keep))))
        | _ => exact p.elim
      | _ => exact p.elim
    | lst h1 r1 => exact gen (.g (.lst h1 r1)) p
    | _ =>
      obtain ⟨b, e2, p⟩ := Post.asGe p
      exact p.elim
  | r hi => exact gen (.r hi) p
  | t h r => exact p.elim

/-! ### * -/
def mulD : Dv → Dv → Co Dv := fun d e => match d with
  | .g (.tuple xs) => bnd (ofO (asI e)) fun k => chk (!xs.isEmpty && (decide (2 ≤ k) && (decide (k ≤ 1000) && Nat.ble xs.length 1000))) (rt (.g (.tuple (List.replicate k.toNat xs).flatten)))
  | d => i2c mulOk (fun i j => dI (i * j)) d e
def rMul (K : PySem.W.Frag) : R2 := fun x y H Q => (rI CMulX fun i j => .int (i * j)) x y H Q ∨ rRepT K x y H Q
theorem RpVs.rep {K : PySem.W.Frag} {vs : List V} {ds : List PyData} (r : RpVs K H vs ds) : ∀ k : Nat, RpVs K H (List.replicate k vs).flatten (List.replicate k ds).flatten
  | 0 => .nil
  | k + 1 => by
    rw [List.replicate_succ, List.replicate_succ, List.flatten_cons, List.flatten_cons]
    exact r.append (RpVs.rep r k)
theorem os_mul : OpS G E (rMul G.K) mulD := fun ι M H x y d e Q m rx ry p => by
  have gen : ∀ {d}, RpD G ι H x d → Post G E ι H (QE G Q) (i2c mulOk (fun i j => dI (i * j)) d e M) → rMul G.K x y H Q := fun {d} rx p =>
    .inl (os_i2c (E := E) (fun _ _ h => mulOk_x h) (fun _ _ _ _ _ => rpI) ι M H x y d e Q m rx ry p)
  cases rx with
  | g rx =>
    cases rx with
    | @tup a vs xs h1 r1 =>
      obtain ⟨k, e2, p⟩ := Post.ofO p
      obtain ⟨c, p⟩ := Post.chk p
      obtain ⟨c1, c⟩ := Bool.and_eq_true_iff.mp c
      obtain ⟨c2, c⟩ := Bool.and_eq_true_iff.mp c
      obtain ⟨c3, c4⟩ := Bool.and_eq_true_iff.mp c
      have hl := r1.length
      refine .inr ⟨a, k, vs, rfl, (asI_rp ry e2).1, .of h1, fun z => ?_, of_decide_eq_true c2, of_decide_eq_true c3, by rw [hl]; exact Nat.le_of_ble_eq_true c4, fun q hq => ?_⟩
      · rw [z] at hl
        cases xs with
        | nil => cases c1
        | cons _ _ => cases hl
      · have x2 : Ext G ι H ι M (upd H q (.tup (List.replicate k.toNat vs).flatten)) := .new m hq
        exact Post.rt x2.mem (p.shift x2) _ (.g (.tup upd_same ((r1.rep k.toNat).mono x2.keep)))
    | int i => exact gen (.g (.int i)) p
    | _ => exact p.elim
  | _ => exact p.elim
end
section
variable {X : Cx}
theorem op_mulY : OpR X (binaryOp .Mult) (rMul X.K) := OpR.or op_mulX op_repT
end
end Xt
set_option Elab.async false
set_option linter.all false
set_option maxRecDepth 100000
set_option maxHeartbeats 1000000
namespace Xt
open PySem PySem.Spec PyProof.Rows L2

section
variable {G : Gx} {E : XK} {ι : List Addr} {H : Hp} {M : Mem} {v : V} {d : Dv}
/-! ### places -/
theorem atI_len {α β : Type} {xs : List α} {ys : List β} {i : Int} {y : β} (hl : xs.length = ys.length) (h : atI ys i = some y) : ∃ j, ixN ys.length i = some j ∧ ys[j]? = some y ∧ ∃ x, xs[j]? = some x ∧ atI xs i = some x := by
  unfold atI at h
  cases e : ixN ys.length i with
  | none =>
    rw [e] at h
    cases h
  | some j =>
    rw [e] at h
    have h2 : ys[j]? = some y := h
    have hj : j < xs.length := by
      rw [hl]
      exact (List.getElem?_eq_some_iff.mp h2).1
    refine ⟨j, rfl, h2, xs[j], List.getElem?_eq_getElem hj, ?_⟩
    unfold atI
    rw [hl, e]
    exact List.getElem?_eq_getElem hj
theorem RpVs.get {K : PySem.W.Frag} : ∀ {vs : List V} {ds : List PyData} {i : Nat} {d : PyData} {v : V}, RpVs K H vs ds → ds[i]? = some d → vs[i]? = some v → RpV K H v d
  | _, _, _, _, _, .nil, h, _ => by simp at h
  | _, _, 0, _, _, .cons h _, e, e2 => by
    simp at e e2
    subst e e2
    exact h
  | _, _, i + 1, _, _, .cons _ r, e, e2 => RpVs.get (i := i) r (by simpa using e) (by simpa using e2)
theorem RpVs.at {K : PySem.W.Frag} {vs : List V} {ds : List PyData} {i : Int} {d : PyData} (r : RpVs K H vs ds) (h : atI ds i = some d) : ∃ v, atI vs i = some v ∧ RpV K H v d := by
  obtain ⟨j, _, h1, x, h2, h3⟩ := atI_len r.length h
  exact ⟨x, h3, r.get h1 h2⟩
theorem RpDs.at {vs : List V} {ds : List Dv} {i : Int} {d : Dv} (r : RpDs G ι H vs ds) (h : atI ds i = some d) : ∃ v, atI vs i = some v ∧ RpD G ι H v d := by
  obtain ⟨j, _, h1, x, h2, h3⟩ := atI_len r.length h
  obtain ⟨w, h4, h5⟩ := r.get h1
  rw [h4] at h2
  cases h2
  exact ⟨_, h3, h5⟩
/-- o[i] -/
def ixD : Dv → Dv → Co Dv := fun d e => bnd (ofO (asI e)) fun i => match d with
  | .g (.list xs) => bnd (ofO (atI xs i)) fun x => rt (.g x)
  | .g (.tuple xs) => bnd (ofO (atI xs i)) fun x => rt (.g x)
  | .t xs => ofO (atI xs i)
  | .r k => atM k fun mo => match mo with
    | .lst xs => ofO (atI xs i)
    | _ => fl
  | _ => fl
def rIxX (K : PySem.W.Frag) : R2 := fun x y H Q => rIxL K x y H Q ∨ rIxT K x y H Q
theorem post_ofO {α : Type} {o : Option α} {Q : α → List Addr → Mem → Hp → Prop} (m : MemR G ι H M) (p : Post G E ι H Q (ofO o M)) : ∃ a, o = some a ∧ Q a ι M H := by
  cases o with
  | none => exact p.elim
  | some a => exact ⟨a, rfl, Post.rt m p⟩
theorem os_ix : OpS G E (rIxX G.K) ixD := fun ι M H x y d e Q m rx ry p => by
  obtain ⟨i, e2, p⟩ := Post.ofO p
  have hy := (asI_rp ry e2).1
  cases rx with
  | g rx =>
    cases rx with
    | lst h r =>
      obtain ⟨z, e3, p⟩ := Post.ofO p
      obtain ⟨w, h1, h2⟩ := r.at e3
      exact .inl ⟨_, _, i, w, rfl, hy, h.sq, h1, Post.rt m p _ (.g h2)⟩
    | tup h r =>
      obtain ⟨z, e3, p⟩ := Post.ofO p
      obtain ⟨w, h1, h2⟩ := r.at e3
      exact .inr ⟨_, _, i, w, rfl, hy, .of h, h1, Post.rt m p _ (.g h2)⟩
    | _ => exact p.elim
  | @r a k hk =>
    obtain ⟨mo, q, p⟩ := Post.atM p
    cases mo with
    | lst xs =>
      obtain ⟨z, e3, p⟩ := post_ofO m p
      obtain ⟨vs, h1, h2⟩ := m.lstE hk q
      obtain ⟨w, h3, h4⟩ := h2.at e3
      exact .inl ⟨_, _, i, w, rfl, hy, .of h1, h3, p _ h4⟩
    | _ => exact p.elim
  | t h r =>
    obtain ⟨z, e3, p⟩ := post_ofO m p
    obtain ⟨w, h3, h4⟩ := r.at e3
    exact .inr ⟨_, _, i, w, rfl, hy, .of h, h3, p _ h4⟩
/-! ### len -/
def lenD : List Dv → Co Dv := fun ds => match ds with
  | [.g (.list xs)] => rt (dI xs.length)
  | [.g (.tuple xs)] => rt (dI xs.length)
  | [.t xs] => rt (dI xs.length)
  | [.r k] => atM k fun mo => match mo with
    | .lst xs => rt (dI xs.length)
    | .dct xs => rt (dI xs.length)
    | _ => fl
  | _ => fl
def rLenX (K : PySem.W.Frag) : List V → Hp → VK → Prop := fun xs H Q => (∃ p ys, xs = [.ref p] ∧ (SqL K H p ys ∨ SqT K H p ys) ∧ Q (.int ys.length) H) ∨ ∃ a kvs, xs = [V.ref a] ∧ H a = some (.dK kvs) ∧ Q (.int kvs.length) H
theorem cs_len : CaS G E (rLenX G.K) lenD := fun ι M H xs ds Q m r p => by
  cases r with
  | nil => exact p.elim
  | cons r t =>
    cases t with
    | cons _ _ => cases r with
      | g r => cases r <;> exact p.elim
      | _ => exact p.elim
    | nil =>
      cases r with
      | g r =>
        cases r with
        | lst h r => exact .inl ⟨_, _, rfl, .inl h.sq, Post.rt m p _ (by rw [r.length]; exact rpI)⟩
        | tup h r => exact .inl ⟨_, _, rfl, .inr (.of h), Post.rt m p _ (by rw [r.length]; exact rpI)⟩
        | _ => exact p.elim
      | @r a k hk =>
        obtain ⟨mo, q, p⟩ := Post.atM p
        cases mo with
        | lst xs =>
          obtain ⟨vs, h1, h2⟩ := m.lstE hk q
          exact .inl ⟨_, _, rfl, .inl (.of h1), Post.rt m p _ (by rw [h2.length]; exact rpI)⟩
        | dct xs =>
          obtain ⟨vs, h1, h2⟩ := m.dctE hk q
          exact .inr ⟨_, _, rfl, h1, Post.rt m p _ (by rw [h2.length]; exact rpI)⟩
        | _ => exact p.elim
      | t h r => exact .inl ⟨_, _, rfl, .inr (.of h), Post.rt m p _ (by rw [r.length]; exact rpI)⟩
end
section
variable {X : Cx} {G : Gx} {E : XK} {e e1 e2 : Expr} {es : List Expr} {f g : Slots → Co Dv} {pos : Pos}
theorem ix_X : IxR X (rIxX X.K) := ix_list.or ix_tup
theorem xix (hK : X.K = G.K) (ha : PE X e1 (rdE G E f)) (hb : PE X e2 (rdE G E g)) (hs : PlainIx e2 := by intro _ _; rfl) : PE X (.Subscript e1 e2 pos) (rdE G E (b2 ixD f g)) :=
  peI (pe_ix ix_X ha hb hs) fun _ _ _ h => by
    rw [hK]
    exact rd_b2 (t := rdE G E f) os_ix h
theorem cr_lenX : CallR X (.builtin "len") (rLenX X.K) := CallR.or call_len_seq call_lenD
/-- a built-in function by its name -/
def cB (F : List Dv → Co Dv) (gs : Slots → Co (List Dv)) : Slots → Co Dv := fun ρ => bnd (gs ρ) F
theorem rd_cB {r : List V → Hp → VK → Prop} {F : List Dv → Co Dv} {gs : Slots → Co (List Dv)} (hF : CaS G E r F) {σ : L2.St} {H : Hp} {Q : VK} (h : rdE G E (cB F gs) σ H Q) : tCB r (rdA G E gs) σ H Q := by
  obtain ⟨ι, ρ, M, st, p⟩ := h
  exact ⟨ι, ρ, M, st, (Post.bnd p).mono fun ds ι1 M1 H1 x1 p1 vs rv => hF ι1 M1 H1 vs ds Q x1.mem rv p1⟩
theorem xcb {x : Str} {p : Pos} {id : String} {r : List V → Hp → VK → Prop} {F : List Dv → Co Dv} {gs : Slots → Co (List Dv)} (hc : CallR X (.builtin id) r) (hF : CaS G E r F) (hg : Gl X x) (hm : X.mg x = none) (hv : bootBuiltins x = some (.builtin id)) (ha : PA X (e :: es) (rdA G E gs))
    (hn : x ≠ "__name__" := by decide) (hdb : (x == ("__debug__" : Str)) = false := by decide) (he : starEach (e :: es) X.env = (false, eval e X.env) :: starEach es X.env := by rfl) (hpl : (backTo pos (starEach es X.env)).any (·.1) = false := by rfl) :
    PE X (.Call (.Name x p) (e :: es) [] pos) (rdE G E (cB F gs)) := peI (pe_callB hc hg hm hv ha hn hdb he hpl) fun _ _ _ h => rd_cB hF h
theorem xct {x : Str} {p : Pos} {T : String} {r : List V → Hp → VK → Prop} {F : List Dv → Co Dv} {gs : Slots → Co (List Dv)} (hc : CallR X (.type T) r) (hF : CaS G E r F) (hg : Gl X x) (hm : X.mg x = none) (hv : bootBuiltins x = some (.type T)) (ha : PA X (e :: es) (rdA G E gs))
    (hn : x ≠ "__name__" := by decide) (hdb : (x == ("__debug__" : Str)) = false := by decide) (he : starEach (e :: es) X.env = (false, eval e X.env) :: starEach es X.env := by rfl) (hpl : (backTo pos (starEach es X.env)).any (·.1) = false := by rfl) :
    PE X (.Call (.Name x p) (e :: es) [] pos) (rdE G E (cB F gs)) := peI (pe_callTy hc hg hm hv ha hn hdb he hpl) fun _ _ _ h => rd_cB hF h
/-- a function of an imported module -/
theorem xcm {x : Str} {p : Pos} {id : String} {r : List V → Hp → VK → Prop} {F : List Dv → Co Dv} {gs : Slots → Co (List Dv)} (hc : CallR X (.builtin id) r) (hF : CaS G E r F) (hg : Gl X x) (hm : X.mg x = some (.builtin id)) (ha : PA X (e :: es) (rdA G E gs))
    (hdb : (x == ("__debug__" : Str)) = false := by decide) (he : starEach (e :: es) X.env = (false, eval e X.env) :: starEach es X.env := by rfl) (hpl : (backTo pos (starEach es X.env)).any (·.1) = false := by rfl) :
    PE X (.Call (.Name x p) (e :: es) [] pos) (rdE G E (cB F gs)) := peI (pe_callBfun hc hg hm ha hdb he hpl) fun _ _ _ h => rd_cB hF h

/-! ### calls of the text's own defs -/
def spF (G : Gx) (F : List Dv → Co Dv) : Sp := fun vs H Q E => ∃ ι M ds, MemR G ι H M ∧ RpDs G ι H vs ds ∧ Post G E ι H (QE G Q) (F ds M)
theorem spF_imp {F F' : List Dv → Co Dv} (h : ∀ ds M, F' ds M = F ds M ∨ F' ds M = .fail) {vs : List V} {H : Hp} {Q : VK} (s : spF G F' vs H Q E) : spF G F vs H Q E := by
  obtain ⟨ι, M, ds, m, r, p⟩ := s
  rcases h ds M with z | z
  · exact ⟨ι, M, ds, m, r, by rw [← z]; exact p⟩
  · rw [z] at p
    exact p.elim
variable {CX : CXT} {k : Nat} {fa : Addr} {fd : FuncData} {ps : List Str} {x : Str} {p : Pos} {F : List Dv → Co Dv} {gs : Slots → Co (List Dv)}
theorem rd_callW {σ : L2.St} {H : Hp} {Q : VK} (h : rdE G E (cB F gs) σ H Q) : tCall (spF G F) [] E (rdA G E gs) σ H Q := by
  obtain ⟨ι, ρ, M, st, p⟩ := h
  refine ⟨ι, ρ, M, st, (Post.bnd p).mono fun ds ι1 M1 H1 x1 p1 vs rv => ?_⟩
  show spF G F (vs ++ []) H1 Q E
  rw [List.append_nil]
  exact ⟨ι1, M1, ds, x1.mem, rv, p1⟩
/-- the whole memory is handed over -/
theorem xcallW (Fk : FnOk X.prog X.w X.K X.mg X.base CX k fa fd ps (spF G F)) (hr : Room k X.A) (hg : Gl X x) (hm : X.mg x = some (.ref fa)) (hk : PySem.W.keepIn X.K (.ref fa) = true) (hb : Binds X.K fd ps []) (hx : Passes CX X E) (ha : PA X (e :: es) (rdA G E gs))
    (hdb : (x == ("__debug__" : Str)) = false := by decide) (he : starEach (e :: es) X.env = (false, eval e X.env) :: starEach es X.env := by rfl) (hpl : (backTo pos (starEach es X.env)).any (·.1) = false := by rfl) :
    PE X (.Call (.Name x p) (e :: es) [] pos) (rdE G E (cB F gs)) := peI (pe_call Fk hr hg hm hk hb .nil hx ha hdb he hpl) fun _ _ _ h => rd_callW h
/-- data alone are handed over, and come back -/
def pureC (F : List Dv → Co Dv) : List Dv → Co Dv := fun ds => bnd (ofO (grd ds)) fun xs M => match F (xs.map Dv.g) [] with
  | .ok (.g x) _ => .ok (.g x) M
  | .ok _ _ => .fail
  | .ex c _ => .ex c M
  | .fail => .fail
theorem Ext.pure {ι ι' : List Addr} {M M' : Mem} {H H' : Hp} (m : MemR G ι H M) (y : Ext G [] H ι' M' H') : Ext G ι H ι M H' where
  pre := List.prefix_refl _
  mem := ⟨m.len, m.nd, fun i a mo h1 h2 => by
    have q := m.ob i a mo h1 h2
    obtain ⟨o, ho⟩ := m.at (List.mem_of_getElem? h1)
    refine q.mono (List.prefix_refl _) y.keep ?_
    have nt : isTbl o = false := by
      cases mo with
      | lst xs =>
        obtain ⟨vs, q, _⟩ := q
        rw [ho] at q
        cases q
        rfl
      | dct xs =>
        obtain ⟨vs, q, _⟩ := q
        rw [ho] at q
        cases q
        rfl
      | ins c xs =>
        obtain ⟨C, dx, fvs, _, q, _⟩ := q
        rw [ho] at q
        cases q
        rfl
      | dead =>
        obtain ⟨o2, q2, q3⟩ := q
        rw [ho] at q2
        cases q2
        exact q3
    rw [ho]
    exact y.frame a o ho nt (by simp), y.mem.tab⟩
  keep := y.keep
  frame := fun b o h1 h2 _ => y.frame b o h1 h2 (by simp)
  tbl := y.tbl
  fresh := fun a h n => absurd h n
theorem rd_callP {σ : L2.St} {H : Hp} {Q : VK} (h : rdE G E (cB (pureC F) gs) σ H Q) : tCall (spF G F) [] E (rdA G E gs) σ H Q := by
  obtain ⟨ι, ρ, M, st, p⟩ := h
  refine ⟨ι, ρ, M, st, (Post.bnd p).mono fun ds ι1 M1 H1 x1 p1 vs rv => ?_⟩
  show spF G F (vs ++ []) H1 Q E
  rw [List.append_nil]
  obtain ⟨xs, e, p2⟩ := Post.ofO p1
  refine ⟨[], [], xs.map Dv.g, ⟨rfl, List.nodup_nil, fun i a mo h _ => by simp at h, x1.mem.tab⟩, (rv.grd e).ds, ?_⟩
  cases q : F (xs.map Dv.g) [] with
  | fail =>
    simp only [q] at p2
    exact p2.elim
  | ok d M' =>
    simp only [q] at p2
    intro ι' H' y v rd
    cases d with
    | g z =>
      cases rd with
      | g rz => exact p2 ι1 H' (.pure x1.mem y) v (.g rz)
    | _ => exact p2.elim
  | ex c M' =>
    simp only [q] at p2
    intro ι' H' cls dx y hx
    exact p2 ι1 H' cls dx (.pure x1.mem y) hx
theorem xcallP (Fk : FnOk X.prog X.w X.K X.mg X.base CX k fa fd ps (spF G F)) (hr : Room k X.A) (hg : Gl X x) (hm : X.mg x = some (.ref fa)) (hk : PySem.W.keepIn X.K (.ref fa) = true) (hb : Binds X.K fd ps []) (hx : Passes CX X E) (ha : PA X (e :: es) (rdA G E gs))
    (hdb : (x == ("__debug__" : Str)) = false := by decide) (he : starEach (e :: es) X.env = (false, eval e X.env) :: starEach es X.env := by rfl) (hpl : (backTo pos (starEach es X.env)).any (·.1) = false := by rfl) :
    PE X (.Call (.Name x p) (e :: es) [] pos) (rdE G E (cB (pureC F) gs)) := peI (pe_call Fk hr hg hm hk hb .nil hx ha hdb he hpl) fun _ _ _ h => rd_callP h

/-! ### statements -/
theorem StR.set {H : Hp} {σ : L2.St} {ι : List Addr} {ρ : Slots} {M : Mem} (s : StR G H σ ι ρ M) (i : Nat) {v : V} {d : Dv} (r : RpD G ι H v d) : StR G H (σ.set i (some v)) ι (ρ.set i d) M :=
  ⟨by rw [List.length_set, List.length_set, s.len], s.mem, fun j d' h n => by
    by_cases hj : i = j
    · subst hj
      have hl : i < ρ.length := by
        have := (List.getElem?_eq_some_iff.mp h).1
        rwa [List.length_set] at this
      rw [List.getElem?_set_self hl] at h
      cases h
      exact ⟨v, by rw [List.getElem?_set_self (by rw [s.len]; exact hl)], r⟩
    · rw [List.getElem?_set_ne hj] at h
      rw [List.getElem?_set_ne hj]
      exact s.sl j d' h n⟩
/-- a target -/
def rdG (G : Gx) (E : XK) (tf : Dv → Slots → Co Slots) : TG := fun v σ H Q => ∃ ι ρ M d, StR G H σ ι ρ M ∧ RpD G ι H v d ∧ Post G E ι H (fun ρ' ι' M' H' => ∀ σ', StR G H' σ' ι' ρ' M' → Q σ' H') (tf d ρ M)
def rdGs (G : Gx) (E : XK) (tf : List Dv → Slots → Co Slots) : TGs := fun vs σ H Q => ∃ ι ρ M ds, StR G H σ ι ρ M ∧ RpDs G ι H vs ds ∧ Post G E ι H (fun ρ' ι' M' H' => ∀ σ', StR G H' σ' ι' ρ' M' → Q σ' H') (tf ds ρ M)
theorem pgI {e : Expr} {t t' : TG} (h : PG X e t) (k : ∀ v σ H Q, t' v σ H Q → t v σ H Q) : PG X e t' := ⟨fun pins s σ H v u Q I r z => h.run pins s σ H v u Q I r (k v σ H Q z)⟩
theorem pgsI {e : List Expr} {t t' : TGs} (h : PGs X e t) (k : ∀ v σ H Q, t' v σ H Q → t v σ H Q) : PGs X e t' := ⟨fun pins s σ H v u Q I r z => h.run pins s σ H v u Q I r (k v σ H Q z)⟩
def tN (i : Nat) : Dv → Slots → Co Slots := fun d ρ => rt (ρ.set i d)
theorem xgn (i : Nat) (hN : X.N.Nodup) (hi : X.N[i]? = some x := by rfl) (hx : Loc X.env.scope x := by first | exact Or.inl rfl | exact Or.inr rfl) (hf : X.fn x = true ∨ X.env.scope.names.lookup x = some .local := by first | exact .inl rfl | exact .inr rfl | assumption) : PG X (.Name x pos) (rdG G E (tN i)) :=
  pgI (pg_name hN hi hx hf) fun v σ H Q h => by
    obtain ⟨ι, ρ, M, d, st, r, p⟩ := h
    exact Post.rt st.mem p _ (st.set i r)
def tZ : List Dv → Slots → Co Slots := fun ds ρ => match ds with
  | [] => rt ρ
  | _ => fl
def tC (a : Dv → Slots → Co Slots) (b : List Dv → Slots → Co Slots) : List Dv → Slots → Co Slots := fun ds ρ => match ds with
  | d :: r => bnd (a d ρ) fun ρ' => b r ρ'
  | [] => fl
theorem xgs0 : PGs X [] (rdGs G E tZ) := pgsI pgs_nil fun vs σ H Q h => by
  obtain ⟨ι, ρ, M, ds, st, r, p⟩ := h
  cases r with
  | nil => exact ⟨rfl, Post.rt st.mem p _ st⟩
  | cons _ _ => exact p.elim
theorem xgs1 {a : Dv → Slots → Co Slots} {b : List Dv → Slots → Co Slots} (h1 : PG X e (rdG G E a)) (h2 : PGs X es (rdGs G E b)) (hs : (assignEach (e :: es) X.env).map (·.2) = assign e X.env :: (assignEach es X.env).map (·.2) := by rfl) : PGs X (e :: es) (rdGs G E (tC a b)) :=
  pgsI (pgs_cons h1 h2 hs) fun vs σ H Q h => by
    obtain ⟨ι, ρ, M, ds, st, r, p⟩ := h
    cases r with
    | nil => exact p.elim
    | @cons v vs d ds r rr =>
      refine ⟨v, vs, rfl, ι, ρ, M, d, st, r, (Post.bnd p).mono fun ρ' ι1 M1 H1 x1 p1 σ' st' => ?_⟩
      exact ⟨ι1, ρ', M1, ds, st', rr.mono x1.pre x1.keep, p1⟩
/-- the items of a tuple -/
def asT : Dv → Option (List Dv)
  | .g (.tuple xs) => some (xs.map Dv.g)
  | .t xs => some xs
  | _ => none
theorem asT_rp {ι : List Addr} {H : Hp} {v : V} {d : Dv} {ds : List Dv} (r : RpD G ι H v d) (e : asT d = some ds) : ∃ a vs, v = .ref a ∧ H a = some (.tup vs) ∧ RpDs G ι H vs ds := by
  cases r with
  | g r =>
    cases r with
    | tup h r =>
      cases e
      exact ⟨_, _, rfl, h, r.ds⟩
    | _ => cases e
  | r _ => cases e
  | t h r =>
    cases e
    exact ⟨_, _, rfl, h, r⟩
def tT (n : Nat) (b : List Dv → Slots → Co Slots) : Dv → Slots → Co Slots := fun d ρ => bnd (ofO (asT d)) fun ds => chk (Nat.beq ds.length n) (b ds ρ)
theorem xgt {b : List Dv → Slots → Co Slots} {kk n : Nat} (hK : X.K = G.K) (hc : X.calm = true) (h : PGs X es (rdGs G E b)) (hn : (assignEach es X.env).length = n := by rfl) (hst : (assignEach es X.env).findIdx? (·.1) = none := by rfl) : PG X (.Tuple es kk pos) (rdG G E (tT n b)) :=
  pgI (pg_tup hc h hn hst) fun v σ H Q h => by
    obtain ⟨ι, ρ, M, d, st, r, p⟩ := h
    obtain ⟨ds, e, p⟩ := Post.ofO p
    obtain ⟨c, p⟩ := Post.chk p
    obtain ⟨a, vs, rfl, h1, h2⟩ := asT_rp r e
    exact ⟨a, vs, rfl, .of h1, by rw [h2.length]; exact Nat.eq_of_beq_eq_true c, ι, ρ, M, ds, st, h2, p⟩
def asg (f : Slots → Co Dv) (tf : Dv → Slots → Co Slots) : Slots → Co Fl := fun ρ => bnd (f ρ) fun d => bnd (tf d ρ) fun ρ' => rt (.nx ρ')
theorem rd_asg {tf : Dv → Slots → Co Slots} {D : Ends} {σ : L2.St} {H : Hp} (h : rdS G E (asg f tf) D σ H) : tAsg (rdE G E f) (rdG G E tf) D σ H := by
  obtain ⟨ι, ρ, M, st, p⟩ := h
  refine ⟨ι, ρ, M, st, (Post.bnd p).mono fun d ι1 M1 H1 x1 p1 v rv => ?_⟩
  refine ⟨ι1, ρ, M1, d, st.ext x1, rv, (Post.bnd p1).mono fun ρ' ι2 M2 H2 x2 p2 σ' st' => ?_⟩
  exact Post.rt x2.mem p2 σ' st'
theorem xasg {tg : Expr} {tf : Dv → Slots → Co Slots} (he : PE X e (rdE G E f)) (hg : PG X tg (rdG G E tf)) (hs : swapsWithSole [tg] e pos.line X.env = pure false := by rfl) (hw : swappedStores [tg] e X.env = pure none := by rfl)
    (h1 : (assignEach [tg] X.env).map (·.2) = [assign tg X.env] := by rfl) : PS X (.Assign [tg] e pos) (rdS G E (asg f tf)) := psI (ps_asg he hg hs hw h1) fun _ _ _ h => rd_asg h
theorem rd_set {i : Nat} {D : Ends} {σ : L2.St} {H : Hp} (h : rdS G E (asg f (tN i)) D σ H) : tAsg (rdE G E f) (gName i) D σ H := by
  obtain ⟨ι, ρ, M, st, p⟩ := h
  refine ⟨ι, ρ, M, st, (Post.bnd p).mono fun d ι1 M1 H1 x1 p1 v rv => ?_⟩
  exact Post.rt x1.mem (Post.rt x1.mem (Post.bnd p1)) _ ((st.ext x1).set i rv)
theorem xset (i : Nat) {pos' : Pos} (hN : X.N.Nodup) (he : PE X e (rdE G E f)) (hi : X.N[i]? = some x := by rfl) (hx : Loc X.env.scope x := by first | exact Or.inl rfl | exact Or.inr rfl) (hs : swapsWith e (some (.Name x pos')) pos.line X.env = pure false := by rfl)
    (hf : X.fn x = true ∨ X.env.scope.names.lookup x = some .local := by first | exact .inl rfl | exact .inr rfl | assumption) : PS X (.Assign [.Name x pos'] e pos) (rdS G E (asg f (tN i))) :=
  psI (ps_set hN hi hx he hs hf) fun _ _ _ h => rd_set h
/-- a, b = x, y: plain local names -/
def par2 (i j : Nat) (gs : Slots → Co (List Dv)) : Slots → Co Fl := fun ρ => bnd (gs ρ) fun ds => match ds with
  | [a, b] => rt (.nx ((ρ.set i a).set j b))
  | _ => fl
theorem xpar {i j : Nat} {x y : Str} {a b : Expr} {px py pt : Pos} {kt k2 pt2} (hc : X.calm = true) (hN : X.N.Nodup) (ha : PA X [a, b] (rdA G E gs)) (hi : X.N[i]? = some x := by rfl) (hj : X.N[j]? = some y := by rfl) (hij : i ≠ j := by decide)
    (hx : X.env.scope.names.lookup x = some .local := by rfl) (hy : X.env.scope.names.lookup y = some .local := by rfl)
    (hw : swappedStores [.Tuple [.Name x px, .Name y py] kt pt] (.Tuple [a, b] k2 pt2) X.env = pure (some [x, y]) := by rfl)
    (hs : swapsWithSole [.Tuple [.Name x px, .Name y py] kt pt] (.Tuple [a, b] k2 pt2) pos.line X.env = pure false := by rfl) :
    PS X (.Assign [.Tuple [.Name x px, .Name y py] kt pt] (.Tuple [a, b] k2 pt2) pos) (rdS G E (par2 i j gs)) :=
  psI (ps_par hc hN hi hj hij hx hy ha hw hs) fun D σ H h => by
    obtain ⟨ι, ρ, M, st, p⟩ := h
    refine ⟨ι, ρ, M, st, (Post.bnd p).mono fun ds ι1 M1 H1 x1 p1 vs rv => ?_⟩
    cases rv with
    | nil => exact p1.elim
    | cons r1 rv =>
      cases rv with
      | nil => exact p1.elim
      | cons r2 rv =>
        cases rv with
        | nil => exact ⟨_, _, rfl, Post.rt x1.mem p1 _ (((st.ext x1).set i r1).set j r2)⟩
        | cons _ _ => exact p1.elim
def par3 (i j l : Nat) (gs : Slots → Co (List Dv)) : Slots → Co Fl := fun ρ => bnd (gs ρ) fun ds => match ds with
  | [a, b, c] => rt (.nx (((ρ.set i a).set j b).set l c))
  | _ => fl
theorem xpar3 {i j l : Nat} {x y z : Str} {a b c : Expr} {px py pz pt : Pos} {kt k2 pt2} (hc : X.calm = true) (hN : X.N.Nodup) (ha : PA X [a, b, c] (rdA G E gs)) (hi : X.N[i]? = some x := by rfl) (hj : X.N[j]? = some y := by rfl) (hl : X.N[l]? = some z := by rfl) (hij : i ≠ j := by decide) (hil : i ≠ l := by decide) (hjl : j ≠ l := by decide)
    (hx : X.env.scope.names.lookup x = some .local := by rfl) (hy : X.env.scope.names.lookup y = some .local := by rfl) (hz : X.env.scope.names.lookup z = some .local := by rfl)
    (hw : swappedStores [.Tuple [.Name x px, .Name y py, .Name z pz] kt pt] (.Tuple [a, b, c] k2 pt2) X.env = pure (some [x, y, z]) := by rfl)
    (hs : swapsWithSole [.Tuple [.Name x px, .Name y py, .Name z pz] kt pt] (.Tuple [a, b, c] k2 pt2) pos.line X.env = pure false := by rfl) :
    PS X (.Assign [.Tuple [.Name x px, .Name y py, .Name z pz] kt pt] (.Tuple [a, b, c] k2 pt2) pos) (rdS G E (par3 i j l gs)) :=
  psI (ps_par3 hc hN hi hj hl hij hil hjl hx hy hz ha hw hs) fun D σ H h => by
    obtain ⟨ι, ρ, M, st, p⟩ := h
    refine ⟨ι, ρ, M, st, (Post.bnd p).mono fun ds ι1 M1 H1 x1 p1 vs rv => ?_⟩
    cases rv with
    | nil => exact p1.elim
    | cons r1 rv =>
      cases rv with
      | nil => exact p1.elim
      | cons r2 rv =>
        cases rv with
        | nil => exact p1.elim
        | cons r3 rv =>
          cases rv with
          | nil => exact ⟨_, _, _, rfl, Post.rt x1.mem p1 _ ((((st.ext x1).set i r1).set j r2).set l r3)⟩
          | cons _ _ => exact p1.elim
def ret (f : Slots → Co Dv) : Slots → Co Fl := fun ρ => bnd (f ρ) fun d => rt (.rt d)
theorem xret (he : PE X e (rdE G E f)) : PS X (.Return (some e) pos) (rdS G E (ret f)) := psI (ps_ret he) fun D σ H h => by
  obtain ⟨ι, ρ, M, st, p⟩ := h
  exact ⟨ι, ρ, M, st, (Post.bnd p).mono fun d ι1 M1 H1 x1 p1 v rv => Post.rt x1.mem p1 v rv⟩
def retN : Slots → Co Fl := fun _ => rt (.rt (.g .none))
theorem xretN : PS X (.Return none pos) (rdS G E retN) := psI ps_retN fun D σ H h => by
  obtain ⟨ι, ρ, M, st, p⟩ := h
  exact Post.rt st.mem p _ (.g .non)
def drp (f : Slots → Co Dv) : Slots → Co Fl := fun ρ => bnd (f ρ) fun _ => rt (.nx ρ)
theorem xexp (he : PE X e (rdE G E f)) (hs : swapsWith e none pos.line X.env = pure false := by rfl) : PS X (.Expr e pos) (rdS G E (drp f)) := psI (ps_expr he hs) fun D σ H h => by
  obtain ⟨ι, ρ, M, st, p⟩ := h
  exact ⟨ι, ρ, M, st, (Post.bnd p).mono fun d ι1 M1 H1 x1 p1 v rv => Post.rt x1.mem p1 _ (st.ext x1)⟩
def skp : Slots → Co Fl := fun ρ => rt (.nx ρ)
theorem xs0 : PSs X [] (rdS G E skp) := pssI pss_nil fun D σ H h => by
  obtain ⟨ι, ρ, M, st, p⟩ := h
  exact Post.rt st.mem p _ st
def sq (a b : Slots → Co Fl) : Slots → Co Fl := fun ρ => bnd (a ρ) fun f => match f with
  | .nx ρ' => b ρ'
  | f => rt f
theorem xs1 {st : Stmt} {rest : List Stmt} {a b : Slots → Co Fl} (h1 : PS X st (rdS G E a)) (h2 : PSs X rest (rdS G E b)) : PSs X (st :: rest) (rdS G E (sq a b)) :=
  pssI (pss_cons h1 h2) fun D σ H h => by
    obtain ⟨ι, ρ, M, st, p⟩ := h
    refine ⟨ι, ρ, M, st, (Post.bnd p).mono fun fl ι1 M1 H1 x1 p1 => ?_⟩
    cases fl with
    | nx ρ' => exact fun σ' st' => ⟨ι1, ρ', M1, st', p1⟩
    | rt d => exact Post.rt (E := E) x1.mem p1
    | bk ρ' => exact Post.rt (E := E) x1.mem p1
    | ct ρ' => exact Post.rt (E := E) x1.mem p1
def ifs (c : Slots → Co Bool) (a b : Slots → Co Fl) : Slots → Co Fl := fun ρ => bnd (c ρ) fun q => match q with
  | true => a ρ
  | false => b ρ
theorem xifs {c : Expr} {s t : List Stmt} {cf : Slots → Co Bool} {a b : Slots → Co Fl} (hc : PT X c (rdT G E cf)) (h1 : PSs X s (rdS G E a)) (h2 : PSs X t (rdS G E b)) : PS X (.If c s t pos) (rdS G E (ifs cf a b)) :=
  psI (ps_if hc h1 h2) fun D σ H h => by
    obtain ⟨ι, ρ, M, st, p⟩ := h
    refine ⟨ι, ρ, M, st, (Post.bnd p).mono fun q ι1 M1 H1 x1 p1 => ?_⟩
    cases q with
    | true => exact iteT ⟨ι1, ρ, M1, st.ext x1, p1⟩
    | false => exact iteF ⟨ι1, ρ, M1, st.ext x1, p1⟩
def brk : Slots → Co Fl := fun ρ => rt (.bk ρ)
theorem xbrk : PS X (.Break pos) (rdS G E brk) := psI ps_break fun D σ H h => by
  obtain ⟨ι, ρ, M, st, p⟩ := h
  exact Post.rt st.mem p _ st
def cnt : Slots → Co Fl := fun ρ => rt (.ct ρ)
theorem xcnt : PS X (.Continue pos) (rdS G E cnt) := psI ps_continue fun D σ H h => by
  obtain ⟨ι, ρ, M, st, p⟩ := h
  exact Post.rt st.mem p _ st
/-- a statement that is never come to -/
def nvr : Slots → Co Fl := fun _ => fl
theorem xnvr {st : Stmt} : PS X st (rdS G E nvr) := psI ps_never fun D σ H h => by
  obtain ⟨ι, ρ, M, st, p⟩ := h
  exact p.elim
end
/-! ### a def -/
def defF (n np : Nat) (b : Slots → Co Fl) : List Dv → Co Dv := fun ds => chk (Nat.beq ds.length np) (bnd (b (ds ++ List.replicate (n - np) .u)) fun f => match f with
  | .nx _ => rt (.g .none)
  | .rt d => rt d
  | _ => fl)
section
variable {G : Gx} {E : XK}
theorem start_st {H : Hp} {ι : List Addr} {M : Mem} {N : List Str} {vs : List V} {ds : List Dv} (m : MemR G ι H M) (r : RpDs G ι H vs ds) : StR G H (L2.start N vs) ι (ds ++ List.replicate (N.length - ds.length) .u) M where
  len := by
    unfold L2.start
    rw [List.length_append, List.length_append, List.length_map, List.length_replicate, List.length_replicate, r.length]
  mem := m
  sl := fun i d h n => by
    by_cases hi : i < ds.length
    · rw [List.getElem?_append_left hi] at h
      obtain ⟨v, h1, h2⟩ := r.get h
      refine ⟨v, ?_, h2⟩
      unfold L2.start
      rw [List.getElem?_append_left (by rw [List.length_map, r.length]; exact hi), List.getElem?_map, h1]
      rfl
    · rw [List.getElem?_append_right (by omega), List.getElem?_replicate] at h
      split at h
      · cases h
        exact absurd rfl n
      · cases h
variable {P : Program} {w : World} {base : Heap} {CX : CXT} {x qual : Str} {params : Arguments} {body : List Stmt} {scope : Scope} {f : Addr} {fd : FuncData} {N ps : List Str} {k : Nat} {b : Slots → Co Fl}
theorem spF_len {n np : Nat} {vs : List V} {H : Hp} {Q : VK} (h : spF G (defF n np b) vs H Q E) : vs.length = np := by
  obtain ⟨ι, M, ds, m, r, p⟩ := h
  obtain ⟨c, _⟩ := Post.chk p
  rw [r.length]
  exact Nat.eq_of_beq_eq_true c
theorem xdef (F : FunD G.K x qual params body scope [] [] f fd) (S : FnScope N ps scope)
    (hb : ∀ (cdv : Value) (A : Around) (outer : List PySem.Env) (s : Shared) (H : Hp) (E : XK), Room k (A.deeper (envOfC qual scope s.heap.objs.size f cdv)) → PSs (cxOf CX P w G.K G.mg base N qual scope f cdv A outer s H E) body (rdS G E b)) :
    FnOk P w G.K G.mg base CX (k + 1) f fd ps (spF G (defF N.length ps.length b)) := by
  refine F.ok S (fun vs H Q E h => spF_len h) fun cdv A outer s H vs Q E hr h => ?_
  have hl := spF_len h
  obtain ⟨ι, M, ds, m, r, p⟩ := h
  obtain ⟨_, p⟩ := Post.chk p
  refine ⟨_, hb cdv A outer s H E hr, ι, _, M, ?_, (Post.bnd p).mono fun fl ι1 M1 H1 x1 p1 => ?_⟩
  · have e := start_st (N := N) m r
    rw [← r.length, hl] at e
    exact e
  · cases fl with
    | nx ρ => exact fun σ _ => Post.rt x1.mem p1 _ (.g .non)
    | rt d => exact Post.rt (E := E) x1.mem p1
    | _ => exact p1.elim
end
end Xt
set_option Elab.async false
set_option linter.all false
set_option maxRecDepth 100000
set_option maxHeartbeats 1000000
namespace Xt
open PySem PySem.Spec PyProof.Rows L2

/-! ### what is walked -/
/-- the iterator yields these, whatever happens meanwhile to what may change -/
structure Wk (G : Gx) (ι : List Addr) (H : Hp) (J : It) (ds : List Dv) : Prop where
  go : ∀ i H1, Keep H H1 → i < ds.length → J.go i H1
  stop : ∀ H1, Keep H H1 → J.stop ds.length H1
  yld : ∀ i H1 x H2, Keep H H1 → i < ds.length → J.yld i H1 x H2 → ∃ d, ds[i]? = some d ∧ RpD G ι H2 x d ∧ (H2 = H1 ∨ ∃ T vs, H1 T = none ∧ H2 = upd H1 T (.tup vs))
def rdI (G : Gx) (E : XK) (src : Slots → Co (List Dv)) : TI := fun σ H R => ∃ ι ρ M, StR G H σ ι ρ M ∧ Post G E ι H (fun ds ι' _ H' => ∀ J, Wk G ι' H' J ds → R J H') (src ρ M)
section
variable {X : Cx} {G : Gx} {E : XK} {e : Expr} {es : List Expr} {f : Slots → Co Dv} {gs : Slots → Co (List Dv)} {pos p : Pos} {tg : Expr}
theorem piI {t t' : TI} (h : PI X tg e t) (k : ∀ σ H Q, t' σ H Q → t σ H Q) : PI X tg e t' := ⟨fun pins s σ H Q I z => h.run pins s σ H Q I (k σ H Q z)⟩
theorem pi_or {t t' : TI} (h : PI X tg e t) (h' : PI X tg e t') : PI X tg e (fun σ H R => t σ H R ∨ t' σ H R) := ⟨fun pins s σ H R I z => z.elim (h.run pins s σ H R I) (h'.run pins s σ H R I)⟩
/-- the items of a list or a tuple that do not change -/
def its : Dv → Option (List Dv)
  | .g (.list xs) => some (xs.map Dv.g)
  | .g (.tuple xs) => some (xs.map Dv.g)
  | .t xs => some xs
  | _ => none
def srcS (f : Slots → Co Dv) : Slots → Co (List Dv) := fun ρ => bnd (f ρ) fun d => ofO (its d)
theorem wk_list {K : PySem.W.Frag} {ι : List Addr} {H : Hp} {a : Addr} {vs : List V} {xs : List PyData} (hK : K = G.K) (h : LsF K H a vs) (r : RpVs G.K H vs xs) : Wk G ι H (Itl K a) (xs.map Dv.g) where
  go := fun i H1 k hi => by
    rw [List.length_map, ← r.length] at hi
    exact ⟨vs, vs[i], (h.mono k).sq, List.getElem?_eq_getElem hi⟩
  stop := fun H1 k => ⟨vs, (h.mono k).sq, by rw [List.length_map, r.length]; exact Nat.le_refl _⟩
  yld := fun i H1 x H2 k hi y => by
    obtain ⟨e, y⟩ := y
    have q := y vs (h.mono k).sq
    rw [List.length_map] at hi
    refine ⟨.g xs[i], by rw [List.getElem?_map, List.getElem?_eq_getElem hi]; rfl, .g ?_, .inl e⟩
    rw [e]
    exact (r.get (List.getElem?_eq_getElem hi) q).mono k
theorem wk_tup {K : PySem.W.Frag} {ι : List Addr} {H : Hp} {a : Addr} {vs : List V} {ds : List Dv} (h : H a = some (.tup vs)) (r : RpDs G ι H vs ds) : Wk G ι H (Itt K a) ds where
  go := fun i H1 k hi => by
    rw [← r.length] at hi
    exact ⟨vs, vs[i], .of (k.tup _ _ h), List.getElem?_eq_getElem hi⟩
  stop := fun H1 k => ⟨vs, .of (k.tup _ _ h), by rw [r.length]; exact Nat.le_refl _⟩
  yld := fun i H1 x H2 k hi y => by
    obtain ⟨e, y⟩ := y
    have q := y vs (.of (k.tup _ _ h))
    obtain ⟨w, h1, h2⟩ := r.get (List.getElem?_eq_getElem hi)
    rw [h1] at q
    cases q
    refine ⟨ds[i], List.getElem?_eq_getElem hi, ?_, .inl e⟩
    rw [e]
    exact h2.mono (List.prefix_refl _) k
theorem xis (hK : X.K = G.K) (he : PE X e (rdE G E f)) : PI X tg e (rdI G E (srcS f)) :=
  piI (pi_or (pi_list he) (pi_tup he)) fun σ H R h => by
    obtain ⟨ι, ρ, M, st, p⟩ := h
    have p0 := Post.bnd p
    cases q : f ρ M with
    | fail =>
      rw [q] at p0
      exact p0.elim
    | ex c M' =>
      rw [q] at p0
      exact .inl ⟨ι, ρ, M, st, by rw [q]; exact p0⟩
    | ok d M1 =>
      rw [q] at p0
      have side : (∃ xs, d = .g (.list xs)) ∨ (∀ xs, d ≠ .g (.list xs)) := by
        cases d with
        | g x =>
          cases x with
          | list xs => exact .inl ⟨xs, rfl⟩
          | _ => exact .inr fun _ z => by cases z
        | _ => exact .inr fun _ z => by cases z
      rcases side with ⟨xs, rfl⟩ | side
      · refine .inl ⟨ι, ρ, M, st, ?_⟩
        rw [q]
        intro ι1 H1 x1 v rv
        cases rv with
        | g rv =>
          cases rv with
          | @lst a vs _ h r =>
            refine ⟨a, rfl, ⟨vs, by rw [hK]; exact h.sq⟩, ?_⟩
            have p1 := p0 ι1 H1 x1
            exact Post.rt x1.mem p1 (Itl X.K a) (wk_list hK (by rw [hK]; exact h) r)
      · refine .inr ⟨ι, ρ, M, st, ?_⟩
        rw [q]
        intro ι1 H1 x1 v rv
        have p1 := p0 ι1 H1 x1
        obtain ⟨ds, e1, p2⟩ := post_ofO x1.mem p1
        have e2 : asT d = some ds := by
          cases d with
          | g x =>
            cases x with
            | list xs => exact absurd rfl (side xs)
            | tuple xs => exact e1
            | _ => cases e1
          | t xs => exact e1
          | _ => cases e1
        obtain ⟨a, vs, rfl, h1, h2⟩ := asT_rp rv e2
        exact ⟨a, rfl, ⟨vs, .of h1⟩, p2 _ (wk_tup h1 h2)⟩
/-- ranges -/
def rngs (c : Int) : Int → Nat → List Dv
  | _, 0 => []
  | lo, n + 1 => dI lo :: rngs c (lo + c) n
theorem rngs_len (c : Int) : ∀ (lo : Int) (n : Nat), (rngs c lo n).length = n
  | _, 0 => rfl
  | lo, n + 1 => by rw [rngs, List.length_cons, rngs_len c (lo + c) n]
theorem rngs_get (c : Int) : ∀ (lo : Int) (n i : Nat), i < n → (rngs c lo n)[i]? = some (dI (lo + i * c))
  | _, 0, _, h => absurd h (Nat.not_lt_zero _)
  | lo, n + 1, 0, _ => by
    rw [rngs, List.getElem?_cons_zero]
    congr 2
    simp
  | lo, n + 1, i + 1, h => by
    rw [rngs, List.getElem?_cons_succ, rngs_get c (lo + c) n i (Nat.lt_of_succ_lt_succ h)]
    congr 2
    rw [Int.natCast_succ, Int.add_mul]
    omega
theorem wk_rng {ι : List Addr} {H : Hp} (lo : Int) (n : Nat) : Wk G ι H (Itr lo n) (rngs 1 lo n) where
  go := fun i H1 _ hi => by
    rw [rngs_len] at hi
    exact hi
  stop := fun H1 _ => by
    rw [rngs_len]
    exact Nat.le_refl _
  yld := fun i H1 x H2 _ hi y => by
    obtain ⟨e, y⟩ := y
    rw [rngs_len] at hi
    refine ⟨_, rngs_get 1 lo n i hi, ?_, .inl e⟩
    rw [y, Int.mul_one]
    exact rpI
theorem wk_rngC {ι : List Addr} {H : Hp} (lo c : Int) (n : Nat) : Wk G ι H (Itc lo c n) (rngs c lo n) where
  go := fun i H1 _ hi => by
    rw [rngs_len] at hi
    exact hi
  stop := fun H1 _ => by
    rw [rngs_len]
    exact Nat.le_refl _
  yld := fun i H1 x H2 _ hi y => by
    obtain ⟨e, y⟩ := y
    rw [rngs_len] at hi
    refine ⟨_, rngs_get c lo n i hi, ?_, .inl e⟩
    rw [y]
    exact rpI
def rOk (i : Int) : Bool := Nat.ble i.natAbs 4611686018427387903
theorem rOk_lt {i : Int} (h : rOk i = true) : -(2 ^ 62) ≤ i ∧ i < 2 ^ 62 := by
  have := Nat.le_of_ble_eq_true h
  omega
/-- range(b), range(a, b), range(a, b, c) -/
def srcR1 (gs : Slots → Co (List Dv)) : Slots → Co (List Dv) := fun ρ => bnd (gs ρ) fun ds => match ds with
  | [d] => bnd (ofO (asI d)) fun j => chk (rOk j) (rt (rngs 1 0 j.toNat))
  | _ => fl
def srcR2 (gs : Slots → Co (List Dv)) : Slots → Co (List Dv) := fun ρ => bnd (gs ρ) fun ds => match ds with
  | [d, e] => bnd (ofO (asI d)) fun i => bnd (ofO (asI e)) fun j => chk (rOk i && rOk j) (rt (rngs 1 i (j - i).toNat))
  | _ => fl
def rgN (i j c : Int) : Option Nat := match decide (c ≠ 0) && (Nat.blt c.natAbs 1073741824 && Builtin.Range.small i j c) with
  | true => (match Builtin.Range.rangeSize i j c with
    | .ofNat n => some n
    | _ => none)
  | false => none
theorem rgN_c {i j c : Int} {n : Nat} (h : rgN i j c = some n) : RgC i j c n := by
  unfold rgN at h
  split at h
  · rename_i q
    obtain ⟨h1, h2⟩ := Bool.and_eq_true_iff.mp q
    obtain ⟨h3, h4⟩ := Bool.and_eq_true_iff.mp h2
    split at h
    · rename_i n' e
      cases h
      exact ⟨of_decide_eq_true h1, Nat.le_of_ble_eq_true h3, h4, e⟩
    · cases h
  · cases h
def srcR3 (gs : Slots → Co (List Dv)) : Slots → Co (List Dv) := fun ρ => bnd (gs ρ) fun ds => match ds with
  | [d, e, f] => bnd (ofO (asI d)) fun i => bnd (ofO (asI e)) fun j => bnd (ofO (asI f)) fun c => bnd (ofO (rgN i j c)) fun n => rt (rngs c i n)
  | _ => fl
theorem xir1 {a : Expr} (ha : PA X [a] (rdA G E gs)) (hg : Gl X "range" := by rfl) (hm : X.mg "range" = none := by assumption) (hs : starEach [a] X.env = [(false, eval a X.env)] := by rfl) : PI X tg (.Call (.Name "range" p) [a] [] pos) (rdI G E (srcR1 gs)) :=
  piI (pi_range1 hg hm ha hs) fun σ H R h => by
    obtain ⟨ι, ρ, M, st, p⟩ := h
    refine ⟨ι, ρ, M, st, (Post.bnd p).mono fun ds ι1 M1 H1 x1 p1 vs rv => ?_⟩
    cases rv with
    | nil => exact p1.elim
    | cons r1 rv =>
      cases rv with
      | cons _ _ => exact p1.elim
      | nil =>
        obtain ⟨j, e1, p2⟩ := Post.ofO p1
        obtain ⟨c, p3⟩ := Post.chk p2
        obtain ⟨h1, h2⟩ := rOk_lt c
        exact ⟨j, by rw [(asI_rp r1 e1).1], h1, h2, Post.rt x1.mem p3 _ (wk_rng 0 _)⟩
theorem xir2 {a b : Expr} (ha : PA X [a, b] (rdA G E gs)) (hg : Gl X "range" := by rfl) (hm : X.mg "range" = none := by assumption) (hs : starEach [a, b] X.env = [(false, eval a X.env), (false, eval b X.env)] := by rfl) (hs2 : starEach [b] X.env = [(false, eval b X.env)] := by rfl) :
    PI X tg (.Call (.Name "range" p) [a, b] [] pos) (rdI G E (srcR2 gs)) :=
  piI (pi_range2 hg hm ha hs hs2) fun σ H R h => by
    obtain ⟨ι, ρ, M, st, p⟩ := h
    refine ⟨ι, ρ, M, st, (Post.bnd p).mono fun ds ι1 M1 H1 x1 p1 vs rv => ?_⟩
    cases rv with
    | nil => exact p1.elim
    | cons r1 rv =>
      cases rv with
      | nil => exact p1.elim
      | cons r2 rv =>
        cases rv with
        | cons _ _ => exact p1.elim
        | nil =>
          obtain ⟨i, e1, p2⟩ := Post.ofO p1
          obtain ⟨j, e2, p2⟩ := Post.ofO p2
          obtain ⟨c, p3⟩ := Post.chk p2
          obtain ⟨c1, c2⟩ := Bool.and_eq_true_iff.mp c
          obtain ⟨h1, h2⟩ := rOk_lt c1
          obtain ⟨h3, h4⟩ := rOk_lt c2
          exact ⟨i, j, by rw [(asI_rp r1 e1).1, (asI_rp r2 e2).1], ⟨h1, h2, h3, h4⟩, Post.rt x1.mem p3 _ (wk_rng i _)⟩
theorem xir3 {a b c : Expr} (ha : PA X [a, b, c] (rdA G E gs)) (hg : Gl X "range" := by rfl) (hm : X.mg "range" = none := by assumption) (hs : starEach [a, b, c] X.env = (false, eval a X.env) :: starEach [b, c] X.env := by rfl) (hpl : (backTo pos (starEach [b, c] X.env)).any (·.1) = false := by rfl) :
    PI X tg (.Call (.Name "range" p) [a, b, c] [] pos) (rdI G E (srcR3 gs)) :=
  piI (pi_range3 hg hm ha hs hpl) fun σ H R h => by
    obtain ⟨ι, ρ, M, st, p⟩ := h
    refine ⟨ι, ρ, M, st, (Post.bnd p).mono fun ds ι1 M1 H1 x1 p1 vs rv => ?_⟩
    cases rv with
    | nil => exact p1.elim
    | cons r1 rv =>
      cases rv with
      | nil => exact p1.elim
      | cons r2 rv =>
        cases rv with
        | nil => exact p1.elim
        | cons r3 rv =>
          cases rv with
          | cons _ _ => exact p1.elim
          | nil =>
            obtain ⟨i, e1, p2⟩ := Post.ofO p1
            obtain ⟨j, e2, p2⟩ := Post.ofO p2
            obtain ⟨k, e3, p2⟩ := Post.ofO p2
            obtain ⟨n, e4, p3⟩ := Post.ofO p2
            exact ⟨i, j, k, n, by rw [(asI_rp r1 e1).1, (asI_rp r2 e2).1, (asI_rp r3 e3).1], rgN_c e4, Post.rt x1.mem p3 _ (wk_rngC i k n)⟩
/-- the pairs of a dict that does not change -/
def dIts : List (PyData × PyData) → List Dv
  | [] => []
  | (k, x) :: r => .g (.tuple [k, x]) :: dIts r
def srcD (f : Slots → Co Dv) : Slots → Co (List Dv) := fun ρ => bnd (f ρ) fun d => match d with
  | .g (.dict kds) => rt (dIts kds)
  | _ => fl
theorem dIts_get {K : PySem.W.Frag} {H : Hp} : ∀ {kvs : List (Key × V)} {kds : List (PyData × PyData)} {i : Nat}, RpKs K H kvs kds → i < kds.length → ∃ k x j v, (dIts kds)[i]? = some (.g (.tuple [.int k, x])) ∧ kvs[i]? = some (j, v) ∧ j = .inl k ∧ RpV K H v x
  | _, _, _, .nil, h => absurd h (Nat.not_lt_zero _)
  | _, _, 0, .cons h _, _ => ⟨_, _, _, _, rfl, rfl, rfl, h⟩
  | _, _, i + 1, .cons _ r, h => by
    obtain ⟨k, x, j, v, h1, h2, h3⟩ := dIts_get (i := i) r (Nat.lt_of_succ_lt_succ h)
    exact ⟨k, x, j, v, h1, h2, h3⟩
theorem dIts_len : ∀ kds : List (PyData × PyData), (dIts kds).length = kds.length
  | [] => rfl
  | (_, _) :: r => by rw [dIts, List.length_cons, List.length_cons, dIts_len r]
theorem xid {apos cpos tpos : Pos} {elts : List Expr} {kk : Nat} (he : PE X e (rdE G E f)) (hb : attributeBase e (Str.ofString "items") X.env (eval e X.env) = eval e X.env := by rfl) (hl : (apos.endLine == cpos.line) = true := by rfl) :
    PI X (.Tuple elts kk tpos) (.Call (.Attribute e "items" apos) [] [] cpos) (rdI G E (srcD f)) :=
  piI (pi_items he hb hl) fun σ H R h => by
    obtain ⟨ι, ρ, M, st, p⟩ := h
    refine ⟨ι, ρ, M, st, (Post.bnd p).mono fun d ι1 M1 H1 x1 p1 v rv => ?_⟩
    cases rv with
    | g rv =>
      cases rv with
      | @dct a o kvs kds h r =>
        refine ⟨a, o, kvs, rfl, h, Post.rt x1.mem p1 _ ⟨fun i H2 k hi => ⟨k.frz _ _ _ h, ?_⟩, fun H2 k => ⟨k.frz _ _ _ h, ?_⟩, fun i H2 x H3 k hi y => ?_⟩⟩
        · rw [dIts_len] at hi
          rw [r.length]
          exact hi
        · rw [dIts_len, r.length]
          exact Nat.le_refl _
        · obtain ⟨T, kk, w, e1, rfl, hT, rfl⟩ := y
          rw [dIts_len] at hi
          obtain ⟨k2, z, j, v2, g1, g2, g3, g4⟩ := dIts_get r hi
          rw [g2] at e1
          cases e1
          refine ⟨_, g1, .g (.tup upd_same (.cons ?_ (.cons ?_ .nil))), .inr ⟨T, _, hT, rfl⟩⟩
          · rw [g3]
            exact .int k2
          · exact (g4.mono k).mono (keep_new hT)
      | _ => exact p1.elim
    | r _ => exact p1.elim
    | t _ _ => exact p1.elim

/-! ### for -/
def forL (tf : Dv → Slots → Co Slots) (b : Slots → Co Fl) : List Dv → Slots → Co Fl
  | [], ρ => rt (.nx ρ)
  | d :: r, ρ => bnd (tf d ρ) fun ρ1 => bnd (b ρ1) fun f => match f with
    | .nx ρ2 => forL tf b r ρ2
    | .ct ρ2 => forL tf b r ρ2
    | .bk ρ2 => rt (.nx ρ2)
    | .rt d => rt (.rt d)
def forX (src : Slots → Co (List Dv)) (tf : Dv → Slots → Co Slots) (b : Slots → Co Fl) : Slots → Co Fl := fun ρ => bnd (src ρ) fun ds => forL tf b ds ρ
theorem wk_new {ι : List Addr} {M : Mem} {H H2 : Hp} (m : MemR G ι H M) (h : H2 = H ∨ ∃ T vs, H T = none ∧ H2 = upd H T (.tup vs)) : Ext G ι H ι M H2 := by
  rcases h with rfl | ⟨T, vs, hT, rfl⟩
  · exact .refl m
  · exact .new m hT
theorem xfor {body : List Stmt} {src : Slots → Co (List Dv)} {tf : Dv → Slots → Co Slots} {b : Slots → Co Fl} {iter : Expr} (hp : PassesOwn (model X.prog X.w) X.A X.env X.xe) (hc : X.calm = true) (hi : PI X tg iter (rdI G E src)) (hg : PG X tg (rdG G E tf)) (hb : PSs X body (rdS G E b))
    (hs : ∀ x, foldedSetIterable iter X.env x = pure x := by intro _; rfl) : PS X (.For tg iter body [] pos) (rdS G E (forX src tf b)) :=
  psI (ps_for hp hc hi hg hb hs) fun D σ H h => by
    obtain ⟨ι, ρ, M, st, p⟩ := h
    refine ⟨ι, ρ, M, st, (Post.bnd p).mono fun ds ι1 M1 H1 x1 p1 J wk => ?_⟩
    refine ⟨fun i m σ H => i + m = ds.length ∧ Keep H1 H ∧ ∃ ι ρ M, ι1 <+: ι ∧ StR G H σ ι ρ M ∧ Post G E ι H (QS G D) (forL tf b (ds.drop i) ρ M), ⟨ds.length, Nat.zero_add _, .refl _, ι1, ρ, M1, List.prefix_refl _, st.ext x1, p1⟩, ?_⟩
    rintro i m σ2 H2 ⟨him, k2, ι2, ρ2, M2, pr2, st2, p2⟩
    by_cases hlt : i < ds.length
    · right
      obtain ⟨m', rfl⟩ : ∃ m', m = m' + 1 := ⟨m - 1, by omega⟩
      refine ⟨wk.go i H2 k2 hlt, fun σ H => ((i + 1) + m' = ds.length ∧ Keep H1 H ∧ ∃ ι ρ M, ι1 <+: ι ∧ StR G H σ ι ρ M ∧ Post G E ι H (QS G D) (forL tf b (ds.drop (i + 1)) ρ M)), fun σ H z => ⟨m', Nat.lt_succ_self _, z⟩, fun x H3 y => ?_⟩
      obtain ⟨d, e1, rd, new⟩ := wk.yld i H2 x H3 k2 hlt y
      have e2 : ds.drop i = d :: ds.drop (i + 1) := by
        rw [List.drop_eq_getElem_cons hlt]
        rw [List.getElem?_eq_getElem hlt] at e1
        cases e1
        rfl
      have x3 : Ext G ι2 H2 ι2 M2 H3 := wk_new st2.mem new
      rw [e2, forL] at p2
      have p3 := p2.shift x3
      refine ⟨ι2, ρ2, M2, d, st2.ext x3, rd.mono pr2 (.refl _), (Post.bnd p3).mono fun ρ' ι4 M4 H4 x4 p4 σ' st' => ?_⟩
      refine ⟨ι4, ρ', M4, st', (Post.bnd p4).mono fun fl ι5 M5 H5 x5 p5 => ?_⟩
      have k5 : Keep H1 H5 := ((k2.trans x3.keep).trans x4.keep).trans x5.keep
      have pr5 : ι1 <+: ι5 := (pr2.trans x4.pre).trans x5.pre
      cases fl with
      | nx ρ5 => exact fun σ5 st5 => ⟨by omega, k5, ι5, ρ5, M5, pr5, st5, p5⟩
      | ct ρ5 => exact fun σ5 st5 => ⟨by omega, k5, ι5, ρ5, M5, pr5, st5, p5⟩
      | bk ρ5 => exact Post.rt (E := E) x5.mem p5
      | rt d => exact Post.rt (E := E) x5.mem p5
    · left
      have hi : i = ds.length := by omega
      subst hi
      rw [List.drop_length, forL] at p2
      exact ⟨wk.stop H2 k2, Post.rt (E := E) st2.mem p2 _ st2⟩
/-! ### while: n turns at most -/
def whl (c : Slots → Co Bool) (b : Slots → Co Fl) : Nat → Slots → Co Fl
  | 0, _ => fl
  | n + 1, ρ => bnd (c ρ) fun q => match q with
    | false => rt (.nx ρ)
    | true => bnd (b ρ) fun f => match f with
      | .nx ρ2 => whl c b n ρ2
      | .ct ρ2 => whl c b n ρ2
      | .bk ρ2 => rt (.nx ρ2)
      | .rt d => rt (.rt d)
theorem xwhl {c : Expr} {body : List Stmt} {cf : Slots → Co Bool} {b : Slots → Co Fl} (n : Nat) (hp : PassesOwn (model X.prog X.w) X.A X.env X.xe) (hc : PT X c (rdT G E cf)) (hb : PSs X body (rdS G E b)) : PS X (.While c body [] pos) (rdS G E (whl cf b n)) :=
  psI (ps_while hp hc hb) fun D σ H h => by
    refine ⟨fun m σ H => rdS G E (whl cf b m) D σ H, ⟨n, h⟩, ?_⟩
    rintro m σ1 H1 ⟨ι, ρ, M, st, p⟩
    cases m with
    | zero => exact p.elim
    | succ m =>
      rw [whl] at p
      refine ⟨ι, ρ, M, st, (Post.bnd p).mono fun q ι1 M1 H1 x1 p1 => ?_⟩
      cases q with
      | false => exact iteF (Post.rt (E := E) x1.mem p1 _ (st.ext x1))
      | true =>
        refine iteT ⟨rdS G E (whl cf b m) D, fun σ H z => ⟨m, Nat.lt_succ_self _, z⟩, ι1, ρ, M1, st.ext x1, (Post.bnd p1).mono fun fl ι2 M2 H2 x2 p2 => ?_⟩
        cases fl with
        | nx ρ2 => exact fun σ2 st2 => ⟨ι2, ρ2, M2, st2, p2⟩
        | ct ρ2 => exact fun σ2 st2 => ⟨ι2, ρ2, M2, st2, p2⟩
        | bk ρ2 => exact Post.rt (E := E) x2.mem p2
        | rt d => exact Post.rt (E := E) x2.mem p2
end
end Xt
set_option Elab.async false
set_option linter.all false
set_option maxRecDepth 100000
set_option maxHeartbeats 1000000
namespace Xt
open PySem PySem.Spec PyProof.Rows L2

/-! ### a heap without one object (the list that is being made) -/
def hid (H : Hp) (D : Addr) : Hp := fun b => if b = D then none else H b
section
variable {G : Gx} {E : XK} {ι : List Addr} {H H' : Hp} {M : Mem} {D : Addr} {vs : List V}
theorem hid_ne {b : Addr} (h : b ≠ D) : hid H D b = H b := if_neg h
theorem hid_at : hid H D D = none := if_pos rfl
theorem hid_some {b : Addr} {o : HO} (h : hid H D b = some o) : b ≠ D ∧ H b = some o := by
  by_cases e : b = D
  · rw [e, hid_at] at h
    cases h
  · rw [hid_ne e] at h
    exact ⟨e, h⟩
theorem keep_up : Keep (hid H D) H := ⟨fun _ _ _ h => (hid_some h).2, fun _ _ h => (hid_some h).2⟩
theorem keep_dn (hD : H D = some (.lst vs)) : Keep H (hid H D) :=
  ⟨fun a o u h => by rw [hid_ne (fun e => by rw [e, hD] at h; cases h)]; exact h, fun a xs h => by rw [hid_ne (fun e => by rw [e, hD] at h; cases h)]; exact h⟩
theorem MemR.up (m : MemR G ι (hid H D) M) : MemR G ι H M :=
  ⟨m.len, m.nd, fun i a mo h1 h2 => by
    obtain ⟨o, ho⟩ := m.at (List.mem_of_getElem? h1)
    exact (m.ob i a mo h1 h2).mono (List.prefix_refl _) keep_up (by rw [hid_ne (hid_some ho).1]), fun P hP => (m.tab P hP).to (fun ps h => (hid_some h).2) fun c f h => (hid_some h).2⟩
theorem MemR.dn (hD : H D = some (.lst vs)) (hn : D ∉ ι) (m : MemR G ι H M) : MemR G ι (hid H D) M :=
  ⟨m.len, m.nd, fun i a mo h1 h2 => by
    have ne : a ≠ D := fun e => hn (by rw [← e]; exact List.mem_of_getElem? h1)
    exact (m.ob i a mo h1 h2).mono (List.prefix_refl _) (keep_dn hD) (hid_ne ne), fun P hP => (m.tab P hP).to (fun ps h => by rw [hid_ne (fun e => by rw [e, hD] at h; cases h)]; exact h) fun c f h => by rw [hid_ne (fun e => by rw [e, hD] at h; cases h)]; exact h⟩
theorem StR.up {σ : L2.St} {ρ : Slots} (s : StR G (hid H D) σ ι ρ M) : StR G H σ ι ρ M :=
  ⟨s.len, s.mem.up, fun i d h n => by
    obtain ⟨v, e, r⟩ := s.sl i d h n
    exact ⟨v, e, r.mono (List.prefix_refl _) keep_up⟩⟩
theorem StR.dn {σ : L2.St} {ρ : Slots} (hD : H D = some (.lst vs)) (hn : D ∉ ι) (s : StR G H σ ι ρ M) : StR G (hid H D) σ ι ρ M :=
  ⟨s.len, s.mem.dn hD hn, fun i d h n => by
    obtain ⟨v, e, r⟩ := s.sl i d h n
    exact ⟨v, e, r.mono (List.prefix_refl _) (keep_dn hD)⟩⟩
/-- what happens with the list in sight happens without -/
theorem Ext.hid {ι' : List Addr} {M' : Mem} (hD : H D = some (.lst vs)) (hn : D ∉ ι) (x : Ext G ι H ι' M' H') : Ext G ι (Xt.hid H D) ι' M' (Xt.hid H' D) ∧ H' D = some (.lst vs) ∧ D ∉ ι' := by
  have hn' : D ∉ ι' := fun z => by
    have e := x.fresh D z hn
    rw [hD] at e
    cases e
  have hD' : H' D = some (.lst vs) := x.frame D _ hD rfl hn
  refine ⟨⟨x.pre, x.mem.dn hD' hn', (keep_up.trans x.keep).trans (keep_dn hD'), fun b o h1 h2 h3 => ?_, fun b ps h => ?_, fun a h n => ?_⟩, hD', hn'⟩
  · obtain ⟨ne, h⟩ := hid_some h1
    rw [hid_ne ne]
    exact x.frame b o h h2 h3
  · obtain ⟨ne, h⟩ := hid_some h
    rw [hid_ne ne]
    exact x.tbl b ps h
  · by_cases e : a = D
    · rw [e]
      exact hid_at
    · rw [hid_ne e]
      exact x.fresh a h n
/-- no exception -/
def nox {α : Type} (c : Co α) : Co α := fun M => match c M with
  | .ex _ _ => .fail
  | r => r
theorem Post.hid {α : Type} {E' : XK} {c : Co α} {Q : α → List Addr → Mem → Hp → Prop} (hD : H D = some (.lst vs)) (hn : D ∉ ι) (p : Post G E ι (Xt.hid H D) Q (nox c M)) :
    Post G E' ι H (fun a ι' M' H' => Q a ι' M' (Xt.hid H' D) ∧ H' D = some (.lst vs) ∧ D ∉ ι') (c M) := by
  unfold nox at p
  cases e : c M with
  | fail =>
    rw [e] at p
    exact p.elim
  | ex _ _ =>
    rw [e] at p
    exact p.elim
  | ok a M' =>
    rw [e] at p
    intro ι' H' x
    obtain ⟨y, h1, h2⟩ := x.hid hD hn
    exact ⟨p ι' _ y, h1, h2⟩

/-! ### a comprehension's targets: its own names -/
def wip (ρ : Slots) : List Nat → Slots
  | [] => ρ
  | i :: r => (wip ρ r).set i .u
theorem wip_st {σ : L2.St} {ρ : Slots} (s : StR G H σ ι ρ M) : ∀ own : List Nat, StR G H (wipe σ own) ι (wip ρ own) M
  | [] => s
  | i :: r => by
    have q := wip_st s r
    refine ⟨?_, q.mem, fun j d h n => ?_⟩
    · rw [wip, wipe_length, List.length_set]
      have e := q.len
      rw [wipe_length] at e
      exact e
    · rw [wip] at h
      by_cases hj : i = j
      · subst hj
        by_cases hl : i < (wip ρ r).length
        · rw [List.getElem?_set_self hl] at h
          cases h
          exact absurd rfl n
        · rw [List.getElem?_eq_none (by rw [List.length_set]; omega)] at h
          cases h
      · rw [List.getElem?_set_ne hj] at h
        obtain ⟨v, e, r'⟩ := q.sl j d h n
        refine ⟨v, ?_, r'⟩
        show ((wipe σ r).set i none)[j]? = some (some v)
        rw [List.getElem?_set_ne hj]
        exact e
theorem wipe_set (σ : L2.St) (i : Nat) (v : Option V) : ∀ {own : List Nat}, i ∈ own → wipe (σ.set i v) own = wipe σ own
  | [], h => by cases h
  | j :: r, h => by
    show (wipe (σ.set i v) r).set j none = (wipe σ r).set j none
    by_cases hr : i ∈ r
    · rw [wipe_set σ i v hr]
    · have e : i = j := by
        rcases List.mem_cons.mp h with e | h
        · exact e
        · exact absurd h hr
      subst e
      have com : ∀ (l : List Nat), i ∉ l → wipe (σ.set i v) l = (wipe σ l).set i v := by
        intro l
        induction l with
        | nil => intro _; rfl
        | cons k l ih =>
          intro hk
          show (wipe (σ.set i v) l).set k none = ((wipe σ l).set k none).set i v
          rw [ih (fun z => hk (List.mem_cons_of_mem _ z)), List.set_comm _ _ (fun z => hk (by rw [z]; exact List.mem_cons_self))]
      rw [com r hr, List.set_set]
theorem wipe_com (i : Nat) (v : Option V) : ∀ (l : List Nat) (σ : L2.St), i ∉ l → wipe (σ.set i v) l = (wipe σ l).set i v
  | [], _, _ => rfl
  | k :: l, σ, hk => by
    show (wipe (σ.set i v) l).set k none = ((wipe σ l).set k none).set i v
    rw [wipe_com i v l σ (fun z => hk (List.mem_cons_of_mem _ z)), List.set_comm _ _ (fun z => hk (by rw [z]; exact List.mem_cons_self))]
theorem wipe_wipe (σ : L2.St) : ∀ own : List Nat, wipe (wipe σ own) own = wipe σ own
  | [] => rfl
  | i :: r => by
    show (wipe ((wipe σ r).set i none) r).set i none = (wipe σ r).set i none
    by_cases hr : i ∈ r
    · rw [wipe_set _ i none hr, wipe_wipe σ r]
    · rw [wipe_com i none r _ hr, List.set_set, wipe_wipe σ r]
/-- g binds as tf does, and its own names alone -/
def TgS (G : Gx) (E : XK) (own : List Nat) (g : TG) (tf : Dv → Slots → Co Slots) : Prop := ∀ (ι : List Addr) (ρ : Slots) (M : Mem) (σ : L2.St) (H : Hp) (v : V) (d : Dv) (Q : L2.St → Hp → Prop), StR G H σ ι ρ M → RpD G ι H v d →
  Post G E ι H (fun ρ' ι' M' H' => ∀ σ', StR G H' σ' ι' ρ' M' → wipe σ' own = wipe σ own → Q σ' H') (tf d ρ M) → g v σ H Q
theorem tg_n {own : List Nat} {i : Nat} (h : i ∈ own) : TgS G E own (gName i) (tN i) := fun ι ρ M σ H v d Q s r p => Post.rt (E := E) s.mem p _ (s.set i r) (wipe_set σ i _ h)
theorem tg_2 {own : List Nat} {K : PySem.W.Frag} {i j : Nat} (hi : i ∈ own) (hj : j ∈ own) : TgS G E own (gTup K 2 (gCons (gName i) (gCons (gName j) gNil))) (tT 2 (tC (tN i) (tC (tN j) tZ))) := fun ι ρ M σ H v d Q s r p => by
  obtain ⟨ds, e, p⟩ := Post.ofO p
  obtain ⟨c, p⟩ := Post.chk p
  obtain ⟨a, vs, rfl, h1, h2⟩ := asT_rp r e
  have hl : ds.length = 2 := Nat.eq_of_beq_eq_true c
  cases h2 with
  | nil => cases hl
  | cons r1 h2 =>
    cases h2 with
    | nil => cases hl
    | cons r2 h2 =>
      cases h2 with
      | cons _ _ => cases hl
      | nil =>
        refine ⟨a, _, rfl, .of h1, rfl, _, _, rfl, _, _, rfl, rfl, ?_⟩
        exact Post.rt (E := E) s.mem p _ ((s.set i r1).set j r2) (by rw [wipe_set _ j _ hj, wipe_set _ i _ hi])
theorem tg_3 {own : List Nat} {K : PySem.W.Frag} {i j k : Nat} (hi : i ∈ own) (hj : j ∈ own) (hk : k ∈ own) : TgS G E own (gTup K 3 (gCons (gName i) (gCons (gName j) (gCons (gName k) gNil)))) (tT 3 (tC (tN i) (tC (tN j) (tC (tN k) tZ)))) := fun ι ρ M σ H v d Q s r p => by
  obtain ⟨ds, e, p⟩ := Post.ofO p
  obtain ⟨c, p⟩ := Post.chk p
  obtain ⟨a, vs, rfl, h1, h2⟩ := asT_rp r e
  have hl : ds.length = 3 := Nat.eq_of_beq_eq_true c
  cases h2 with
  | nil => cases hl
  | cons r1 h2 =>
    cases h2 with
    | nil => cases hl
    | cons r2 h2 =>
      cases h2 with
      | nil => cases hl
      | cons r3 h2 =>
        cases h2 with
        | cons _ _ => cases hl
        | nil =>
          refine ⟨a, _, rfl, .of h1, rfl, _, _, rfl, _, _, rfl, _, _, rfl, rfl, ?_⟩
          exact Post.rt (E := E) s.mem p _ (((s.set i r1).set j r2).set k r3) (by rw [wipe_set _ k _ hk, wipe_set _ j _ hj, wipe_set _ i _ hi])
/-- tests: none, one -/
def PtS (G : Gx) (E : XK) (t : TT) (tt : Slots → Co Bool) : Prop := ∀ (ι : List Addr) (ρ : Slots) (M : Mem) (σ : L2.St) (H : Hp) (Q : Bool → Hp → Prop), StR G H σ ι ρ M → Post G E ι H (fun b _ _ H' => Q b H') (tt ρ M) → t σ H Q
def yes : Slots → Co Bool := fun _ => rt true
theorem pt_0 : PtS G E tYes yes := fun ι ρ M σ H Q s p => Post.rt (E := E) s.mem p
theorem pt_1 {tt : Slots → Co Bool} : PtS G E (rdT G E tt) tt := fun ι ρ M σ H Q s p => ⟨ι, ρ, M, s, p⟩
def gOf : Dv → Option PyData
  | .g x => some x
  | _ => none
/-! ### a list comprehension -/
def lcL (tf : Dv → Slots → Co Slots) (tt : Slots → Co Bool) (te : Slots → Co Dv) (ρ : Slots) : List Dv → Co (List PyData)
  | [] => rt []
  | d :: r => bnd (nox (tf d ρ)) fun ρ1 => bnd (nox (tt ρ1)) fun q => match q with
    | true => bnd (nox (te ρ1)) fun y => bnd (ofO (gOf y)) fun x => bnd (lcL tf tt te ρ r) fun xs => rt (x :: xs)
    | false => lcL tf tt te ρ r
def lcX (own : List Nat) (src : Slots → Co (List Dv)) (tf : Dv → Slots → Co Slots) (tt : Slots → Co Bool) (te : Slots → Co Dv) : Slots → Co Dv := fun ρ => bnd (src ρ) fun ds => chk (szOk ds.length) (bnd (lcL tf tt te (wip ρ own) ds) fun xs => rt (.g (.list xs)))
theorem bnd_assoc {α β γ : Type} (f : Co α) (k : α → Co β) (l : β → Co γ) : bnd (bnd f k) l = bnd f fun a => bnd (k a) l := by
  funext M
  unfold bnd
  cases f M <;> rfl
theorem bnd_rt {α β : Type} (a : α) (k : α → Co β) : bnd (rt a) k = k a := rfl
theorem RpVs.snoc {K : PySem.W.Frag} {vs : List V} {xs : List PyData} {v : V} {x : PyData} (h : RpVs K H vs xs) (z : RpV K H v x) : RpVs K H (vs ++ [v]) (xs ++ [x]) := h.append (.cons z .nil)
end
section
variable {X : Cx} {G : Gx} {E : XK} {e : Expr} {es : List Expr} {f : Slots → Co Dv} {pos p : Pos} {tg : Expr}
theorem rd_lc {src : Slots → Co (List Dv)} {tf : Dv → Slots → Co Slots} {tt : Slots → Co Bool} {te : Slots → Co Dv} {g : TG} {t : TT} {own : List Nat} (hg : TgS G E0 own g tf) (ht : PtS G E0 t tt) {σ : L2.St} {H : Hp} {Q : VK} (h : rdE G E (lcX own src tf tt te) σ H Q) :
    tLc (rdI G E src) g t (rdE G E0 te) own σ H (VF Q) := by
  obtain ⟨ι, ρ, M, st, p⟩ := h
  refine ⟨ι, ρ, M, st, (Post.bnd p).mono fun ds ι1 M1 H1 x1 p1 J wk D hD => ?_⟩
  obtain ⟨sz, p2⟩ := Post.chk p1
  have hn : D ∉ ι1 := fun z => by
    obtain ⟨o, ho⟩ := x1.mem.at z
    rw [hD] at ho
    cases ho
  have h0 : hid (upd H1 D (.lst [])) D = H1 := by
    funext b
    by_cases e : b = D
    · rw [e, hid_at, hD]
    · rw [hid_ne e, upd_ne e]
  refine ⟨fun i m Hc => i + m = ds.length ∧ Keep H1 Hc ∧ ∃ ι2 M2 xs vs, ι1 <+: ι2 ∧ D ∉ ι2 ∧ Hc D = some (.lst vs) ∧ RpVs G.K Hc vs xs ∧ xs.length ≤ i ∧ StR G (hid Hc D) σ ι2 ρ M2 ∧
    Post G E ι2 (hid Hc D) (QE G Q) (bnd (lcL tf tt te (wip ρ own) (ds.drop i)) (fun ys => rt (.g (.list (xs ++ ys)))) M2), ⟨ds.length, Nat.zero_add _, keep_new hD, ι1, M1, [], [], List.prefix_refl _, hn, upd_same, .nil, Nat.le_refl _, by rw [h0]; exact st.ext x1, by rw [h0]; exact p2⟩, ?_⟩
  rintro i m Hc ⟨him, kc, ι2, M2, xs, vs, pr2, hn2, hDc, rxs, hlen, st2, p3⟩
  by_cases hlt : i < ds.length
  · right
    obtain ⟨m', rfl⟩ : ∃ m', m = m' + 1 := ⟨m - 1, by omega⟩
    refine ⟨wk.go i Hc kc hlt, _, fun Hn z => ⟨m', Nat.lt_succ_self _, z⟩, fun x H3 y => ?_⟩
    obtain ⟨d, e1, rd, new⟩ := wk.yld i Hc x H3 kc hlt y
    have e2 : ds.drop i = d :: ds.drop (i + 1) := by
      rw [List.drop_eq_getElem_cons hlt]
      rw [List.getElem?_eq_getElem hlt] at e1
      cases e1
      rfl
    -- the item's own tuple
    have hD3 : H3 D = some (.lst vs) := by
      rcases new with rfl | ⟨T, ws, hT, rfl⟩
      · exact hDc
      · rw [upd_ne (ne_of_none hDc hT)]
        exact hDc
    have x3 : Ext G ι2 (hid Hc D) ι2 M2 (hid H3 D) := by
      rcases new with rfl | ⟨T, ws, hT, rfl⟩
      · exact .refl st2.mem
      · have e : hid (upd Hc T (.tup ws)) D = upd (hid Hc D) T (.tup ws) := by
          funext b
          by_cases e : b = D
          · rw [e, hid_at, upd_ne (ne_of_none hDc hT), hid_at]
          · by_cases e2 : b = T
            · rw [e2, hid_ne (fun z => e (e2.trans z)), upd_same, upd_same]
            · rw [hid_ne e, upd_ne e2, upd_ne e2, hid_ne e]
        rw [e]
        refine .new st2.mem ?_
        by_cases e2 : T = D
        · rw [e2]
          exact hid_at
        · rw [hid_ne e2]
          exact hT
    have k3 : Keep Hc H3 := by
      rcases new with rfl | ⟨T, ws, hT, rfl⟩
      · exact .refl _
      · exact keep_new hT
    have p4 := p3.shift x3
    rw [e2, lcL, bnd_assoc] at p4
    have st3 := (wip_st (st2.ext x3) own).up
    refine hg ι2 _ M2 _ H3 x d _ st3 (rd.mono pr2 (.refl _)) ((Post.hid hD3 hn2 (Post.bnd p4)).mono fun ρ1 ι4 M4 H4 x4 ⟨p5, hD4, hn4⟩ σ4 st4 hw => ⟨hw.trans (wipe_wipe σ own), ?_⟩)
    rw [bnd_assoc] at p5
    refine ht ι4 ρ1 M4 σ4 H4 _ st4 ((Post.hid hD4 hn4 (Post.bnd p5)).mono fun q ι5 M5 H5 x5 ⟨p6, hD5, hn5⟩ => ?_)
    have st5 : StR G (hid H5 D) σ ι5 ρ M5 := by
      have y4 := (x4.hid hD3 hn2).1
      have y5 := (x5.hid hD4 hn4).1
      exact ((st2.ext x3).ext y4).ext y5
    have k5 : Keep H1 H5 := (((kc.trans k3).trans x4.keep).trans x5.keep)
    have pr5 : ι1 <+: ι5 := (pr2.trans x4.pre).trans x5.pre
    cases q with
    | false =>
      refine iteF ⟨by omega, k5, ι5, M5, xs, vs, pr5, hn5, hD5, ((rxs.mono k3).mono x4.keep).mono x5.keep, by omega, st5, p6⟩
    | true =>
      refine iteT ?_
      rw [bnd_assoc] at p6
      refine ⟨ι5, ρ1, M5, (st4.ext x5), (Post.hid hD5 hn5 (Post.bnd p6)).mono fun d6 ι6 M6 H6 x6 ⟨p7, hD6, hn6⟩ v6 rv6 => ?_⟩
      rw [bnd_assoc] at p7
      obtain ⟨z, ez, p8⟩ := Post.ofO p7
      have ed : d6 = .g z := by
        cases d6 with
        | g w =>
          cases ez
          rfl
        | _ => cases ez
      subst ed
      cases rv6 with
      | g rv6 =>
        have rx6 : RpVs G.K H6 vs xs := (((rxs.mono k3).mono x4.keep).mono x5.keep).mono x6.keep
        have h6 : hid (upd H6 D (.lst (vs ++ [v6]))) D = hid H6 D := by
          funext b
          by_cases e : b = D
          · rw [e, hid_at, hid_at]
          · rw [hid_ne e, hid_ne e, upd_ne e]
        have ks : Keep H6 (upd H6 D (.lst (vs ++ [v6]))) := keep_store hD6 rfl
        refine ⟨vs, hD6, ?_, by omega, (k5.trans x6.keep).trans ks, ι6, M6, xs ++ [z], vs ++ [v6], pr5.trans x6.pre, hn6, upd_same, (rx6.snoc rv6).mono ks, ?_, ?_, ?_⟩
        · have h9 := szOk_le sz
          rw [rxs.length]
          omega
        · rw [List.length_append]
          show xs.length + 1 ≤ i + 1
          omega
        · rw [h6]
          exact st5.ext (x6.hid hD5 hn5).1
        · rw [h6]
          rw [bnd_assoc] at p8
          have e9 : ∀ ys, xs ++ [z] ++ ys = xs ++ z :: ys := fun ys => by simp
          simp only [e9]
          exact p8
  · left
    have hi : i = ds.length := by omega
    subst hi
    rw [List.drop_length, lcL, bnd_rt, List.append_nil] at p3
    refine ⟨wk.stop Hc kc, .inr ⟨D, .lst vs, rfl, hDc, trivial, fun od => ?_⟩⟩
    have e : upd Hc D (.frz od (.lst vs)) = upd (hid Hc D) D (.frz od (.lst vs)) := by
      funext b
      by_cases e : b = D
      · rw [e, upd_same, upd_same]
      · rw [upd_ne e, upd_ne e, hid_ne e]
    rw [e]
    have x9 : Ext G ι2 (hid Hc D) ι2 M2 (upd (hid Hc D) D (.frz od (.lst vs))) := .new st2.mem hid_at
    exact Post.rt (E := E) x9.mem (p3.shift x9) _ (.g (.lst (.inl ⟨od, upd_same⟩) ((rxs.mono (keep_dn hDc)).mono x9.keep)))
theorem xlc {elt iter : Expr} {ifs : List Expr} {scope : Scope} {own : List (Str × Nat)} {src : Slots → Co (List Dv)} {tf : Dv → Slots → Co Slots} {tt : Slots → Co Bool} {te : Slots → Co Dv} {g : TG} {t : TT} (hc : X.calm = true) (hN : X.N.Nodup) (hi : PI X tg iter (rdI G E src)) (ok : BlkOk X.N X.env.scope scope own)
    (tg_ : TgS G E0 (own.map (·.2)) g tf) (pt_ : PtS G E0 t tt) (hg : ∀ (s : Shared) (H : Hp) (C : Addr) (cl : List (Str × Addr)) (fp : List Addr), PG (X.blk s H scope (compEnvC scope cl C X.env) fp) tg g) (ht : ∀ (s : Shared) (H : Hp) (C : Addr) (cl : List (Str × Addr)) (fp : List Addr), PTs (X.blk s H scope (compEnvC scope cl C X.env) fp) ifs t)
    (he : ∀ (s : Shared) (H : Hp) (C : Addr) (cl : List (Str × Addr)) (fp : List Addr), PE (X.blk s H scope (compEnvC scope cl C X.env) fp) elt (rdE G E0 te)) (hs : ∀ x, foldedSetIterable iter X.env x = pure x := by intro _; rfl) :
    PE X (.ListComp elt [⟨tg, iter, ifs, 0⟩] scope pos) (rdE G E (lcX (own.map (·.2)) src tf tt te)) :=
  peI (pe_frz (pe_lc hc hN hi ok hg ht he hs)) fun _ _ _ h => rd_lc tg_ pt_ h
end
end Xt
set_option Elab.async false
set_option linter.all false
set_option maxRecDepth 100000
set_option maxHeartbeats 1000000
namespace Xt
open PySem PySem.Spec PyProof.Rows L2

/-! ### defs by name -/
/-- the def that stands under the name x gives what F n gives, with n calls, one in another -/
def Dok (P : Program) (w : World) (base : Heap) (CX : CXT) (G : Gx) (x : Str) (ps : List Str) (n : Nat) (F : List Dv → Co Dv) : Prop :=
  ∃ (fa : Addr) (fd : FuncData), G.mg x = some (.ref fa) ∧ PySem.W.keepIn G.K (.ref fa) = true ∧ Binds G.K fd ps [] ∧ FnOk P w G.K G.mg base CX n fa fd ps (spF G F)
theorem Dok.imp {P : Program} {w : World} {base : Heap} {CX : CXT} {G : Gx} {x : Str} {ps : List Str} {n : Nat} {F F' : List Dv → Co Dv} (d : Dok P w base CX G x ps n F) (h : ∀ ds M, F' ds M = F ds M ∨ F' ds M = .fail) : Dok P w base CX G x ps n F' := by
  obtain ⟨fa, fd, h1, h2, h3, h4⟩ := d
  exact ⟨fa, fd, h1, h2, h3, h4.imp fun vs H Q E s => spF_imp h s⟩
theorem Dok.mono {P : Program} {w : World} {base : Heap} {CX : CXT} {G : Gx} {x : Str} {ps : List Str} {n m : Nat} {F : List Dv → Co Dv} (d : Dok P w base CX G x ps n F) (h : n ≤ m) : Dok P w base CX G x ps m F := by
  obtain ⟨fa, fd, h1, h2, h3, h4⟩ := d
  exact ⟨fa, fd, h1, h2, h3, h4.mono h⟩
theorem px0 {X : Cx} {E : XK} : Passes CX0 X E := fun _ _ _ _ _ _ _ h => h.elim
section
variable {X : Cx} {G : Gx} {E : XK} {e : Expr} {es : List Expr} {gs : Slots → Co (List Dv)} {pos p : Pos} {CX : CXT} {x : Str} {ps : List Str} {n : Nat} {F : List Dv → Co Dv}
theorem xcP (d : Dok X.prog X.w X.base CX G x ps n F) (hK : X.K = G.K) (hm : X.mg = G.mg) (hr : Room n X.A) (hx : Passes CX X E) (ha : PA X (e :: es) (rdA G E gs)) (hg : Gl X x := by rfl)
    (hdb : (x == ("__debug__" : Str)) = false := by decide) (he : starEach (e :: es) X.env = (false, eval e X.env) :: starEach es X.env := by rfl) (hpl : (backTo pos (starEach es X.env)).any (·.1) = false := by rfl) :
    PE X (.Call (.Name x p) (e :: es) [] pos) (rdE G E (cB (pureC F) gs)) := by
  obtain ⟨fa, fd, h1, h2, h3, h4⟩ := d
  rw [← hK, ← hm] at h4
  rw [← hm] at h1
  rw [← hK] at h2 h3
  exact xcallP h4 hr hg h1 h2 h3 hx ha hdb he hpl
theorem xcW (d : Dok X.prog X.w X.base CX G x ps n F) (hK : X.K = G.K) (hm : X.mg = G.mg) (hr : Room n X.A) (hx : Passes CX X E) (ha : PA X (e :: es) (rdA G E gs)) (hg : Gl X x := by rfl)
    (hdb : (x == ("__debug__" : Str)) = false := by decide) (he : starEach (e :: es) X.env = (false, eval e X.env) :: starEach es X.env := by rfl) (hpl : (backTo pos (starEach es X.env)).any (·.1) = false := by rfl) :
    PE X (.Call (.Name x p) (e :: es) [] pos) (rdE G E (cB F gs)) := by
  obtain ⟨fa, fd, h1, h2, h3, h4⟩ := d
  rw [← hK, ← hm] at h4
  rw [← hm] at h1
  rw [← hK] at h2 h3
  exact xcallW h4 hr hg h1 h2 h3 hx ha hdb he hpl
end
/-! ### what the head tells -/
structure Tx (fa : List He.Fa) (fn : List He.DefD) (G : Gx) : Prop where
  says : He.SaysD fa fn G.K
  hp : ∃ h : Heap, G.K.In h ∧ h.Ns mainGlobals G.mg
section
variable {fa : List He.Fa} {fn : List He.DefD} {G : Gx}
theorem Tx.glo (T : Tx fa fn G) {x : Str} (i : Nat) (h : fa[i]? = some (.glo x) := by rfl) : G.mg x = some (.ref (He.ga G.K x)) := by
  obtain ⟨hh, h1, h2⟩ := T.hp
  exact He.glo_ok h1 h2 (T.says.fact i h)
theorem Tx.free (T : Tx fa fn G) {x : Str} (i : Nat) (h : fa[i]? = some (.free x) := by rfl) : G.mg x = none := by
  obtain ⟨hh, h1, h2⟩ := T.hp
  exact He.free_ok h1 h2 (T.says.fact i h)
theorem Tx.int (T : Tx fa fn G) {x : Str} {z : Int} (i : Nat) (h : fa[i]? = some (.int x z) := by rfl) : ∃ t, G.mg x = some (.int z t) := by
  obtain ⟨hh, h1, h2⟩ := T.hp
  exact He.int_ok h1 h2 (T.says.fact i h)
end
/-- nothing is promised with no call -/
theorem fn_zero {P : Program} {w : World} {K : PySem.W.Frag} {mg : Str → Option Value} {base : Heap} {CX : CXT} {k : Nat} {f : Addr} {fd : FuncData} {ps : List Str} {G : Gx} : FnOk P w K mg base CX k f fd ps (spF G fun _ => fl) := by
  have no : ∀ vs H Q E, ¬ spF G (fun _ => fl) vs H Q E := fun vs H Q E h => by
    obtain ⟨ι, M, ds, _, _, p⟩ := h
    exact p.elim
  exact ⟨fun vs H Q E h => absurd h (no vs H Q E), fun A outer s H args us vs Q E _ _ _ _ h => absurd h (no vs H Q E)⟩
/-- a def of the text, by its body: n calls for what it calls -/
theorem dok_mk {P : Program} {w : World} {base : Heap} {G : Gx} {x nm qual : Str} {params : Arguments} {body : List Stmt} {scope : Scope} {fa : Addr} {N ps : List Str} {Fn : Nat → List Dv → Co Dv} {b : Nat → Slots → Co Fl} (h0 : Fn 0 = fun _ => fl) (hs : ∀ n, Fn (n + 1) = defF N.length ps.length (b n))
    (F : ∃ fd, FunD G.K nm qual params body scope [] [] fa fd) (hm : G.mg x = some (.ref fa)) (S : FnScope N ps scope)
    (hbd : ∀ (kV doc pm : Value) (an : Option Addr) (cdv ct : Value) (us : List Value), us.length = ps.length → bindArgs (PySem.W.fnOf nm qual params body scope .none kV doc pm an cdv ct) ⟨us, []⟩ = pure (ps.zip us))
    (hb : ∀ n, Dok P w base CX0 G x ps n (Fn n) → ∀ (cdv : Value) (A : Around) (outer : List Env) (s : Shared) (H : Hp) (E : XK), Room n (A.deeper (envOfC qual scope s.heap.objs.size fa cdv)) → PSs (cxOf CX0 P w G.K G.mg base N qual scope fa cdv A outer s H E).nox body (rdS G E (b n))) :
    ∀ n, Dok P w base CX0 G x ps n (Fn n) := by
  obtain ⟨fd, F⟩ := F
  intro n
  induction n with
  | zero => exact ⟨fa, fd, hm, F.kp, F.bindsN hbd, by rw [h0]; exact fn_zero⟩
  | succ n ih => exact ⟨fa, fd, hm, F.kp, F.bindsN hbd, by
      rw [hs]
      exact xdef F S fun cdv A outer s H E hr => (hb n ih cdv A outer s H E hr).nox⟩
end Xt
set_option Elab.async false
set_option linter.all false
set_option maxRecDepth 100000
set_option maxHeartbeats 1000000
namespace Xt
open PySem PySem.Spec PyProof.Rows L2

/-! ### a call that may change what stands in the memory, its own new objects forgotten -/
def grdO : MO → Bool
  | .lst xs => (grd xs).isSome
  | .dct kvs => (grd (kvs.map (·.2))).isSome
  | .ins _ fs => (grd (fs.map (·.2))).isSome
  | .dead => true
def trimC (F : List Dv → Co Dv) : List Dv → Co Dv := fun ds M => match F ds M with
  | .ok (.g x) M' => (match (M'.take M.length).all grdO with
    | true => .ok (.g x) (M'.take M.length)
    | false => .fail)
  | .ok _ _ => .fail
  | .ex c M' => (match (M'.take M.length).all grdO with
    | true => .ex c (M'.take M.length)
    | false => .fail)
  | .fail => .fail
section
variable {G : Gx} {E : XK} {ι ι' : List Addr} {H H' : Hp} {M M' : Mem}
theorem grd_cons {x : Dv} {xs : List Dv} (h : (grd (x :: xs)).isSome = true) : (∃ y, x = .g y) ∧ (grd xs).isSome = true := by
  cases x with
  | g y =>
    refine ⟨⟨y, rfl⟩, ?_⟩
    have h2 : ((grd xs).map (y :: ·)).isSome = true := h
    cases e : grd xs with
    | none =>
      rw [e] at h2
      cases h2
    | some _ => rfl
  | _ => cases h
theorem RpDs.any_ι {vs : List V} {ds : List Dv} (r : RpDs G ι' H vs ds) (h : (Xt.grd ds).isSome = true) : RpDs G ι H vs ds := by
  obtain ⟨xs, e⟩ := Option.isSome_iff_exists.mp h
  have e2 : ∀ {ds : List Dv} {xs : List PyData}, Xt.grd ds = some xs → ds = xs.map Dv.g := by
    intro ds
    induction ds with
    | nil =>
      intro xs e
      cases e
      rfl
    | cons d ds ih =>
      intro xs e
      cases d with
      | g y =>
        have e3 : (Xt.grd ds).map (y :: ·) = some xs := e
        cases q : Xt.grd ds with
        | none =>
          rw [q] at e3
          cases e3
        | some zs =>
          rw [q] at e3
          cases e3
          rw [ih q]
          rfl
      | _ => cases e
  rw [e2 e]
  exact (r.grd e).ds
theorem RpI.any_ι {vs : List (Key × V)} {ds : List (Int × Dv)} (r : RpI G ι' H vs ds) (h : (Xt.grd (ds.map (·.2))).isSome = true) : RpI G ι H vs ds := by
  induction r with
  | nil => exact .nil
  | @cons i v kvs d kds hd _ ih =>
    obtain ⟨⟨y, e⟩, h2⟩ := grd_cons h
    have e' : d = .g y := e
    subst e'
    cases hd with
    | g hv => exact .cons (.g hv) (ih h2)
theorem RpF.any_ι {vs : List (Str × V)} {ds : List (Str × Dv)} (r : RpF G ι' H vs ds) (h : (Xt.grd (ds.map (·.2))).isSome = true) : RpF G ι H vs ds := by
  induction r with
  | nil => exact .nil
  | @cons i v kvs d kds hd _ ih =>
    obtain ⟨⟨y, e⟩, h2⟩ := grd_cons h
    have e' : d = .g y := e
    subst e'
    cases hd with
    | g hv => exact .cons (.g hv) (ih h2)
theorem Ext.trim (m : MemR G ι H M) (x : Ext G ι H ι' M' H') (h : (M'.take M.length).all grdO = true) : Ext G ι H ι (M'.take M.length) H' where
  pre := List.prefix_refl _
  mem := by
    obtain ⟨t, e⟩ := x.pre
    have hl : ι'.length = M'.length := x.mem.len
    have hlen : M.length ≤ M'.length := by
      rw [← hl, ← e, List.length_append, m.len]
      omega
    refine ⟨by rw [List.length_take, m.len]; omega, m.nd, fun i a mo h1 h2 => ?_, x.mem.tab⟩
    have h3 : M'[i]? = some mo := by
      rw [List.getElem?_take] at h2
      split at h2
      · exact h2
      · cases h2
    have q := x.mem.ob i a mo (pre_get x.pre h1) h3
    have z := List.all_eq_true.mp h mo (List.mem_of_getElem? h2)
    cases mo with
    | lst xs =>
      obtain ⟨vs, q1, q2⟩ := q
      exact ⟨vs, q1, q2.any_ι z⟩
    | dct xs =>
      obtain ⟨vs, q1, q2⟩ := q
      exact ⟨vs, q1, q2.any_ι z⟩
    | ins c xs =>
      obtain ⟨C, dx, vs, q0, q1, q2⟩ := q
      exact ⟨C, dx, vs, q0, q1, q2.any_ι z⟩
    | dead => exact q
  keep := x.keep
  frame := x.frame
  tbl := x.tbl
  fresh := fun a h n => absurd h n
theorem sp_trim {F : List Dv → Co Dv} {ds : List Dv} {Q : VK} (m : MemR G ι H M) (p : Post G E ι H (QE G Q) (trimC F ds M)) : Post G E ι H (QE G Q) (F ds M) := by
  unfold trimC at p
  cases e : F ds M with
  | fail =>
    rw [e] at p
    exact p.elim
  | ok d M' =>
    rw [e] at p
    cases d with
    | g x =>
      cases z : (M'.take M.length).all grdO with
      | false =>
        simp only [z] at p
        exact p.elim
      | true =>
        simp only [z] at p
        intro ι' H' y v rv
        cases rv with
        | g rv => exact p ι H' (y.trim m z) v (.g rv)
    | _ => exact p.elim
  | ex c M' =>
    rw [e] at p
    cases z : (M'.take M.length).all grdO with
    | false =>
      simp only [z] at p
      exact p.elim
    | true =>
      simp only [z] at p
      intro ι' H' cls dx y hx
      exact p ι H' cls dx (y.trim m z) hx
end
section
variable {X : Cx} {G : Gx} {E : XK} {e e1 e2 : Expr} {es : List Expr} {f g : Slots → Co Dv} {gs : Slots → Co (List Dv)} {pos p : Pos} {CX : CXT} {x : Str} {ps : List Str} {n : Nat} {F : List Dv → Co Dv}
theorem rd_callT {σ : L2.St} {H : Hp} {Q : VK} (h : rdE G E (cB (trimC F) gs) σ H Q) : tCall (spF G F) [] E (rdA G E gs) σ H Q := by
  obtain ⟨ι, ρ, M, st, p⟩ := h
  refine ⟨ι, ρ, M, st, (Post.bnd p).mono fun ds ι1 M1 H1 x1 p1 vs rv => ?_⟩
  show spF G F (vs ++ []) H1 Q E
  rw [List.append_nil]
  exact ⟨ι1, M1, ds, x1.mem, rv, sp_trim x1.mem p1⟩
theorem xcT (d : Dok X.prog X.w X.base CX G x ps n F) (hK : X.K = G.K) (hm : X.mg = G.mg) (hr : Room n X.A) (hx : Passes CX X E) (ha : PA X (e :: es) (rdA G E gs)) (hg : Gl X x := by rfl)
    (hdb : (x == ("__debug__" : Str)) = false := by decide) (he : starEach (e :: es) X.env = (false, eval e X.env) :: starEach es X.env := by rfl) (hpl : (backTo pos (starEach es X.env)).any (·.1) = false := by rfl) :
    PE X (.Call (.Name x p) (e :: es) [] pos) (rdE G E (cB (trimC F) gs)) := by
  obtain ⟨fa, fd, h1, h2, h3, h4⟩ := d
  rw [← hK, ← hm] at h4
  rw [← hm] at h1
  rw [← hK] at h2 h3
  exact peI (pe_call h4 hr hg h1 h2 h3 .nil hx ha hdb he hpl) fun _ _ _ h => rd_callT h
end
end Xt
set_option Elab.async false
set_option linter.all false
set_option maxRecDepth 100000
set_option maxHeartbeats 2000000
/-! a generator expression inside sum(..), all(..): its items one after another, calls of own defs among them -/
namespace Xt
open PySem PySem.Spec PyProof.Rows L2 GenW

/-! ### the items -/
def gxL (tf : Dv → Slots → Co Slots) (te : Slots → Co Dv) (ρ : Slots) : List Dv → Mem → Option (List (PyData × Mem))
  | [], _ => some []
  | d :: r, M => match tf d ρ M with
    | .ok ρ1 M1 => (match te ρ1 M1 with
      | .ok (.g y) M2 => (match gxL tf te ρ r M2 with
        | some l => some ((y, M2) :: l)
        | none => none)
      | _ => none)
    | _ => none
/-- the memory behind them -/
def gxM : Mem → List (PyData × Mem) → Mem
  | M, [] => M
  | _, (_, M) :: r => gxM M r
theorem gxL_cons {tf : Dv → Slots → Co Slots} {te : Slots → Co Dv} {ρ : Slots} {d : Dv} {r : List Dv} {M : Mem} {z : PyData} {Mz : Mem} {l : List (PyData × Mem)} (h : gxL tf te ρ (d :: r) M = some ((z, Mz) :: l)) :
    ∃ ρ1 M1, tf d ρ M = .ok ρ1 M1 ∧ te ρ1 M1 = .ok (.g z) Mz ∧ gxL tf te ρ r Mz = some l := by
  unfold gxL at h
  split at h
  · rename_i ρ1 M1 e1
    split at h
    · rename_i y M2 e2
      split at h
      · rename_i l' e3
        cases h
        exact ⟨ρ1, M1, e1, e2, e3⟩
      · cases h
    · cases h
  · cases h
theorem gxL_len {tf : Dv → Slots → Co Slots} {te : Slots → Co Dv} {ρ : Slots} : ∀ {ds : List Dv} {M : Mem} {l : List (PyData × Mem)}, gxL tf te ρ ds M = some l → l.length = ds.length
  | [], M, l, h => by
    cases h
    rfl
  | d :: r, M, [], h => by
    unfold gxL at h
    split at h
    · split at h
      · split at h <;> cases h
      · cases h
    · cases h
  | d :: r, M, (z, Mz) :: l, h => by
    obtain ⟨_, _, _, _, e⟩ := gxL_cons h
    rw [List.length_cons, List.length_cons, gxL_len e]
/-- what stands at the targets does not matter -/
def BkS (G : Gx) (ρ : Slots) (tf : Dv → Slots → Co Slots) : Prop := ∀ (d : Dv) (M M1 : Mem) (ρ1 : Slots), tf d ρ M = .ok ρ1 M1 → ∀ (σ : L2.St) (ι : List Addr) (H : Hp) (M2 : Mem), StR G H σ ι ρ1 M2 → StR G H σ ι ρ M2
section
variable {G : Gx} {ρ : Slots}
theorem StR.unset {H : Hp} {σ : L2.St} {ι : List Addr} {M : Mem} {i : Nat} {d : Dv} (h : ρ[i]? = some .u) (s : StR G H σ ι (ρ.set i d) M) : StR G H σ ι ρ M :=
  ⟨by rw [s.len, List.length_set], s.mem, fun j e hj n => s.sl j e (by
    rw [List.getElem?_set_ne (fun z => by
      rw [← z, h] at hj
      cases hj
      exact n rfl)]
    exact hj) n⟩
theorem bk_n {i : Nat} (h : ρ[i]? = some .u) : BkS G ρ (tN i) := fun d M M1 ρ1 e σ ι H M2 s => by
  cases e
  exact s.unset h
theorem bk_2 {i j : Nat} (hij : i ≠ j) (hi : ρ[i]? = some .u) (hj : ρ[j]? = some .u) : BkS G ρ (tT 2 (tC (tN i) (tC (tN j) tZ))) := fun d M M1 ρ1 e σ ι H M2 s => by
  unfold tT at e
  cases q : asT d with
  | none =>
    rw [q] at e
    cases e
  | some ds =>
    rw [q] at e
    match ds, e with
    | [], e => cases e
    | [_], e => cases e
    | [a, b], e =>
      have e2 : ρ1 = (ρ.set i a).set j b := by
        cases e
        rfl
      rw [e2] at s
      exact StR.unset hi (StR.unset (i := j) (by rw [List.getElem?_set_ne hij]; exact hj) s)
    | _ :: _ :: _ :: _, e => cases e
end
section
variable {X : Cx} {G : Gx} {elt iter tg : Expr} {scope : Scope} {gpos : Pos} {tf : Dv → Slots → Co Slots} {te : Slots → Co Dv} {ρ : Slots} {it : Addr} {fp : List Addr} {tn : Nat → Heap → Prop} {J : It} {ι0 : List Addr} {H0 : Hp} {ds : List Dv} {zms : List (PyData × Mem)} {Mf : Mem} {PP : List (Addr × Obj) → Prop} {A : Around}
/-- i items are out, the next is asked for -/
def GSt (X : Cx) (G : Gx) (ρ : Slots) (fp : List Addr) (tn : Nat → Heap → Prop) (ι0 : List Addr) (H0 : Hp) (PP : List (Addr × Obj) → Prop) (i : Nat) (M : Mem) (s₀ s : Shared) : Prop :=
  ∃ ι H σ pp, PP pp ∧ (∀ p ∈ pp, s₀.heap.get? p.1 = some p.2) ∧ Inv X pp σ H s ∧ Ext G ι0 H0 ι M H ∧ StR G H σ ι ρ M ∧ tn i s.heap ∧ ∀ b ∈ fp, H b = none
def GYd (X : Cx) (G : Gx) (ι0 : List Addr) (H0 : Hp) (zms : List (PyData × Mem)) (fp : List Addr) (PP : List (Addr × Obj) → Prop) : Protocol := fun m s₀ v s kap =>
  ∃ i z M ι H σ V pp ip, i + m + 1 = zms.length ∧ zms[i]? = some (z, M) ∧ PP pp ∧ (∀ p ∈ pp, s₀.heap.get? p.1 = some p.2) ∧ Inv X (pp ++ ip) σ H s ∧ Ext G ι0 H0 ι M H ∧ RelV V v ∧ RpV G.K H V z ∧ (∀ p ∈ ip, p.1 ∈ fp) ∧ ∀ s' pp', PP pp' → Inv X (pp' ++ ip) σ H s' → kap (.send .none) s'
def GEd (X : Cx) (G : Gx) (ι0 : List Addr) (H0 : Hp) (Mf : Mem) (PP : List (Addr × Obj) → Prop) : Nat → Shared → Shared → Prop := fun m s₀ s =>
  m = 0 ∧ ∃ ι H σ pp, PP pp ∧ (∀ p ∈ pp, s₀.heap.get? p.1 = some p.2) ∧ Inv X pp σ H s ∧ Ext G ι0 H0 ι Mf H
theorem seg_gx (hov : A.over (.compLoop (.GeneratorExp elt [⟨tg, iter, [], 0⟩] scope gpos) 0 (.ref it) .none X.env) [] = X.A) (hc : X.calm = true) (hxe : ∀ e s, X.xe e s → False) (T : Turn X.prog X.w X.K tg J fp it tn)
    (hst : ∀ pp (H' : Hp), PP pp → (∀ b ∈ fp, H' b = none) → ∀ b ∈ fp, FpOk X pp H' b) (wk : Wk G ι0 H0 J ds) (hg : PG X tg (rdG G L2.E0 tf)) (he : PE X elt (rdE G L2.E0 te)) (hb : BkS G ρ tf) (hco : X.env.scope.isCoroutine = false) (hn : zms.length = ds.length) :
    ∀ (l : List (PyData × Mem)) (i : Nat) (M : Mem) (s₀ s : Shared), i + l.length = ds.length → gxL tf te ρ (ds.drop i) M = some l → zms.drop i = l → gxM M l = Mf → GSt X G ρ fp tn ι0 H0 PP i M s₀ s →
      Seg (model X.prog X.w) A (fun n s₀ r s₁ => r = .ok .next ∧ GEd X G ι0 H0 Mf PP n s₀ s₁) (GYd X G ι0 H0 zms fp PP) l.length s₀
        (.compLoop (.GeneratorExp elt [⟨tg, iter, [], 0⟩] scope gpos) 0 (.ref it) .none X.env) ((model X.prog X.w).den (.compLoop (.GeneratorExp elt [⟨tg, iter, [], 0⟩] scope gpos) 0 (.ref it) .none X.env)) [] s := by
  intro l
  induction l with
  | nil =>
    intro i M s₀ s hil hl hz hM ⟨ι, H, σ, pp, hp, hs0, I, x, st, ht, hf⟩
    have hin : i = ds.length := by simpa using hil
    subst hin
    show Seg _ A _ _ _ s₀ _ ((compTurn (.GeneratorExp elt [⟨tg, iter, [], 0⟩] scope gpos) 0 (.ref it) .none X.env).onRaise (leaving X.env)) [] s
    rw [compTurn_gen, Sem.onRaise_eq_wrap]
    refine seg_bind_wrap (wpAny_standAt ?_)
    refine seg_bind_wrap ?_
    rw [hov]
    refine thn (T.done X rfl rfl rfl hc _ pp s σ H _ I (hst pp H hp hf) ht (wk.stop H x.keep)) fun r s1 ⟨hr, I1⟩ => ?_
    subst hr
    refine seg_end (.ok .next) ⟨rfl, rfl, ι, H, σ, pp, hp, hs0, I1, ?_⟩
    rw [← hM]
    exact x
  | cons zm l ih =>
    intro i M s₀ s hil hl hz hM ⟨ι, H, σ, pp, hp, hs0, I, x, st, ht, hf⟩
    obtain ⟨z, Mz⟩ := zm
    have hlt : i < ds.length := by
      rw [List.length_cons] at hil
      omega
    have e0 : ds.drop i = ds[i] :: ds.drop (i + 1) := List.drop_eq_getElem_cons hlt
    rw [e0] at hl
    obtain ⟨ρ1, M1, q1, q2, q3⟩ := gxL_cons hl
    have hlz : i < zms.length := by rw [hn]; exact hlt
    have ez : zms.drop i = zms[i] :: zms.drop (i + 1) := List.drop_eq_getElem_cons hlz
    rw [ez] at hz
    have hz1 : zms[i] = (z, Mz) := (List.cons.inj hz).1
    have hz2 : zms.drop (i + 1) = l := (List.cons.inj hz).2
    show Seg _ A _ _ _ s₀ _ ((compTurn (.GeneratorExp elt [⟨tg, iter, [], 0⟩] scope gpos) 0 (.ref it) .none X.env).onRaise (leaving X.env)) [] s
    rw [compTurn_gen, Sem.onRaise_eq_wrap]
    refine seg_bind_wrap (wpAny_standAt ?_)
    refine seg_bind_wrap ?_
    rw [hov]
    refine thn (T.item X rfl rfl rfl hc i pp s σ H _ I (hst pp H hp hf) ht (wk.go i H x.keep hlt)) fun r s1 ⟨u, hr, h1⟩ => ?_
    subst hr
    refine seg_bind_wrap ?_
    rw [hov]
    refine thn h1 fun _ s2 ⟨V, H2, I2, r2, y2, st2, f2⟩ => ?_
    obtain ⟨d, ed, rd, new⟩ := wk.yld i H V H2 x.keep hlt y2
    rw [List.getElem?_eq_getElem hlt] at ed
    cases ed
    have x2 : Ext G ι H ι M H2 := wk_new x.mem new
    have I2' := I2.pinned (hst pp H2 hp f2) (T.obj _ _ st2)
    refine seg_bind_wrap ?_
    rw [hov]
    refine wpAny_mono (hg.run _ s2 σ H2 V u (fun σ' H' => ∃ ι', Ext G ι H2 ι' M1 H' ∧ StR G H' σ' ι' ρ1 M1) I2' r2 ⟨ι, ρ, M, ds[i], st.ext x2, rd.mono x.pre (.refl _), ?_⟩) (fun _ s3 ⟨σ3, H3, I3, ι3, x3, st3⟩ => ?_) fun e s' hx => (hxe e s' hx).elim
    · rw [q1]
      exact fun ι' H' y σ' s' => ⟨ι', y, s'⟩
    simp only [List.forIn_nil]
    refine seg_bind_wrap (wpAny_pure ?_)
    simp only [if_true]
    have hy : ∀ v, yieldOut X.env v = yieldValue v := fun v => by simp only [yieldOut, hco, Bool.false_eq_true, if_false]
    simp only [hy]
    rw [Sem.bind_eq_wrap', Sem.bind_eq_wrap', Sem.wrap_wrap, Sem.wrap_wrap]
    refine seg_wrap ?_
    rw [hov]
    refine wpAny_mono (he.run _ s3 σ3 H3 (fun V' H' => ∃ ι', Ext G ι3 H3 ι' Mz H' ∧ RpV G.K H' V' z) I3 ⟨ι3, ρ1, M1, st3, ?_⟩) (fun w s4 ⟨V4, H4, I4, r4, ι4, x4, rp4⟩ => ?_) fun e s' hx => (hxe e s' hx).elim
    · rw [q2]
      intro ι' H' y v rv
      cases rv with
      | g rv => exact ⟨ι', y, rv⟩
    have x04 : Ext G ι0 H0 ι4 Mz H4 := ((x.trans x2).trans x3).trans x4
    refine seg_at (seg_yield rfl rfl rfl ⟨i, z, Mz, ι4, H4, σ3, V4, pp, pinsAt fp s2.heap, ?_, ?_, hp, hs0, I4, x04, r4, rp4, fun p hp' => (of_pinsAt hp').1, fun s' pp' hpp' I5 => ?_⟩)
    · rw [hn, ← hil, List.length_cons]
      omega
    · rw [List.getElem?_eq_getElem hlz, hz1]
    · refine seg_again rfl (ih (i + 1) Mz s' s' ?_ q3 hz2 hM ⟨ι4, H4, σ3, pp', hpp', fun p hp' => (I5.pin p (List.mem_append_right _ (List.mem_append_left _ hp'))).1, I5.unpinned, x04, hb _ _ _ _ q1 _ _ _ _ (st3.ext x4), ?_, fun b hb' => ?_⟩)
      · rw [List.length_cons] at hil
        omega
      · exact T.keep _ _ _ st2 fun b hb' o e => (I5.pin (b, o) (List.mem_append_right _ (List.mem_append_right _ (mem_pinsAt hb' e)))).1
      · obtain ⟨o, e, _⟩ := T.obj _ _ st2 b hb'
        exact (I5.pin (b, o) (List.mem_append_right _ (List.mem_append_right _ (mem_pinsAt hb' e)))).2.1
end
end Xt
set_option Elab.async false
set_option linter.all false
set_option maxRecDepth 100000
set_option maxHeartbeats 2000000
namespace Xt
open PySem PySem.Spec PyProof.Rows L2 GenW
section
variable {X : Cx} {G : Gx} {elt iter tg : Expr} {scope : Scope} {gpos : Pos} {tf : Dv → Slots → Co Slots} {te : Slots → Co Dv} {ρ : Slots} {it : Addr} {fp : List Addr} {tn : Nat → Heap → Prop} {J : It} {ι0 : List Addr} {H0 : Hp} {ds : List Dv} {zms : List (PyData × Mem)} {Mf : Mem} {PP : List (Addr × Obj) → Prop} {A : Around}
theorem seg_gx0 (hov : A.over (.compLoop (.GeneratorExp elt [⟨tg, iter, [], 0⟩] scope gpos) 0 (.ref it) .none X.env) [] = X.A) (hc : X.calm = true) (hxe : ∀ e s, X.xe e s → False) (T : Turn X.prog X.w X.K tg J fp it tn)
    (hst : ∀ pp (H' : Hp), PP pp → (∀ b ∈ fp, H' b = none) → ∀ b ∈ fp, FpOk X pp H' b) (wk : Wk G ι0 H0 J ds) (hg : PG X tg (rdG G L2.E0 tf)) (he : PE X elt (rdE G L2.E0 te)) (hb : BkS G ρ tf) (hco : X.env.scope.isCoroutine = false)
    {M : Mem} {s₀ s : Shared} (hl : gxL tf te ρ ds M = some zms) (hM : gxM M zms = Mf) (st : GSt X G ρ fp tn ι0 H0 PP 0 M s₀ s) :
    Seg (model X.prog X.w) A (fun n s₀ r s₁ => r = .ok .next ∧ GEd X G ι0 H0 Mf PP n s₀ s₁) (GYd X G ι0 H0 zms fp PP) zms.length s₀
      (.compStart (.GeneratorExp elt [⟨tg, iter, [], 0⟩] scope gpos) 0 (.ref it) .none X.env) ((model X.prog X.w).den (.compStart (.GeneratorExp elt [⟨tg, iter, [], 0⟩] scope gpos) 0 (.ref it) .none X.env)) [] s := by
  have hn := gxL_len hl
  have loop := seg_gx hov hc hxe T hst wk hg he hb hco hn zms 0 M s₀ s (by rw [hn]; exact Nat.zero_add _) hl rfl hM st
  obtain ⟨ι, H, σ, pp, hp, _, I, x, sr, ht, hf⟩ := st
  show Seg _ A _ _ _ s₀ _ ((compStart (.GeneratorExp elt [⟨tg, iter, [], 0⟩] scope gpos) 0 (.ref it) .none X.env).onRaise (leaving X.env)) [] s
  unfold compStart
  rw [Sem.onRaise_eq_wrap]
  show Seg _ A _ _ _ s₀ _ ((ask >>= _).wrap _ _ _ _) [] s
  refine seg_bind_wrap (wpAny_askSetting ?_)
  split
  · exact seg_again rfl loop
  · first
      | exact seg_bind_wrap (wpAny_rule (seg_bind_wrap (wpAny_standAt (seg_bind_wrap (T.self _ 0 s _ _ ht (seg_again rfl loop))))))
      | (refine seg_bind_wrap (wpAny_rule ?_); show Seg _ A _ _ _ s₀ _ ((standAt iter.pos >>= _).wrap _ _ _ _) [] s; exact seg_bind_wrap (wpAny_standAt (seg_bind_wrap (T.self _ 0 s _ _ ht (seg_again rfl loop)))))

/-! ### the next item is asked for -/
theorem Inv.sg {pins : List (Addr × Obj)} {σ : L2.St} {H : Hp} {s : Shared} {g : Nat} {x : GenState} (I : Inv X pins σ H s) (hx : x.bare = true) : Inv X pins σ H (s.setGen g x) :=
  I.call' (ch := []) rfl .refl I.hok (allBare_setGen I.bare hx) fun b z => by cases z
theorem Inv.kh {pins : List (Addr × Obj)} {σ : L2.St} {H : Hp} {s s' : Shared} (I : Inv X pins σ H s) (ho : s'.os = s.os) (k : ∀ b o, s.heap.get? b = some o → s'.heap.get? b = some o) (hb : AllBare s'.gens) : Inv X pins σ H s' :=
  I.call' (ch := []) ho (Un.kept k) (I.hok.kept k) hb fun b z => by cases z
/-- the generator: i items are out, l will be -/
structure GGo (X : Cx) (G : Gx) (A : Around) (a : Addr) (g : Nat) (ι0 : List Addr) (H0 : Hp) (zms : List (PyData × Mem)) (fp : List Addr) (Mf : Mem) (PP : List (Addr × Obj) → Prop) (m : Nat) (σ : L2.St) (H : Hp) (ip : List (Addr × Obj)) (s : Shared) : Prop where
  gen : s.heap.IsGen a g
  ipf : ∀ p ∈ ip, p.1 ∈ fp
  goes : ∃ gs, s.gens[g]? = some gs ∧ ∀ s'' pp', PP pp' → Inv X (pp' ++ ip) σ H s'' → gs.Goes (model X.prog X.w) A.in1 (fun n s₀ r s₁ => r = .ok .next ∧ GEd X G ι0 H0 Mf PP n s₀ s₁) (GYd X G ι0 H0 zms fp PP) m (.send .none) s''
theorem next_gx {a : Addr} {g i m : Nat} {go : Obj} {σ : L2.St} {H : Hp} {ip pp : List (Addr × Obj)} {s : Shared} {Q : Option Value → Shared → Prop} {E : Value → Shared → Prop} (hh : A.handled = none) (hroom : A.depth < recursionLimit)
    (hgo : ∀ h : Heap, h.get? a = some go → h.IsGen a g) (hpn : (a, go) ∈ X.pn) (gg : GGo X G A a g ι0 H0 zms fp Mf PP m σ H ip s) (hp : PP pp) (I : Inv X (pp ++ ip) σ H s) (him : i + m = zms.length)
    (hY : ∀ z Mz m' v V s' ι' H' σ' ip' pp', m = m' + 1 → zms[i]? = some (z, Mz) → RelV V v → RpV G.K H' V z → PP pp' → (∀ p ∈ pp', s.heap.get? p.1 = some p.2) → Inv X (pp' ++ ip') σ' H' s' → Ext G ι0 H0 ι' Mz H' → GGo X G A a g ι0 H0 zms fp Mf PP m' σ' H' ip' s' → Q (some v) s')
    (hN : ∀ s' ι' H' σ' pp', m = 0 → PP pp' → (∀ p ∈ pp', s.heap.get? p.1 = some p.2) → Inv X pp' σ' H' s' → Ext G ι0 H0 ι' Mf H' → Q none s') : wpAny (model X.prog X.w) A (pyNext (.ref a)) Q E s := by
  obtain ⟨hg, hip, gs, hgs, hgoes⟩ := gg
  have hgl : g < s.gens.size := (Array.getElem?_eq_some_iff.mp hgs).1
  refine wpAny_gsz (n := g + 1) hgl ?_
  refine wpAny_pyNext_genexpQ (P := GEd X G ι0 H0 Mf PP) hh I.nolimit hroom hg hgs (hgoes _ pp hp (Inv.sg I rfl)) (fun v s₁ gs' hb hv => ?_) (fun s₁ hx h' hk => ?_)
  · obtain ⟨j, z, Mz, ι', H', σ', V, pp', ip', hj, hz, hp', hs0, I', x', rv, rp, hip', kap⟩ := hv
    intro hsz
    have hsz1 : g < s₁.gens.size := by
      have q : (s₁.setGen g gs').gens.size = s₁.gens.size := setGen_size _ _ _
      have hsz' : g + 1 ≤ (s₁.setGen g gs').gens.size := hsz
      omega
    cases m with
    | zero => exact (kap s₁ pp' hp' I').elim
    | succ m' =>
      have hji : j = i := by omega
      subst hji
      refine hY z Mz m' v V _ ι' H' σ' ip' pp' rfl hz rv rp hp' hs0 (Inv.sg I' hb) x' ⟨?_, hip', gs', setGen_at hsz1, fun s'' pp'' h1 h2 => kap s'' pp'' h1 h2⟩
      exact hgo _ (I'.pin (a, go) (List.mem_append_left _ hpn)).1
  · obtain ⟨hm, ι', H', σ', pp', hp', hs0, I', x'⟩ := hx
    intro _
    refine hN _ ι' H' σ' pp' hm hp' hs0 ?_ x'
    exact Inv.kh (s := s₁.setGen g .finished) (Inv.sg I' rfl) rfl hk (allBare_setGen I'.bare rfl)

/-! ### all(..) -/
def allZ : List (PyData × Mem) → Option (Bool × Mem) → Option (Bool × Mem)
  | [], e => e
  | (.bool true, M) :: r, e => allZ r (e.map fun _ => (true, M))
  | (.bool false, M) :: _, _ => some (false, M)
  | _, _ => none
theorem all_loop {a : Addr} {g : Nat} {go : Obj} {R : Result → Shared → Prop} {s2 : Shared} (hh : A.in1.handled = none) (hroom : A.in1.depth < recursionLimit) (hgo : ∀ h : Heap, h.get? a = some go → h.IsGen a g) (hpn : (a, go) ∈ X.pn) {b : Bool} {Me : Mem}
    (hR : ∀ s' ι' H' σ', Inv X [] σ' H' s' → Ext G ι0 H0 ι' Me H' → R (.ok (.ret (.bool b))) s') : ∀ (m i : Nat) (M : Mem) (σ : L2.St) (H : Hp) (ip : List (Addr × Obj)) (s : Shared),
      i + m = zms.length → allZ (zms.drop i) (some (true, M)) = some (b, Me) → (m = 0 → M = Mf) → gxM M (zms.drop i) = Mf → GGo X G A.in1 a g ι0 H0 zms fp Mf (fun pp => pp = []) m σ H ip s → Inv X ip σ H s →
      codeAny (model X.prog X.w) A (.builtin "all.loop" ⟨[.ref a], []⟩) R s := by
  intro m
  induction m with
  | zero =>
    intro i M σ H ip s him hz hM hM2 gg I
    refine codeAny_builtin F.entry_all_loop ?_
    rw [Around.under_plainId F.plain_all_loop _]
    show wpAny _ A.in1 (pyNext (.ref a) >>= _) _ _ s
    refine wpAny_bind (next_gx (pp := []) hh hroom hgo hpn gg rfl I him (fun z Mz m' v V s' ι' H' σ' ip' pp' e => by cases e) fun s' ι' H' σ' pp' _ hp' _ I' x' => ?_)
    subst hp'
    refine wpAny_bind (wpAny_rule (wpAny_pure ?_))
    have e : zms.drop i = [] := by rw [List.drop_eq_nil_iff]; omega
    rw [e] at hz
    have hz' : some (true, M) = some (b, Me) := hz
    cases hz'
    rw [hM rfl] at hR
    exact hR s' ι' H' σ' I' x'
  | succ m ih =>
    intro i M σ H ip s him hz hM hM2 gg I
    refine codeAny_builtin F.entry_all_loop ?_
    rw [Around.under_plainId F.plain_all_loop _]
    show wpAny _ A.in1 (pyNext (.ref a) >>= _) _ _ s
    refine wpAny_bind (next_gx (pp := []) hh hroom hgo hpn gg rfl I him (fun z Mz m' v V s' ι' H' σ' ip' pp' e hzi rv rp hp' _ I' x' gg' => ?_) fun s' ι' H' σ' pp' e => by cases e)
    cases e
    subst hp'
    have hlz : i < zms.length := (List.getElem?_eq_some_iff.mp hzi).1
    have ez : zms.drop i = (z, Mz) :: zms.drop (i + 1) := by
      rw [List.drop_eq_getElem_cons hlz]
      rw [List.getElem?_eq_getElem hlz] at hzi
      rw [Option.some.inj hzi]
    rw [ez] at hz hM2
    cases z with
    | bool c =>
      cases rp with
      | bl c =>
        have ev : v = .bool c := rv
        subst ev
        refine wpAny_bind (wpAny_holding (wpAny_truthy_bool ?_))
        refine wpAny_bind (wpAny_letGo ?_)
        cases c with
        | true =>
          simp only [if_true]
          have hz2 : allZ (zms.drop (i + 1)) (some (true, Mz)) = some (b, Me) := hz
          have hM3 : gxM Mz (zms.drop (i + 1)) = Mf := hM2
          refine wpAny_pure ⟨plainId_quiet F.plain_all_loop _, ih (i + 1) Mz σ' H' ip' s' (by omega) hz2 (fun e => ?_) hM3 gg' I'⟩
          have e2 : zms.drop (i + 1) = [] := by rw [List.drop_eq_nil_iff]; omega
          rw [e2] at hM3
          exact hM3
        | false =>
          have hz2 : some (false, Mz) = some (b, Me) := hz
          cases hz2
          simp only [Bool.false_eq_true, if_false]
          refine wpAny_bind (wpAny_rule (wpAny_pure ?_))
          exact hR s' ι' H' σ' (I'.pins_of fun p hp => by cases hp) x'
    | _ => cases hz
end
end Xt
set_option Elab.async false
set_option linter.all false
set_option maxRecDepth 100000
set_option maxHeartbeats 2000000
namespace Xt
open PySem PySem.Spec PyProof.Rows L2 GenW
section
variable {X : Cx} {G : Gx} {fp : List Addr} {ι0 : List Addr} {H0 : Hp} {zms : List (PyData × Mem)} {Mf : Mem} {A : Around}
/-- sum's own cell -/
abbrev sumO (acc : Int) (t : Tok) (c : Nat) : Obj := { cls := .type "list", dict := none, data := .seq #[.int acc t] c, slots := #[] }
def SP1 (S : Addr) : List (Addr × Obj) → Prop := fun pp => ∃ acc t c, pp = [(S, sumO acc t c)]
/-- one place is not the frame's -/
structure Off (X : Cx) (fp : List Addr) (S : Addr) : Prop where
  above : X.s_0.heap.objs.size ≤ S
  loc : S ≠ X.env.locals
  cel : ∀ x c, X.env.cells.lookup x = some c → c ≠ S
  pn : ∀ p ∈ X.pn, p.1 ≠ S
  fp : ∀ b ∈ fp, b ≠ S
theorem Inv.poke {S : Addr} {o o' : Obj} {ip : List (Addr × Obj)} {σ : L2.St} {H : Hp} {s : Shared} {h' : Heap} {t' : Nat} (hS : Off X fp S) (hip : ∀ p ∈ ip, p.1 ∈ fp) (I : Inv X ([(S, o)] ++ ip) σ H s) (hk : ∀ b u, b ≠ S → s.heap.get? b = some u → h'.get? b = some u) (hS' : h'.get? S = some o') (nc : ∀ v, o'.data ≠ .cell v) :
    Inv X ([(S, o')] ++ ip) σ H { s with heap := h', toks := t' } := by
  obtain ⟨p1, p2, p3, p4, p5⟩ := I.pin (S, o) (List.mem_append_right _ List.mem_cons_self)
  have I0 : Inv X ip σ H s := I.pins_of fun p hp => I.pin p (List.mem_append_right _ (List.mem_cons_of_mem _ hp))
  have ne : ∀ b u, H b = some u → b ≠ S := fun b u q e => by
    rw [e, p2] at q
    cases q
  have nc2 : ∀ b, b ∉ [S] → b ≠ S := fun b hb e => hb (by rw [e]; exact List.mem_singleton.mpr rfl)
  have J : Inv X ip σ H { s with heap := h', gens := s.gens, drawn := s.drawn, toks := t' } := by
    refine I0.step (g' := s.gens) (d' := s.drawn) (t' := t') (ch := [S]) (fun b hb => ?_) (fun b u _ _ hb e _ => hk b u (nc2 b hb) e) (fun b u _ _ hb e _ => ⟨u.slots, hk b u (nc2 b hb) e⟩) (fun _ _ _ _ n => n) (fun b u hb e => ⟨u, hk b u (nc2 b hb) e⟩)
      (fun _ _ e => e) (fun _ _ _ e => e) (fun b ps e => ⟨#[], by rw [e]; simp⟩) (fun m hm => ?_) (fun b u e => ?_) I0.bare
    · rw [List.mem_singleton.mp hb]
      exact ⟨.inr hS.above, hS.loc, hS.cel, fun p hp => (List.mem_append.mp hp).elim (hS.pn p) fun z => hS.fp _ (hip p z)⟩
    · obtain ⟨ob, es, ep, ho, r⟩ := hm
      exact ⟨ob, es, ep, hk _ ob (Ne.symm hS.loc) ho, r⟩
    · refine (I0.hok b u e).stay (fun c v hc y => hk c v ?_ y) (fun _ y => y) fun _ _ y => y
      rcases hc with y | y
      · rw [y]
        exact ne b u e
      · exact ne c _ y
  refine J.pins_of fun p hp => ?_
  rcases List.mem_append.mp hp with z | z
  · rw [List.mem_singleton.mp z]
    exact ⟨hS', p2, p3, p4, nc⟩
  · exact J.pin p (List.mem_append_right _ z)
def intsZ : List (PyData × Mem) → Option (List Int)
  | [] => some []
  | (.int i, _) :: r => (intsZ r).map (i :: ·)
  | _ => none
def sumZ (a : Int) : List Int → Int
  | [] => a
  | i :: r => sumZ (a + i) r
theorem sum_loop {a S : Addr} {g : Nat} {go : Obj} {R : Result → Shared → Prop} (hh : A.in1.handled = none) (hroom : A.in1.depth < recursionLimit) (hgo : ∀ h : Heap, h.get? a = some go → h.IsGen a g) (hpn : (a, go) ∈ X.pn) (hS : Off X fp S) {tot : Int}
    (hR : ∀ t s' ι' H' σ', Inv X [] σ' H' s' → Ext G ι0 H0 ι' Mf H' → R (.ok (.ret (.int tot t))) s') : ∀ (m i : Nat) (zs : List Int) (acc : Int) (tA : Tok) (c : Nat) (st : Int) (σ : L2.St) (H : Hp) (ip : List (Addr × Obj)) (s : Shared),
      (st = 0 ∨ st = 2) → i + m = zms.length → intsZ (zms.drop i) = some zs → sumZ acc zs = tot → GGo X G A.in1 a g ι0 H0 zms fp Mf (SP1 S) m σ H ip s → Inv X ([(S, sumO acc tA c)] ++ ip) σ H s →
      codeAny (model X.prog X.w) A (.builtin "sum.loop" ⟨[.ref a, .ref S, rawInt st, rawInt 0], []⟩) R s := by
  intro m
  induction m with
  | zero =>
    intro i zs acc tA c st σ H ip s hst2 him hz htot gg I
    have hSo := (I.pin (S, sumO acc tA c) (List.mem_append_right _ List.mem_cons_self)).1
    refine codeAny_builtin F.entry_sum_loop ?_
    rw [Around.under_plainId F.plain_sum_loop _]
    show wpAny _ A.in1 (seqItems? (.ref S) >>= _) _ _ s
    refine wpAny_bind (wpAny_seqItems hSo rfl ?_)
    show wpAny _ A.in1 (tryCatch (pyNext (.ref a)) _ >>= _) _ _ s
    refine wpAny_bind (wpAny_tryCatch (next_gx hh hroom hgo hpn gg ⟨acc, tA, c, rfl⟩ I him (fun z Mz m' v V s' ι' H' σ' ip' pp' e => by cases e) fun s' ι' H' σ' pp' _ hp' _ I' x' => ?_))
    have e : zms.drop i = [] := by rw [List.drop_eq_nil_iff]; omega
    rw [e] at hz
    have hz' : some [] = some zs := hz
    cases hz'
    have htot' : acc = tot := htot
    subst htot'
    exact wpAny_pure (hR tA s' ι' H' σ' (I'.pins_of fun p hp => by cases hp) x')
  | succ m ih =>
    intro i zs acc tA c st σ H ip s hst2 him hz htot gg I
    have hSo := (I.pin (S, sumO acc tA c) (List.mem_append_right _ List.mem_cons_self)).1
    refine codeAny_builtin F.entry_sum_loop ?_
    rw [Around.under_plainId F.plain_sum_loop _]
    show wpAny _ A.in1 (seqItems? (.ref S) >>= _) _ _ s
    refine wpAny_bind (wpAny_seqItems hSo rfl ?_)
    show wpAny _ A.in1 (tryCatch (pyNext (.ref a)) _ >>= _) _ _ s
    refine wpAny_bind (wpAny_tryCatch (next_gx hh hroom hgo hpn gg ⟨acc, tA, c, rfl⟩ I him (fun z Mz m' v V s' ι' H' σ' ip' pp' e hzi rv rp hp' hs0 I' x' gg' => ?_) fun s' ι' H' σ' pp' e => by cases e))
    cases e
    have hlz : i < zms.length := (List.getElem?_eq_some_iff.mp hzi).1
    have ez : zms.drop i = (z, Mz) :: zms.drop (i + 1) := by
      rw [List.drop_eq_getElem_cons hlz]
      rw [List.getElem?_eq_getElem hlz] at hzi
      rw [Option.some.inj hzi]
    rw [ez] at hz
    -- the cell is as it was
    obtain ⟨acc', tA', c', rfl⟩ := hp'
    have hs1 := hs0 (S, sumO acc' tA' c') List.mem_cons_self
    have hs2 : s.heap.get? S = some (sumO acc' tA' c') := hs1
    rw [hSo] at hs2
    cases hs2
    have hS' := (I'.pin (S, sumO acc tA c) (List.mem_append_right _ List.mem_cons_self)).1
    cases z with
    | int k =>
      cases rp with
      | int k =>
        obtain ⟨t, rfl⟩ : ∃ t, v = .int k t := rv
        cases ezs : intsZ (zms.drop (i + 1)) with
        | none =>
          have hz2 : (intsZ (zms.drop (i + 1))).map (k :: ·) = some zs := hz
          rw [ezs] at hz2
          cases hz2
        | some zs' =>
          have hz2 : (intsZ (zms.drop (i + 1))).map (k :: ·) = some zs := hz
          rw [ezs] at hz2
          cases hz2
          have htot2 : sumZ (acc + k) zs' = tot := htot
          have other : ∀ (hp : Heap) (f : Obj → Obj) (b : Addr) (u : Obj), b ≠ S → hp.get? b = some u → (hp.update S f).get? b = some u := fun hp f b u hb e => (Heap.get?_update_other _ _ (Ne.symm hb)).trans e
          have gk : ∀ {s9 : Shared}, s9.gens = s'.gens → s9.heap.IsGen a g → GGo X G A.in1 a g ι0 H0 zms fp Mf (SP1 S) m σ' H' ip' s9 := fun {s9} e1 e2 => ⟨e2, gg'.ipf, by
            obtain ⟨gs, q1, q2⟩ := gg'.goes
            exact ⟨gs, by rw [e1]; exact q1, q2⟩⟩
          have back : ∀ (st' : Int) (t' : Nat) (tk : Tok) (h' : Heap) (c' : Nat), (st' = 0 ∨ st' = 2) → (∀ b u, b ≠ S → s'.heap.get? b = some u → h'.get? b = some u) → h'.get? S = some (sumO (acc + k) tk c') →
              codeAny (model X.prog X.w) A (.builtin "sum.loop" ⟨[.ref a, .ref S, rawInt st', rawInt 0], []⟩) R { s' with heap := h', toks := t' } := fun st' t' tk h' c' hst' hk hS2 => by
            have I2 := Inv.poke (t' := t') hS gg'.ipf I' hk hS2 (fun v q => by cases q)
            refine ih (i + 1) zs' (acc + k) tk c' st' σ' H' ip' _ hst' (by omega) ezs htot2 (gk rfl ?_) I2
            exact hgo _ (I2.pin (a, go) (List.mem_append_left _ hpn)).1
          rcases hst2 with rfl | rfl
          · show wpAny _ A.in1 (if (_ : Bool) = true then (mkInt (acc + k) >>= _) else _) _ _ _
            split
            · refine wpAny_bind (wpAny_mkInt ?_)
              show wpAny _ A.in1 (updateSeq S (fun _ => #[.int (acc + k) s'.toks]) >>= _) _ _ _
              refine wpAny_bind ?_
              refine wpAny_updateSeq hS' rfl (wpAny_pure ⟨plainId_quiet F.plain_sum_loop _, ?_⟩)
              exact back 0 _ s'.toks _ _ (.inl rfl) (other _ _) (Heap.get?_update_self _ hS' rfl)
            · refine wpAny_bind (wpAny_rule ?_)
              refine wpAny_bind (wpAny_attempt (wpAny_holding (wpAny_add_int ?_)))
              show wpAny _ A.in1 (updateSeq S (fun _ => #[.int (acc + k) s'.toks]) >>= _) _ _ _
              refine wpAny_bind (wpAny_updateSeq hS' rfl ?_)
              have hS2 := Heap.get?_update_self (Obj.mapSeq fun _ => #[Value.int (acc + k) s'.toks]) hS' rfl
              refine wpAny_bind (wpAny_letGo ?_)
              refine wpAny_bind (wpAny_updateSeq hS2 rfl (wpAny_pure ⟨plainId_quiet F.plain_sum_loop _, ?_⟩))
              exact back 2 _ s'.toks _ _ (.inr rfl) (fun b u hb e => other _ _ b u hb (other _ _ b u hb e)) (Heap.get?_update_self _ hS2 rfl)
          · show wpAny _ A.in1 ((holding [Value.int k t] (binaryOp .Add (.int acc tA) (.int k t))).attempt >>= _) _ _ _
            refine wpAny_bind (wpAny_attempt (wpAny_holding (wpAny_add_int ?_)))
            show wpAny _ A.in1 (updateSeq S (fun _ => #[.int (acc + k) s'.toks]) >>= _) _ _ _
            refine wpAny_bind (wpAny_updateSeq hS' rfl ?_)
            have hS2 := Heap.get?_update_self (Obj.mapSeq fun _ => #[Value.int (acc + k) s'.toks]) hS' rfl
            refine wpAny_bind (wpAny_letGo ?_)
            refine wpAny_bind (wpAny_updateSeq hS2 rfl (wpAny_pure ⟨plainId_quiet F.plain_sum_loop _, ?_⟩))
            exact back 2 _ s'.toks _ _ (.inr rfl) (fun b u hb e => other _ _ b u hb (other _ _ b u hb e)) (Heap.get?_update_self _ hS2 rfl)
    | _ => cases hz
end
section
variable {prog : Program} {w : World} {A : Around} {E : Value → Shared → Prop} {s : Shared}
theorem call_allG {x : Value} {Q : Value → Shared → Prop} (h : wpAny (model prog w) A.in1 (pyIter x) (fun it s₂ => codeAny (model prog w) A (.builtin "all.loop" ⟨[it], []⟩) (fun r s' => match r with | .ok (.ret v) => Q v s' | .ok _ => False | .error e => E e s') s₂) E s) :
    wpAny (model prog w) A (call (.builtin "all") [x]) Q E s := by
  refine call_function_tree F.kind_all F.plain_all F.entry_all (F.args_all1 _) ?_
  unfold Builtin.«all»
  refine wpAny_bind (m := oneArg "all" _) (wpAny_pure ?_)
  refine wpAny_bind (wpAny_mono h (fun it s₂ h₂ => ?_) fun _ _ e => e)
  exact wpAny_pure ⟨plainId_quiet F.plain_all_loop _, h₂⟩
theorem call_sumG {x : Value} {Q : Value → Shared → Prop} (h : wpAny (model prog w) A.in1 (pyIter x) (fun it s₂ => ∀ tk, codeAny (model prog w) A (.builtin "sum.loop" ⟨[it, .ref s₂.heap.objs.size, rawInt 0, rawInt 0], []⟩) (fun r s' => match r with | .ok (.ret v) => Q v s' | .ok _ => False | .error e => E e s')
      { s₂ with heap := s₂.heap.push (sumO 0 s₂.toks 0), toks := tk }) E s) :
    wpAny (model prog w) A (call (.builtin "sum") [x]) Q E s := by
  refine call_function_tree F.kind_sum F.plain_sum F.entry_sum (F.args_sum1 _) ?_
  unfold Builtin.«sum»
  simp only [List.length_cons, List.length_nil]
  rw [if_neg (by decide)]
  refine wpAny_bind (wpAny_of_eq (show Builtin.Builtins.bindParams "sum" ["start"] 0 { } = pure [none] from rfl) ?_)
  refine wpAny_bind (wpAny_mono h (fun it s₂ h₂ => ?_) fun _ _ e => e)
  refine wpAny_bind (wpAny_mkInt ?_)
  refine wpAny_bind (wpAny_pure ?_)
  simp only [List.forIn_cons, List.forIn_nil]
  refine wpAny_bind (wpAny_bind (wpAny_bind (wpAny_isInstance (T := "int") (b := false) (typeIs_int _ _ _) PySem.sub_int_str ?_)))
  simp only [Bool.false_eq_true, if_false]
  refine wpAny_pure (wpAny_bind (wpAny_bind (wpAny_isInstance (T := "int") (b := false) (typeIs_int _ _ _) PySem.sub_int_bytes ?_)))
  simp only [Bool.false_eq_true, if_false]
  refine wpAny_pure (wpAny_bind (wpAny_bind (wpAny_isInstance (T := "int") (b := false) (typeIs_int _ _ _) PySem.sub_int_bytearray ?_)))
  simp only [Bool.false_eq_true, if_false]
  refine wpAny_pure (wpAny_pure ?_)
  refine wpAny_bind (wpAny_newObj_type ?_)
  exact wpAny_pure ⟨plainId_quiet F.plain_sum_loop _, h₂ _⟩
end
end Xt
set_option Elab.async false
set_option linter.all false
set_option maxRecDepth 100000
set_option maxHeartbeats 2000000
namespace Xt
open PySem PySem.Spec PyProof.Rows L2 GenW
/-! ### the generator's own context -/
/-- the names of its frame: its own (none), the captured (their place outside) -/
def frOk (N : List Str) (nm : List (Str × NameKind)) : List Str → List (Option Nat) → Bool
  | [], [] => true
  | _ :: r, none :: q => frOk N nm r q
  | x :: r, some j :: q => N[j]? == some x && (nm.lookup x == some .free && frOk N nm r q)
  | _, _ => false
structure GxS (N N' : List Str) (fr : List (Option Nat)) (out scope : Scope) : Prop where
  kind : scope.kind = .function
  co : scope.isCoroutine = false
  cell : ∀ y ∈ scope.names, y.2 ≠ .cell
  dot : scope.names.lookup (".0" : Str) = some NameKind.local
  free : ∀ y ∈ scope.names, y.2 = .free → out.names.lookup y.1 = some .cell ∨ out.names.lookup y.1 = some .free
  nd : N'.Nodup
  fr : frOk N scope.names N' fr = true
theorem frOk_at {N : List Str} {nm : List (Str × NameKind)} : ∀ {N' : List Str} {fr : List (Option Nat)}, frOk N nm N' fr = true → fr.length = N'.length ∧ ∀ (i j : Nat), fr[i]? = some (some j) → ∃ x, N'[i]? = some x ∧ N[j]? = some x ∧ nm.lookup x = some .free
  | [], [], _ => ⟨rfl, fun i j h => by simp at h⟩
  | [], _ :: _, h => by cases h
  | _ :: _, [], h => by cases h
  | x :: r, none :: q, h => by
    obtain ⟨h1, h2⟩ := frOk_at (N' := r) (fr := q) h
    refine ⟨by rw [List.length_cons, List.length_cons, h1], fun i j e => ?_⟩
    cases i with
    | zero =>
      rw [List.getElem?_cons_zero] at e
      cases e
    | succ i => exact h2 i j e
  | x :: r, some j0 :: q, h => by
    have h0 : (N[j0]? == some x && (nm.lookup x == some .free && frOk N nm r q)) = true := h
    obtain ⟨a, b⟩ := Bool.and_eq_true_iff.mp h0
    obtain ⟨b, c⟩ := Bool.and_eq_true_iff.mp b
    obtain ⟨h1, h2⟩ := frOk_at (N' := r) (fr := q) c
    refine ⟨by rw [List.length_cons, List.length_cons, h1], fun i j e => ?_⟩
    cases i with
    | zero =>
      rw [List.getElem?_cons_zero] at e
      cases e
      exact ⟨x, rfl, by simpa using a, by simpa using b⟩
    | succ i => exact h2 i j e
def gσ (σ : L2.St) (fr : List (Option Nat)) : L2.St := fr.map fun o => match o with
  | none => none
  | some j => (match σ[j]? with
    | some v => v
    | none => none)
def gρ (ρ : Slots) (fr : List (Option Nat)) : Slots := fr.map fun o => match o with
  | none => .u
  | some j => (match ρ[j]? with
    | some d => d
    | none => .u)
theorem gρ_own {ρ : Slots} {fr : List (Option Nat)} {i : Nat} (h : fr[i]? = some none) : (gρ ρ fr)[i]? = some .u := by
  unfold gρ
  rw [List.getElem?_map, h]
  rfl
def gcx (X : Cx) (A : Around) (N : List Str) (s : Shared) (H : Hp) (cenv : Env) (fp : List Addr) (pn : List (Addr × Obj)) : Cx :=
  { X with A := A, N := N, s_0 := s, H_0 := H, env := cenv, outer := X.stack, stack := cenv :: X.stack, ex := fp, fn := fun _ => false, calm := true, pn := pn, xe := fun _ _ => False }
section
variable {X : Cx} {G : Gx} {N' : List Str} {fr : List (Option Nat)} {scope : Scope} {pins : List (Addr × Obj)} {σ : L2.St} {H : Hp} {s s5 : Shared} {A : Around} {code : Value}
theorem GxS.cells (S : GxS X.N N' fr X.env.scope scope) (ok : X.Ok) {y : Str} {c : Addr} (h : (cloFrom X.env.cells scope.names []).lookup y = some c) : X.env.cells.lookup y = some c ∧ (y, NameKind.free) ∈ scope.names := by
  rcases cloFrom_mem (PySem.mem_of_lookup h) with z | ⟨z, e⟩
  · cases z
  · obtain ⟨c', q⟩ := ok.has y (S.free _ z rfl)
    rw [q] at e
    rw [q, e]
    exact ⟨rfl, z⟩
theorem GxS.free_has (S : GxS X.N N' fr X.env.scope scope) (ok : X.Ok) {y : Str} (h : scope.names.lookup y = some .free) : ∃ c, (cloFrom X.env.cells scope.names []).lookup y = some c ∧ X.env.cells.lookup y = some c := by
  obtain ⟨c, e⟩ := mem_lookup (cloFrom_has (cells := X.env.cells) (acc := []) (PySem.mem_of_lookup h))
  exact ⟨c, e, (S.cells ok e).1⟩
theorem inv_gx (S : GxS X.N N' fr X.env.scope scope) (I : Inv X pins σ H s) (hh : A.handled = none) (hf : A.frames = some (genEnv scope (cloFrom X.env.cells scope.names []) s.heap.objs.size code builtinsNs X.env :: X.stack))
    (k : ∀ b o, s.heap.get? b = some o → s5.heap.get? b = some o) (os : s5.os = s.os) (bare : AllBare s5.gens) (ns : ∃ m, s5.heap.Ns s.heap.objs.size m)
    {go : Obj} {a : Addr} {fp : List Addr} (hfp : ∀ b ∈ fp, FpOk X pins H b ∧ b < s.heap.objs.size) (ha : s5.heap.get? a = some go) (hs : s.heap.objs.size < a) (hgd : ∀ v, go.data ≠ .cell v) :
    Inv (gcx X A N' s H (genEnv scope (cloFrom X.env.cells scope.names []) s.heap.objs.size code builtinsNs X.env) fp [(a, go)]) [] (gσ σ fr) H s5 := by
  have nst : ∀ b ∈ fp, b ∉ frs X.stack := fun b hb z => by
    obtain ⟨_, f1, f2, _⟩ := (hfp b hb).1
    rcases List.mem_cons.mp (I.stkSub b z) with w | w
    · exact f1 w
    · exact f2 w
  obtain ⟨fl, fa⟩ := frOk_at S.fr
  obtain ⟨m, hns⟩ := ns
  have clt : ∀ x c, X.env.cells.lookup x = some c → c < s.heap.objs.size := fun x c e => by
    obtain ⟨v, ob, ho, _⟩ := I.cell x c e
    exact Heap.lt_size ho
  refine ⟨⟨I.ok.mod, S.kind, I.ok.glob, rfl, Nat.le_refl _, fun y z c h1 h2 => I.ok.inj _ _ _ (S.cells I.ok h1).1 (S.cells I.ok h2).1, fun y hy => ?_, fun y c z _ => (by cases z), fun _ => hh, hf, .inr ⟨rfl, rfl⟩, fun b hb => ⟨Nat.ne_of_lt (hfp b hb).2, fun x c e => (hfp b hb).1.2.2.2.2.1 x c (S.cells I.ok e).1⟩, fun b o e => I.bs b o e, Nat.le_trans I.ok.bsz I.sz, fun b o e hb => ?_, nst, I.stack, I.stkFree⟩,
    os, bare, Un.kept k, ⟨m, hns, fun i x v h1 h2 h3 => ?_⟩, fun y c h => ?_, I.hok.fresh (Nat.le_refl _), fun y c h => I.freeC y c (S.cells I.ok h).1, fun p hp => ?_, I.hok.kept k, ?_⟩
  rotate_left 1
  · rcases (hfp b hb).1.2.2.2.1 with z | z
    · exact I.ok.noex b o e z
    · exact absurd (Heap.lt_size e) (Nat.not_lt.mpr (Nat.le_trans I.ok.bsz z))
  rotate_right 1
  · have hy' : scope.names.lookup y = some .cell ∨ scope.names.lookup y = some .free := hy
    rcases hy' with z | z
    · exact absurd rfl (S.cell _ (PySem.mem_of_lookup z))
    · obtain ⟨c, e, _⟩ := S.free_has I.ok z
      exact ⟨c, e⟩
  · unfold gσ at h2
    rw [List.getElem?_map] at h2
    cases e : fr[i]? with
    | none =>
      rw [e] at h2
      cases h2
    | some o =>
      rw [e] at h2
      cases o with
      | none => cases h2
      | some j =>
        obtain ⟨x', n1, n2, n3⟩ := fa i j e
        have h1' : N'[i]? = some x := h1
        rw [n1] at h1'
        cases h1'
        have h2' : (match σ[j]? with | some v => v | none => none) = some v := Option.some.inj h2
        cases q : σ[j]? with
        | none =>
          rw [q] at h2'
          cases h2'
        | some w =>
          rw [q] at h2'
          have h2'' : w = some v := h2'
          subst h2''
          obtain ⟨c, e1, e2⟩ := S.free_has I.ok n3
          obtain ⟨mo, hmo, look⟩ := I.loc
          have vis : X.env.scope.names.lookup x = some .cell ∨ X.env.scope.names.lookup x = some .free := S.free _ (PySem.mem_of_lookup n3) rfl
          obtain ⟨u, r, lk⟩ := look j x v n2 q (.inr vis)
          refine ⟨u, r, .inr ⟨.inr n3, c, e1, ?_⟩⟩
          rcases lk with ⟨z, _⟩ | ⟨_, c', e3, e4⟩
          · have z' : X.env.scope.names.lookup x = some .local := z
            rcases vis with w | w <;> rw [w] at z' <;> cases z'
          · rw [e2] at e3
            cases e3
            obtain ⟨ob, ho, hd⟩ := e4
            exact ⟨ob, k _ _ ho, hd⟩
  · obtain ⟨v, ob, ho, hd⟩ := I.cell y c (S.cells I.ok h).1
    exact ⟨v, ob, k _ _ ho, hd⟩
  · have hp' : p ∈ [(a, go)] := by
      rcases List.mem_append.mp hp with z | z
      · exact z
      · cases z
    rw [List.mem_singleton.mp hp']
    refine ⟨ha, I.hok.fresh (Nat.le_of_lt hs), Nat.ne_of_gt hs, fun z => ?_, hgd⟩
    obtain ⟨_, o, ho, _⟩ := I.stack.mem (b := a) z
    exact absurd (Heap.lt_size ho) (Nat.not_lt.mpr (Nat.le_of_lt hs))
  · unfold gσ
    rw [List.length_map]
    exact fl
theorem gst_gx (S : GxS X.N N' fr X.env.scope scope) {ι : List Addr} {ρ : Slots} {M : Mem} (st : StR G H σ ι ρ M) : StR G H (gσ σ fr) ι (gρ ρ fr) M := by
  refine ⟨by unfold gσ gρ; rw [List.length_map, List.length_map], st.mem, fun i d h n => ?_⟩
  unfold gρ at h
  rw [List.getElem?_map] at h
  cases e : fr[i]? with
  | none =>
    rw [e] at h
    cases h
  | some o =>
    rw [e] at h
    cases o with
    | none =>
      cases h
      exact absurd rfl n
    | some j =>
      have h' : (match ρ[j]? with | some d => d | none => .u) = d := Option.some.inj h
      cases q : ρ[j]? with
      | none =>
        rw [q] at h'
        exact absurd h'.symm n
      | some d' =>
        rw [q] at h'
        have h'' : d' = d := h'
        subst h''
        obtain ⟨v, e1, e2⟩ := st.sl j d' q n
        refine ⟨v, ?_, e2⟩
        unfold gσ
        rw [List.getElem?_map, e]
        show some (match σ[j]? with | some v => v | none => none) = some (some v)
        rw [e1]
end
end Xt
set_option Elab.async false
set_option linter.all false
set_option maxRecDepth 100000
set_option maxHeartbeats 2000000
namespace Xt
open PySem PySem.Spec PyProof.Rows L2 GenW
section
variable {X : Cx} {G : Gx} {N' : List Str} {fr : List (Option Nat)} {scope : Scope} {pins : List (Addr × Obj)} {σ : L2.St} {H : Hp} {s : Shared} {tg iter elt : Expr} {gpos : Pos}
/-- a table has grown -/
theorem Ext.tab {ι : List Addr} {M : Mem} {P : Addr} {ps qs : Array Value} (m : MemR G ι H M) (hnm : G.nm P = none) (hP : H P = some (.tbl ps)) (ht : TriplesOk qs.toList) : Ext G ι H ι M (upd H P (.tbl qs)) where
  pre := List.prefix_refl _
  mem := ⟨m.len, m.nd, fun i a mo h1 h2 => by
    have q := m.ob i a mo h1 h2
    have ne : a ≠ P := fun e => by
      subst e
      cases mo with
      | lst xs =>
        obtain ⟨vs, q, _⟩ := q
        rw [hP] at q
        cases q
      | dct xs =>
        obtain ⟨vs, q, _⟩ := q
        rw [hP] at q
        cases q
      | ins c xs =>
        obtain ⟨C, dx, vs, _, q, _⟩ := q
        rw [hP] at q
        cases q
      | dead =>
        obtain ⟨o, q, z⟩ := q
        rw [hP] at q
        cases q
        cases z
    refine q.mono (List.prefix_refl _) ⟨fun b o u e => ?_, fun b xs e => ?_⟩ (upd_ne ne)
    · rw [upd_ne (fun z => by
        rw [z, hP] at e
        cases e)]
      exact e
    · rw [upd_ne (fun z => by
        rw [z, hP] at e
        cases e)]
      exact e, fun Q hQ => by
    by_cases e : Q = P
    · rw [e]
      exact ⟨qs, upd_same, ht, fun q z => by rw [hnm] at z; cases z⟩
    · exact (m.tab Q hQ).to (fun ps h => by rw [upd_ne e]; exact h) fun c f h => by
        rw [upd_ne (fun z => by
          rw [z, hP] at h
          cases h)]
        exact h⟩
  keep := ⟨fun b o u e => by
    rw [upd_ne (fun z => by
      rw [z, hP] at e
      cases e)]
    exact e, fun b xs e => by
    rw [upd_ne (fun z => by
      rw [z, hP] at e
      cases e)]
    exact e⟩
  frame := fun b o e n _ => by
    rw [upd_ne (fun z => by
      rw [z, hP] at e
      cases e
      cases n)]
    exact e
  tbl := fun b rs e => by
    by_cases z : b = P
    · rw [z, upd_same]
      exact ⟨qs, rfl⟩
    · rw [upd_ne z]
      exact ⟨rs, e⟩
  fresh := fun a h n => absurd h n
/-- the generator at a has been made -/
def GRdy (X : Cx) (G : Gx) (scope : Scope) (tg iter elt : Expr) (gpos : Pos) (pins : List (Addr × Obj)) (σ : L2.St) (ι1 : List Addr) (H1 : Hp) (M1 : Mem) (ds : List Dv) (a : Addr) (s5 : Shared) : Prop :=
  ∃ (s4 : Shared) (H4 : Hp) (code : Value) (it : Addr) (fp : List Addr) (tn : Nat → Heap → Prop) (J : It) (g : Nat) (go : Obj),
    Inv X pins σ H4 s4 ∧ Ext G ι1 H1 ι1 M1 H4 ∧ Turn X.prog X.w X.K tg J fp it tn ∧ tn 0 s5.heap ∧ (∀ b ∈ fp, FpOk X pins H4 b ∧ b < s4.heap.objs.size) ∧ Wk G ι1 H1 J ds ∧ s4.heap.objs.size < a ∧ s5.heap.get? a = some go ∧
    (∀ h : Heap, h.get? a = some go → h.IsGen a g) ∧ (∀ v, go.data ≠ .cell v) ∧ (∀ b o, s4.heap.get? b = some o → s5.heap.get? b = some o) ∧ s5.os = s4.os ∧ AllBare s5.gens ∧ (∃ m, s5.heap.Ns s4.heap.objs.size m) ∧
    s5.gens[g]? = some (.fresh (.compStart (.GeneratorExp elt [⟨tg, iter, [], 0⟩] scope gpos) 0 (.ref it) .none (genEnv scope (cloFrom X.env.cells scope.names []) s4.heap.objs.size code builtinsNs X.env)))
theorem gx_make {c P : Addr} {src : Slots → Co (List Dv)} {k : Nat} {Q' : Value → Shared → Prop} {R : List Dv → List Addr → Mem → Hp → Prop} (hr : Room k X.A) (TB : LamX.TabB X.base X.mg c P) (hPt : P ∈ G.tbs ∧ G.nm P = none) (hcode : X.env.code = .ref c) (S : GxS X.N N' fr X.env.scope scope)
    (hi : PI X tg iter (rdI G E0 src)) (hs : ∀ v, genFold iter X.env v = pure v) (I : Inv X pins σ H s) {ι : List Addr} {ρ : Slots} {M : Mem} (st : StR G H σ ι ρ M) (h : Post G E0 ι H R (src ρ M))
    (hQ : ∀ ds ι1 M1 H1 a s5, R ds ι1 M1 H1 → StR G H1 σ ι1 ρ M1 → GRdy X G scope tg iter elt gpos pins σ ι1 H1 M1 ds a s5 → Q' (.ref a) s5) :
    wpAny (model X.prog X.w) X.A (eval (.GeneratorExp elt [⟨tg, iter, [], 0⟩] scope gpos) X.env) Q' X.xe s := by
  have hfree : ∀ y ∈ scope.names, y.2 = .free → ∃ c, X.env.cells.lookup y.1 = some c := fun y hy e => I.ok.has y.1 (S.free y hy e)
  refine wpAny_GeneratorExp_make S.co (closure_ok hfree) S.cell S.dot S.kind (by have := hr.dp; omega) ?_ hs
  refine wpAny_mono (hi.run pins s σ H (fun J H1 => ∃ ds ι1 M1, Wk G ι1 H1 J ds ∧ StR G H1 σ ι1 ρ M1 ∧ R ds ι1 M1 H1) I ⟨ι, ρ, M, st, h.mono fun ds ι1 M1 H1 x1 q J wk => ⟨ds, ι1, M1, wk, st.ext x1, q⟩⟩) (fun xv s1 h1 => ?_) fun _ _ e => e
  refine thn h1 fun itv s2 ⟨it, fp, tn, J, H1, eit, I2, T, tn0, hf, ds, ι1, M1, wk, st1, hR⟩ => ?_
  subst eit
  obtain ⟨ps, hP, ht, _⟩ := st1.mem.tab P hPt.1
  have hPs : s2.heap.get? P = some { cls := .none, data := .fields ps } := I2.hok P _ hP
  have cd : PySem.W.CodeHd s2.heap c P := TB.code.keeps fun b u e => I2.bk b u e
  refine ⟨I2.nolimit, ?_⟩
  have hne : ∀ b ∈ fp, b ≠ P := fun b hb z => by
    have q := (hf b hb).1
    rw [z, hP] at q
    cases q
  have cont : ∀ (code : Value) (H4 : Hp) (s3 : Shared), (∀ b ∈ fp, H4 b = none) → Inv X pins σ H4 s3 → Ext G ι1 H1 ι1 M1 H4 → (∀ b o, b ≠ P → s2.heap.get? b = some o → s3.heap.get? b = some o) → s2.heap.objs.size ≤ s3.heap.objs.size →
      wpAny (model X.prog X.w) X.A (builtinsFor X.env.globals X.env.builtins) (fun bi s₄ =>
        ∀ h', h'.Ns s₄.heap.objs.size (fun y => if y = ".0" then some (.ref it) else none) → Heap.SameBut s₄.heap.objs.size (s₄.heap.push { cls := .type "frame", data := .dict #[] }) h' →
          Q' (.ref h'.objs.size) { s₄ with
            gens := s₄.gens.push (.fresh (.compStart (.GeneratorExp elt [⟨tg, iter, [], 0⟩] scope gpos) 0 (.ref it) .none (genEnv scope (cloFrom X.env.cells scope.names []) s₄.heap.objs.size code bi X.env))),
            toks := s₄.toks + 1 + 1 + 1,
            heap := h'.push { cls := .type "generator", data := .fields #[.int s₄.gens.size 0, .str "<genexpr>" (s₄.toks + 1), .str (X.env.qual ++ "<genexpr>") (s₄.toks + 1 + 1)] } }) X.xe s3 := by
    intro code H4 s3 hfree4 I3 x4 hk hsz
    obtain ⟨bm, ob, e1, e2, e3, e4, e5, e6, e7, e8⟩ := TB.bm
    refine wpAny_builtinsFor (m := X.mg) (by rw [I3.ok.glob]; exact I3.mod.glob.keeps I3.bk) e1 e2 (I3.bk _ _ e5) e6 e7 e8 ?_
    intro h' hns hsb
    have kp : ∀ b o, s3.heap.get? b = some o → h'.get? b = some o := fun b o e => hsb.extBut b o (Nat.ne_of_lt (Heap.lt_size e)) (Heap.get?_push_of_some _ e)
    have sz : h'.objs.size = s3.heap.objs.size + 1 := by rw [hsb.1, Heap.size_push]
    refine hQ ds ι1 M1 H1 _ _ hR st1 ⟨s3, H4, code, it, fp, tn, J, s3.gens.size, _, I3, x4, T, ?_, fun b hb => ?_, wk, ?_, Heap.get?_push_size _ rfl, fun h e => ⟨_, _, _, e, rfl, rfl, rfl⟩, fun v q => (by cases q), fun b o e => Heap.get?_push_of_some _ (kp b o e), rfl, AllBare.push I3.bare rfl, ⟨_, hns.push _⟩, Array.getElem?_push_size ..⟩
    · exact T.keep 0 _ _ tn0 fun b hb o e => Heap.get?_push_of_some _ (kp b o (hk b o (hne b hb) e))
    · obtain ⟨ob, hob, nd⟩ := T.obj 0 _ tn0 b hb
      exact ⟨⟨hfree4 b hb, (hf b hb).2⟩, Nat.lt_of_lt_of_le (Heap.lt_size hob) hsz⟩
    · show s3.heap.objs.size < h'.objs.size
      omega
  cases hf2 : codeAmong gpos ps.toList with
  | none =>
    refine wpAny_genexprCodeX hcode (cd.code hPs ht) (cd.tab hPs) hf2 fun c' h' tk hx hge hlt hco' _ htab' _ => ?_
    obtain ⟨o1, vs, f1, tf, fl, tg', inF, tx, tt, op, _, _, _, _, _, _, _, _, _, htr, _⟩ := hco'
    have J3 := GxR.inv_tab (g' := s2.gens) (d' := s2.drawn) (t' := tk) I2 hP (fun b o hb e => hx b o hb e) htab'.2 I2.bare
    exact cont (.ref c') _ { s2 with heap := h', toks := tk } (fun b hb => by rw [upd_ne (hne b hb)]; exact (hf b hb).1) J3 (.tab st1.mem hPt.2 hP htr) (fun b o hb e => hx b o hb e) (Nat.le_trans hge (Nat.le_of_lt hlt))
  | some cv =>
    refine wpAny_genexprCode_hit hcode (cd.code hPs ht) hf2 ?_
    exact cont cv H1 s2 (fun b hb => (hf b hb).1) I2 (.refl st1.mem) (fun b o _ e => e) (Nat.le_refl _)

/-! ### sum(..), all(..) -/
def sumG (src : Slots → Co (List Dv)) (tf : Dv → Slots → Co Slots) (te : Slots → Co Dv) (fr : List (Option Nat)) : Slots → Co Dv := fun ρ => bnd (src ρ) fun ds M => match gxL tf te (gρ ρ fr) ds M with
  | none => .fail
  | some l => (match intsZ l with
    | none => .fail
    | some zs => .ok (dI (sumZ 0 zs)) (gxM M l))
def allG (src : Slots → Co (List Dv)) (tf : Dv → Slots → Co Slots) (te : Slots → Co Dv) (fr : List (Option Nat)) : Slots → Co Dv := fun ρ => bnd (src ρ) fun ds M => match gxL tf te (gρ ρ fr) ds M with
  | none => .fail
  | some l => (match allZ l (some (true, M)) with
    | none => .fail
    | some (b, Me) => .ok (vB b) Me)
/-- the generator's frame is a frame over the builtin's -/
theorem over_gx {A : Around} {it : Value} {env : Env} {st : List Env} (hA : A.frames = some st) : (A.over (.compLoop (.GeneratorExp elt [⟨tg, iter, [], 0⟩] scope gpos) 0 it .none env) []).frames = some (env :: st) := by
  unfold Around.over
  simp only [hA]
  rfl
theorem room_gx {k : Nat} {A : Around} {it : Value} {env : Env} (hr : Room (k + 1) A) : Room k (A.in1.in1.over (.compLoop (.GeneratorExp elt [⟨tg, iter, [], 0⟩] scope gpos) 0 it .none env) []) := by
  refine ⟨hr.hd, ?_, ?_⟩
  · have := hr.dp
    show A.depth + 1 + 3 * k + 5 < _
    omega
  · have := hr.un
    show A.units + 1 + 1 + 3 + 16 * k + 200 < _
    omega
end
end Xt
set_option Elab.async false
set_option linter.all false
set_option maxRecDepth 100000
set_option maxHeartbeats 2000000
namespace Xt
open PySem PySem.Spec PyProof.Rows L2 GenW
section
variable {X : Cx} {G : Gx} {E : XK} {N' : List Str} {fr : List (Option Nat)} {scope : Scope} {tg iter elt : Expr} {gpos pos p : Pos} {src : Slots → Co (List Dv)} {tf : Dv → Slots → Co Slots} {te : Slots → Co Dv} {k : Nat} {c P : Addr}
/-- the generator's context, whatever the state -/
abbrev gcxA (X : Cx) (N' : List Str) (scope : Scope) (A : Around) (s : Shared) (H : Hp) (code : Value) (fp : List Addr) (pn : List (Addr × Obj)) : Cx :=
  gcx X A N' s H (genEnv scope (cloFrom X.env.cells scope.names []) s.heap.objs.size code builtinsNs X.env) fp pn
/-- what a generator expression asks -/
structure GxOk (X : Cx) (G : Gx) (N' : List Str) (fr : List (Option Nat)) (scope : Scope) (tg iter elt : Expr) (src : Slots → Co (List Dv)) (tf : Dv → Slots → Co Slots) (te : Slots → Co Dv) (k : Nat) : Prop where
  sc : GxS X.N N' fr X.env.scope scope
  pi : PI X tg iter (rdI G E0 src)
  pg : ∀ A s H code fp pn, PG (gcxA X N' scope A s H code fp pn) tg (rdG G E0 tf)
  pe : ∀ A s H code fp pn, Room k A → PE (gcxA X N' scope A s H code fp pn) elt (rdE G E0 te)
  bk : ∀ ρ, BkS G (gρ ρ fr) tf
  fold : ∀ v, genFold iter X.env v = pure v
theorem rd_nox {α : Type} {H : Hp} {ι : List Addr} {Q : α → List Addr → Mem → Hp → Prop} {E : XK} {c : Co α} {M : Mem} (h : Post G E ι H Q (nox c M)) : Post G E0 ι H Q (c M) := by
  unfold nox at h
  cases e : c M with
  | fail =>
    rw [e] at h
    exact h.elim
  | ok a M' =>
    rw [e] at h
    exact h
  | ex c' M' =>
    rw [e] at h
    exact h.elim
theorem fp_gx {pins pp : List (Addr × Obj)} {s4 : Shared} {H4 H' : Hp} {fp : List Addr} {σ : L2.St} {cd : Value} {a : Addr} {go : Obj} {A : Around} (S : GxS X.N N' fr X.env.scope scope) (I4 : Inv X pins σ H4 s4) (hf : ∀ b ∈ fp, FpOk X pins H4 b ∧ b < s4.heap.objs.size) (hag : s4.heap.objs.size < a)
    (hpp : ∀ q ∈ pp, s4.heap.objs.size ≤ q.1) (hz : ∀ b ∈ fp, H' b = none) : ∀ b ∈ fp, FpOk (gcxA X N' scope A s4 H4 cd fp [(a, go)]) pp H' b := fun b hb => by
  obtain ⟨⟨_, f1, f2, _, f4, _⟩, lt⟩ := hf b hb
  refine ⟨hz b hb, Nat.ne_of_lt lt, fun z => ?_, .inl hb, fun x c e => f4 x c (S.cells I4.ok e).1, fun q hq e => ?_⟩
  · rcases List.mem_cons.mp (I4.stkSub b z) with w | w
    · exact f1 w
    · exact f2 w
  · have lt' : b < s4.heap.objs.size := lt
    rcases List.mem_append.mp hq with w | w
    · have w' : q = (a, go) := List.mem_singleton.mp w
      rw [w'] at e
      have e' : a = b := e
      rw [← e'] at lt'
      exact Nat.lt_asymm lt' hag
    · have := hpp q w
      rw [e] at this
      exact absurd lt' (Nat.not_lt.mpr this)
theorem xallG (ok : GxOk X G N' fr scope tg iter elt src tf te k) (hr : Room (k + 1) X.A) (TB : LamX.TabB X.base X.mg c P) (hPt : P ∈ G.tbs ∧ G.nm P = none) (hcode : X.env.code = .ref c) (hg : Gl X "all") (hm : X.mg "all" = none)
    (he : starEach [.GeneratorExp elt [⟨tg, iter, [], 0⟩] scope gpos] X.env = (false, eval (.GeneratorExp elt [⟨tg, iter, [], 0⟩] scope gpos) X.env) :: starEach [] X.env := by rfl) :
    PE X (.Call (.Name "all" p) [.GeneratorExp elt [⟨tg, iter, [], 0⟩] scope gpos] [] pos) (rdE G E (allG (fun ρ => nox (src ρ)) tf te fr)) := by
  refine ⟨fun pins s σ H Q I h => ?_⟩
  obtain ⟨ι, ρ, M, st, po⟩ := h
  refine wpAny_Call_Name_kw (ld_blt I hg hm (show bootBuiltins "all" = some (.builtin "all") from rfl) ?_)
  refine PyProof.Rows.callWith_builtin1 ?_ he (by rfl)
  rw [he]
  show wpAny _ _ (spliced ((false, eval (.GeneratorExp elt [⟨tg, iter, [], 0⟩] scope gpos) X.env) :: backTo pos (starEach [] X.env))) _ _ s
  have po2 := rd_nox (Post.bnd po)
  refine Calls.spliced_cons (gx_make hr TB hPt hcode ok.sc ok.pi ok.fold I st po2 fun ds ι1 M1 H1 a s5 hR st1 rdy => ?_)
  obtain ⟨s4, H4, cd, it, fp, tn, J, g, go, I4, x4, T, tn0, hf, wk, hag, hgo0, hgo, hgd, hk, os, bare, ns, hgs⟩ := rdy
  refine Calls.spliced_nil ?_
  refine call_allG (wpAny_pyIter_gen (hgo _ hgo0) ?_)
  -- the items
  cases el : gxL tf te (gρ ρ fr) ds M1 with
  | none =>
    simp only [el] at hR
    exact hR.elim
  | some l =>
  simp only [el] at hR
  cases ez : allZ l (some (true, M1)) with
  | none =>
    simp only [ez] at hR
    exact hR.elim
  | some bm =>
  obtain ⟨b, Me⟩ := bm
  simp only [ez] at hR
  have hr1 := hr
  -- the context in the generator
  have hov : (X.A.in1.in1.over (.compLoop (.GeneratorExp elt [⟨tg, iter, [], 0⟩] scope gpos) 0 (.ref it) .none (genEnv scope (cloFrom X.env.cells scope.names []) s4.heap.objs.size cd builtinsNs X.env)) []).handled = none := hr.hd
  have hfrm := over_gx (A := X.A.in1.in1) (tg := tg) (iter := iter) (elt := elt) (scope := scope) (gpos := gpos) (it := .ref it) (env := genEnv scope (cloFrom X.env.cells scope.names []) s4.heap.objs.size cd builtinsNs X.env) I.ok.frames
  have J5 := inv_gx (N' := N') (fr := fr) ok.sc I4 hov hfrm hk os bare ns hf hgo0 hag hgd
  have hn := gxL_len el
  have sr4 : StR G H4 (gσ σ fr) ι1 (gρ ρ fr) M1 := gst_gx ok.sc (st1.ext x4)
  have J6 := Inv.pinned (pins := []) J5 (fp_gx (pp := []) ok.sc I4 hf hag (fun q hq => (by cases hq)) fun b hb => (hf b hb).1.1) (T.obj _ _ tn0)
  refine all_loop (G := G) (X := gcxA X N' scope _ s4 H4 cd fp [(a, go)]) (A := X.A) (fp := fp) (ι0 := ι1) (H0 := H1) (zms := l) (Mf := gxM M1 l) (s2 := s5) hr.hd hr.depth hgo List.mem_cons_self (b := b) (Me := Me) (fun s' ι' H' σ' I' x' => ?_) l.length 0 M1 (gσ σ fr) H4 (pinsAt fp s5.heap) s5 (Nat.zero_add _) ez (fun e => ?_) rfl
    ⟨hgo _ hgo0, fun p hp => (of_pinsAt hp).1, _, hgs, fun s'' pp' hpp' I'' => ?_⟩ J6
  · have I9 : Inv X pins σ H' s' := I4.call' (ch := fp) I'.os I'.base I'.hok I'.bare fun b hb => ⟨(hf b hb).1.2.2.2.1, (hf b hb).1.2.1, (hf b hb).1.2.2.2.2⟩
    exact ⟨.bl b, H', I9, rfl, hR ι' H' x' _ (.g (.bl b))⟩
  · cases l with
    | nil => rfl
    | cons _ _ => cases e
  · subst hpp'
    refine ⟨rfl, ?_⟩
    refine seg_gx0 (X := gcxA X N' scope _ s4 H4 cd fp [(a, go)]) (A := X.A.in1.in1) (ds := ds) (ρ := gρ ρ fr) (M := M1) (tf := tf) (te := te) (fp := fp) (tn := tn) (J := J) (PP := fun pp => pp = []) (s₀ := s'') rfl rfl (fun _ _ z => z) T (fun pp H' hpp hz b hb => ?_) wk (ok.pg _ _ _ _ _ _) (ok.pe _ _ _ _ _ _ (room_gx hr)) (ok.bk ρ) ok.sc.co el rfl
      ⟨ι1, H4, gσ σ fr, [], rfl, fun p hp => (by cases hp), I''.pins_of fun p hp => (by cases hp), x4, sr4, ?_, fun b hb => (hf b hb).1.1⟩
    · subst hpp
      exact fp_gx ok.sc I4 hf hag (fun q hq => (by cases hq)) hz b hb
    · exact T.keep _ _ _ tn0 fun b hb o e => (I''.pin (b, o) (List.mem_append_right _ (List.mem_append_right _ (mem_pinsAt hb e)))).1
theorem xsumG (ok : GxOk X G N' fr scope tg iter elt src tf te k) (hr : Room (k + 1) X.A) (TB : LamX.TabB X.base X.mg c P) (hPt : P ∈ G.tbs ∧ G.nm P = none) (hcode : X.env.code = .ref c) (hg : Gl X "sum") (hm : X.mg "sum" = none)
    (he : starEach [.GeneratorExp elt [⟨tg, iter, [], 0⟩] scope gpos] X.env = (false, eval (.GeneratorExp elt [⟨tg, iter, [], 0⟩] scope gpos) X.env) :: starEach [] X.env := by rfl) :
    PE X (.Call (.Name "sum" p) [.GeneratorExp elt [⟨tg, iter, [], 0⟩] scope gpos] [] pos) (rdE G E (sumG (fun ρ => nox (src ρ)) tf te fr)) := by
  refine ⟨fun pins s σ H Q I h => ?_⟩
  obtain ⟨ι, ρ, M, st, po⟩ := h
  refine wpAny_Call_Name_kw (ld_blt I hg hm (show bootBuiltins "sum" = some (.builtin "sum") from rfl) ?_)
  refine PyProof.Rows.callWith_builtin1 ?_ he (by rfl)
  rw [he]
  show wpAny _ _ (spliced ((false, eval (.GeneratorExp elt [⟨tg, iter, [], 0⟩] scope gpos) X.env) :: backTo pos (starEach [] X.env))) _ _ s
  have po2 := rd_nox (Post.bnd po)
  refine Calls.spliced_cons (gx_make hr TB hPt hcode ok.sc ok.pi ok.fold I st po2 fun ds ι1 M1 H1 a s5 hR st1 rdy => ?_)
  obtain ⟨s4, H4, cd, it, fp, tn, J, g, go, I4, x4, T, tn0, hf, wk, hag, hgo0, hgo, hgd, hk, os, bare, ns, hgs⟩ := rdy
  refine Calls.spliced_nil ?_
  refine call_sumG (wpAny_pyIter_gen (hgo _ hgo0) fun tk => ?_)
  cases el : gxL tf te (gρ ρ fr) ds M1 with
  | none =>
    simp only [el] at hR
    exact hR.elim
  | some l =>
  simp only [el] at hR
  cases ez : intsZ l with
  | none =>
    simp only [ez] at hR
    exact hR.elim
  | some zs =>
  simp only [ez] at hR
  have hov : (X.A.in1.in1.over (.compLoop (.GeneratorExp elt [⟨tg, iter, [], 0⟩] scope gpos) 0 (.ref it) .none (genEnv scope (cloFrom X.env.cells scope.names []) s4.heap.objs.size cd builtinsNs X.env)) []).handled = none := hr.hd
  have hfrm := over_gx (A := X.A.in1.in1) (tg := tg) (iter := iter) (elt := elt) (scope := scope) (gpos := gpos) (it := .ref it) (env := genEnv scope (cloFrom X.env.cells scope.names []) s4.heap.objs.size cd builtinsNs X.env) I.ok.frames
  have alt : a < s5.heap.objs.size := Heap.lt_size hgo0
  have kS : ∀ b o, s5.heap.get? b = some o → (s5.heap.push (sumO 0 s5.toks 0)).get? b = some o := fun b o e => Heap.get?_push_of_some _ e
  have tn5 : tn 0 (s5.heap.push (sumO 0 s5.toks 0)) := T.keep 0 _ _ tn0 fun b _ o e => kS b o e
  have J5 := inv_gx (s5 := { s5 with heap := s5.heap.push (sumO 0 s5.toks 0), toks := tk }) (N' := N') (fr := fr) ok.sc I4 hov hfrm (fun b o e => kS b o (hk b o e)) os bare (by
    obtain ⟨m, n⟩ := ns
    exact ⟨m, n.push _⟩) hf (kS _ _ hgo0) hag hgd
  have hn := gxL_len el
  have sr4 : StR G H4 (gσ σ fr) ι1 (gρ ρ fr) M1 := gst_gx ok.sc (st1.ext x4)
  have sS : s4.heap.objs.size ≤ s5.heap.objs.size := Nat.le_of_lt (Nat.lt_trans hag alt)
  have off : Off (gcxA X N' scope (X.A.in1.in1.over (.compLoop (.GeneratorExp elt [⟨tg, iter, [], 0⟩] scope gpos) 0 (.ref it) .none (genEnv scope (cloFrom X.env.cells scope.names []) s4.heap.objs.size cd builtinsNs X.env)) []) s4 H4 cd fp [(a, go)]) fp s5.heap.objs.size := by
    refine ⟨sS, Nat.ne_of_gt (Nat.lt_trans hag alt), fun x c e z => ?_, fun q hq z => ?_, fun b hb z => ?_⟩
    · obtain ⟨v, ob, ho, _⟩ := I4.cell x c (ok.sc.cells I4.ok e).1
      have := Heap.lt_size ho
      rw [z] at this
      exact absurd (Nat.lt_of_lt_of_le this sS) (Nat.lt_irrefl _)
    · have hq' : q = (a, go) := List.mem_singleton.mp hq
      rw [hq'] at z
      have z' : a = s5.heap.objs.size := z
      rw [z'] at alt
      exact Nat.lt_irrefl _ alt
    · have := (hf b hb).2
      rw [z] at this
      exact absurd (Nat.lt_of_lt_of_le this sS) (Nat.lt_irrefl _)
  have ge1 : ∀ q ∈ [(s5.heap.objs.size, sumO 0 s5.toks 0)], s4.heap.objs.size ≤ q.1 := fun q hq => by
    rw [List.mem_singleton.mp hq]
    exact sS
  have J7 := J5.pins_of (pins' := [(s5.heap.objs.size, sumO 0 s5.toks 0)]) fun q hq => by
    rw [List.mem_singleton.mp hq]
    refine ⟨Heap.get?_push_size _ rfl, I4.hok.fresh sS, off.loc, fun z => ?_, fun v e => (by cases e)⟩
    obtain ⟨_, o, ho, _⟩ := I4.stack.mem (b := s5.heap.objs.size) z
    exact absurd (Nat.lt_of_lt_of_le (Heap.lt_size ho) sS) (Nat.lt_irrefl _)
  have J6 := Inv.pinned J7 (fp_gx ok.sc I4 hf hag ge1 fun b hb => (hf b hb).1.1) (T.obj _ _ tn5)
  refine sum_loop (G := G) (X := gcxA X N' scope _ s4 H4 cd fp [(a, go)]) (A := X.A) (fp := fp) (ι0 := ι1) (H0 := H1) (zms := l) (Mf := gxM M1 l) (S := s5.heap.objs.size) hr.hd hr.depth hgo List.mem_cons_self off (tot := sumZ 0 zs) (fun t s' ι' H' σ' I' x' => ?_) l.length 0 zs 0 s5.toks 0 0 (gσ σ fr) H4 (pinsAt fp (s5.heap.push (sumO 0 s5.toks 0))) _ (.inl rfl) (Nat.zero_add _) ez rfl
    ⟨hgo _ (kS _ _ hgo0), fun p hp => (of_pinsAt hp).1, _, hgs, fun s'' pp' hpp' I'' => ?_⟩ J6
  · have I9 : Inv X pins σ H' s' := I4.call' (ch := fp) I'.os I'.base I'.hok I'.bare fun b hb => ⟨(hf b hb).1.2.2.2.1, (hf b hb).1.2.1, (hf b hb).1.2.2.2.2⟩
    exact ⟨.int (sumZ 0 zs), H', I9, ⟨t, rfl⟩, hR ι' H' x' _ rpI⟩
  · refine ⟨rfl, ?_⟩
    refine seg_gx0 (X := gcxA X N' scope _ s4 H4 cd fp [(a, go)]) (A := X.A.in1.in1) (ds := ds) (ρ := gρ ρ fr) (M := M1) (tf := tf) (te := te) (fp := fp) (tn := tn) (J := J) (PP := SP1 s5.heap.objs.size) (s₀ := s'') rfl rfl (fun _ _ z => z) T (fun pp H' hpp hz b hb => ?_) wk (ok.pg _ _ _ _ _ _) (ok.pe _ _ _ _ _ _ (room_gx hr)) (ok.bk ρ) ok.sc.co el rfl
      ⟨ι1, H4, gσ σ fr, pp', hpp', fun p hp => (I''.pin p (List.mem_append_right _ (List.mem_append_left _ hp))).1, I''.unpinned, x4, sr4, ?_, fun b hb => (hf b hb).1.1⟩
    · obtain ⟨acc, t, c', rfl⟩ := hpp
      exact fp_gx ok.sc I4 hf hag (fun q hq => by
        rw [List.mem_singleton.mp hq]
        exact sS) hz b hb
    · exact T.keep _ _ _ tn5 fun b hb o e => (I''.pin (b, o) (List.mem_append_right _ (List.mem_append_right _ (mem_pinsAt hb e)))).1
end
end Xt
set_option Elab.async false
set_option linter.all false
set_option maxRecDepth 100000
set_option maxHeartbeats 1000000
namespace Xt
open PySem PySem.Spec PyProof.Rows L2
/-! ### lists that change -/
/-- what stands at i is put anew -/
def putM (i : Nat) (mo : MO) : Co Unit := fun M => .ok () (M.set i mo)
/-- a list of the memory -/
def lstOf : Dv → Co Nat := fun d => match d with
  | .r i => atM i fun mo => match mo with
    | .lst _ => rt i
    | _ => fl
  | _ => fl
def dctOf : Dv → Co Nat := fun d => match d with
  | .r i => atM i fun mo => match mo with
    | .dct _ => rt i
    | _ => fl
  | _ => fl
def apM (i : Nat) (e : Dv) : Co Dv := atM i fun mo => match mo with
  | .lst xs => chk (Nat.blt xs.length 16777216) (fun M => .ok (.g .none) (M.set i (.lst (xs ++ [e]))))
  | _ => fl
def app (f g : Slots → Co Dv) : Slots → Co Dv := fun ρ => bnd (f ρ) fun d => bnd (lstOf d) fun i => bnd (g ρ) fun e => apM i e
section
variable {G : Gx} {E : XK} {ι : List Addr} {H : Hp} {M : Mem} {d : Dv} {v : V}
theorem Post.lstOf {α : Type} {k : Nat → Co α} {Q : α → List Addr → Mem → Hp → Prop} (p : Post G E ι H Q (Xt.bnd (Xt.lstOf d) k M)) : ∃ i xs, d = .r i ∧ M[i]? = some (.lst xs) ∧ Post G E ι H Q (k i M) := by
  have p2 := Post.bnd p
  cases d with
  | r i =>
    have p3 : Post G E ι H Q (Xt.bnd (Xt.atM i fun mo => match mo with | .lst _ => Xt.rt i | _ => fl) k M) := p
    unfold Xt.bnd Xt.atM at p3
    cases e : M[i]? with
    | none =>
      rw [e] at p3
      exact p3.elim
    | some mo =>
      rw [e] at p3
      cases mo with
      | lst xs => exact ⟨i, xs, rfl, e, p3⟩
      | _ => exact p3.elim
  | _ => exact p2.elim
theorem Post.dctOf {α : Type} {k : Nat → Co α} {Q : α → List Addr → Mem → Hp → Prop} (p : Post G E ι H Q (Xt.bnd (Xt.dctOf d) k M)) : ∃ i xs, d = .r i ∧ M[i]? = some (.dct xs) ∧ Post G E ι H Q (k i M) := by
  have p2 := Post.bnd p
  cases d with
  | r i =>
    have p3 : Post G E ι H Q (Xt.bnd (Xt.atM i fun mo => match mo with | .dct _ => Xt.rt i | _ => fl) k M) := p
    unfold Xt.bnd Xt.atM at p3
    cases e : M[i]? with
    | none =>
      rw [e] at p3
      exact p3.elim
    | some mo =>
      rw [e] at p3
      cases mo with
      | dct xs => exact ⟨i, xs, rfl, e, p3⟩
      | _ => exact p3.elim
  | _ => exact p2.elim
end
section
variable {X : Cx} {G : Gx} {E : XK} {e e1 e2 e3 : Expr} {es : List Expr} {f g h3 : Slots → Co Dv} {gs : Slots → Co (List Dv)} {pos p : Pos}
/-- o.append(e) -/
theorem xapp {apos cpos : Pos} (ho : PE X e1 (rdE G E f)) (ha : PE X e2 (rdE G E g))
    (hbase : attributeBase e1 "append" X.env (eval e1 X.env) = eval e1 X.env := by rfl)
    (hfew : ((backTo cpos (starEach [e2] X.env)).all (fun x => !x.1) && (backToKw cpos (keywordEach [] X.env)).all (fun x => x.1.isSome)
      && decide (([e2] : List Expr).length + ([] : List Keyword).length + (if ([] : List Keyword).isEmpty then 0 else 1) < 30)) = true := by rfl)
    (hline : (apos.endLine == cpos.line) = true := by rfl) (hs : starEach [e2] X.env = (false, eval e2 X.env) :: starEach [] X.env := by rfl) (hplain : (backTo cpos (starEach [] X.env)).any (·.1) = false := by rfl) :
    PE X (.Call (.Attribute e1 "append" apos) [e2] [] cpos) (rdE G E (app f g)) :=
  peI (pe_bm PySem.F.plainAttrs_list PySem.F.slot_list_append PySem.F.type_list_append mt_append ho (pa_cons ha pa_nil hs) hbase hfew hline hs hplain) fun σ H Q h => by
    obtain ⟨ι, ρ, M, st, p⟩ := h
    refine ⟨ι, ρ, M, st, (Post.bnd p).mono fun d ι1 M1 H1 x1 p1 v rv => ?_⟩
    obtain ⟨i, xs0, rfl, e0, p2⟩ := Post.lstOf p1
    cases rv with
    | @r a _ hi =>
      obtain ⟨vs0, g1, _⟩ := x1.mem.lstE hi e0
      refine ⟨.inl ⟨rfl, vs0, .of g1⟩, ι1, ρ, M1, st.ext x1, (Post.bnd p2).mono fun d2 ι2 M2 H2 x2 p3 w rw => ?_⟩
      obtain ⟨mo, e1, p4⟩ := Post.atM p3
      cases mo with
      | lst xs =>
        obtain ⟨c, p5⟩ := Post.chk p4
        have hi2 := pre_get x2.pre hi
        obtain ⟨vs, h1, h2⟩ := x2.mem.lstE hi2 e1
        refine ⟨_, vs, w, rfl, rfl, h1, ?_, ?_⟩
        · rw [h2.length, sizeLine_eq]
          exact Nat.le_of_ble_eq_true c
        · have x3 : Ext G ι2 H2 ι2 (M2.set i (.lst (xs ++ [d2]))) (upd H2 a (.lst (vs ++ [w]))) := .store x2.mem hi2 h1 rfl ⟨_, upd_same, (h2.snoc rw).mono (List.prefix_refl _) (keep_store h1 rfl)⟩
          exact p5 ι2 _ x3 _ (.g .non)
      | _ => exact p4.elim
/-! ### o[i] = v -/
def dvV (kvs : List (Int × Dv)) (k : Int) : Option Dv := match kvs with
  | [] => none
  | (j, d) :: r => (match decide (j = k) with
    | true => some d
    | false => dvV r k)
def dvR (kvs : List (Int × Dv)) (k : Int) (v : Dv) : List (Int × Dv) := match kvs with
  | [] => []
  | (j, d) :: r => (j, match decide (j = k) with
    | true => v
    | false => d) :: dvR r k v
def dvP (kvs : List (Int × Dv)) (k : Int) (v : Dv) : List (Int × Dv) := match dvV kvs k with
  | some _ => dvR kvs k v
  | none => kvs ++ [(k, v)]
def stD : Dv → Dv → Dv → Co Unit := fun o i v => bnd (ofO (asI i)) fun k => match o with
  | .r j => atM j fun mo => match mo with
    | .lst xs => bnd (ofO (ixN xs.length k)) fun n => putM j (.lst (xs.set n v))
    | .dct kvs => chk (Nat.blt kvs.length 16777216) (putM j (.dct (dvP kvs k v)))
    | _ => fl
  | _ => fl
end
section
variable {G : Gx} {E : XK} {ι : List Addr} {H : Hp} {M : Mem} {d : Dv} {v : V}
theorem RpI.valV {kws : List (Key × V)} {kvs : List (Int × Dv)} (r : RpI G ι H kws kvs) (k : Int) : match dvV kvs k with
    | some d => ∃ v, L2.valV kws (.inl k) = some v ∧ RpD G ι H v d
    | none => L2.valV kws (.inl k) = none := by
  induction r with
  | nil => exact valV_nil
  | @cons i v kws d kvs h _ ih =>
    unfold dvV
    cases e : decide (i = k) with
    | true =>
      have e2 := of_decide_eq_true e
      subst e2
      exact ⟨v, valV_pos (p := (Sum.inl i, v)) rfl, h⟩
    | false =>
      have e2 := of_decide_eq_false e
      rw [valV_neg (p := (Sum.inl i, v)) (fun z => e2 (Sum.inl.inj z))]
      exact ih
theorem RpI.snoc {kws : List (Key × V)} {kvs : List (Int × Dv)} (r : RpI G ι H kws kvs) {k : Int} (h : RpD G ι H v d) : RpI G ι H (kws ++ [(.inl k, v)]) (kvs ++ [(k, d)]) := by
  induction r with
  | nil => exact .cons h .nil
  | cons q _ ih => exact .cons q ih
theorem RpI.repl {kws : List (Key × V)} {kvs : List (Int × Dv)} (r : RpI G ι H kws kvs) {k : Int} (h : RpD G ι H v d) : RpI G ι H (kws.map fun kv => if kv.1 = .inl k then (kv.1, v) else kv) (dvR kvs k d) := by
  induction r with
  | nil => exact .nil
  | @cons i v' kws d' kvs q _ ih =>
    rw [List.map_cons]
    unfold dvR
    cases e : decide (i = k) with
    | true =>
      have e2 := of_decide_eq_true e
      subst e2
      rw [if_pos rfl]
      exact .cons h ih
    | false =>
      have e2 := of_decide_eq_false e
      rw [if_neg (fun z => e2 (Sum.inl.inj z))]
      exact .cons q ih
theorem RpI.put {kws : List (Key × V)} {kvs : List (Int × Dv)} (r : RpI G ι H kws kvs) {k : Int} (h : RpD G ι H v d) : RpI G ι H (putK kws (.inl k) v) (dvP kvs k d) := by
  have q := r.valV k
  unfold putK dvP
  rw [valV_any]
  cases e : dvV kvs k with
  | some d' =>
    rw [e] at q
    obtain ⟨v', q1, _⟩ := q
    rw [q1, if_pos (by rfl)]
    exact r.repl h
  | none =>
    rw [e] at q
    have q1 : L2.valV kws (.inl k) = none := q
    rw [q1, if_neg (by decide)]
    exact r.snoc h
end
section
variable {X : Cx} {G : Gx} {E : XK} {e e1 e2 e3 : Expr} {es : List Expr} {f g h3 : Slots → Co Dv} {gs : Slots → Co (List Dv)} {pos p : Pos}
def rSetX : TSet := fun o i v H Q => rSetL o i v H Q ∨ rSetD o i v H Q
theorem set_X (hu : X.A.units + 1 < cLine) : PSet X rSetX := fun pins s σ H o i v ov iv u Q I ro ri rv h => h.elim (set_list pins s σ H o i v ov iv u Q I ro ri rv) (set_dict hu pins s σ H o i v ov iv u Q I ro ri rv)
def tSub (f g : Slots → Co Dv) : Dv → Slots → Co Slots := fun d ρ => bnd (f ρ) fun o => bnd (g ρ) fun i => bnd (stD o i d) fun _ => rt ρ
theorem xgsub (hu : X.A.units + 1 < cLine) (ho : PE X e1 (rdE G E f)) (hi : PE X e2 (rdE G E g))
    (ha : ∀ v, assign (.Subscript e1 e2 pos) X.env v = (do
      let ov ← holding [v] (eval e1 X.env)
      let iv ← holding [v, ov] (eval e2 X.env)
      standAt pos
      holding [v, ov, iv] (setItem ov iv v)
      release [v, ov, iv] []) := by intro _; rfl) : PG X (.Subscript e1 e2 pos) (rdG G E (tSub f g)) :=
  pgI (pg_sub ho hi (set_X hu) ha) fun v σ H Q h => by
    obtain ⟨ι, ρ, M, d, st, r, p⟩ := h
    refine ⟨ι, ρ, M, st, (Post.bnd p).mono fun o ι1 M1 H1 x1 p1 ov ro => ?_⟩
    refine ⟨ι1, ρ, M1, st.ext x1, (Post.bnd p1).mono fun i ι2 M2 H2 x2 p2 iv ri => ?_⟩
    have r2 := (r.mono x1.pre x1.keep).mono x2.pre x2.keep
    have st2 := (st.ext x1).ext x2
    have p3 := Post.bnd p2
    obtain ⟨k, ek, p4⟩ := Post.ofO p3
    obtain ⟨rfl, rfl⟩ := asI_rp ri ek
    cases ro with
    | @r a j hj =>
      obtain ⟨mo, e0, p5⟩ := Post.atM p4
      have hj2 := pre_get x2.pre hj
      cases mo with
      | lst xs =>
        obtain ⟨n, en, p6⟩ := Post.ofO p5
        obtain ⟨vs, h1, h2⟩ := x2.mem.lstE hj2 e0
        refine .inl ⟨a, vs, k, n, rfl, rfl, h1, by rw [h2.length]; exact en, ?_⟩
        have x3 : Ext G ι2 H2 ι2 (M2.set j (.lst (xs.set n d))) (upd H2 a (.lst (vs.set n v))) := .store x2.mem hj2 h1 rfl ⟨_, upd_same, (h2.set r2 n).mono (List.prefix_refl _) (keep_store h1 rfl)⟩
        exact Post.rt x3.mem (p6 ι2 _ x3) σ (st2.ext x3)
      | dct kvs =>
        obtain ⟨c, p6⟩ := Post.chk p5
        obtain ⟨kws, h1, h2⟩ := x2.mem.dctE hj2 e0
        refine .inr ⟨a, _, rfl, DPut.k (k := .inl k) h1 (by rw [h2.length, sizeLine_eq]; exact Nat.le_of_ble_eq_true c), ?_⟩
        have x3 : Ext G ι2 H2 ι2 (M2.set j (.dct (dvP kvs k d))) (upd H2 a (.dK (putK kws (.inl k) v))) := .store x2.mem hj2 h1 rfl ⟨_, upd_same, (h2.put r2).mono (List.prefix_refl _) (keep_store h1 rfl)⟩
        exact Post.rt x3.mem (p6 ι2 _ x3) σ (st2.ext x3)
      | _ => exact p5.elim
    | g _ => exact p4.elim
    | t _ _ => exact p4.elim
/-! ### dicts: {}, {k: v}, get -/
def newD (kvs : List (Int × Dv)) : Co Dv := fun M => .ok (.r M.length) (M ++ [.dct kvs])
theorem xd0 : PE X (.Dict [] [] pos) (rdE G E (fun _ => newD [])) := peI pe_dnewK fun σ H Q h => by
  obtain ⟨ι, ρ, M, st, p⟩ := h
  intro a ha
  have x2 : Ext G ι H (ι ++ [a]) (M ++ [.dct []]) (upd H a (.dK [])) := .alloc st.mem ha ⟨[], upd_same, .nil⟩
  refine p _ _ x2 _ (.r ?_)
  rw [← st.mem.len]
  exact get_last _ _
/-- {k: v} -/
def dsp1 (f g : Slots → Co Dv) : Slots → Co Dv := fun ρ M => bnd (f ρ) (fun k => bnd (ofO (asI k)) fun i => bnd (g ρ) fun v => fun M' => match M'[M.length]? with
  | some (.dct []) => .ok (.r M.length) (M'.set M.length (.dct [(i, v)]))
  | _ => .fail) (M ++ [.dct []])
theorem xd1 {e1 e2 : Expr} (ha : PE X e1 (rdE G E f)) (hb : PE X e2 (rdE G E g)) : PE X (.Dict [some e1] [e2] pos) (rdE G E (dsp1 f g)) :=
  peI (pe_disp (pps_cons ha hb pps_nil) rfl rfl (by simp) (by simp)) fun σ H Q h => by
    obtain ⟨ι, ρ, M, st, p⟩ := h
    intro a ha
    have x1 : Ext G ι H (ι ++ [a]) (M ++ [.dct []]) (upd H a (.dK [])) := .alloc st.mem ha ⟨[], upd_same, .nil⟩
    have hi : (ι ++ [a])[M.length]? = some a := by
      rw [← st.mem.len]
      exact get_last _ _
    have p1 := p.shift x1
    refine ⟨ι ++ [a], ρ, _, st.ext x1, (Post.bnd (E := E) p1).mono fun d ι2 M2 H2 x2 p2 v rv => ?_⟩
    obtain ⟨i, ei, p3⟩ := Post.ofO p2
    obtain ⟨rfl, rfl⟩ := asI_rp rv ei
    refine ⟨ι2, ρ, M2, (st.ext x1).ext x2, (Post.bnd p3).mono fun d2 ι3 M3 H3 x3 p4 w rw => ?_⟩
    have hi3 := pre_get x3.pre (pre_get x2.pre hi)
    cases q : M3[M.length]? with
    | none =>
      simp only [q] at p4
      exact p4.elim
    | some mo =>
      simp only [q] at p4
      cases mo with
      | dct l =>
        cases l with
        | nil =>
          obtain ⟨kws, h1, h2⟩ := x3.mem.dctE hi3 q
          cases h2
          refine ⟨h1, [(.inl i, w)], rfl, (by show 1 ≤ 15; omega), ?_⟩
          have x4 : Ext G ι3 H3 ι3 (M3.set M.length (.dct [(i, d2)])) (upd H3 a (.dK [(.inl i, w)])) := .store x3.mem hi3 h1 rfl ⟨_, upd_same, .cons (rw.mono (List.prefix_refl _) (keep_store h1 rfl)) .nil⟩
          exact p4 ι3 _ x4 _ (.r hi3)
        | cons _ _ => exact p4.elim
      | _ => exact p4.elim
/-- an object of the memory, a dict too, becomes data -/
def grdI : List (Int × Dv) → Option (List (PyData × PyData))
  | [] => some []
  | (i, .g x) :: r => (match grdI r with
    | some l => some ((.int i, x) :: l)
    | none => none)
  | _ => none
theorem RpI.grd {ι : List Addr} {H : Hp} {kws : List (Key × V)} {kvs : List (Int × Dv)} (r : RpI G ι H kws kvs) : ∀ {l : List (PyData × PyData)}, grdI kvs = some l → RpKs G.K H kws l := by
  induction r with
  | nil =>
    intro l e
    cases e
    exact .nil
  | @cons i v kws d kvs h _ ih =>
    intro l e
    cases d with
    | g x =>
      unfold grdI at e
      cases q : grdI kvs with
      | none =>
        rw [q] at e
        cases e
      | some l' =>
        rw [q] at e
        cases e
        cases h with
        | g h => exact .cons h (ih q)
    | _ => cases e
def frZ : Dv → Co Dv := fun d => match d with
  | .r i => atM i fun mo => match mo with
    | .lst ds => bnd (ofO (grd ds)) fun xs => fun M => .ok (.g (.list xs)) (M.set i .dead)
    | .dct kvs => bnd (ofO (grdI kvs)) fun xs => fun M => .ok (.g (.dict xs)) (M.set i .dead)
    | _ => fl
  | d => rt d
theorem xfrZ {e : Expr} (h : PE X e (rdE G E f)) : PE X e (rdE G E (b1 frZ f)) :=
  peI (pe_frz h) fun σ H Q h => by
    obtain ⟨ι, ρ, M, st, p⟩ := h
    refine ⟨ι, ρ, M, st, (Post.bnd p).mono fun d ι1 M1 H1 x1 p1 v rv => ?_⟩
    cases rv with
    | g rv => exact .inl (p1 ι1 H1 (.refl x1.mem) _ (.g rv))
    | t h r => exact .inl (p1 ι1 H1 (.refl x1.mem) _ (.t h r))
    | @r a i hi =>
      obtain ⟨mo, e, p2⟩ := Post.atM p1
      cases mo with
      | lst ds =>
        obtain ⟨xs, q, p3⟩ := Post.ofO p2
        obtain ⟨vs, h1, h2⟩ := x1.mem.lstE hi e
        refine .inr ⟨a, _, rfl, h1, trivial, fun od => ?_⟩
        have x2 : Ext G ι1 H1 ι1 (M1.set i .dead) (upd H1 a (.frz od (.lst vs))) := .store x1.mem hi h1 rfl ⟨_, upd_same, rfl⟩
        exact p3 _ _ x2 _ (.g (.lst (.inl ⟨od, upd_same⟩) ((h2.grd q).mono x2.keep)))
      | dct kvs =>
        obtain ⟨xs, q, p3⟩ := Post.ofO p2
        obtain ⟨kws, h1, h2⟩ := x1.mem.dctE hi e
        refine .inr ⟨a, _, rfl, h1, trivial, fun od => ?_⟩
        have x2 : Ext G ι1 H1 ι1 (M1.set i .dead) (upd H1 a (.frz od (.dK kws))) := .store x1.mem hi h1 rfl ⟨_, upd_same, rfl⟩
        exact p3 _ _ x2 _ (.g (.dct upd_same ((h2.grd q).mono x2.keep)))
      | _ => exact p2.elim
/-- o.get(k, d) -/
def dgt (f g h3 : Slots → Co Dv) : Slots → Co Dv := fun ρ => bnd (f ρ) fun d => bnd (dctOf d) fun i => bnd (g ρ) fun k => bnd (h3 ρ) fun z => bnd (ofO (asI k)) fun n => atM i fun mo => match mo with
  | .dct kvs => rt ((dvV kvs n).getD z)
  | _ => fl
theorem xget {apos cpos : Pos} (hu : X.A.units + 1 < cLine) (ho : PE X e1 (rdE G E f)) (ha : PE X e2 (rdE G E g)) (hb : PE X e3 (rdE G E h3)) (m : M2 X e1 "get" apos e2 e3 cpos := by exact ⟨rfl, rfl, rfl, rfl⟩) :
    PE X (.Call (.Attribute e1 "get" apos) [e2, e3] [] cpos) (rdE G E (dgt f g h3)) :=
  peI (pe_dget2 hu ho ha hb m) fun σ H Q h => by
    obtain ⟨ι, ρ, M, st, p⟩ := h
    refine ⟨ι, ρ, M, st, (Post.bnd p).mono fun d ι1 M1 H1 x1 p1 v rv => ?_⟩
    obtain ⟨i, xs0, rfl, e0, p2⟩ := Post.dctOf p1
    cases rv with
    | @r a _ hi =>
      obtain ⟨kw0, g1, _⟩ := x1.mem.dctE hi e0
      refine ⟨a, rfl, .inl ⟨kw0, .inl g1⟩, ι1, ρ, M1, st.ext x1, (Post.bnd p2).mono fun k ι2 M2 H2 x2 p3 kv rk => ?_⟩
      refine ⟨ι2, ρ, M2, (st.ext x1).ext x2, (Post.bnd p3).mono fun z ι3 M3 H3 x3 p4 zv rz => ?_⟩
      obtain ⟨n, en, p5⟩ := Post.ofO p4
      obtain ⟨rfl, rfl⟩ := asI_rp rk en
      obtain ⟨mo, e1, p6⟩ := Post.atM p5
      cases mo with
      | dct kvs =>
        have hi3 := pre_get x3.pre (pre_get x2.pre hi)
        obtain ⟨kws, h1, h2⟩ := x3.mem.dctE hi3 e1
        refine ⟨_, DGet.k (k := .inl n) h1, ?_⟩
        have q := h2.valV n
        have p6 : Post G E ι3 H3 (QE G Q) (rt ((dvV kvs n).getD z) M3) := p6
        cases e5 : dvV kvs n with
        | none =>
          rw [e5] at q p6
          have q1 : valV kws (.inl n) = none := q
          rw [q1]
          exact Post.rt x3.mem p6 _ rz
        | some d5 =>
          rw [e5] at q p6
          obtain ⟨w, q1, q2⟩ := q
          rw [q1]
          exact Post.rt x3.mem p6 _ q2
      | _ => exact p6.elim
end
end Xt
set_option Elab.async false
set_option linter.all false
set_option maxRecDepth 100000
set_option maxHeartbeats 1000000
namespace Xt
open PySem PySem.Spec PyProof.Rows L2
/-! ### built-in functions -/
def un1 (f : Int → Option Int) : List Dv → Co Dv := fun ds => match ds with
  | [d] => bnd (ofO (asI d)) fun i => bnd (ofO (f i)) fun z => rt (dI z)
  | _ => fl
def bi2 (f : Int → Int → Option Int) : List Dv → Co Dv := fun ds => match ds with
  | [d, e] => bnd (ofO (asI d)) fun i => bnd (ofO (asI e)) fun j => bnd (ofO (f i j)) fun z => rt (dI z)
  | _ => fl
section
variable {G : Gx} {E : XK} {r : List V → Hp → VK → Prop}
theorem cs_un1 {f : Int → Option Int} (h : ∀ i z H Q, f i = some z → Q (.int z) H → r [.int i] H Q) : CaS G E r (un1 f) := fun ι M H xs ds Q m rr p => by
  cases rr with
  | nil => exact p.elim
  | cons r1 t =>
    cases t with
    | cons _ _ => exact p.elim
    | nil =>
      obtain ⟨i, e, p⟩ := Post.ofO p
      obtain ⟨rfl, rfl⟩ := asI_rp r1 e
      obtain ⟨z, ez, p⟩ := Post.ofO p
      exact h i z H Q ez (Post.rt m p _ rpI)
theorem cs_bi2 {f : Int → Int → Option Int} (h : ∀ i j z H Q, f i j = some z → Q (.int z) H → r [.int i, .int j] H Q) : CaS G E r (bi2 f) := fun ι M H xs ds Q m rr p => by
  cases rr with
  | nil => exact p.elim
  | cons r1 t =>
    cases t with
    | nil => exact p.elim
    | cons r2 t =>
      cases t with
      | cons _ _ => exact p.elim
      | nil =>
        obtain ⟨i, e, p⟩ := Post.ofO p
        obtain ⟨rfl, rfl⟩ := asI_rp r1 e
        obtain ⟨j, e, p⟩ := Post.ofO p
        obtain ⟨rfl, rfl⟩ := asI_rp r2 e
        obtain ⟨z, ez, p⟩ := Post.ofO p
        exact h i j z H Q ez (Post.rt m p _ rpI)
abbrev absD := un1 fun i => some (match decide (i < 0) with | true => -i | false => i)
theorem cs_abs : CaS G E (fun xs H Q => ∃ i, xs = [.int i] ∧ Q (.int (if i < 0 then -i else i)) H) absD := cs_un1 fun i z H Q e q => ⟨i, rfl, by
  cases e
  by_cases h : i < 0
  · rw [decide_eq_true h] at q
    rw [if_pos h]
    exact q
  · rw [decide_eq_false h] at q
    rw [if_neg h]
    exact q⟩
abbrev max2D := bi2 fun i j => some (match decide (j > i) with | true => j | false => i)
theorem cs_max2 : CaS G E (fun xs H Q => ∃ i j, xs = [.int i, .int j] ∧ Q (.int (if j > i then j else i)) H) max2D := cs_bi2 fun i j z H Q e q => ⟨i, j, rfl, by
  cases e
  by_cases h : j > i
  · rw [decide_eq_true h] at q
    rw [if_pos h]
    exact q
  · rw [decide_eq_false h] at q
    rw [if_neg h]
    exact q⟩
abbrev min2D := bi2 fun i j => some (match decide (j < i) with | true => j | false => i)
theorem cs_min2 : CaS G E (fun xs H Q => ∃ i j, xs = [.int i, .int j] ∧ Q (.int (if j < i then j else i)) H) min2D := cs_bi2 fun i j z H Q e q => ⟨i, j, rfl, by
  cases e
  by_cases h : j < i
  · rw [decide_eq_true h] at q
    rw [if_pos h]
    exact q
  · rw [decide_eq_false h] at q
    rw [if_neg h]
    exact q⟩
abbrev intD := un1 fun i => some i
theorem cs_int : CaS G E (fun xs H Q => (∃ i, xs = [.int i] ∧ Q (.int i) H) ∨ ∃ k, xs = [.bl k] ∧ Q (.int (if k then 1 else 0)) H) intD := cs_un1 fun i z H Q e q => .inl ⟨i, rfl, by
  cases e
  exact q⟩
abbrev gcdD := bi2 fun i j => some ((Nat.gcd i.natAbs j.natAbs : Nat) : Int)
theorem cs_gcd : CaS G E rGcd gcdD := cs_bi2 fun i j z H Q e q => ⟨i, j, rfl, by
  cases e
  exact q⟩
/-- math.comb, math.factorial -/
def rComb : List V → Hp → VK → Prop := fun vs H Q => ∃ a b : Int, vs = [.int a, .int b] ∧ 0 ≤ a ∧ 0 ≤ b ∧ a < 9000 ∧ Q (.int (PySem.W.mcComb a b)) H
def rFact : List V → Hp → VK → Prop := fun vs H Q => ∃ a : Int, vs = [.int a] ∧ 0 ≤ a ∧ a ≤ 9000 ∧ Q (.int ((Builtin.Math.factorialNat a.toNat : Nat) : Int)) H
def combD := bi2 fun i j => match decide (0 ≤ i) && (decide (0 ≤ j) && decide (i < 9000)) with
  | true => some (PySem.W.mcComb i j)
  | false => none
def factD := un1 fun i => match decide (0 ≤ i) && decide (i ≤ 9000) with
  | true => some ((Builtin.Math.factorialNat i.toNat : Nat) : Int)
  | false => none
theorem cs_comb : CaS G E rComb combD := cs_bi2 fun i j z H Q e q => by
  cases c : decide (0 ≤ i) && (decide (0 ≤ j) && decide (i < 9000)) with
  | false =>
    rw [c] at e
    cases e
  | true =>
    rw [c] at e
    cases e
    obtain ⟨c1, c2⟩ := Bool.and_eq_true_iff.mp c
    obtain ⟨c2, c3⟩ := Bool.and_eq_true_iff.mp c2
    exact ⟨i, j, rfl, of_decide_eq_true c1, of_decide_eq_true c2, of_decide_eq_true c3, q⟩
theorem cs_fact : CaS G E rFact factD := cs_un1 fun i z H Q e q => by
  cases c : decide (0 ≤ i) && decide (i ≤ 9000) with
  | false =>
    rw [c] at e
    cases e
  | true =>
    rw [c] at e
    cases e
    obtain ⟨c1, c2⟩ := Bool.and_eq_true_iff.mp c
    exact ⟨i, rfl, of_decide_eq_true c1, of_decide_eq_true c2, q⟩
end
section
variable {X : Cx}
theorem cr_comb : CallR X (.builtin "math.comb") rComb := by
  intro pins s σ H vs us Q I r h
  obtain ⟨a, b, rfl, h1, h2, h3, q⟩ := h
  obtain ⟨t, u, rfl⟩ := Vals.int2 r
  exact PySem.W.mc_comb h1 h2 (by omega) (.inr (by omega)) fun _ => ⟨.int _, H, I.tok _, ⟨_, rfl⟩, q⟩
theorem cr_fact : CallR X (.builtin "math.factorial") rFact := by
  intro pins s σ H vs us Q I r h
  obtain ⟨a, rfl, h1, h2, q⟩ := h
  cases r with
  | cons r t =>
    cases t
    obtain ⟨t, rfl⟩ := r
    exact PySem.W.mc_factorial h1 (by omega) fun _ => ⟨.int _, H, I.tok _, ⟨_, rfl⟩, q⟩
end
/-! ### -e, sum(list), tuple(list) -/
section
variable {G : Gx} {E : XK} {ι : List Addr} {H : Hp} {M : Mem} {d : Dv} {v : V}
def intsP : List PyData → Option (List Int)
  | [] => some []
  | .int i :: r => (match intsP r with
    | some l => some (i :: l)
    | none => none)
  | _ => none
theorem intsP_rp {K : PySem.W.Frag} : ∀ {vs : List V} {ds : List PyData} {l : List Int}, RpVs K H vs ds → intsP ds = some l → vs = l.map V.int
  | _, [], l, .nil, e => by
    cases e
    rfl
  | _, d :: ds, l, .cons h r, e => by
    cases d with
    | int i =>
      unfold intsP at e
      cases q : intsP ds with
      | none =>
        rw [q] at e
        cases e
      | some l' =>
        rw [q] at e
        cases e
        cases h
        rw [intsP_rp r q]
        rfl
    | _ => cases e
/-- the items of a list (locked, or in the memory) -/
def lstG' (d : Dv) : Co (List PyData) := bnd (asG d) fun x => match x with
  | .list xs => rt xs
  | _ => fl
def sumL : List Dv → Co Dv := fun ds => match ds with
  | [d] => bnd (asG d) fun x => match x with
    | .list xs => bnd (ofO (intsP xs)) fun l => rt (dI l.sum)
    | _ => fl
  | _ => fl
theorem cs_sum : CaS G E (rSum G.K) sumL := fun ι M H xs ds Q m rr p => by
  cases rr with
  | nil => exact p.elim
  | cons r1 t =>
    cases t with
    | cons _ _ => exact p.elim
    | nil =>
      obtain ⟨x, e, p⟩ := Post.asGe p
      cases x with
      | list ys =>
        obtain ⟨l, el, p⟩ := Post.ofO p
        obtain ⟨a, vs, rfl, h1, h2⟩ := asG_lst m r1 e
        rw [intsP_rp h2 el] at h1
        exact ⟨a, l, rfl, h1, Post.rt m p _ rpI⟩
      | _ => exact p.elim
def tupL : List Dv → Co Dv := fun ds => match ds with
  | [.g (.tuple xs)] => rt (.g (.tuple xs))
  | [.g (.list xs)] => rt (.g (.tuple xs))
  | [.r i] => atM i fun mo => match mo with
    | .lst xs => rt (mkT xs)
    | _ => fl
  | _ => fl
def rTup (K : PySem.W.Frag) : List V → Hp → VK → Prop := fun xs H Q => ∃ p ys, xs = [.ref p] ∧ ((SqL K H p ys ∧ ∀ l, H l = none → Q (.ref l) (upd H l (.tup ys))) ∨ (SqT K H p ys ∧ Q (.ref p) H))
theorem cs_tup : CaS G E (rTup G.K) tupL := fun ι M H xs ds Q m rr p => by
  cases rr with
  | nil => exact p.elim
  | cons r1 t =>
    cases t with
    | cons _ _ => cases r1 with
      | g r => cases r <;> exact p.elim
      | _ => exact p.elim
    | nil =>
      cases r1 with
      | g r =>
        cases r with
        | @tup a vs xs h r => exact ⟨_, _, rfl, .inr ⟨.of h, Post.rt m p _ (.g (.tup h r))⟩⟩
        | @lst a vs xs h r =>
          refine ⟨_, _, rfl, .inl ⟨h.sq, fun l hl => ?_⟩⟩
          have x2 : Ext G ι H ι M (upd H l (.tup vs)) := .new m hl
          exact Post.rt x2.mem (p.shift x2) _ (.g (.tup upd_same (r.mono x2.keep)))
        | _ => exact p.elim
      | @r a i hi =>
        obtain ⟨mo, e, p2⟩ := Post.atM p
        cases mo with
        | lst xs =>
          obtain ⟨vs, h1, h2⟩ := m.lstE hi e
          refine ⟨_, _, rfl, .inl ⟨.of h1, fun l hl => ?_⟩⟩
          have x2 : Ext G ι H ι M (upd H l (.tup vs)) := .new m hl
          exact Post.rt x2.mem (p2.shift x2) _ (mkT_rp upd_same (h2.mono x2.pre x2.keep))
        | _ => exact p2.elim
      | t h r => exact p.elim
end
section
variable {X : Cx} {G : Gx} {E : XK} {e : Expr} {f : Slots → Co Dv} {pos : Pos}
def ngD : Dv → Co Dv := fun d => bnd (ofO (asI d)) fun i => rt (dI (-i))
theorem xneg (ha : PE X e (rdE G E f)) : PE X (.UnaryOp .USub e pos) (rdE G E (b1 ngD f)) :=
  peI (pe_un un_neg ha) fun σ H Q h => by
    obtain ⟨ι, ρ, M, st, p⟩ := h
    refine ⟨ι, ρ, M, st, (Post.bnd p).mono fun d ι1 M1 H1 x1 p1 v rv => ?_⟩
    obtain ⟨i, e, p2⟩ := Post.ofO p1
    obtain ⟨rfl, rfl⟩ := asI_rp rv e
    exact ⟨i, rfl, Post.rt x1.mem p2 _ rpI⟩
/-! ### isinstance -/
def kn : PyData → String
  | .none => "NoneType"
  | .bool _ => "bool"
  | .int _ => "int"
  | .str _ => "str"
  | .list _ => "list"
  | .tuple _ => "tuple"
  | .dict _ => "dict"
/-- the type's name -/
def knD : Dv → Co String := fun d => match d with
  | .g x => rt (kn x)
  | .t _ => rt "tuple"
  | .r i => atM i fun mo => match mo with
    | .lst _ => rt "list"
    | .dct _ => rt "dict"
    | _ => fl
  | .u => fl
def kns : List String := ["NoneType", "bool", "int", "str", "list", "tuple", "dict"]
theorem kn_mem (x : PyData) : kn x ∈ kns := by cases x <;> simp [kn, kns]
/-- is a value of the type a one of the type T? -/
def isTy (T a : String) : Bool := a == T || (a == "bool" && T == "int")
def okTy (T : String) : Prop := ∀ a ∈ kns, kitB a T = some (isTy T a)
theorem ok_int : okTy "int" := by unfold okTy; decide +kernel
theorem ok_bool : okTy "bool" := by unfold okTy; decide +kernel
theorem ok_tuple : okTy "tuple" := by unfold okTy; decide +kernel
theorem ok_list : okTy "list" := by unfold okTy; decide +kernel
theorem ok_str : okTy "str" := by unfold okTy; decide +kernel
theorem ok_dict : okTy "dict" := by unfold okTy; decide +kernel
theorem knD_rp {K : PySem.W.Frag} {ι : List Addr} {H : Hp} {M : Mem} {v : V} {d : Dv} {a : String} (hK : K = G.K) (m : MemR G ι H M) (r : RpD G ι H v d) (e : knD d M = .ok a M) : TyX K H v (.type a) ∧ a ∈ kns := by
  subst hK
  cases r with
  | g r =>
    cases e
    refine ⟨?_, kn_mem _⟩
    cases r with
    | non => exact .base .non
    | bl b => exact .base (.bl b)
    | int i => exact .base (.int i)
    | str x => exact .base (.str x)
    | lst h r =>
      rcases h with ⟨o, h⟩ | ⟨o, its, n, h1, h2, _⟩
      · exact .base (.frz h)
      · exact .kList h1 h2
    | tup h r => exact .base (.tup h)
    | dct h r => exact .fDict h
  | @r x i hi =>
    unfold knD atM at e
    cases q : M[i]? with
    | none =>
      simp only [q] at e
      cases e
    | some mo =>
      simp only [q] at e
      cases mo with
      | lst xs =>
        cases e
        obtain ⟨vs, h1, _⟩ := m.lstE hi q
        exact ⟨.base (.lst h1), by simp [kns]⟩
      | dct xs =>
        cases e
        obtain ⟨vs, h1, _⟩ := m.dctE hi q
        exact ⟨.base (.dK h1), by simp [kns]⟩
      | _ => cases e
  | t h r =>
    cases e
    exact ⟨.base (.tup h), by simp [kns]⟩
theorem knD_ok {d : Dv} {M : Mem} : knD d M = .fail ∨ ∃ a, knD d M = .ok a M := by
  cases d with
  | g x => exact .inr ⟨_, rfl⟩
  | t xs => exact .inr ⟨_, rfl⟩
  | u => exact .inl rfl
  | r i =>
    show atM i _ M = _ ∨ ∃ a, atM i _ M = _
    unfold atM
    cases q : M[i]? with
    | none => exact .inl rfl
    | some mo =>
      cases mo with
      | lst xs => exact .inr ⟨_, rfl⟩
      | dct xs => exact .inr ⟨_, rfl⟩
      | _ => exact .inl rfl
def isi (T : String) (f : Slots → Co Dv) : Slots → Co Dv := fun ρ => bnd (f ρ) fun d => bnd (knD d) fun a => rt (vB (isTy T a))
theorem xisi {T : String} {x : Str} {p p2 : Pos} (hK : X.K = G.K) (hT : okTy T) (hv : bootBuiltins x = some (.type T)) (hmx : X.mg x = none) (hgx : Gl X x) (hg : Gl X "isinstance") (hm : X.mg "isinstance" = none) (he : PE X e (rdE G E f)) (hn : x ≠ "__name__" := by decide) (hd : (x == ("__debug__" : Str)) = false := by decide)
    (hs1 : starEach [e, .Name x p2] X.env = (false, eval e X.env) :: starEach [.Name x p2] X.env := by rfl) (hs2 : starEach [.Name x p2] X.env = (false, eval (.Name x p2) X.env) :: starEach [] X.env := by rfl) (hpl : (backTo pos (starEach [.Name x p2] X.env)).any (·.1) = false := by rfl) :
    PE X (.Call (.Name "isinstance" p) [e, .Name x p2] [] pos) (rdE G E (isi T f)) :=
  peI (pe_callB call_isi hg hm (show bootBuiltins "isinstance" = some (.builtin "isinstance") from rfl) (pa_cons he (pa_cons (pe_bltn (v := .ty T) hgx hmx hv rfl hn hd) pa_nil hs2) hs1) (by decide) (by decide) hs1 hpl) fun σ H Q h => by
    obtain ⟨ι, ρ, M, st, p⟩ := h
    refine ⟨ι, ρ, M, st, (Post.bnd p).mono fun d ι1 M1 H1 x1 p1 v rv => ?_⟩
    rcases knD_ok (d := d) (M := M1) with q | ⟨a, q⟩
    · have p2 := Post.bnd p1
      rw [q] at p2
      exact p2.elim
    · obtain ⟨t1, t2⟩ := knD_rp hK x1.mem rv q
      have p2 := Post.bnd p1
      rw [q] at p2
      exact ⟨v, .ty T, .type a, .type T, isTy T a, rfl, .ty T, t1, kit_ty (hT a t2), Post.rt x1.mem (p2 ι1 H1 (.refl x1.mem)) _ rpB⟩
/-- isinstance(x, (T, U)) -/
def isi2 (T U : String) (f : Slots → Co Dv) : Slots → Co Dv := fun ρ => bnd (f ρ) fun d => bnd (knD d) fun a => rt (vB (isTy T a || isTy U a))
theorem xisi2 {T U : String} {x y : Str} {p p2 p3 p4 : Pos} {kk} (hK : X.K = G.K) (hT : okTy T) (hU : okTy U) (hv : bootBuiltins x = some (.type T)) (hw : bootBuiltins y = some (.type U)) (hmx : X.mg x = none) (hmy : X.mg y = none) (hgx : Gl X x) (hgy : Gl X y) (hg : Gl X "isinstance") (hm : X.mg "isinstance" = none) (he : PE X e (rdE G E f))
    (hn : x ≠ "__name__" := by decide) (hd : (x == ("__debug__" : Str)) = false := by decide) (hn2 : y ≠ "__name__" := by decide) (hd2 : (y == ("__debug__" : Str)) = false := by decide)
    (hs1 : starEach [e, .Tuple [.Name x p2, .Name y p3] kk p4] X.env = (false, eval e X.env) :: starEach [.Tuple [.Name x p2, .Name y p3] kk p4] X.env := by rfl) (hs2 : starEach [.Tuple [.Name x p2, .Name y p3] kk p4] X.env = (false, eval (.Tuple [.Name x p2, .Name y p3] kk p4) X.env) :: starEach [] X.env := by rfl) (hpl : (backTo pos (starEach [.Tuple [.Name x p2, .Name y p3] kk p4] X.env)).any (·.1) = false := by rfl)
    (hs3 : starEach [.Name x p2, .Name y p3] X.env = (false, eval (.Name x p2) X.env) :: starEach [.Name y p3] X.env := by rfl) (hs4 : starEach [.Name y p3] X.env = (false, eval (.Name y p3) X.env) :: starEach [] X.env := by rfl) :
    PE X (.Call (.Name "isinstance" p) [e, .Tuple [.Name x p2, .Name y p3] kk p4] [] pos) (rdE G E (isi2 T U f)) :=
  peI (pe_callB call_isiT hg hm (show bootBuiltins "isinstance" = some (.builtin "isinstance") from rfl) (pa_cons he (pa_cons (pe_tup (pa_cons (pe_bltn (v := .ty T) hgx hmx hv rfl hn hd) (pa_cons (pe_bltn (v := .ty U) hgy hmy hw rfl hn2 hd2) pa_nil hs4) hs3)) pa_nil hs2) hs1) (by decide) (by decide) hs1 hpl) fun σ H Q h => by
    obtain ⟨ι, ρ, M, st, p⟩ := h
    refine ⟨ι, ρ, M, st, (Post.bnd p).mono fun d ι1 M1 H1 x1 p1 v rv => ?_⟩
    rcases knD_ok (d := d) (M := M1) with q | ⟨a, q⟩
    · have p2 := Post.bnd p1
      rw [q] at p2
      exact p2.elim
    · refine ⟨(by rw [sizeLine_eq]; show 2 ≤ 16777216; omega), fun tp htp => ?_⟩
      have x2 : Ext G ι1 H1 ι1 M1 (upd H1 tp (.tup [.ty T, .ty U])) := .new x1.mem htp
      obtain ⟨t1, t2⟩ := knD_rp hK x2.mem (rv.mono x2.pre x2.keep) q
      have p2 := Post.bnd p1
      rw [q] at p2
      refine ⟨v, tp, [.ty T, .ty U], .type a, [.type T, .type U], (isTy T a || isTy U a), rfl, upd_same, .cons (.ty T) (.cons (.ty U) .nil), t1, kitAny_cons (kit_ty (hT a t2)) (fun z => ?_) (fun z => by rw [z]; rfl), Post.rt x2.mem (p2 ι1 _ x2) _ rpB⟩
      rw [z, Bool.false_or]
      refine kitAny_cons (kit_ty (hU a t2)) (fun w => ?_) (fun w => w)
      rw [w]
      exact kitAny_nil
end
end Xt
set_option Elab.async false
set_option linter.all false
set_option maxRecDepth 100000
set_option maxHeartbeats 1000000
namespace Xt
open PySem PySem.Spec PyProof.Rows L2
/-! ### name = [..] -/
section
variable {X : Cx} {G : Gx} {E : XK} {pos p : Pos} {tg : Expr}
/-- a list made by a statement may be locked behind it -/
theorem rd_lcs {i : Nat} {src : Slots → Co (List Dv)} {tf : Dv → Slots → Co Slots} {tt : Slots → Co Bool} {te : Slots → Co Dv} {g : TG} {t : TT} {own : List Nat} (hg : TgS G E0 own g tf) (ht : PtS G E0 t tt) {σ : L2.St} {H : Hp} {D : Ends} (h : rdS G E (asg (lcX own src tf tt te) (tN i)) D σ H) :
    tLc (rdI G E src) g t (rdE G E0 te) own σ H (VF fun v H' => D.nx (σ.set i (some v)) H') := by
  obtain ⟨ι, ρ, M, st, p⟩ := h
  refine rd_lc hg ht ⟨ι, ρ, M, st, (Post.bnd p).mono fun d ι1 M1 H1 x1 p1 v rv => ?_⟩
  exact Post.rt x1.mem (Post.rt x1.mem (Post.bnd p1)) _ ((st.ext x1).set i rv)
theorem tLc_mono {src : Slots → Co (List Dv)} {g : TG} {t : TT} {te : TE} {own : List Nat} {σ : L2.St} {H : Hp} {Q Q' : VK} (h : tLc (rdI G E src) g t te own σ H Q) (k : ∀ v H, Q v H → Q' v H) : tLc (rdI G E src) g t te own σ H Q' := by
  obtain ⟨ι, ρ, M, st, p⟩ := h
  refine ⟨ι, ρ, M, st, p.mono fun ds ι1 M1 H1 x1 q J wk D hD => ?_⟩
  obtain ⟨W, w0, turn⟩ := q J wk D hD
  exact ⟨W, w0, fun i m H w => (turn i m H w).imp (fun z => ⟨z.1, k _ _ z.2⟩) id⟩
/-- name = [..] on one line, the name a plain local: the list is locked -/
theorem xsetlc {i : Nat} {y : Str} {py : Pos} {elt iter : Expr} {ifs : List Expr} {scope : Scope} {spos : Pos} {own : List (Str × Nat)} {src : Slots → Co (List Dv)} {tf : Dv → Slots → Co Slots} {tt : Slots → Co Bool} {te : Slots → Co Dv} {g : TG} {t : TT} (hc : X.calm = true) (hN : X.N.Nodup) (hy : X.N[i]? = some y) (hyl : X.env.scope.names.lookup y = some .local)
    (hsw : swapsWith (.ListComp elt [⟨tg, iter, ifs, 0⟩] scope pos) (some (.Name y py)) spos.line X.env = pure true) (hi : PI X tg iter (rdI G E src)) (ok : BlkOk X.N X.env.scope scope own)
    (tg_ : TgS G E0 (own.map (·.2)) g tf) (pt_ : PtS G E0 t tt) (hg : ∀ (s : Shared) (H : Hp) (C : Addr) (cl : List (Str × Addr)) (fp : List Addr), PG (X.blk s H scope (compEnvC scope cl C X.env) fp) tg g) (ht : ∀ (s : Shared) (H : Hp) (C : Addr) (cl : List (Str × Addr)) (fp : List Addr), PTs (X.blk s H scope (compEnvC scope cl C X.env) fp) ifs t)
    (he : ∀ (s : Shared) (H : Hp) (C : Addr) (cl : List (Str × Addr)) (fp : List Addr), PE (X.blk s H scope (compEnvC scope cl C X.env) fp) elt (rdE G E0 te)) (hs : ∀ x, foldedSetIterable iter X.env x = pure x := by intro _; rfl) :
    PS X (.Assign [.Name y py] (.ListComp elt [⟨tg, iter, ifs, 0⟩] scope pos) spos) (rdS G E (asg (lcX (own.map (·.2)) src tf tt te) (tN i))) := by
  refine ⟨fun pins s σ H D I z => ?_⟩
  have z1 := rd_lcs tg_ pt_ z
  refine thn ((ps_setLc hc hN hy hyl hsw hi ok hg ht he hs).run pins s σ H { D with nx := fun σ' H' => ∃ v, σ' = σ.set i (some v) ∧ VF (fun v H' => D.nx (σ.set i (some v)) H') v H' } I (tLc_mono z1 fun v H' q => ⟨v, rfl, q⟩)) fun f s1 q => ?_
  cases f with
  | next =>
    obtain ⟨σ1, H1, I1, v, rfl, q⟩ := q
    rcases q with q | ⟨d, u, rfl, hd, mu, q⟩
    · exact ⟨_, H1, I1, q⟩
    · obtain ⟨od, I2⟩ := I1.lock hd mu
      exact ⟨_, _, I2, q od⟩
  | brk => exact q
  | cont => exact q
  | ret u => exact q
end
/-! ### sorted(d.items()): int keys, int values -/
/-- a context in a built-in's around -/
def inX (X : Cx) : Cx := { X with A := X.A.in1 }
theorem Inv.inX {X : Cx} {pins : List (Addr × Obj)} {σ : L2.St} {H : Hp} {s : Shared} (I : Inv X pins σ H s) : Inv (Xt.inX X) pins σ H s :=
  ⟨⟨I.ok.mod, I.ok.kind, I.ok.glob, I.ok.blt, I.ok.above, I.ok.inj, I.ok.has, I.ok.cab, I.ok.hd, I.ok.frames, I.ok.stk, I.ok.exf, I.ok.bs, I.ok.bsz, I.ok.noex, I.ok.exfs, I.ok.funs, I.ok.frf⟩, I.os, I.bare, I.base, I.loc, I.cell, I.free, I.freeC, I.pin, I.hok, I.len⟩
theorem Inv.outX {X : Cx} {pins : List (Addr × Obj)} {σ : L2.St} {H : Hp} {s : Shared} (I : Inv (Xt.inX X) pins σ H s) : Inv X pins σ H s :=
  ⟨⟨I.ok.mod, I.ok.kind, I.ok.glob, I.ok.blt, I.ok.above, I.ok.inj, I.ok.has, I.ok.cab, I.ok.hd, I.ok.frames, I.ok.stk, I.ok.exf, I.ok.bs, I.ok.bsz, I.ok.noex, I.ok.exfs, I.ok.funs, I.ok.frf⟩, I.os, I.bare, I.base, I.loc, I.cell, I.free, I.freeC, I.pin, I.hok, I.len⟩
section
variable {X : Cx}
/-- the pairs by their ints -/
def entI (e : Int × Int) : Key × V := (.inl e.1, .int e.2)
def pk (e : Int × Int) : List V := [.int e.1, .int e.2]
/-- d.items() of a locked dict -/
def rItemsF : V → List V → Hp → VK → Prop := fun x xs H Q => ∃ (a : Addr) (o : Obj) (kvs : List (Key × V)), x = .ref a ∧ xs = [] ∧ H a = some (.frz o (.dK kvs)) ∧ ∀ p, H p = none → Q (.ref p) (upd H p (DX.itemsO p a))
theorem mt_itemsF : MtR X "dict.items" rItemsF := by
  intro pins s σ H x xs v us Q I rx rxs h
  obtain ⟨a, ob, kvs, rfl, rfl, ha, q⟩ := h
  cases rx
  cases rxs
  obtain ⟨z, hd, vs, rel, o, es, ep, ho, hx, hdat, _⟩ := dk_rd I.hok (.inr ⟨ob, ha⟩)
  refine DT.callItems (es := es) (ep := ep) hd ⟨o, ho, hx, hdat⟩ ?_
  have hf : H s.heap.objs.size = none := I.hok.fresh (Nat.le_refl _)
  exact ⟨.ref s.heap.objs.size, upd H s.heap.objs.size (DX.itemsO s.heap.objs.size a), I.laid (t' := s.toks) (fun b u e => Heap.get?_push_of_some _ e) (Nat.le_refl _) (DX.itemsO_ok (Heap.get?_push_size _ rfl)), rfl, q _ hf⟩
end
end Xt
set_option Elab.async false
set_option linter.all false
set_option maxRecDepth 100000
set_option maxHeartbeats 1000000
namespace Xt
open PySem PySem.Spec PyProof.Rows L2
/-! ### pairs of ints in order -/
def insP (e : Int × Int) : List (Int × Int) → List (Int × Int)
  | [] => [e]
  | x :: r => (match SrtO.lexB x e with
    | true => x :: insP e r
    | false => e :: x :: r)
def sortP : List (Int × Int) → List (Int × Int)
  | [] => []
  | e :: r => insP e (sortP r)
theorem insP_perm (e : Int × Int) : ∀ l, (insP e l).Perm (e :: l)
  | [] => List.Perm.refl _
  | x :: r => by
    unfold insP
    cases SrtO.lexB x e with
    | true => exact ((insP_perm e r).cons x).trans (List.Perm.swap e x r)
    | false => exact List.Perm.refl _
theorem sortP_perm : ∀ l, (sortP l).Perm l
  | [] => List.Perm.refl _
  | e :: r => (insP_perm e (sortP r)).trans ((sortP_perm r).cons e)
theorem lex_tr {a b c : Int × Int} (h1 : SrtO.lexB b a = false) (h2 : SrtO.lexB c b = false) : SrtO.lexB c a = false := by
  have x := SrtO.lexB_no.mp h1
  have y := SrtO.lexB_no.mp h2
  refine SrtO.lexB_no.mpr ?_
  omega
theorem lex_as {a b : Int × Int} (h : SrtO.lexB a b = true) : SrtO.lexB b a = false := by
  have x := SrtO.lexB_iff.mp h
  refine SrtO.lexB_no.mpr ?_
  omega
theorem insP_srtd (e : Int × Int) : ∀ {l}, SrtO.Srtd SrtO.lexB l → SrtO.Srtd SrtO.lexB (insP e l)
  | [], _ => List.pairwise_singleton _ _
  | x :: r, h => by
    obtain ⟨h1, h2⟩ := List.pairwise_cons.mp h
    unfold insP
    cases q : SrtO.lexB x e with
    | true =>
      refine List.pairwise_cons.mpr ⟨fun y hy => ?_, insP_srtd e h2⟩
      rcases List.mem_cons.mp ((insP_perm e r).mem_iff.mp hy) with z | z
      · rw [z]
        exact lex_as q
      · exact h1 y z
    | false =>
      refine List.pairwise_cons.mpr ⟨fun y hy => ?_, h⟩
      rcases List.mem_cons.mp hy with z | z
      · rw [z]
        exact q
      · exact lex_tr q (h1 y z)
theorem sortP_srtd : ∀ l, SrtO.Srtd SrtO.lexB (sortP l)
  | [] => List.Pairwise.nil
  | e :: r => insP_srtd e (sortP_srtd r)
theorem sortP_uniq {l m : List (Int × Int)} (h : l.Perm m) (s : SrtO.Srtd SrtO.lexB l) : l = sortP m := by
  refine List.Perm.eq_of_pairwise (fun a b _ _ h1 h2 => ?_) s (sortP_srtd m) (h.trans (sortP_perm m).symm)
  have x := SrtO.lexB_no.mp h1
  have y := SrtO.lexB_no.mp h2
  exact Prod.ext (by omega) (by omega)
/-! ### sorted(d.items()) -/
theorem Ext.more {G : Gx} {ι : List Addr} {H H' : Hp} {M : Mem} (m : MemR G ι H M) (k : ∀ b o, H b = some o → H' b = some o) : Ext G ι H ι M H' where
  pre := List.prefix_refl _
  mem := ⟨m.len, m.nd, fun i a mo h1 h2 => by
    obtain ⟨u, hu⟩ := m.at (List.mem_of_getElem? h1)
    exact (m.ob i a mo h1 h2).mono (List.prefix_refl _) ⟨fun b o u e => k b _ e, fun b xs e => k b _ e⟩ ((k a u hu).trans hu.symm), fun P hP => (m.tab P hP).to (fun ps h => k P _ h) fun c f h => k c _ h⟩
  keep := ⟨fun b o u e => k b _ e, fun b xs e => k b _ e⟩
  frame := fun b o h _ _ => k b o h
  tbl := fun b ps h => ⟨ps, k b _ h⟩
  fresh := fun a h n => absurd h n
section
variable {X : Cx}
def rSortF : List V → Hp → VK → Prop := fun vs H Q => ∃ (p a : Addr) (o : Obj) (ks : List (Int × Int)), vs = [.ref p] ∧ H p = some (DX.itemsO p a) ∧ H a = some (.frz o (.dK (ks.map entI))) ∧ ks.length ≤ 10000 ∧
  ∀ (H2 : Hp) (l : Addr) (zs : List Addr), (∀ b o, H b = some o → H2 b = some o) → H l = none → H2 l = none → zs.length = (sortP ks).length → (∀ (j : Nat) (z : Addr) (e : Int × Int), zs[j]? = some z → (sortP ks)[j]? = some e → H2 z = some (.tup (pk e))) →
    Q (.ref l) (upd H2 l (.lst (zs.map V.ref)))
theorem cr_sortedF (hc : X.calm = true) : CallR X (.builtin "sorted") rSortF := by
  intro pins s σ H xs us Q I r h
  obtain ⟨p, a, ob, ks, rfl, hp, ha, hlen, q⟩ := h
  obtain rfl := Vals.ref1 r
  have view : s.heap.IsItemsView p a := (show ObjOk X.prog X.w H s.heap p (DX.itemsO p a) from I.hok p _ hp).1
  obtain ⟨z, hd, vs, rel, o, es, ep, ho, hx, hdat, hkeys, hpairs, hnd⟩ := dk_rd I.hok (.inr ⟨ob, ha⟩)
  have l1 : (ks.map entI).length = vs.length := KV.length rel
  rw [List.length_map] at l1
  have l2 : es.size = vs.length := by
    have e := hpairs.length
    rw [Array.length_toList] at e
    exact e
  have hh : X.A.handled = none := I.ok.hd hc
  refine DT.sortedI (es := es) (ep := ep) hh view ⟨o, ho, hx, hdat⟩ (by rw [sizeLine_eq]; omega) fun h' tk as hk hlt hl hG => ?_
  have lak : as.length = ks.length := by omega
  have nd : as.Nodup := List.Pairwise.imp (fun h => Nat.ne_of_lt h) hG.rise
  -- the pairs
  have pr : ∀ (j : Nat) (b : Addr), as[j]? = some b → ∃ (e : Int × Int) (t1 t2 : Tok), ks[j]? = some e ∧ h'.get? b = some { cls := .type "tuple", data := .seq #[Value.int e.1 t1, Value.int e.2 t2] } := by
    intro j b hj
    obtain ⟨en, he, hg⟩ := hG.pairs j b hj
    have hjl : j < ks.length := by
      have := (List.getElem?_eq_some_iff.mp hj).1
      omega
    have hv : j < vs.length := by omega
    have hent : (ks.map entI)[j]? = some (entI ks[j]) := by
      rw [List.getElem?_map, List.getElem?_eq_getElem hjl]
      rfl
    obtain ⟨q0, hq0, r1, r2⟩ := DX.pget rel (List.getElem?_eq_getElem hv)
    rw [hent] at hq0
    cases hq0
    have he' : es.toList[j]? = some en := by
      rw [Array.getElem?_toList]
      exact he
    have r1' : (entI ks[j]).1 = vs[j].1 := r1
    have hvs : vs[j]? = some (vs[j].1, vs[j].2) := List.getElem?_eq_getElem hv
    obtain ⟨k1, k2⟩ := Pairs.get? hpairs he' hvs
    rw [← r1'] at k1
    obtain ⟨t1, e1⟩ := Value.isInt_shape (k := ks[j].1) (v := en.key) k1
    have r2' : RelV (V.int ks[j].2) vs[j].2 := r2
    obtain ⟨t2, e2⟩ := r2'
    refine ⟨ks[j], t1, t2, List.getElem?_eq_getElem hjl, ?_⟩
    rw [hg, e1, k2, e2]
  -- list and tuples are tracked
  have hob : (h'.push { cls := .type "list", data := .seq (as.map Value.ref).toArray }).get? h'.objs.size = some { cls := .type "list", data := .seq (as.map Value.ref).toArray } := Heap.get?_push_size _ rfl
  have kb : ∀ b o, s.heap.get? b = some o → (h'.push { cls := .type "list", data := .seq (as.map Value.ref).toArray }).get? b = some o := fun b o e => Heap.get?_push_of_some _ (hk b o e)
  have ne0 : ∀ b o, h'.get? b = some o → b ≠ h'.objs.size := fun b o e => Nat.ne_of_lt (Heap.lt_size e)
  have hn0 : H h'.objs.size = none := I.hok.fresh (Nat.le_of_lt hlt)
  have I1 : Inv X pins σ H { s with heap := h'.push { cls := .type "list", data := .seq (as.map Value.ref).toArray }, toks := tk } := I.kept (t' := tk) kb
  have hlen2 : (as.map V.ref).length ≤ sizeLine := by
    rw [List.length_map, sizeLine_eq]
    omega
  have I2 : Inv X pins σ (upd H h'.objs.size (.lst (as.map V.ref))) { s with heap := h'.push { cls := .type "list", data := .seq (as.map Value.ref).toArray }, toks := tk } :=
    I1.take (h' := h'.push { cls := .type "list", data := .seq (as.map Value.ref).toArray }) (t' := tk) (fun b ob _ e => e) (I.fpOk (Nat.le_of_lt hlt) hn0) ⟨hlen2, as.map Value.ref, 0, vals_maps V.ref Value.ref as fun _ _ => rfl, hob⟩
  obtain ⟨H2, I3, g0, qt⟩ := DX.takeT (P := fun b ws => ∃ (j : Nat) (e : Int × Int), as[j]? = some b ∧ ks[j]? = some e ∧ ws = pk e) I as _ I2 nd fun b hb => by
    obtain ⟨j, hj⟩ := List.mem_iff_getElem?.mp hb
    obtain ⟨e, t1, t2, he, hg⟩ := pr j b hj
    have hbl : s.heap.objs.size ≤ b := Nat.le_of_lt (hG.above b hb)
    refine ⟨hbl, ?_, pk e, ⟨j, e, hj, he, rfl⟩, fun H3 => ⟨(by rw [sizeLine_eq]; show 2 ≤ 16777216; omega), [Value.int e.1 t1, Value.int e.2 t2], .cons ⟨t1, rfl⟩ (.cons ⟨t2, rfl⟩ .nil), ⟨_, Heap.get?_push_of_some _ hg, rfl, 0, rfl⟩⟩⟩
    rw [upd_ne (ne0 _ _ hg)]
    exact I.hok.fresh hbl
  have g : ∀ b o, H b = some o → H2 b = some o := fun b o e => g0 b o (by rw [upd_ne (ne_of_none e hn0)]; exact e)
  have hl2 : H2 h'.objs.size = some (.lst (as.map V.ref)) := g0 _ _ upd_same
  -- the key of a pair
  have kk : ∀ (j : Nat) (b : Addr), as[j]? = some b → ∃ e, ks[j]? = some e ∧ H2 b = some (.tup (pk e)) := fun j b hj => by
    obtain ⟨ws, ⟨i, e, i1, i2, rfl⟩, hH⟩ := qt b (List.mem_of_getElem? hj)
    have eij : i = j := (List.getElem?_inj (List.getElem?_eq_some_iff.mp i1).1 nd).mp (i1.trans hj.symm)
    subst eij
    exact ⟨e, i2, hH⟩
  let kf : V → Int × Int := fun x => match x with
    | .ref b => (match H2 b with
      | some (.tup [.int i, .int j]) => (i, j)
      | _ => (0, 0))
    | _ => (0, 0)
  have kfe : ∀ (b : Addr) (e : Int × Int), H2 b = some (.tup (pk e)) → kf (.ref b) = e := fun b e h => by
    show (match H2 b with | some (.tup [.int i, .int j]) => (i, j) | _ => (0, 0)) = e
    rw [h]
    rfl
  have kfs : (as.map V.ref).map kf = ks := by
    refine List.ext_getElem? fun j => ?_
    rw [List.map_map, List.getElem?_map]
    cases ej : as[j]? with
    | none =>
      have : ks.length ≤ j := by
        rw [← lak]
        exact List.getElem?_eq_none_iff.mp ej
      rw [List.getElem?_eq_none this]
      rfl
    | some b =>
      obtain ⟨e, he, hH⟩ := kk j b ej
      rw [he]
      exact congrArg some (kfe b e hH)
  have neT : ∀ b e, H2 b = some (.tup e) → b ≠ h'.objs.size := fun b e h z => by
    rw [z, hl2] at h
    cases h
  refine thn (mt_sortPO (X := inX X) pins _ σ _ (.ref h'.objs.size) [] (.ref h'.objs.size) [] _ (Inv.inX I3) rfl .nil ⟨h'.objs.size, as.map V.ref, kf, rfl, rfl, hl2, fun y hy => ?_, fun zs hs hb => ?_⟩) fun u s' ⟨v, H', I', rv, qv⟩ => ⟨.ref h'.objs.size, H', Inv.outX I', rfl, qv⟩
  · obtain ⟨b, hb, rfl⟩ := List.mem_map.mp hy
    obtain ⟨j, hj⟩ := List.mem_iff_getElem?.mp hb
    obtain ⟨e, _, hH⟩ := kk j b hj
    refine ⟨b, rfl, ?_⟩
    rw [kfe b e hH]
    exact hH
  · -- the sorted list
    have hz : ∃ bs : List Addr, zs = bs.map V.ref := by
      have all : ∀ x ∈ zs, ∃ b, x = V.ref b := fun x hx => by
        obtain ⟨b, _, e⟩ := List.mem_map.mp (hb.perm.mem_iff.mp hx)
        exact ⟨b, e.symm⟩
      clear hs hb
      induction zs with
      | nil => exact ⟨[], rfl⟩
      | cons x r ih =>
        obtain ⟨b, rfl⟩ := all x List.mem_cons_self
        obtain ⟨bs, e⟩ := ih fun y hy => all y (List.mem_cons_of_mem _ hy)
        exact ⟨b :: bs, by rw [e]; rfl⟩
    obtain ⟨bs, rfl⟩ := hz
    have hp1 : ((bs.map V.ref).map kf).Perm ks := by
      rw [← kfs]
      exact hb.perm.map kf
    have hs1 : SrtO.Srtd SrtO.lexB ((bs.map V.ref).map kf) := List.pairwise_map.mpr hs
    have hu := sortP_uniq hp1 hs1
    have eh : upd H2 h'.objs.size (.lst (bs.map V.ref)) = upd (hid H2 h'.objs.size) h'.objs.size (.lst (bs.map V.ref)) := by
      funext b
      by_cases e : b = h'.objs.size
      · rw [e, upd_same, upd_same]
      · rw [upd_ne e, upd_ne e, hid_ne e]
    rw [eh]
    refine q (hid H2 h'.objs.size) h'.objs.size bs (fun b o e => by rw [hid_ne (ne_of_none e hn0)]; exact g b o e) hn0 hid_at ?_ fun j z e hj he => ?_
    · have e := congrArg List.length hu
      rw [List.length_map, List.length_map] at e
      exact e
    · rw [← hu, List.map_map, List.getElem?_map, hj] at he
      have he' : kf (.ref z) = e := Option.some.inj he
      have hm : V.ref z ∈ as.map V.ref := hb.perm.mem_iff.mp (List.mem_map.mpr ⟨z, List.mem_of_getElem? hj, rfl⟩)
      obtain ⟨b, hb2, eb⟩ := List.mem_map.mp hm
      cases eb
      obtain ⟨i, hi⟩ := List.mem_iff_getElem?.mp hb2
      obtain ⟨e2, _, hH⟩ := kk i z hi
      rw [kfe z e2 hH] at he'
      rw [← he', hid_ne (neT z _ hH)]
      exact hH
end
end Xt
set_option Elab.async false
set_option linter.all false
set_option maxRecDepth 100000
set_option maxHeartbeats 1000000
namespace Xt
open PySem PySem.Spec PyProof.Rows L2
section
variable {X : Cx} {G : Gx} {E : XK} {e o : Expr} {f : Slots → Co Dv} {to : TE} {pos p apos cpos : Pos}
theorem pe_itemsF (ho : PE X o to) (hbase : attributeBase o "items" X.env (eval o X.env) = eval o X.env := by rfl) (hline : (apos.endLine == cpos.line) = true := by rfl) :
    PE X (.Call (.Attribute o "items" apos) [] [] cpos) (fun σ H Q => to σ H fun x H1 => rItemsF x [] H1 Q) := by
  refine ⟨fun pins s σ H Q I h => ?_⟩
  refine wpAny_Call_method0_late hbase hline (thn (ho.run pins s σ H _ I h) fun v s1 ⟨x, H1, I1, r1, q1⟩ => ?_)
  obtain ⟨a, ob, kvs, rfl, _, ha, q⟩ := id q1
  cases r1
  obtain ⟨_, _, vs, _, oo, es, ep, e0, ex, _⟩ := dk_rd I1.hok (.inr ⟨ob, ha⟩)
  exact ⟨"dict", "dict.items", PySem.F.plainAttrs_dict, PySem.F.slot_dict_items, PySem.F.type_dict_items, ⟨oo, e0, ex.1⟩, fun b eb => (by cases eb; exact ⟨oo, e0, ex.2.1⟩), Calls.callWith_builtin rfl (PySem.evalArgs_none (mt_itemsF pins s1 σ H1 (.ref a) [] (.ref a) [] Q I1 rfl .nil q1))⟩
def intsK : List (PyData × PyData) → Option (List (Int × Int))
  | [] => some []
  | (.int i, .int j) :: r => (match intsK r with
    | some l => some ((i, j) :: l)
    | none => none)
  | _ => none
def pkD (e : Int × Int) : PyData := .tuple [.int e.1, .int e.2]
def srtI (f : Slots → Co Dv) : Slots → Co Dv := fun ρ => bnd (f ρ) fun d => match d with
  | .g (.dict kds) => bnd (ofO (intsK kds)) fun ks => chk (Nat.ble ks.length 10000) (newL ((sortP ks).map fun e => .g (pkD e)))
  | _ => fl
theorem intsK_rp {K : PySem.W.Frag} {H : Hp} : ∀ {kvs : List (Key × V)} {kds : List (PyData × PyData)} {ks : List (Int × Int)}, RpKs K H kvs kds → intsK kds = some ks → kvs = ks.map entI
  | _, [], _, .nil, e => by
    cases e
    rfl
  | _, (.int i, d) :: r, ks, .cons h q, e => by
    cases d with
    | int j =>
      unfold intsK at e
      cases z : intsK r with
      | none =>
        rw [z] at e
        cases e
      | some l =>
        rw [z] at e
        cases e
        cases h
        rw [intsK_rp q z]
        rfl
    | _ => cases e
theorem pairs_rp {ι : List Addr} {H : Hp} : ∀ {zs : List Addr} {es : List (Int × Int)}, zs.length = es.length → (∀ (j : Nat) (z : Addr) (e : Int × Int), zs[j]? = some z → es[j]? = some e → H z = some (.tup (pk e))) → RpDs G ι H (zs.map V.ref) (es.map fun e => Dv.g (pkD e))
  | [], [], _, _ => .nil
  | [], _ :: _, h, _ => by cases h
  | _ :: _, [], h, _ => by cases h
  | z :: zs, e :: es, h, k => .cons (.g (.tup (k 0 z e rfl rfl) (.cons (.int e.1) (.cons (.int e.2) .nil)))) (pairs_rp (Nat.succ.inj h) fun j z' e' h1 h2 => k (j + 1) z' e' h1 h2)
/-- sorted(e.items()) -/
theorem xsit (hc : X.calm = true) (hg : Gl X "sorted") (hm : X.mg "sorted" = none) (he : PE X e (rdE G E f)) (hbase : attributeBase e "items" X.env (eval e X.env) = eval e X.env := by rfl) (hline : (apos.endLine == cpos.line) = true := by rfl)
    (hs : starEach [.Call (.Attribute e "items" apos) [] [] cpos] X.env = (false, eval (.Call (.Attribute e "items" apos) [] [] cpos) X.env) :: starEach [] X.env := by rfl) (hpl : (backTo pos (starEach [] X.env)).any (·.1) = false := by rfl) :
    PE X (.Call (.Name "sorted" p) [.Call (.Attribute e "items" apos) [] [] cpos] [] pos) (rdE G E (srtI f)) :=
  peI (pe_callB (cr_sortedF hc) hg hm (show bootBuiltins "sorted" = some (.builtin "sorted") from rfl) (pa_cons (pe_itemsF he hbase hline) pa_nil hs) (by decide) (by decide) hs hpl) fun σ H Q h => by
    obtain ⟨ι, ρ, M, st, p⟩ := h
    refine ⟨ι, ρ, M, st, (Post.bnd p).mono fun d ι1 M1 H1 x1 p1 v rv => ?_⟩
    cases rv with
    | g rv =>
      cases rv with
      | @dct a o kvs kds h r =>
        obtain ⟨ks, ek, p2⟩ := Post.ofO p1
        obtain ⟨c, p3⟩ := Post.chk p2
        have ev := intsK_rp r ek
        subst ev
        refine ⟨a, o, _, rfl, rfl, h, fun q hq => ⟨q, a, o, ks, rfl, upd_same, ?_, Nat.le_of_ble_eq_true c, fun H2 l zs k hl1 hl2 hzl hz => ?_⟩⟩
        · rw [upd_ne (ne_of_none h hq)]
          exact h
        · have x2 : Ext G ι1 H1 ι1 M1 H2 := (Ext.new x1.mem hq).trans (.more (Ext.new x1.mem hq).mem k)
          have x3 : Ext G ι1 H2 (ι1 ++ [l]) (M1 ++ [.lst ((sortP ks).map fun e => .g (pkD e))]) (upd H2 l (.lst (zs.map V.ref))) := .alloc x2.mem hl2 ⟨_, upd_same, (pairs_rp hzl hz).mono (List.prefix_append _ _) (keep_new hl2)⟩
          refine p3 _ _ (x2.trans x3) _ (.r ?_)
          rw [← x1.mem.len]
          exact get_last _ _
      | _ => exact p1.elim
    | r _ => exact p1.elim
    | t _ _ => exact p1.elim
/-! ### comprehension tests, targets -/
theorem pts1 {c : Expr} {tt : Slots → Co Bool} (h : PT X c (rdT G E tt)) : PTs X [c] (rdT G E tt) := pts_one h
/-- a bool-valued expression, as a test -/
theorem xtv {a : Expr} (ha : PE X a (rdE G E f)) (he : ∀ whole, isTrue a X.env whole = (do let v ← whole; standAt a.pos; holding [v] (truthy v)) := by intro _; rfl) (hK : X.K = G.K) : PT X a (rdT G E (fun ρ => bnd (f ρ) tru)) := xtru hK ha he
end
end Xt
set_option Elab.async false
set_option linter.all false
set_option maxRecDepth 100000
set_option maxHeartbeats 1000000
namespace Xt
open PySem PySem.Spec PyProof.Rows L2
/-! ### defs with a table of code objects -/
structure Tb (base : Heap) (G : Gx) (x : Str) : Prop where
  tb : LamX.TabB base G.mg (He.cT G.K (x, none)).1 (He.cT G.K (x, none)).2
  mem : (He.cT G.K (x, none)).2 ∈ G.tbs ∧ G.nm (He.cT G.K (x, none)).2 = none
theorem dokT_mk {P : Program} {w : World} {base : Heap} {G : Gx} {x nm qual : Str} {params : Arguments} {body : List Stmt} {scope : Scope} {N ps : List Str} {Fn : Nat → List Dv → Co Dv} {b : Nat → Slots → Co Fl} (h0 : Fn 0 = fun _ => fl) (h1 : Fn 1 = fun _ => fl) (hs : ∀ n, Fn (n + 2) = defF N.length ps.length (b n))
    (F : ∃ fd, FunD G.K nm qual params body scope [] [] (He.fAd G.K (x, none)) fd) (hm : G.mg x = some (.ref (He.fAd G.K (x, none)))) (S : FnScope N ps scope)
    (hbd : ∀ (kV doc pm : Value) (an : Option Addr) (cdv ct : Value) (us : List Value), us.length = ps.length → bindArgs (PySem.W.fnOf nm qual params body scope .none kV doc pm an cdv ct) ⟨us, []⟩ = pure (ps.zip us))
    (hb : ∀ n, Dok P w base CX0 G x ps n (Fn n) → ∀ (A : Around) (outer : List Env) (s : Shared) (H : Hp) (E : XK), Room (n + 1) (A.deeper (envOfC qual scope s.heap.objs.size (He.fAd G.K (x, none)) (.ref (He.cT G.K (x, none)).1))) →
      PSs (cxOf CX0 P w G.K G.mg base N qual scope (He.fAd G.K (x, none)) (.ref (He.cT G.K (x, none)).1) A outer s H E).nox body (rdS G E (b n))) :
    ∀ n, Dok P w base CX0 G x ps n (Fn n) := by
  obtain ⟨fd, F⟩ := F
  have both : ∀ n, Dok P w base CX0 G x ps n (Fn n) ∧ Dok P w base CX0 G x ps (n + 1) (Fn (n + 1)) := by
    intro n
    induction n with
    | zero => exact ⟨⟨_, fd, hm, F.kp, F.bindsN hbd, by rw [h0]; exact fn_zero⟩, ⟨_, fd, hm, F.kp, F.bindsN hbd, by rw [h1]; exact fn_zero⟩⟩
    | succ n ih0 =>
    have ih := ih0.1
    refine ⟨ih0.2, ?_⟩
    refine ⟨_, fd, hm, F.kp, F.bindsN hbd, ?_⟩
    show FnOk P w G.K G.mg base CX0 (n + 2) _ fd ps (spF G (Fn (n + 2)))
    rw [hs]
    obtain ⟨oc, od, dV, kV, doc, pm, an, cdv, ct, osl, rfl, lk, hcd, _, _⟩ := id F.ex
    obtain ⟨c, rfl⟩ := He.codeIn_ref hcd
    have ec : He.codeOf G.K (x, none) = c := He.codeOf_eq lk rfl
    refine fn_of lk hcd S (fun vs H Q E h => spF_len h) fun A outer s H vs Q E hr h => ?_
    have hl := spF_len h
    obtain ⟨ι, M, ds, m, r, p⟩ := h
    obtain ⟨_, p⟩ := Post.chk p
    have hb' := hb n ih A outer s H E
    have e2 : (He.cT G.K (x, none)).1 = c := ec
    rw [e2] at hb'
    refine ⟨_, (hb' hr).nox, ι, _, M, ?_, (Post.bnd p).mono fun fl ι1 M1 H1 x1 p1 => ?_⟩
    · have e := start_st (N := N) m r
      rw [← r.length, hl] at e
      exact e
    · cases fl with
      | nx ρ => exact fun σ _ => Post.rt x1.mem p1 _ (.g .non)
      | rt d => exact Post.rt (E := E) x1.mem p1
      | _ => exact p1.elim
  exact fun n => (both n).1
/-! ### the small words -/
section
variable {X : Cx} {G : Gx} {E : XK} {e : Expr} {pos : Pos}
theorem xpw {f : Slots → Co Bool} (h : PW X e (rdT G E f)) : PT X e (rdT G E f) := ⟨fun pins s σ H Q I z => h.run (eval e X.env) pins s σ H Q I z⟩
/-- a lock ahead of a body -/
theorem pss_lock {body : List Stmt} {t : TS} (h : PSs X body t) : PSs X body (fun D σ H => t D σ H ∨ ∃ d u, H d = some u ∧ Mut (some u) ∧ ∀ od, t D σ (upd H d (.frz od u))) := by
  refine ⟨fun pins s σ H D I z => ?_⟩
  rcases z with z | ⟨d, u, hd, mu, z⟩
  · exact h.run pins s σ H D I z
  · obtain ⟨od, I2⟩ := I.lock hd mu
    exact h.run pins s σ _ D I2 (z od)
end
end Xt
set_option Elab.async false
set_option linter.all false
set_option maxRecDepth 100000
set_option maxHeartbeats 1000000
namespace Xt
open PySem PySem.Spec PyProof.Rows L2
abbrev ac0 : Slots → Co (List Dv) := fun _ => rt []
abbrev dnew : Slots → Co Dv := fun _ => newD []
abbrev ntV (f : Slots → Co Dv) : Slots → Co Dv := fun ρ => bnd (tst f ρ) fun c => rt (vB (!c))
abbrev andV (f g : Slots → Co Dv) : Slots → Co Dv := fun ρ => bnd (tst f ρ) fun c => match c with | true => g ρ | false => rt (vB false)
abbrev orV (f g : Slots → Co Dv) : Slots → Co Dv := fun ρ => bnd (tst f ρ) fun c => match c with | true => rt (vB true) | false => g ρ
abbrev trV (f : Slots → Co Dv) : Slots → Co Bool := fun ρ => bnd (f ρ) tru
abbrev nxS (s : Slots → Co (List Dv)) : Slots → Co (List Dv) := fun ρ => nox (s ρ)
theorem _root_.L2.Room.u200 {k : Nat} {A : Around} (r : Room k A) : A.units + 200 < cLine := by have := r.un; omega
theorem _root_.L2.Room.u1 {k : Nat} {A : Around} (r : Room k A) : A.units + 1 < cLine := by have := r.un; omega
end Xt
namespace Xt
open PySem PySem.Spec PyProof.Rows L2
/-- a block's names, by a look -/
def blkB (N : List Str) (out : List (Str × NameKind)) (scope : Scope) (own : List (Str × Nat)) : Bool :=
  decide (scope.kind = .function) && (scope.names.all (fun y => decide (scope.names.lookup y.1 = some y.2)) && (own.all (fun p => decide (N[p.2]? = some p.1)) &&
    (scope.names.all (fun y => !decide (y.2 = .free) || (decide (out.lookup y.1 = some .cell) || decide (out.lookup y.1 = some .free))) &&
      scope.names.all (fun y => !(decide (y.2 = .local) || decide (y.2 = .cell)) || (decide (y.1 ∈ own.map (·.1)) || !decide (y.1 ∈ N))))))
theorem blk_ok {N : List Str} {sc scope : Scope} {own : List (Str × Nat)} (h : blkB N sc.names scope own = true) : BlkOk N sc scope own := by
  obtain ⟨h1, h⟩ := Bool.and_eq_true_iff.mp h
  obtain ⟨h2, h⟩ := Bool.and_eq_true_iff.mp h
  obtain ⟨h3, h⟩ := Bool.and_eq_true_iff.mp h
  obtain ⟨h4, h5⟩ := Bool.and_eq_true_iff.mp h
  refine ⟨of_decide_eq_true h1, fun y hy => of_decide_eq_true (List.all_eq_true.mp h2 y hy), fun p hp => of_decide_eq_true (List.all_eq_true.mp h3 p hp), fun y hy e => ?_, fun y hy e => ?_⟩
  · have q := List.all_eq_true.mp h4 y hy
    rw [decide_eq_true e] at q
    rcases Bool.or_eq_true_iff.mp (show (decide (sc.names.lookup y.1 = some .cell) || decide (sc.names.lookup y.1 = some .free)) = true from q) with z | z
    · exact .inl (of_decide_eq_true z)
    · exact .inr (of_decide_eq_true z)
  · have q := List.all_eq_true.mp h5 y hy
    have z : (decide (y.2 = .local) || decide (y.2 = .cell)) = true := by
      rcases e with e | e
      · rw [decide_eq_true e]
        rfl
      · rw [decide_eq_true e, Bool.or_true]
    rw [z] at q
    rcases Bool.or_eq_true_iff.mp (show (decide (y.1 ∈ own.map (·.1)) || !decide (y.1 ∈ N)) = true from q) with z | z
    · exact .inl (of_decide_eq_true z)
    · refine .inr fun m => ?_
      rw [decide_eq_true m] at z
      cases z
/-- a generator's names, by a look -/
def gxB (N N' : List Str) (fr : List (Option Nat)) (out : List (Str × NameKind)) (scope : Scope) : Bool :=
  decide (scope.kind = .function) && (!scope.isCoroutine && (scope.names.all (fun y => !decide (y.2 = .cell)) && (decide (scope.names.lookup (".0" : Str) = some NameKind.local) &&
    (scope.names.all (fun y => !decide (y.2 = .free) || (decide (out.lookup y.1 = some .cell) || decide (out.lookup y.1 = some .free))) && (decide N'.Nodup && frOk N scope.names N' fr)))))
theorem gx_ok {N N' : List Str} {fr : List (Option Nat)} {sc scope : Scope} (h : gxB N N' fr sc.names scope = true) : GxS N N' fr sc scope := by
  obtain ⟨h1, h⟩ := Bool.and_eq_true_iff.mp h
  obtain ⟨h2, h⟩ := Bool.and_eq_true_iff.mp h
  obtain ⟨h3, h⟩ := Bool.and_eq_true_iff.mp h
  obtain ⟨h4, h⟩ := Bool.and_eq_true_iff.mp h
  obtain ⟨h5, h⟩ := Bool.and_eq_true_iff.mp h
  obtain ⟨h6, h7⟩ := Bool.and_eq_true_iff.mp h
  refine ⟨of_decide_eq_true h1, by simpa using h2, fun y hy e => ?_, of_decide_eq_true h4, fun y hy e => ?_, of_decide_eq_true h6, h7⟩
  · have q := List.all_eq_true.mp h3 y hy
    rw [decide_eq_true e] at q
    cases q
  · have q := List.all_eq_true.mp h5 y hy
    rw [decide_eq_true e] at q
    rcases Bool.or_eq_true_iff.mp (show (decide (sc.names.lookup y.1 = some .cell) || decide (sc.names.lookup y.1 = some .free)) = true from q) with z | z
    · exact .inl (of_decide_eq_true z)
    · exact .inr (of_decide_eq_true z)
end Xt
set_option Elab.async false
set_option linter.all false
set_option maxRecDepth 100000
set_option maxHeartbeats 1000000
namespace Xt
open PySem PySem.Spec PyProof.Rows L2
/-! ### the law's own def: its argument is locked ahead -/
def spL (G : Gx) : Sp := fun vs H Q _ => ∃ (a : Addr) (ns : List Int), vs = [.ref a] ∧ SqL G.K H a (ns.map V.int) ∧ (∀ P ∈ G.tbs, TbR G.nm H P) ∧ ∀ H', Q (.bl true) H'
theorem ints_rp {K : PySem.W.Frag} {H : Hp} : ∀ ns : List Int, RpVs K H (ns.map V.int) (ns.map PyData.int)
  | [] => .nil
  | n :: r => .cons (.int n) (ints_rp r)
theorem law_fn {P : Program} {w : World} {G : Gx} {base : Heap} {x nm qual : Str} {params : Arguments} {body : List Stmt} {scope : Scope} {fa : Addr} {fd : FuncData} {N : List Str} {n : Nat} {b : Slots → Co Fl} (F : FunD G.K nm qual params body scope [] [] fa fd) (S : FnScope N [x] scope)
    (hb : ∀ (cdv : Value) (A : Around) (outer : List Env) (s : Shared) (H : Hp) (E : XK), Room n (A.deeper (envOfC qual scope s.heap.objs.size fa cdv)) → PSs (cxOf CX0 P w G.K G.mg base N qual scope fa cdv A outer s H E).nox body (rdS G E b))
    (hrun : ∀ ns : List Int, ∃ M, defF N.length 1 b [.g (.list (ns.map .int))] [] = .ok (vB true) M) : FnOk P w G.K G.mg base CX0 (n + 1) fa fd [x] (spL G) := by
  refine F.ok S (fun vs H Q E h => ?_) fun cdv A outer s H vs Q E hr h => ?_
  · obtain ⟨a, ns, rfl, _⟩ := h
    rfl
  obtain ⟨a, ns, rfl, hS, hT, hQ⟩ := h
  obtain ⟨M, hM⟩ := hrun ns
  have go : ∀ H1 : Hp, RpV G.K H1 (.ref a) (.list (ns.map .int)) → (∀ P ∈ G.tbs, TbR G.nm H1 P) → rdS G E b { nx := fun _ H' => Q .non H', rt := Q } (L2.start N [.ref a]) H1 := fun H1 r t => by
    have m : MemR G [] H1 [] := ⟨rfl, List.nodup_nil, fun i a mo h _ => by simp at h, t⟩
    have p0 : Post G E [] H1 (QE G Q) (defF N.length 1 b [.g (.list (ns.map .int))] []) := by
      rw [hM]
      intro ι' H' _ v rv
      cases rv with
      | g rv =>
        cases rv
        exact hQ H'
    obtain ⟨_, p⟩ := Post.chk p0
    refine ⟨[], _, [], start_st (N := N) m (.cons (.g r) .nil), (Post.bnd p).mono fun fl ι1 M1 H2 x1 p1 => ?_⟩
    cases fl with
    | nx ρ => exact fun σ _ => Post.rt (E := E) x1.mem p1 _ (.g .non)
    | rt d => exact Post.rt (E := E) x1.mem p1
    | _ => exact p1.elim
  refine ⟨_, pss_lock (hb cdv A outer s H E hr).nox, ?_⟩
  rcases hS with (hS | ⟨o, hS⟩) | hS
  · refine .inr ⟨a, _, hS, trivial, fun od => go _ (.lst (.inl ⟨od, upd_same⟩) (ints_rp ns)) fun P hP => ?_⟩
    refine (hT P hP).to (fun ps e => ?_) fun c f e => ?_
    · rw [upd_ne (fun z => by
        rw [z, hS] at e
        cases e)]
      exact e
    · rw [upd_ne (fun z => by
        rw [z, hS] at e
        cases e)]
      exact e
  · exact .inl (go H (.lst (.inl ⟨o, hS⟩) (ints_rp ns)) hT)
  · exact .inl (go H (.lst (.inr hS) (ints_rp ns)) hT)
end Xt
set_option Elab.async false
set_option linter.all false
set_option maxRecDepth 100000
noncomputable section
namespace Xt
open PySem PySem.W PySem.Calls PyProof.Rows HandSHeadRun
/-! ### a text that opens with an import of math -/
/-- the opening, to its end -/
def impF (st : SharedT → Thread → Option (SharedT × Thread)) : Nat → SharedT → Thread → Option SharedT
  | 0, _, _ => none
  | m + 1, s, t => match t.atExitBegin with
    | some [] => some s
    | some (_ :: _) => none
    | none => (match st s t with
      | some (s', t') => frS s' fun s' => impF st m s' t'
      | none => none)
theorem impF_ok {tb : String → Option Builtin} {p : Program} {w : World} : ∀ {m : Nat} {s s' : SharedT} {t : Thread}, impF (stepT (denote tb) p w) m s t = some s' → importEnds tb p w m s.abs t = some s'.abs
  | 0, _, _, _, h => by cases h
  | m + 1, s, s', t, h => by
    unfold impF at h
    unfold importEnds
    cases ht : t.atExitBegin with
    | some l =>
      rw [ht] at h
      cases l with
      | nil =>
        cases h
        rfl
      | cons _ _ => cases h
    | none =>
      rw [ht] at h
      have h2 : (match stepT (denote tb) p w s t with
        | some (s', t') => frS s' fun s' => impF (stepT (denote tb) p w) m s' t'
        | none => none) = some s' := h
      cases hs : stepT (denote tb) p w s t with
      | none =>
        rw [hs] at h2
        cases h2
      | some r =>
        obtain ⟨s2, t2⟩ := r
        rw [hs] at h2
        have h3 : (frS s2 fun s' => impF (stepT (denote tb) p w) m s' t2) = some s' := h2
        rw [frS_eq] at h3
        have q := impF_ok h3
        show (match step (denote tb) p w s.abs t with
          | .go s' t' => importEnds tb p w m s' t'
          | .halt _ _ => none) = some s'.abs
        rw [stepT_spec hs]
        exact q
def fenceT (m : PySem.Str) (s : SharedT) : Option SharedT := match boundIn s.abs.heap sysModules m, tameNamesOf? m with
  | some (.ref a), some row => (match getT s a with
    | some o => (match o.dict with
      | some D => (match getT s D, s.tree.get D with
        | some od, some _ => (match fenceDict? m row od with
          | some od' => some { s with tree := s.tree.set D fun _ => od' }
          | none => none)
        | _, _ => none)
      | none => none)
    | none => none)
  | _, _ => none
theorem fenceT_ok {m : PySem.Str} {s s' : SharedT} (h : fenceT m s = some s') : fenceModule? m s.abs = some s'.abs := by
  unfold fenceT at h
  unfold fenceModule?
  split at h
  · rename_i a row e1 e2
    rw [e1, e2]
    rw [getT_eq] at h
    cases e3 : s.abs.heap.get? a with
    | none =>
      rw [e3] at h
      cases h
    | some o =>
      rw [e3] at h
      cases e4 : o.dict with
      | none =>
        simp only [e4] at h
        cases h
      | some D =>
        simp only [e4] at h
        rw [getT_eq] at h
        cases e5 : s.abs.heap.get? D with
        | none =>
          rw [e5] at h
          cases h
        | some od =>
          rw [e5] at h
          cases e6 : s.tree.get D with
          | none =>
            simp only [e6] at h
            cases h
          | some od2 =>
            simp only [e6] at h
            cases e7 : fenceDict? m row od with
            | none =>
              rw [e7] at h
              cases h
            | some od' =>
              rw [e7] at h
              cases h
              simp only [e3, e4, e5, e7, Option.map_some]
              have q := absHeap_set (n := s.n) (life := s.life) (f := fun _ => od') e6
              show some ({ s.abs with heap := (absHeap s.tree s.n s.life).update D fun _ => od' } : Shared) = some _
              rw [← q]
              rfl
  · cases h
def startT (p : Program) : SharedT := ⟨.nil, 0, ({} : Heap).life, #[], {}, 1, (start (opening p)).1.os⟩
theorem startT_abs (p : Program) : (startT p).abs = (start (opening p)).1 := rfl
/-- the state behind the opening -/
def openF (st : SharedT → Thread → Option (SharedT × Thread)) (M : Nat) (m : PySem.Str) (p : Program) : Option SharedT := match impF st M (startT p) (start (opening p)).2 with
  | some s1 => fenceT m s1
  | none => none
/-- .. and behind the top -/
def endI (st1 st2 : SharedT → Thread → Option (SharedT × Thread)) (M : Nat) (m : PySem.Str) (p : Program) : Option (SharedT × SharedT) := match openF st1 M m p with
  | some s2 => frS s2 fun s2 => frNat s2.n fun n0 => (match s2.abs.heap.nsMap mainGlobals "__annotations__" with
    | none => (goF st2 n0 none M s2 (topStub p)).map fun s => (s2, s)
    | some v => (goF st2 n0 (some v) M s2 (topStub p)).map fun s => (s2, s))
  | none => none
theorem importEnds_more {tb : String → Option Builtin} {p : Program} {w : World} {n N : Nat} {s r : Shared} {t : Thread} (h : importEnds tb p w n s t = some r) (le : n ≤ N) : importEnds tb p w N s t = some r := by
  have m := importEnds_mono (N - n) _ _ _ _ h
  rw [show n + (N - n) = N by omega] at m
  exact m
theorem left_imp {p q : Program} {loose : List PySem.Str} {Xt : Shared → Bool} {α : Type} {Yf : Shared → α} {Ya : World → α} {M : Nat} {m : PySem.Str}
    (hm : importedModules p.main.body = [m]) (hn : p.main.body.any namesNumpy = false)
    (run : ∀ (w : World), (endI (stepT (denote treeTable) (opening p) w) (stepT (denote treeTable) p w) M m p).map (fun z => (z.1.abs.heap.isNs mainGlobals && z.1.gens.size == 0, looksF p z.1.abs.heap z.2.abs, openSeen q loose (importedModules p.main.body) Xt true z.2.abs, Yf z.2.abs)) = some (true, true, openGood q loose, Ya w)) :
    LeftO p q loose Xt Yf Ya M true := fun w => by
  obtain ⟨⟨s2, s⟩, hs, hv⟩ := Option.map_eq_some_iff.mp (run w)
  obtain ⟨l0, l1, l2, l3⟩ : _ ∧ _ ∧ _ ∧ _ := by simpa only [Prod.mk.injEq] using hv
  unfold endI at hs
  cases e2 : openF (stepT (denote treeTable) (opening p) w) M m p with
  | none =>
    rw [e2] at hs
    cases hs
  | some s3 =>
    rw [e2] at hs
    have hs2 : (frS s3 fun s2 => frNat s2.n fun n0 => (match s2.abs.heap.nsMap mainGlobals "__annotations__" with
      | none => (goF (stepT (denote treeTable) p w) n0 none M s2 (topStub p)).map fun s => (s2, s)
      | some v => (goF (stepT (denote treeTable) p w) n0 (some v) M s2 (topStub p)).map fun s => (s2, s))) = some (s2, s) := hs
    rw [frS_eq, frNat_eq] at hs2
    have hs3 : (goF (stepT (denote treeTable) p w) s3.n (s3.abs.heap.nsMap mainGlobals "__annotations__") M s3 (topStub p)).map (fun s => (s3, s)) = some (s2, s) := by
      cases ea : s3.abs.heap.nsMap mainGlobals "__annotations__" with
      | none =>
        rw [ea] at hs2
        exact hs2
      | some v =>
        rw [ea] at hs2
        exact hs2
    obtain ⟨s', hg, he⟩ := Option.map_eq_some_iff.mp hs3
    cases he
    -- the opening
    unfold openF at e2
    cases e1 : impF (stepT (denote treeTable) (opening p) w) M (startT p) (start (opening p)).2 with
    | none =>
      rw [e1] at e2
      cases e2
    | some s1 =>
      rw [e1] at e2
      have hf := fenceT_ok (show fenceT m s1 = some s2 from e2)
      have hi := impF_ok e1
      rw [startT_abs] at hi
      have fo : fencedOpening treeTable p w M = some s2.abs := by
        unfold fencedOpening
        rw [hi]
        show fenceModules? p s1.abs = _
        unfold fenceModules?
        rw [hm, hn]
        show (fenceAll? [m] s1.abs).bind _ = _
        unfold fenceAll?
        rw [hf]
        rfl
      have hsz : s2.abs.heap.objs.size = s2.n := absHeap_size _ _ _
      have r := goF_ok hg
      have t : topFrom treeTable p w M s2.abs = some s.abs := by
        unfold topFrom
        have l0' : (s2.abs.heap.isNs mainGlobals && s2.abs.gens.size == 0) = true := l0
        rw [l0', hsz]
        show (topRun treeTable p w s2.n _ M s2.abs (topStub p)).bind _ = _
        rw [r]
        have l1' : (staticsOk (importedModules p.main.body) s2.abs.heap s.abs.heap && namesBound p s.abs.heap && gensDone s.abs && laidKept s2.abs.heap s.abs.heap) = true := l1
        show (match staticsOk (importedModules p.main.body) s2.abs.heap s.abs.heap && namesBound p s.abs.heap && gensDone s.abs && laidKept s2.abs.heap s.abs.heap with | true => some s.abs | false => none) = _
        rw [l1']
      unfold openEnds
      rw [fo]
      show (topFrom treeTable p w M _).map _ = _
      rw [t]
      exact congrArg some (Prod.ext l2 l3)
/-- the run's equation at a world, the text's import within -/
def RunI (r : OpenRow) (q : Program) (H : Hook) (ob : SharedT → H.α) (M : Nat) (m : PySem.Str) (loose : List PySem.Str) (w : World) : Prop :=
  (endI (stepQ (denQ tabQ) (opening r.prog) w) (stepQ (denQ tabQ) r.prog w) M m r.prog).map (fun z => (z.1.abs.heap.isNs mainGlobals && z.1.gens.size == 0, looksF r.prog z.1.abs.heap z.2.abs, seenQ q loose (importedModules r.prog.main.body) (fun s => xlAt q [] s && recOk r.toRowW.records s) z.2.abs, ob z.2)) = some (true, true, openGood q loose, H.val w)
theorem head_imp {r : OpenRow} {q : Program} {H : Hook} {ob : SharedT → H.α} {M : Nat} {m : PySem.Str} {loose : List PySem.Str} {d : DefRec} {kwd : List (PySem.Str × PySem.Expr)} (ho : ∀ s : SharedT, ob s = H.obs s.abs)
    (hm : importedModules r.prog.main.body = [m]) (hn : r.prog.main.body.any namesNumpy = false) (run : ∀ w, RunI r q H ob M m loose w)
    (hdef : defOf q r.name = some (d, kwd)) (hp : r.prog.theDef r.name = some (d.params, d.body, d.scope)) (hk : kwWritten? d.params.kwonlyargs d.params.kw_defaults = some kwd)
    (hwr : (!r.writes || r.records.isEmpty) = true) (k1 : r.wellSaid = true) (ok : (chainsOk q && opensWell r.prog && (frees r.toRowW && r.within.isEmpty)) = true) (hb : r.prog.bare) (hw : r.toRowW.promised)
    (call : WalkO q loose (XL q []) H.says r.toRowW d kwd fun f vs => PySem.call f vs) : r.Holds := by
  have left : LeftO r.prog q loose (fun s => xlAt q [] s && recOk r.toRowW.records s) H.obs H.val M true :=
    left_imp (M := M) (m := m) hm hn fun w => by
      have z := run w
      have eo : ob = fun s => H.obs s.abs := funext ho
      unfold RunI at z
      rw [eo, ← stepQ_eq, ← denQ_eq, ← tabQ_eq] at z
      simp only [seenQ_eq]
      exact z
  exact holds_open (r := r) (q := q) (loose := loose) (XP := XL q []) (YP := H.says) (d := d) (kwd := kwd) left H.of H.keeps (fun s z => xl_of s (Bool.and_eq_true_iff.mp z).1) XL.keeps hdef hp hk (fun s z => recFacts_of (Bool.and_eq_true_iff.mp z).2) hwr k1 ok hb hw call
end Xt
end
set_option Elab.async false
set_option linter.all false
set_option maxRecDepth 100000
set_option maxHeartbeats 1000000
namespace Xt
open PySem PySem.Spec PyProof.Rows L2
/-! ### slices -/
def cutD {α : Type} (xs : List α) (lo hi : Option Int) : List α := (xs.drop (HT.sIx xs.length 0 lo)).take (HT.sIx xs.length xs.length hi - HT.sIx xs.length 0 lo)
section
variable {G : Gx} {E : XK} {ι : List Addr} {H : Hp} {M : Mem} {d : Dv} {v : V}
theorem RpVs.take' {K : PySem.W.Frag} : ∀ {vs : List V} {ds : List PyData} (n : Nat), RpVs K H vs ds → RpVs K H (vs.take n) (ds.take n)
  | _, _, 0, _ => .nil
  | _, _, _ + 1, .nil => .nil
  | _, _, n + 1, .cons h r => .cons h (RpVs.take' n r)
theorem RpVs.drop' {K : PySem.W.Frag} : ∀ {vs : List V} {ds : List PyData} (n : Nat), RpVs K H vs ds → RpVs K H (vs.drop n) (ds.drop n)
  | _, _, 0, h => h
  | _, _, _ + 1, .nil => .nil
  | _, _, n + 1, .cons _ r => RpVs.drop' n r
theorem RpVs.cut {K : PySem.W.Frag} {vs : List V} {ds : List PyData} (r : RpVs K H vs ds) (lo hi : Option Int) : RpVs K H (cutV vs lo hi) (cutD ds lo hi) := by
  unfold cutV cutD
  rw [r.length]
  exact (r.drop' _).take' _
def slV (d : Dv) (l u : Option Int) : Co Dv := match d with
  | .g (.tuple xs) => rt (.g (.tuple (cutD xs l u)))
  | d => bnd (asG d) fun x => match x with
    | .list xs => rt (.g (.list (cutD xs l u)))
    | _ => fl
def slcG (f : Slots → Co Dv) (lo hi : Slots → Co (Option Int)) : Slots → Co Dv := fun ρ => bnd (f ρ) fun d => bnd (lo ρ) fun l => bnd (hi ρ) fun u => slV d l u
def pn0 : Slots → Co (Option Int) := fun _ => rt none
def pn1 (f : Slots → Co Dv) : Slots → Co (Option Int) := fun ρ => bnd (f ρ) fun d => bnd (ofO (asI d)) fun i => rt (some i)
def rdO (G : Gx) (E : XK) (f : Slots → Co (Option Int)) : TO := fun σ H Q => ∃ ι ρ M, StR G H σ ι ρ M ∧ Post G E ι H (fun o _ _ H' => Q o H') (f ρ M)
theorem slV_rp {Q : VK} {l u : Option Int} (m : MemR G ι H M) (r : RpD G ι H v d) (p : Post G E ι H (QE G Q) (slV d l u M)) : (rSlL G.K v l u H (VF Q) ∨ rSlA G.K v l u H (VF Q)) := by
  have gen : ∀ {d}, RpD G ι H v d → Post G E ι H (QE G Q) ((bnd (asG d) fun x => match x with
    | .list xs => rt (.g (.list (cutD xs l u)))
    | _ => fl) M) → rSlL G.K v l u H (VF Q) := fun {d} r p => by
    obtain ⟨x, e, p⟩ := Post.asGe p
    cases x with
    | list xs =>
      obtain ⟨a, vs, rfl, h1, h2⟩ := asG_lst m r e
      exact ⟨a, vs, rfl, h1, lockF m (h2.cut l u) p⟩
    | _ => exact p.elim
  cases r with
  | g r =>
    cases r with
    | @tup a vs xs h1 r1 =>
      refine .inr ⟨a, vs, rfl, .of h1, fun z => .inl ?_, fun _ q hq => .inl ?_⟩
      · have e : cutD xs l u = xs := by
          unfold cutD
          rw [← r1.length, z.1, z.2, List.drop_zero, Nat.sub_zero, r1.length, List.take_length]
        have p1 : Post G E ι H (QE G Q) (rt (.g (.tuple (cutD xs l u))) M) := p
        rw [e] at p1
        exact Post.rt m p1 _ (.g (.tup h1 r1))
      · have x2 : Ext G ι H ι M (upd H q (.tup (cutV vs l u))) := .new m hq
        have p1 : Post G E ι H (QE G Q) (rt (.g (.tuple (cutD xs l u))) M) := p
        exact Post.rt x2.mem (p1.shift x2) _ (.g (.tup upd_same ((r1.cut l u).mono x2.keep)))
    | lst h r => exact .inl (gen (.g (.lst h r)) p)
    | non => exact .inl (gen (.g .non) p)
    | bl b => exact .inl (gen (.g (.bl b)) p)
    | int i => exact .inl (gen (.g (.int i)) p)
    | str x => exact .inl (gen (.g (.str x)) p)
    | dct h r => exact .inl (gen (.g (.dct h r)) p)
  | r h => exact .inl (gen (.r h) p)
  | t h r => exact .inl (gen (.t h r) p)
end
section
variable {X : Cx} {G : Gx} {E : XK} {e e1 e2 : Expr} {es : List Expr} {f g : Slots → Co Dv} {gs : Slots → Co (List Dv)} {lo hi : Slots → Co (Option Int)} {pos p p2 : Pos} {le ue : Option Expr}
theorem poI {e : Option Expr} {t t' : TO} (h : PO X e t) (k : ∀ σ H Q, t' σ H Q → t σ H Q) : PO X e t' := ⟨fun pins s σ H Q I z => h.run pins s σ H Q I (k σ H Q z)⟩
theorem xpo0 : PO X none (rdO G E pn0) := poI po_none fun σ H Q h => by
  obtain ⟨ι, ρ, M, st, p⟩ := h
  exact Post.rt st.mem p
theorem xpo1 (h : PE X e (rdE G E f)) : PO X (some e) (rdO G E (pn1 f)) := poI (po_some h) fun σ H Q h => by
  obtain ⟨ι, ρ, M, st, p⟩ := h
  refine ⟨ι, ρ, M, st, (Post.bnd p).mono fun d ι1 M1 H1 x1 p1 v rv => ?_⟩
  obtain ⟨i, ei, p2⟩ := Post.ofO p1
  obtain ⟨rfl, rfl⟩ := asI_rp rv ei
  exact ⟨i, rfl, Post.rt x1.mem p2⟩
theorem xslc (hK : X.K = G.K) (he : PE X e (rdE G E f)) (hl : PO X le (rdO G E lo)) (hu : PO X ue (rdO G E hi)) : PE X (.Subscript e (.Slice le ue none p2) pos) (rdE G E (slcG f lo hi)) :=
  peI (pe_frz (pe_slice (SlR.or sl_list sl_tupA) he hl hu)) fun σ H Q h => by
    obtain ⟨ι, ρ, M, st, p⟩ := h
    refine ⟨ι, ρ, M, st, (Post.bnd p).mono fun d ι1 M1 H1 x1 p1 v rv => ?_⟩
    refine ⟨ι1, ρ, M1, st.ext x1, (Post.bnd p1).mono fun l ι2 M2 H2 x2 p2 => ?_⟩
    refine ⟨ι2, ρ, M2, (st.ext x1).ext x2, (Post.bnd p2).mono fun u ι3 M3 H3 x3 p3 => ?_⟩
    rw [hK]
    exact slV_rp x3.mem ((rv.mono x2.pre x2.keep).mono x3.pre x3.keep) p3
/-- e[::-1] -/
def rvD : Dv → Co Dv := fun d => bnd (asG d) fun x => match x with
  | .list xs => rt (.g (.list xs.reverse))
  | _ => fl
theorem RpVs.rev {K : PySem.W.Frag} {H : Hp} : ∀ {vs : List V} {ds : List PyData}, RpVs K H vs ds → RpVs K H vs.reverse ds.reverse
  | _, _, .nil => .nil
  | _, _, .cons h r => by
    rw [List.reverse_cons, List.reverse_cons]
    exact (RpVs.rev r).snoc h
theorem xrev {k : Nat} {p1 p3 p4 : Pos} (hK : X.K = G.K) (he : PE X e (rdE G E f)) : PE X (.Subscript e (.Slice none none (some (.UnaryOp .USub (.Constant (.int 1) k p1) p3)) p4) pos) (rdE G E (b1 rvD f)) :=
  peI (pe_frz (pe_revL he)) fun σ H Q h => by
    obtain ⟨ι, ρ, M, st, p⟩ := h
    refine ⟨ι, ρ, M, st, (Post.bnd p).mono fun d ι1 M1 H1 x1 p1 v rv => ?_⟩
    obtain ⟨x, e, p⟩ := Post.asGe p1
    cases x with
    | list xs =>
      obtain ⟨a, vs, rfl, h1, h2⟩ := asG_lst x1.mem rv e
      rw [hK]
      exact ⟨a, vs, rfl, h1, lockF x1.mem h2.rev p⟩
    | _ => exact p.elim
end
/-! ### in, not in, index, count: equality of data at any depth -/
def inOk (x : PyData) (xs : List PyData) : Bool := PyData.canLay0 x && (PyData.canLayAll0 xs && Nat.ble (min (PyData.depthAll xs) x.depth) 190)
theorem inOk_ok {x : PyData} {xs : List PyData} (h : inOk x xs = true) : x.canLay0 = true ∧ PyData.canLayAll0 xs = true ∧ min (PyData.depthAll xs) x.depth ≤ 190 := by
  obtain ⟨h1, h2⟩ := Bool.and_eq_true_iff.mp h
  obtain ⟨h3, h4⟩ := Bool.and_eq_true_iff.mp h2
  exact ⟨h1, h3, Nat.le_of_ble_eq_true h4⟩
/-- the items of a list or a tuple -/
def itsP : PyData → Option (List PyData)
  | .list xs => some xs
  | .tuple xs => some xs
  | _ => none
def inD (neg : Bool) : Dv → Dv → Co Dv := fun d e => bnd (asG d) fun x => bnd (asG e) fun y => bnd (ofO (itsP y)) fun xs => chk (inOk x xs) (rt (vB (if neg then !xs.any fun z => PyData.eqv z x else xs.any fun z => PyData.eqv z x)))
def rInX (K : PySem.W.Frag) (A : Around) (neg : Bool) : R2 := fun x y H Q => ∃ d ds, Dp K H x d ∧ (Dp K H y (.list ds) ∨ Dp K H y (.tuple ds)) ∧ d.canLay0 = true ∧ PyData.canLayAll0 ds = true ∧ A.units + 1 + min (PyData.depthAll ds) d.depth < cLine ∧ Q (.bl (if neg then !ds.any fun z => PyData.eqv z d else ds.any fun z => PyData.eqv z d)) H
section
variable {X : Cx}
theorem op_inX : OpR X (compareOp .In) (rInX X.K X.A false) := by
  intro pins s σ H x y v u Q I rx ry h
  obtain ⟨d, ds, hd, he, sd, se, hr, q⟩ := h
  obtain ⟨as, r1⟩ := Dp.reads I d x v hd rx
  rcases he with he | he
  · obtain ⟨bs, r2⟩ := Dp.reads I (.list ds) y u he ry
    exact SeqAt.in_list_reads r2 r1 se sd hr ⟨.bl _, H, I, rfl, q⟩
  · obtain ⟨bs, r2⟩ := Dp.reads I (.tuple ds) y u he ry
    exact SeqAt.in_tuple_reads r2 r1 se sd hr ⟨.bl _, H, I, rfl, q⟩
theorem op_notInX : OpR X (compareOp .NotIn) (rInX X.K X.A true) := by
  intro pins s σ H x y v u Q I rx ry h
  obtain ⟨d, ds, hd, he, sd, se, hr, q⟩ := h
  obtain ⟨as, r1⟩ := Dp.reads I d x v hd rx
  rcases he with he | he
  · obtain ⟨bs, r2⟩ := Dp.reads I (.list ds) y u he ry
    exact SeqAt.notIn_list_reads r2 r1 se sd hr ⟨.bl _, H, I, rfl, q⟩
  · obtain ⟨bs, r2⟩ := Dp.reads I (.tuple ds) y u he ry
    exact SeqAt.notIn_tuple_reads r2 r1 se sd hr ⟨.bl _, H, I, rfl, q⟩
end
section
variable {G : Gx} {E : XK}
theorem itsP_dp {K : PySem.W.Frag} {H : Hp} {y : V} {z : PyData} {xs : List PyData} (h : noDct z = true → Dp K H y z) (e : itsP z = some xs) (c : PyData.canLayAll0 xs = true) : Dp K H y (.list xs) ∨ Dp K H y (.tuple xs) := by
  cases z with
  | list ys =>
    cases e
    exact .inl (h (noDct_of _ (by simpa [PyData.canLay0] using c)))
  | tuple ys =>
    cases e
    exact .inr (h (noDct_of _ (by simpa [PyData.canLay0] using c)))
  | _ => cases e
theorem os_in {A : Around} {neg : Bool} (hu : A.units + 200 < cLine) : OpS G E (rInX G.K A neg) (inD neg) := fun ι M H x y d e Q m rx ry p => by
  obtain ⟨a, h1, p⟩ := Post.asG m rx p
  obtain ⟨b, h2, p⟩ := Post.asG m ry p
  obtain ⟨xs, e1, p⟩ := Post.ofO p
  obtain ⟨c, p⟩ := Post.chk p
  obtain ⟨c1, c2, c3⟩ := inOk_ok c
  exact ⟨a, xs, h1 (noDct_of _ c1), itsP_dp h2 e1 c2, c1, c2, by omega, Post.rt m p _ rpB⟩
end
/-! ### methods of lists and tuples that only read -/
/-- the first place of an equal one -/
def ixP (d : PyData) : List PyData → Option Nat
  | [] => none
  | z :: r => if PyData.eqv z d then some 0 else (ixP d r).map (· + 1)
theorem ixP_ok {d : PyData} : ∀ {ds : List PyData} {j : Nat}, ixP d ds = some j → ∃ z, ds[j]? = some z ∧ PyData.eqv z d = true ∧ ∀ (m : Nat) (z' : PyData), m < j → ds[m]? = some z' → PyData.eqv z' d = false
  | [], _, h => by cases h
  | z :: r, j, h => by
    unfold ixP at h
    cases e : PyData.eqv z d with
    | true =>
      rw [e] at h
      cases h
      exact ⟨z, rfl, e, fun m _ hm _ => absurd hm (Nat.not_lt_zero m)⟩
    | false =>
      rw [e] at h
      cases q : ixP d r with
      | none =>
        rw [q] at h
        cases h
      | some k =>
        rw [q] at h
        cases h
        obtain ⟨z1, h1, h2, h3⟩ := ixP_ok q
        refine ⟨z1, h1, h2, fun m z' hm e' => ?_⟩
        cases m with
        | zero =>
          cases e'
          exact e
        | succ m => exact h3 m z' (Nat.lt_of_succ_lt_succ hm) e'
/-- a method that reads its list or tuple (whose items are data) and one argument -/
def rMd (K : PySem.W.Frag) (A : Around) (tu : Bool) (F : List PyData → PyData → Option Int) : V → List V → Hp → VK → Prop := fun x xs H Q => ∃ (a : Addr) (y : V) (d : PyData) (ds : List PyData) (i : Int), x = V.ref a ∧ xs = [y] ∧ Dp K H (V.ref a) (if tu then .tuple ds else .list ds) ∧ Dp K H y d ∧
  d.canLay0 = true ∧ PyData.canLayAll0 ds = true ∧ A.units + 1 + min (PyData.depthAll ds) d.depth < cLine ∧ F ds d = some i ∧ Q (.int i) H
def ixF : List PyData → PyData → Option Int := fun ds d => Option.map (fun j : Nat => (j : Int)) (ixP d ds)
def ctF : List PyData → PyData → Option Int := fun ds d => some (ds.countP fun z => PyData.eqv z d : Nat)
section
variable {X : Cx}
theorem mt_indexL : MtR X "list.index" (rMd X.K X.A false ixF) := by
  intro pins s σ H x xs v us Q I rx rxs h
  obtain ⟨a, y, d, ds, i, rfl, rfl, hl, hy, sd, hxs, hroom, hi, q⟩ := h
  obtain ⟨j, hj0, rfl⟩ := Option.map_eq_some_iff.mp hi
  obtain ⟨z, hz, hzj, hno⟩ := ixP_ok hj0
  have hl' : Dp X.K H (V.ref a) (.list ds) := hl
  cases rx
  cases rxs with
  | cons ry rt =>
    rename_i uy ut
    cases rt
    obtain ⟨bs, r1⟩ := Dp.reads I d y uy hy ry
    cases hl' with
    | lst hs ha =>
      obtain ⟨its, rv, ⟨⟨cls, dd, data, sls⟩, n, ho, hc, hdn, hdt⟩, hlen⟩ := I.list hs
      simp only at hc hdt
      subst hc hdt
      obtain ⟨as, h4⟩ := Dp.readsAll I ds _ its ha rv
      have hn : its.length = ds.length := SeqAt.ReadsAll.length ds its as h4
      have hmap : its.map (SeqAt.readOf s.heap) = ds := SeqAt.readsAll_map ds its as hxs h4
      have hvl := rv.length
      have hsl := sizeLine_eq
      obtain ⟨hjd, _⟩ := List.getElem?_eq_some_iff.mp hz
      have hjl : j < its.length := by omega
      have hj : j < its.toArray.size := by simpa using hjl
      have at_ : ∀ (m : Nat) (hm : m < its.toArray.size) (z' : PyData), ds[m]? = some z' → SeqAt.readOf s.heap its.toArray[m] = z' := by
        intro m hm z' hz'
        have hml : m < its.length := by simpa using hm
        rw [← hmap, List.getElem?_map, List.getElem?_eq_getElem hml] at hz'
        have e1 : SeqAt.readOf s.heap its[m] = z' := Option.some.inj (show some (SeqAt.readOf s.heap its[m]) = some z' from hz')
        simpa using e1
      refine call_meets PySem.F.slot_list_index ⟨_, ho, rfl⟩ PySem.F.entry_list_index (PySem.F.args_list_index_2 _ _)
        (SeqAt.list_indexAt a its.toArray n dd sls uy (fun u => PyData.eqv (SeqAt.readOf s.heap u) d) j hj (by omega) ?_ ?_) ⟨ho, SeqAt.items_eqAt (vs := its.toArray) (show ReadsAll s.heap its.toArray.toList ds as from h4) r1 hxs sd hroom, ?_⟩
      · show PyData.eqv (SeqAt.readOf s.heap its.toArray[j]) d = true
        rw [at_ j hj z hz]
        exact hzj
      · intro m hm hmj
        have hmd : m < ds.length := by omega
        have hz' : ds[m]? = some ds[m] := List.getElem?_eq_getElem hmd
        show PyData.eqv (SeqAt.readOf s.heap its.toArray[m]) d = false
        rw [at_ m hm _ hz']
        exact hno m _ hmj hz'
      · exact ⟨.int (j : Nat), H, I.tok _, ⟨_, rfl⟩, q⟩
theorem mt_countL : MtR X "list.count" (rMd X.K X.A false ctF) := by
  intro pins s σ H x xs v us Q I rx rxs h
  obtain ⟨a, y, d, ds, i, rfl, rfl, hl, hy, sd, hxs, hroom, hi, q⟩ := h
  cases hi
  have hl' : Dp X.K H (V.ref a) (.list ds) := hl
  cases rx
  cases rxs with
  | cons ry rt =>
    rename_i uy ut
    cases rt
    obtain ⟨bs, r1⟩ := Dp.reads I d y uy hy ry
    cases hl' with
    | lst hs ha =>
      obtain ⟨its, rv, ⟨⟨cls, dd, data, sls⟩, n, ho, hc, hdn, hdt⟩, hlen⟩ := I.list hs
      simp only at hc hdt
      subst hc hdt
      obtain ⟨as, h4⟩ := Dp.readsAll I ds _ its ha rv
      have hmap : its.map (SeqAt.readOf s.heap) = ds := SeqAt.readsAll_map ds its as hxs h4
      refine call_meets PySem.F.slot_list_count ⟨_, ho, rfl⟩ PySem.F.entry_list_count (PySem.F.args_list_count_2 _ _)
        (SeqAt.list_countAt a its.toArray n dd sls uy (fun u => PyData.eqv (SeqAt.readOf s.heap u) d)) ⟨ho, SeqAt.items_eqAt (vs := its.toArray) (show ReadsAll s.heap its.toArray.toList ds as from h4) r1 hxs sd hroom, ?_⟩
      have ec : its.toArray.toList.countP (fun u => PyData.eqv (SeqAt.readOf s.heap u) d) = ds.countP fun z => PyData.eqv z d := by
        rw [← hmap, List.countP_map]
        rfl
      refine ⟨.int (ds.countP fun z => PyData.eqv z d : Nat), H, I.tok _, ⟨s.toks, ?_⟩, q⟩
      show Value.int ((its.toArray.toList.countP (fun u => PyData.eqv (SeqAt.readOf s.heap u) d) : Nat) : Int) s.toks = Value.int ((ds.countP fun z => PyData.eqv z d : Nat) : Int) s.toks
      rw [ec]
end

def lsP : PyData → Option (List PyData)
  | .list xs => some xs
  | _ => none
theorem lsP_eq {x : PyData} {xs : List PyData} (h : lsP x = some xs) : x = .list xs := by
  cases x with
  | list ys =>
    cases h
    rfl
  | _ => cases h
def mdF (F : List PyData → PyData → Option Int) (f g : Slots → Co Dv) : Slots → Co Dv := fun ρ => bnd (f ρ) fun d => bnd (asG d) fun x0 => bnd (ofO (lsP x0)) fun _ => bnd (g ρ) fun e => bnd (asG d) fun x => bnd (asG e) fun y => bnd (ofO (lsP x)) fun xs => chk (inOk y xs) (bnd (ofO (F xs y)) fun i => rt (dI i))
section
variable {X : Cx} {G : Gx} {E : XK} {e e1 e2 : Expr} {es : List Expr} {f g : Slots → Co Dv} {pos : Pos} {F : List PyData → PyData → Option Int} {name : Str} {id : String}
theorem xmd {apos cpos : Pos} (hu : X.A.units + 200 < cLine) (hK : X.K = G.K) (slot : Slot "list" name id) (hty : typeOf (.builtin id) = pure (.type "method_descriptor")) (hm : MtR X id (rMd X.K X.A false F)) (ho : PE X e1 (rdE G E f)) (ha : PE X e2 (rdE G E g))
    (hbase : attributeBase e1 name X.env (eval e1 X.env) = eval e1 X.env := by rfl)
    (hfew : ((backTo cpos (starEach [e2] X.env)).all (fun x => !x.1) && (backToKw cpos (keywordEach [] X.env)).all (fun x => x.1.isSome)
      && decide (([e2] : List Expr).length + ([] : List Keyword).length + (if ([] : List Keyword).isEmpty then 0 else 1) < 30)) = true := by rfl)
    (hline : (apos.endLine == cpos.line) = true := by rfl) (hs : starEach [e2] X.env = (false, eval e2 X.env) :: starEach [] X.env := by rfl) (hplain : (backTo cpos (starEach [] X.env)).any (·.1) = false := by rfl) :
    PE X (.Call (.Attribute e1 name apos) [e2] [] cpos) (rdE G E (mdF F f g)) :=
  peI (pe_bm PySem.F.plainAttrs_list slot hty hm ho (pa_cons ha pa_nil hs) hbase hfew hline hs hplain) fun σ H Q h => by
    obtain ⟨ι, ρ, M, st, p⟩ := h
    refine ⟨ι, ρ, M, st, (Post.bnd p).mono fun d ι1 M1 H1 x1 p1 v rv => ?_⟩
    obtain ⟨x0, ex, p2⟩ := Post.asGe p1
    obtain ⟨xs0, e0, p3⟩ := Post.ofO p2
    have e00 := lsP_eq e0
    subst e00
    obtain ⟨a, vs, rfl, h1, h2⟩ := asG_lst x1.mem rv ex
    refine ⟨.inl ⟨rfl, vs, by rw [hK]; exact h1⟩, ?_⟩
    refine ⟨ι1, ρ, M1, st.ext x1, (Post.bnd p3).mono fun e ι2 M2 H2 x2 p4 w rw_ => ?_⟩
    obtain ⟨x, q1, p5⟩ := Post.asG x2.mem (rv.mono x2.pre x2.keep) p4
    obtain ⟨y, q2, p6⟩ := Post.asG x2.mem rw_ p5
    obtain ⟨xs, e4, p7⟩ := Post.ofO p6
    have e5 := lsP_eq e4
    subst e5
    obtain ⟨c, p8⟩ := Post.chk p7
    obtain ⟨i, ei, p9⟩ := Post.ofO p8
    obtain ⟨c1, c2, c3⟩ := inOk_ok c
    rw [hK]
    exact ⟨a, w, y, xs, i, rfl, rfl, q1 (noDct_of _ (by simpa [PyData.canLay0] using c2)), q2 (noDct_of _ c1), c1, c2, by omega, ei, Post.rt x2.mem p9 _ rpI⟩
end
end Xt
set_option Elab.async false
set_option linter.all false
set_option maxRecDepth 100000
set_option maxHeartbeats 1000000
namespace Xt
open PySem PySem.Spec PyProof.Rows L2
/-! ### calls whose new list is locked -/
def CaSF (G : Gx) (E : XK) (r : List V → Hp → VK → Prop) (F : List Dv → Co Dv) : Prop := ∀ (ι : List Addr) (M : Mem) (H : Hp) (xs : List V) (ds : List Dv) (Q : VK), MemR G ι H M → RpDs G ι H xs ds → Post G E ι H (QE G Q) (F ds M) → r xs H (VF Q)
section
variable {X : Cx} {G : Gx} {E : XK} {e e1 e2 : Expr} {es : List Expr} {f g : Slots → Co Dv} {pos : Pos}
theorem rd_cBF {r : List V → Hp → VK → Prop} {F : List Dv → Co Dv} {gs : Slots → Co (List Dv)} (hF : CaSF G E r F) {σ : L2.St} {H : Hp} {Q : VK} (h : rdE G E (cB F gs) σ H Q) : tCB r (rdA G E gs) σ H (VF Q) := by
  obtain ⟨ι, ρ, M, st, p⟩ := h
  exact ⟨ι, ρ, M, st, (Post.bnd p).mono fun ds ι1 M1 H1 x1 p1 vs rv => hF ι1 M1 H1 vs ds Q x1.mem rv p1⟩
theorem xcbF {x : Str} {p : Pos} {id : String} {r : List V → Hp → VK → Prop} {F : List Dv → Co Dv} {gs : Slots → Co (List Dv)} (hc : CallR X (.builtin id) r) (hF : CaSF G E r F) (hg : Gl X x) (hm : X.mg x = none) (hv : bootBuiltins x = some (.builtin id)) (ha : PA X (e :: es) (rdA G E gs))
    (hn : x ≠ "__name__" := by decide) (hdb : (x == ("__debug__" : Str)) = false := by decide) (he : starEach (e :: es) X.env = (false, eval e X.env) :: starEach es X.env := by rfl) (hpl : (backTo pos (starEach es X.env)).any (·.1) = false := by rfl) :
    PE X (.Call (.Name x p) (e :: es) [] pos) (rdE G E (cB F gs)) := peI (pe_frz (pe_callB hc hg hm hv ha hn hdb he hpl)) fun _ _ _ h => rd_cBF hF h
theorem xctF {x : Str} {p : Pos} {T : String} {r : List V → Hp → VK → Prop} {F : List Dv → Co Dv} {gs : Slots → Co (List Dv)} (hc : CallR X (.type T) r) (hF : CaSF G E r F) (hg : Gl X x) (hm : X.mg x = none) (hv : bootBuiltins x = some (.type T)) (ha : PA X (e :: es) (rdA G E gs))
    (hn : x ≠ "__name__" := by decide) (hdb : (x == ("__debug__" : Str)) = false := by decide) (he : starEach (e :: es) X.env = (false, eval e X.env) :: starEach es X.env := by rfl) (hpl : (backTo pos (starEach es X.env)).any (·.1) = false := by rfl) :
    PE X (.Call (.Name x p) (e :: es) [] pos) (rdE G E (cB F gs)) := peI (pe_frz (pe_callTy hc hg hm hv ha hn hdb he hpl)) fun _ _ _ h => rd_cBF hF h
end
section
variable {G : Gx} {E : XK} {ι : List Addr} {H : Hp} {M : Mem} {d : Dv} {v : V}
/-- the one argument -/
def one1 (k : PyData → Co Dv) : List Dv → Co Dv := fun ds => match ds with
  | [d] => bnd (asG d) k
  | _ => fl
theorem one1_ok {k : PyData → Co Dv} {Q : VK} {xs : List V} {ds : List Dv} (m : MemR G ι H M) (rr : RpDs G ι H xs ds) (p : Post G E ι H (QE G Q) (one1 k ds M)) : ∃ v d x, xs = [v] ∧ RpD G ι H v d ∧ asGp d M = some x ∧ Post G E ι H (QE G Q) (k x M) := by
  cases rr with
  | nil => exact p.elim
  | cons r1 t =>
    cases t with
    | cons _ _ => exact p.elim
    | nil =>
      obtain ⟨x, e, p⟩ := Post.asGe p
      exact ⟨_, _, x, rfl, r1, e, p⟩
theorem asG_tup {xs : List PyData} (m : MemR G ι H M) (r : RpD G ι H v d) (e : asGp d M = some (.tuple xs)) : ∃ a vs, v = .ref a ∧ SqT G.K H a vs ∧ RpVs G.K H vs xs := by
  cases r with
  | g r =>
    cases e
    cases r with
    | tup h r => exact ⟨_, _, rfl, .of h, r⟩
  | @r a i hi =>
    obtain ⟨ds, xs, e1, e2, e3⟩ := asGp_r e
    cases e3
  | t _ _ => cases e
/-! ### list(x) -/
def lstL : List Dv → Co Dv := one1 fun x => bnd (ofO (itsP x)) fun xs => rt (.g (.list xs))
def rLst (K : PySem.W.Frag) : List V → Hp → VK → Prop := fun xs H Q => ∃ p ys, xs = [.ref p] ∧ (SqL K H p ys ∨ SqT K H p ys) ∧ ∀ l, H l = none → Q (.ref l) (upd H l (.lst ys))
theorem cs_lst : CaSF G E (rLst G.K) lstL := fun ι M H xs ds Q m rr p => by
  obtain ⟨v, d, x, rfl, r1, e, p⟩ := one1_ok m rr p
  obtain ⟨ys, e2, p⟩ := Post.ofO p
  cases x with
  | list zs =>
    cases e2
    obtain ⟨a, vs, rfl, h1, h2⟩ := asG_lst m r1 e
    exact ⟨a, vs, rfl, .inl h1, lockF m h2 p⟩
  | tuple zs =>
    cases e2
    obtain ⟨a, vs, rfl, h1, h2⟩ := asG_tup m r1 e
    exact ⟨a, vs, rfl, .inr h1, lockF m h2 p⟩
  | _ => cases e2
theorem cr_lst {X : Cx} : CallR X (.type "list") (rLst X.K) := call_list_of
/-! ### sorted(xs), max(xs), min(xs) of ints -/
def insI (e : Int) : List Int → List Int
  | [] => [e]
  | x :: r => (match decide (x < e) with
    | true => x :: insI e r
    | false => e :: x :: r)
def sortI : List Int → List Int
  | [] => []
  | e :: r => insI e (sortI r)
theorem insI_perm (e : Int) : ∀ l, (insI e l).Perm (e :: l)
  | [] => List.Perm.refl _
  | x :: r => by
    unfold insI
    cases decide (x < e) with
    | true => exact ((insI_perm e r).cons x).trans (List.Perm.swap e x r)
    | false => exact List.Perm.refl _
theorem sortI_perm : ∀ l, (sortI l).Perm l
  | [] => List.Perm.refl _
  | e :: r => (insI_perm e (sortI r)).trans ((sortI_perm r).cons e)
theorem insI_srtd (e : Int) : ∀ {l : List Int}, l.Pairwise (· ≤ ·) → (insI e l).Pairwise (· ≤ ·)
  | [], _ => List.pairwise_singleton _ _
  | x :: r, h => by
    obtain ⟨h1, h2⟩ := List.pairwise_cons.mp h
    unfold insI
    cases q : decide (x < e) with
    | true =>
      have q1 := of_decide_eq_true q
      refine List.pairwise_cons.mpr ⟨fun y hy => ?_, insI_srtd e h2⟩
      rcases List.mem_cons.mp ((insI_perm e r).mem_iff.mp hy) with z | z
      · omega
      · exact h1 y z
    | false =>
      have q1 := of_decide_eq_false q
      refine List.pairwise_cons.mpr ⟨fun y hy => ?_, h⟩
      rcases List.mem_cons.mp hy with z | z
      · omega
      · have := h1 y z
        omega
theorem sortI_srtd : ∀ l : List Int, (sortI l).Pairwise (· ≤ ·)
  | [] => List.Pairwise.nil
  | e :: r => insI_srtd e (sortI_srtd r)
theorem sortI_uniq {l m : List Int} (h : l.Perm m) (s : l.Pairwise (· ≤ ·)) : l = sortI m :=
  List.Perm.eq_of_pairwise (fun a b _ _ h1 h2 => by omega) s (sortI_srtd m) (h.trans (sortI_perm m).symm)
def srtL : List Dv → Co Dv := one1 fun x => bnd (ofO (lsP x)) fun xs => bnd (ofO (intsP xs)) fun ns => rt (.g (.list ((sortI ns).map .int)))
theorem rpVs_ints {K : PySem.W.Frag} {H : Hp} : ∀ ns : List Int, RpVs K H (ns.map V.int) (ns.map PyData.int)
  | [] => .nil
  | n :: r => .cons (.int n) (rpVs_ints r)
theorem cs_srt : CaSF G E (rSortedI G.K) srtL := fun ι M H xs ds Q m rr p => by
  obtain ⟨v, d, x, rfl, r1, e, p⟩ := one1_ok m rr p
  obtain ⟨ys, e2, pa⟩ := Post.ofO p
  have e3 := lsP_eq e2
  subst e3
  obtain ⟨ns, e4, p⟩ := Post.ofO pa
  obtain ⟨a, vs, rfl, h1, h2⟩ := asG_lst m r1 e
  rw [intsP_rp h2 e4] at h1
  refine ⟨a, ns, rfl, h1, fun ns' p1 pm so hp => ?_⟩
  rw [sortI_uniq pm so]
  exact lockF m (rpVs_ints _) p p1 hp
def maxI : Int → List Int → Int
  | x, [] => x
  | x, y :: r => maxI (match decide (x < y) with
    | true => y
    | false => x) r
def minI : Int → List Int → Int
  | x, [] => x
  | x, y :: r => minI (match decide (y < x) with
    | true => y
    | false => x) r
theorem maxI_ok : ∀ (r : List Int) (x : Int), maxI x r ∈ x :: r ∧ ∀ y ∈ x :: r, y ≤ maxI x r
  | [], x => ⟨List.mem_cons_self .., fun y hy => by
    have := List.mem_singleton.mp hy
    show y ≤ x
    omega⟩
  | y :: r, x => by
    unfold maxI
    cases q : decide (x < y) with
    | true =>
      have q1 := of_decide_eq_true q
      obtain ⟨h1, h2⟩ := maxI_ok r y
      refine ⟨List.mem_cons_of_mem _ h1, fun z hz => ?_⟩
      rcases List.mem_cons.mp hz with k | k
      · have := h2 y (List.mem_cons_self ..)
        show z ≤ maxI y r
        omega
      · exact h2 z k
    | false =>
      have q1 := of_decide_eq_false q
      obtain ⟨h1, h2⟩ := maxI_ok r x
      refine ⟨?_, fun z hz => ?_⟩
      · rcases List.mem_cons.mp h1 with k | k
        · exact List.mem_cons.mpr (.inl k)
        · exact List.mem_cons_of_mem _ (List.mem_cons_of_mem _ k)
      · rcases List.mem_cons.mp hz with k | k
        · exact k ▸ h2 x (List.mem_cons_self ..)
        · rcases List.mem_cons.mp k with k | k
          · have := h2 x (List.mem_cons_self ..)
            show z ≤ maxI x r
            omega
          · exact h2 z (List.mem_cons_of_mem _ k)
theorem minI_ok : ∀ (r : List Int) (x : Int), minI x r ∈ x :: r ∧ ∀ y ∈ x :: r, minI x r ≤ y
  | [], x => ⟨List.mem_cons_self .., fun y hy => by
    have := List.mem_singleton.mp hy
    show x ≤ y
    omega⟩
  | y :: r, x => by
    unfold minI
    cases q : decide (y < x) with
    | true =>
      have q1 := of_decide_eq_true q
      obtain ⟨h1, h2⟩ := minI_ok r y
      refine ⟨List.mem_cons_of_mem _ h1, fun z hz => ?_⟩
      rcases List.mem_cons.mp hz with k | k
      · have := h2 y (List.mem_cons_self ..)
        show minI y r ≤ z
        omega
      · exact h2 z k
    | false =>
      have q1 := of_decide_eq_false q
      obtain ⟨h1, h2⟩ := minI_ok r x
      refine ⟨?_, fun z hz => ?_⟩
      · rcases List.mem_cons.mp h1 with k | k
        · exact List.mem_cons.mpr (.inl k)
        · exact List.mem_cons_of_mem _ (List.mem_cons_of_mem _ k)
      · rcases List.mem_cons.mp hz with k | k
        · exact k ▸ h2 x (List.mem_cons_self ..)
        · rcases List.mem_cons.mp k with k | k
          · have := h2 x (List.mem_cons_self ..)
            show minI x r ≤ z
            omega
          · exact h2 z (List.mem_cons_of_mem _ k)
def mxL (F : Int → List Int → Int) : List Dv → Co Dv := one1 fun x => bnd (ofO (lsP x)) fun xs => bnd (ofO (intsP xs)) fun ns => match ns with
  | [] => fl
  | n :: r => rt (dI (F n r))
theorem mx_go {F : Int → List Int → Int} {Q : VK} {xs : List V} {ds : List Dv} (m : MemR G ι H M) (rr : RpDs G ι H xs ds) (p : Post G E ι H (QE G Q) (mxL F ds M)) : ∃ a n r, xs = [.ref a] ∧ SqL G.K H a ((n :: r).map V.int) ∧ Q (.int (F n r)) H := by
  obtain ⟨v, d, x, rfl, r1, e, p⟩ := one1_ok m rr p
  obtain ⟨ys, e2, pa⟩ := Post.ofO p
  have e3 := lsP_eq e2
  subst e3
  obtain ⟨ns, e4, p⟩ := Post.ofO pa
  obtain ⟨a, vs, rfl, h1, h2⟩ := asG_lst m r1 e
  rw [intsP_rp h2 e4] at h1
  cases ns with
  | nil => exact p.elim
  | cons n r => exact ⟨a, n, r, rfl, h1, Post.rt m p _ rpI⟩
theorem cs_maxL : CaS G E (rMax G.K) (mxL maxI) := fun ι M H xs ds Q m rr p => by
  obtain ⟨a, n, r, rfl, h1, q⟩ := mx_go m rr p
  refine ⟨a, n :: r, rfl, h1, Nat.succ_pos _, fun k hk h => ?_⟩
  obtain ⟨z1, z2⟩ := maxI_ok r n
  have e : k = maxI n r := Int.le_antisymm (z2 k hk) (h _ z1)
  rw [e]
  exact q
theorem cs_minL : CaS G E (rMin G.K) (mxL minI) := fun ι M H xs ds Q m rr p => by
  obtain ⟨a, n, r, rfl, h1, q⟩ := mx_go m rr p
  refine ⟨a, n :: r, rfl, h1, Nat.succ_pos _, fun k hk h => ?_⟩
  obtain ⟨z1, z2⟩ := minI_ok r n
  have e : k = minI n r := Int.le_antisymm (h _ z1) (z2 k hk)
  rw [e]
  exact q
end
/-! ### list(range(..)) -/
def rgD (a b : Int) : List PyData := (List.range (b - a).toNat).map fun i => .int (a + (i : Nat))
theorem rgD_rp {K : PySem.W.Frag} {H : Hp} {a b : Int} : RpVs K H (rgV a b) (rgD a b) := by
  unfold rgV rgD
  generalize List.range (b - a).toNat = l
  induction l with
  | nil => exact .nil
  | cons x l ih => exact .cons (.int _) ih
def rgOk (a b : Int) : Bool := decide (0 ≤ a) && (decide (b ≤ 16777216) && (decide (a ≤ 16777216) && decide (0 ≤ b)))
theorem rgOk_ok {a b : Int} (h : rgOk a b = true) : RgOk a b := by
  obtain ⟨h1, h2⟩ := Bool.and_eq_true_iff.mp h
  obtain ⟨h3, h4⟩ := Bool.and_eq_true_iff.mp h2
  obtain ⟨h5, h6⟩ := Bool.and_eq_true_iff.mp h4
  exact RgOk.of_le (of_decide_eq_true h1) (of_decide_eq_true h3) (of_decide_eq_true h5) (of_decide_eq_true h6)
def lrg1 (f : Slots → Co Dv) : Slots → Co Dv := fun ρ => bnd (f ρ) fun d => bnd (ofO (asI d)) fun b => chk (rgOk 0 b) (rt (.g (.list (rgD 0 b))))
def lrg2 (f g : Slots → Co Dv) : Slots → Co Dv := fun ρ => bnd (f ρ) fun d => bnd (ofO (asI d)) fun a => bnd (g ρ) fun e => bnd (ofO (asI e)) fun b => chk (rgOk a b) (rt (.g (.list (rgD a b))))
section
variable {X : Cx} {G : Gx} {E : XK} {e e1 e2 : Expr} {es : List Expr} {f g : Slots → Co Dv} {gs : Slots → Co (List Dv)} {p pos p2 p3 : Pos}
theorem xlrg1 (hc : X.calm = true) (hg : Gl X "list") (hm : X.mg "list" = none) (hg2 : Gl X "range") (hm2 : X.mg "range" = none) (he : PE X e (rdE G E f)) (n2 : starEach [e] X.env = (false, eval e X.env) :: starEach [] X.env := by rfl) :
    PE X (.Call (.Name "list" p) [.Call (.Name "range" p2) [e] [] p3] [] pos) (rdE G E (lrg1 f)) :=
  peI (pe_frz (pe_listRg hc hg hm (prg_1 hg2 hm2 he n2))) fun σ H Q h => by
    obtain ⟨ι, ρ, M, st, p⟩ := h
    refine ⟨ι, ρ, M, st, (Post.bnd p).mono fun d ι1 M1 H1 x1 p1 v rv => ?_⟩
    obtain ⟨i, ei, p⟩ := Post.ofO p1
    obtain ⟨c, p⟩ := Post.chk p
    obtain ⟨rfl, rfl⟩ := asI_rp rv ei
    exact ⟨_, rfl, rgOk_ok c, lockF x1.mem rgD_rp p⟩
theorem xlrg2 (hc : X.calm = true) (hg : Gl X "list") (hm : X.mg "list" = none) (hg2 : Gl X "range") (hm2 : X.mg "range" = none) (he : PE X e1 (rdE G E f)) (he2 : PE X e2 (rdE G E g)) (n2 : starEach [e1, e2] X.env = (false, eval e1 X.env) :: starEach [e2] X.env := by rfl)
    (n3 : starEach [e2] X.env = (false, eval e2 X.env) :: starEach [] X.env := by rfl) (n4 : (backTo p3 (starEach [e2] X.env)).any (·.1) = false := by rfl) :
    PE X (.Call (.Name "list" p) [.Call (.Name "range" p2) [e1, e2] [] p3] [] pos) (rdE G E (lrg2 f g)) :=
  peI (pe_frz (pe_listRg hc hg hm (prg_2 hg2 hm2 he he2 n2 n3 n4))) fun σ H Q h => by
    obtain ⟨ι, ρ, M, st, p⟩ := h
    refine ⟨ι, ρ, M, st, (Post.bnd p).mono fun d ι1 M1 H1 x1 p1 v rv => ?_⟩
    obtain ⟨i, ei, p⟩ := Post.ofO p1
    obtain ⟨rfl, rfl⟩ := asI_rp rv ei
    refine ⟨ι1, ρ, M1, st.ext x1, (Post.bnd p).mono fun d2 ι2 M2 H2 x2 p2 w rw => ?_⟩
    obtain ⟨j, ej, p⟩ := Post.ofO p2
    obtain ⟨c, p⟩ := Post.chk p
    obtain ⟨rfl, rfl⟩ := asI_rp rw ej
    exact ⟨_, _, rfl, rfl, rgOk_ok c, lockF x2.mem rgD_rp p⟩
/-- [.., *e, ..] -/
def acS (f : Slots → Co Dv) (gs : Slots → Co (List Dv)) : Slots → Co (List Dv) := fun ρ => bnd (f ρ) fun d => bnd (asG d) fun x => bnd (ofO (lsP x)) fun xs => bnd (gs ρ) fun ys => rt (xs.map Dv.g ++ ys)
theorem rpVs_g {ι : List Addr} {H : Hp} : ∀ {vs : List V} {xs : List PyData}, RpVs G.K H vs xs → RpDs G ι H vs (xs.map Dv.g)
  | _, _, .nil => .nil
  | _, _, .cons h r => .cons (.g h) (rpVs_g r)
theorem RpDs.app {ι : List Addr} {H : Hp} : ∀ {vs : List V} {xs : List Dv} {ws : List V} {ys : List Dv}, RpDs G ι H vs xs → RpDs G ι H ws ys → RpDs G ι H (vs ++ ws) (xs ++ ys)
  | _, _, _, _, .nil, h => h
  | _, _, _, _, .cons h r, q => .cons h (RpDs.app r q)
theorem xaS (hK : X.K = G.K) (he : PE X e (rdE G E f)) (hr : PA X es (rdA G E gs)) (hs : starEach (.Starred e p :: es) X.env = (true, eval e X.env) :: starEach es X.env := by rfl) : PA X (.Starred e p :: es) (rdA G E (acS f gs)) :=
  paI (StX.pa_star he hr hs) fun σ H Q h => by
    obtain ⟨ι, ρ, M, st, p⟩ := h
    refine ⟨ι, ρ, M, st, (Post.bnd p).mono fun d ι1 M1 H1 x1 p1 v rv => ?_⟩
    obtain ⟨x, ex, p2⟩ := Post.asGe p1
    obtain ⟨xs, e0, p3⟩ := Post.ofO p2
    have e00 := lsP_eq e0
    subst e00
    obtain ⟨a, vs, rfl, h1, h2⟩ := asG_lst x1.mem rv ex
    refine ⟨a, vs, rfl, .inr (by rw [hK]; exact h1), ?_⟩
    refine ⟨ι1, ρ, M1, st.ext x1, (Post.bnd p3).mono fun ds ι2 M2 H2 x2 p4 ws rw => ?_⟩
    exact Post.rt x2.mem p4 _ (RpDs.app (rpVs_g (h2.mono x2.keep)) rw)
end
end Xt
set_option Elab.async false
set_option linter.all false
set_option maxRecDepth 100000
set_option maxHeartbeats 4000000
namespace Xt
open PySem PySem.Spec PyProof.Rows L2
/-! ### sets of ints: len(set(x)), sorted(set(x)) -/
/-- the ints of a list, each once -/
def ddI : List Int → List Int → List Int
  | a, [] => a
  | a, k :: r => (match a.any fun j => decide (j = k) with
    | true => ddI a r
    | false => ddI (a ++ [k]) r)
theorem ddI_ok : ∀ (r a : List Int), a.Nodup → (ddI a r).Nodup ∧ ∀ k, k ∈ ddI a r ↔ k ∈ a ∨ k ∈ r
  | [], a, h => ⟨h, fun k => by
    show k ∈ a ↔ _
    simp⟩
  | x :: r, a, h => by
    unfold ddI
    cases e : a.any fun j => decide (j = x) with
    | true =>
      have hx : x ∈ a := by simpa using e
      obtain ⟨h1, h2⟩ := ddI_ok r a h
      refine ⟨h1, fun k => ?_⟩
      rw [h2 k]
      constructor
      · rintro (q | q)
        · exact .inl q
        · exact .inr (List.mem_cons_of_mem _ q)
      · rintro (q | q)
        · exact .inl q
        · rcases List.mem_cons.mp q with z | z
          · subst z
            exact .inl hx
          · exact .inr z
    | false =>
      have hx : x ∉ a := fun q => (List.any_eq_false.mp e x q) (decide_eq_true rfl)
      have hn : (a ++ [x]).Nodup := by
        refine List.nodup_append.mpr ⟨h, by simp, fun b hb c hc => ?_⟩
        have hc2 := List.mem_singleton.mp hc
        subst hc2
        exact fun z => hx (z ▸ hb)
      obtain ⟨h1, h2⟩ := ddI_ok r (a ++ [x]) hn
      refine ⟨h1, fun k => ?_⟩
      rw [h2 k]
      simp [or_assoc]
theorem dd_card {S : Int → Bool} {w : World} {h : Heap} {a : Addr} {c : Nat} {ns : List Int} (R : SetR w h a S c) (hS : ∀ k, S k = decide (k ∈ ns)) : c = (ddI [] ns).length := by
  obtain ⟨o, es, ep, t, _, _, _, _, nd, hm, _, _, hn, _⟩ := R
  obtain ⟨h1, h2⟩ := ddI_ok ns [] List.nodup_nil
  have pm : (es.toList.map keyOf).Perm (ddI [] ns) := (List.perm_ext_iff_of_nodup nd h1).mpr fun k => by
    rw [← hm k, hS k, h2 k]
    simp
  have := pm.length_eq
  rw [List.length_map, Array.length_toList] at this
  omega
section
variable {P : Program} {w : World} {A : Around} {E : Value → Shared → Prop} {s : Shared}
/-- a set as it is born -/
abbrev bornS (w : World) : Obj := { cls := .type "set", dict := none, data := .set #[] 0 (.fresh 0 0 (!w.params.followText "set-order")) }
/-- set(xs), xs a list of ints -/
theorem set_of_list {l : Addr} {its : Array Value} (ns : List Int) {Q : Value → Shared → Prop} (hh : A.handled = none) (hl : s.heap.IsList l its) (hit : IntsAre its.toList ns) (hb : ns.length + 1 < scanBound)
    (h : ∀ (h' : Heap) (tk c : Nat), SetR w h' s.heap.objs.size (fun j => decide (j ∈ ns)) c → c ≤ ns.length → (∀ b o, s.heap.get? b = some o → h'.get? b = some o) → Q (.ref s.heap.objs.size) { s with heap := h', toks := tk }) :
    wpAny (model P w) A (call (.type "set") [.ref l]) Q E s := by
  have hlen : its.size = ns.length := (Array.length_toList ..).symm.trans (IntsAre.length hit)
  have f0 := F.called_set.mro
  obtain ⟨c0, t0, f0⟩ := f0
  have f1 := F.called_set.made
  have f2 := F.called_set.sub
  have f3 := F.called_set.notType
  have f4 := F.called_set.canCreate
  have f5 := F.typeCall_set_1 (.ref l)
  refine wpAny_call (codeAny_of_tree (show wpAny _ _ (callAny (.type "set") _) _ _ _ from wpAny_pure ⟨Code.quiet_builtin _ (by decide +kernel), codeAny_builtin PySem.F.entry_type_call ?_⟩))
  rw [Around.under_plain (weight_type_call_type "set" [.ref l] []) rfl]
  repeat (any_goals (first | assumption | wp_step))
  refine codeAny_mono (code_set_led1 (E := E) (.ref l) (Q₁ := fun x z => x = .ref s.heap.objs.size ∧ z = { s with heap := s.heap.push (bornS w) }) ⟨rfl, rfl⟩) fun r z hr => ?_
  match r, hr with
  | .error e, hr => exact hr
  | .ok (.ret x), hr =>
    obtain ⟨rfl, rfl⟩ := hr
    have g0 : (s.heap.push (bornS w)).get? s.heap.objs.size = some (bornS w) := Heap.get?_push_size _ rfl
    have gT : Shared.TypeIs { s with heap := s.heap.push (bornS w) } (.ref s.heap.objs.size) "set" := ⟨_, g0, rfl⟩
    have g1 := F.called_set.init.lookup
    have g2 := F.called_set.init.bind (.ref s.heap.objs.size)
    repeat (any_goals (first | assumption | wp_step))
    refine codeAny_mono (codeAny_call_builtin (R := wants (fun r z => r = .none ∧ ∃ h' tk c, z = { s with heap := h', toks := tk } ∧ SetR w h' s.heap.objs.size (fun j => decide (j ∈ ns)) c ∧ c ≤ ns.length ∧ (∀ b o, s.heap.get? b = some o → h'.get? b = some o)) E)
      F.called_set.init.plain F.entry_set_init (check_set_init_1 gT ?_)) fun r2 z2 hr2 => ?_
    · obtain ⟨⟨oc, od, oda, osl⟩, k1, k2, k3, k4⟩ := hl
      dsimp only at k2 k4
      subst k2 k4
      have k1' : (s.heap.push (bornS w)).get? l = some { cls := .type "list", dict := od, data := .seq its k3, slots := osl } := Heap.get?_push_of_some _ k1
      have m1 := F.sub_list_set
      have m2 := F.sub_list_frozenset
      have m3 : (Value.type "list" == Value.type "dict") = false := by decide
      have m4 : (s.heap.push (bornS w)).IsList l its := ⟨_, k1', rfl, k3, rfl⟩
      unfold Builtin.«set.__init__» noKeywords Builtin.Frozenset.updateFrom
      generalize e0 : pyIter = PI
      wp_walk
      subst e0
      refine wpAny_pyIter_list m4 (wpAny_bind (wpAny_runValue ?_))
      have lt0 : l < s.heap.objs.size := Heap.lt_size k1
      have sz : (s.heap.push (bornS w)).objs.size = s.heap.objs.size + 1 := Heap.size_push ..
      have hnone : A.in1.in1.in1.handled = none := by simp [hh]
      have ne1 : l ≠ (s.heap.push (bornS w)).objs.size := Nat.ne_of_lt (sz ▸ Nat.lt_succ_of_lt lt0)
      have nin : s.heap.objs.size ∉ [(s.heap.push (bornS w)).objs.size, l] := by
        intro q
        rw [sz] at q
        rcases List.mem_cons.mp q with q | q
        · exact Nat.ne_of_lt (Nat.lt_succ_self _) q
        · exact Nat.ne_of_gt lt0 (List.mem_singleton.mp q)
      have vals : ∀ (i : Nat) (v : Value), its[i]? = some v → ∃ k t, ns[i]? = some k ∧ v = .int k t := fun i v hv => by
        have hi : i < ns.length := hlen ▸ (Array.getElem?_eq_some_iff.mp hv).1
        obtain ⟨t, e⟩ := IntsAre.int_at hit i v ((Array.getElem?_toList ..).trans hv)
        have e2 : ns[i]? = some ns[i] := List.getElem?_eq_getElem hi
        rw [List.getD_eq_getElem?_getD, e2] at e
        exact ⟨ns[i], t, e2, e⟩
      refine set_update_ints ((Walks.list hnone _ l ne1 its).toS) s.heap.objs.size nin ns hlen hb vals its.size 0 _ rfl (Nat.zero_le _) ⟨⟨_, Heap.get?_push_size _ rfl, rfl, rfl⟩, m4.push _⟩ ⟨0, Nat.le_refl 0, setR_new_at (Heap.get?_push_of_some _ g0)⟩ fun z3 c3 mv le3 R3 => ?_
      obtain ⟨h3, gn3, dr3, tk3, os3⟩ := z3
      have q1 : gn3 = s.gens := mv.gens
      have q2 : dr3 = s.drawn := mv.drawn
      have q3 : os3 = s.os := mv.os
      subst q1 q2 q3
      refine wpAny_pure (show wpAny _ _ (PySem.ret Value.none) _ _ _ from wpAny_pure ⟨rfl, h3, tk3, c3, rfl, R3, by omega, fun b o eb => ?_⟩)
      have b0 : b < s.heap.objs.size := Heap.lt_size eb
      refine mv.heap b o (fun q => ?_) (Heap.get?_push_of_some _ (Heap.get?_push_of_some _ eb))
      rcases List.mem_cons.mp q with q | q
      · exact Nat.ne_of_lt b0 q
      · rw [sz] at q
        exact Nat.ne_of_lt (Nat.lt_succ_of_lt b0) (List.mem_singleton.mp q)
    · match r2, hr2 with
      | .error e, hr2 => exact hr2
      | .ok (.ret x), hr2 =>
        obtain ⟨rfl, h3, tk3, c3, rfl, R3, le3, kp⟩ := hr2
        repeat (any_goals (first | assumption | wp_step))
        exact h _ _ _ R3 le3 kp
end
end Xt
set_option Elab.async false
set_option linter.all false
set_option maxRecDepth 100000
set_option maxHeartbeats 4000000
namespace Xt
open PySem PySem.Spec PyProof.Rows L2
/-- len(set(f)), f a list or a tuple of ints -/
def lnS (f : Slots → Co Dv) : Slots → Co Dv := fun ρ => bnd (f ρ) fun d => bnd (asG d) fun x => bnd (ofO (itsP x)) fun xs => bnd (ofO (intsP xs)) fun ns => chk (Nat.ble ns.length 4000) (rt (dI ((ddI [] ns).length : Nat)))
/-- sorted(set(f)) -/
def srS (f : Slots → Co Dv) : Slots → Co Dv := fun ρ => bnd (f ρ) fun d => bnd (asG d) fun x => bnd (ofO (itsP x)) fun xs => bnd (ofO (intsP xs)) fun ns => chk (Nat.ble ns.length 4000 && Nat.blt (ddI [] ns).length 64) (rt (.g (.list ((sortI (ddI [] ns)).map .int))))
section
variable {X : Cx} {G : Gx} {E : XK} {a : Expr} {f : Slots → Co Dv} {p p2 q pos : Pos}
/-- the ints of a list or a tuple, at the library's level -/
def tLS (K : PySem.W.Frag) (ta : TE) : TE := fun σ H Q => ta σ H fun x H1 => ∃ (l : Addr) (ns : List Int), x = .ref l ∧ (SqL K H1 l (ns.map V.int) ∨ SqT K H1 l (ns.map V.int)) ∧ ns.length ≤ 4000 ∧ Q (.int ((ddI [] ns).length : Nat)) H1
def tSS (K : PySem.W.Frag) (ta : TE) : TE := fun σ H Q => ta σ H fun x H1 => ∃ (l : Addr) (ns : List Int), x = .ref l ∧ (SqL K H1 l (ns.map V.int) ∨ SqT K H1 l (ns.map V.int)) ∧ ns.length ≤ 4000 ∧ (ddI [] ns).length < 64 ∧
  ∀ r, H1 r = none → Q (.ref r) (upd H1 r (.lst ((sortI (ddI [] ns)).map V.int)))
theorem of_either {pins : List (Addr × Obj)} {σ : L2.St} {H : Hp} {s : Shared} {l : Addr} {ns : List Int} {E : Value → Shared → Prop} {Q : Value → Shared → Prop} {A : Around} (hh : A.handled = none) (I : Inv X pins σ H s) (hq : SqL X.K H l (ns.map V.int) ∨ SqT X.K H l (ns.map V.int)) (hn : ns.length ≤ 4000)
    (h : ∀ s2 : Shared, SetR X.w s2.heap s.heap.objs.size (fun j => decide (j ∈ ns)) (ddI [] ns).length → Inv X pins σ H s2 → Q (.ref s.heap.objs.size) s2) :
    wpAny (model X.prog X.w) A (call (.type "set") [.ref l]) Q E s := by
  have hb : ns.length + 1 < scanBound := by unfold scanBound; omega
  rcases hq with hq | hq
  · obtain ⟨its, r, pl, hz⟩ := I.list hq
    refine set_of_list ns hh pl.isList (by simpa using RZ.intsAre_vals r) hb fun h' tk c R hc hk => ?_
    have e := dd_card R fun _ => rfl
    subst e
    exact h _ R (I.kept hk)
  · obtain ⟨its, r, pl, hz⟩ := I.tuple hq
    refine call_set_tupI ns hh pl (by simpa using RZ.intsAre_vals r) hb fun h' tk c R hc hk => ?_
    have e := dd_card R fun _ => rfl
    subst e
    exact h _ R (I.kept hk)
theorem pe_lnS (hc : X.calm = true) (hg : Gl X "len") (hm : X.mg "len" = none) (hg2 : Gl X "set") (hm2 : X.mg "set" = none) {ta : TE} (ha : PE X a ta)
    (na : starEach [a] X.env = (false, eval a X.env) :: starEach [] X.env := by rfl) : PE X (.Call (.Name "len" p) [.Call (.Name "set" p2) [a] [] q] [] pos) (tLS X.K ta) :=
  ⟨fun pins s σ H Q I h => Call_ (ld_blt I hg hm boot_len (PyProof.Rows.callWith_builtin1 (PyProof.Rows.args_cons (Call_ (ld_blt I hg2 hm2 boot_set (PyProof.Rows.callWith_type1 (PyProof.Rows.args_cons (thn (ha.run pins s σ H _ I h) fun v s1 ⟨x, H1, I1, r1, q1⟩ => PyProof.Rows.args_nil (by
    obtain ⟨l, ns, rfl, hq, hn, q1⟩ := q1
    cases r1
    refine of_either (I1.ok.hd hc) I1 hq hn fun s2 R I2 => PyProof.Rows.args_nil ?_
    have S := R.setOf (P := X.prog)
    obtain ⟨o, es, ep, t, ho, hex, hd, _, _, _, hf, hz⟩ := S
    have lt : (ddI [] ns).length < 2 ^ 62 := by
      obtain ⟨o2, es2, ep2, t2, _, _, _, _, _, _, hb2, _, hz2, _⟩ := R
      unfold scanBound at hb2
      omega
    exact call_len_set ho hex hd hf (by omega) ⟨.int ((ddI [] ns).length : Nat), H1, I2.tok _, ⟨_, by rw [hz]⟩, q1⟩)) na) na rfl))) rfl) rfl rfl))⟩
theorem pe_srS (hc : X.calm = true) (hg : Gl X "sorted") (hm : X.mg "sorted" = none) (hg2 : Gl X "set") (hm2 : X.mg "set" = none) {ta : TE} (ha : PE X a ta)
    (na : starEach [a] X.env = (false, eval a X.env) :: starEach [] X.env := by rfl) : PE X (.Call (.Name "sorted" p) [.Call (.Name "set" p2) [a] [] q] [] pos) (tSS X.K ta) :=
  ⟨fun pins s σ H Q I h => Call_ (ld_blt I hg hm boot_sorted (PyProof.Rows.callWith_builtin1 (PyProof.Rows.args_cons (Call_ (ld_blt I hg2 hm2 boot_set (PyProof.Rows.callWith_type1 (PyProof.Rows.args_cons (thn (ha.run pins s σ H _ I h) fun v s1 ⟨x, H1, I1, r1, q1⟩ => PyProof.Rows.args_nil (by
    obtain ⟨l, ns, rfl, hq, hn, h64, q1⟩ := q1
    cases r1
    refine of_either (I1.ok.hd hc) I1 hq hn fun s2 R I2 => PyProof.Rows.args_nil ?_
    refine sorted_set R (I1.ok.hd hc) h64 fun z pz out c ns2 k g o hp hg0 hi so mem len => ?_
    have eq : ns2 = sortI (ddI [] ns) := by
      obtain ⟨d1, d2⟩ := ddI_ok ns [] List.nodup_nil
      have nd : ns2.Nodup := so.imp (fun h => by omega)
      refine sortI_uniq ((List.perm_ext_iff_of_nodup nd d1).mpr fun j => ?_) (so.imp fun h => by omega)
      rw [mem j, d2 j]
      simp
    subst eq
    have nn : H1 pz = none := I2.hok.fresh hp
    have ez : z = { s2 with heap := z.heap, gens := z.gens, drawn := z.drawn, toks := z.toks } := by
      cases z
      cases s2
      cases o
      rfl
    have J : Inv X pins σ (upd H1 pz (.lst ((sortI (ddI [] ns)).map V.int))) { s2 with heap := z.heap, gens := z.gens, drawn := z.drawn, toks := z.toks } :=
      I2.call (ch := []) (Un.laid k hp nn) (I2.hok.laid k hp ⟨by rw [List.length_map, len, sizeLine_eq]; omega, out.toList, c, vals_of_ints hi, hg0⟩) (by rw [g]; exact I2.bare) (fun _ z => nomatch z)
    rw [ez]
    exact ⟨.ref pz, _, J, rfl, q1 pz nn⟩)) na) na rfl))) rfl) rfl rfl))⟩
theorem tLS_of {K : PySem.W.Frag} (hK : K = G.K) {σ : L2.St} {H : Hp} {Q : VK} (h : rdE G E (lnS f) σ H Q) : tLS K (rdE G E f) σ H Q := by
  obtain ⟨ι, ρ, M, st, p⟩ := h
  refine ⟨ι, ρ, M, st, (Post.bnd p).mono fun d ι1 M1 H1 x1 p1 v rv => ?_⟩
  obtain ⟨x, e, p2⟩ := Post.asGe p1
  obtain ⟨xs, e2, p3⟩ := Post.ofO p2
  obtain ⟨ns, e4, p4⟩ := Post.ofO p3
  obtain ⟨c, p5⟩ := Post.chk p4
  have q := Post.rt x1.mem p5 _ rpI
  cases x with
  | list zs =>
    cases e2
    obtain ⟨l, vs, rfl, h1, h2⟩ := asG_lst x1.mem rv e
    rw [intsP_rp h2 e4] at h1
    exact ⟨l, ns, rfl, .inl (hK ▸ h1), Nat.le_of_ble_eq_true c, q⟩
  | tuple zs =>
    cases e2
    obtain ⟨l, vs, rfl, h1, h2⟩ := asG_tup x1.mem rv e
    rw [intsP_rp h2 e4] at h1
    exact ⟨l, ns, rfl, .inr (hK ▸ h1), Nat.le_of_ble_eq_true c, q⟩
  | _ => cases e2
theorem tSS_of {K : PySem.W.Frag} (hK : K = G.K) {σ : L2.St} {H : Hp} {Q : VK} (h : rdE G E (srS f) σ H Q) : tSS K (rdE G E f) σ H (VF Q) := by
  obtain ⟨ι, ρ, M, st, p⟩ := h
  refine ⟨ι, ρ, M, st, (Post.bnd p).mono fun d ι1 M1 H1 x1 p1 v rv => ?_⟩
  obtain ⟨x, e, p2⟩ := Post.asGe p1
  obtain ⟨xs, e2, p3⟩ := Post.ofO p2
  obtain ⟨ns, e4, p4⟩ := Post.ofO p3
  obtain ⟨c, p5⟩ := Post.chk p4
  obtain ⟨c1, c2⟩ := Bool.and_eq_true_iff.mp c
  have q := lockF x1.mem (rpVs_ints (sortI (ddI [] ns))) p5
  have c3 : (ddI [] ns).length < 64 := Nat.le_of_ble_eq_true c2
  cases x with
  | list zs =>
    cases e2
    obtain ⟨l, vs, rfl, h1, h2⟩ := asG_lst x1.mem rv e
    rw [intsP_rp h2 e4] at h1
    exact ⟨l, ns, rfl, .inl (hK ▸ h1), Nat.le_of_ble_eq_true c1, c3, q⟩
  | tuple zs =>
    cases e2
    obtain ⟨l, vs, rfl, h1, h2⟩ := asG_tup x1.mem rv e
    rw [intsP_rp h2 e4] at h1
    exact ⟨l, ns, rfl, .inr (hK ▸ h1), Nat.le_of_ble_eq_true c1, c3, q⟩
  | _ => cases e2
theorem xlnS (hc : X.calm = true) (hg : Gl X "len") (hm : X.mg "len" = none) (hg2 : Gl X "set") (hm2 : X.mg "set" = none) (ha : PE X a (rdE G E f))
    (na : starEach [a] X.env = (false, eval a X.env) :: starEach [] X.env := by rfl) (hK : X.K = G.K := by rfl) : PE X (.Call (.Name "len" p) [.Call (.Name "set" p2) [a] [] q] [] pos) (rdE G E (lnS f)) := peI (pe_lnS hc hg hm hg2 hm2 ha na) fun _ _ _ h => tLS_of hK h
theorem xsrS (hc : X.calm = true) (hg : Gl X "sorted") (hm : X.mg "sorted" = none) (hg2 : Gl X "set") (hm2 : X.mg "set" = none) (ha : PE X a (rdE G E f))
    (na : starEach [a] X.env = (false, eval a X.env) :: starEach [] X.env := by rfl) (hK : X.K = G.K := by rfl) : PE X (.Call (.Name "sorted" p) [.Call (.Name "set" p2) [a] [] q] [] pos) (rdE G E (srS f)) := peI (pe_frz (pe_srS hc hg hm hg2 hm2 ha na)) fun _ _ _ h => tSS_of hK h
end
end Xt
set_option Elab.async false
set_option linter.all false
set_option maxRecDepth 100000
set_option maxHeartbeats 4000000
namespace Xt
open PySem PySem.Spec PyProof.Rows L2
/-! ### raising -/
/-- raise c() -/
def rsC (c : Str) : Slots → Co Fl := fun _ M => .ex ⟨c, none⟩ M
/-- what the head tells of an own exception class -/
structure ExF (G : Gx) (x : Str) (C : Addr) : Prop where
  gC : G.mg x = some (.ref C)
  exc : PySem.W.excIn G.K C He.veBase "ValueError.__new__" = true
  kp : PySem.W.keepIn G.K (.ref C) = true
  sb : PySem.W.subIn G.K (.ref C) (.type "BaseException") = some true
  ty : PySem.W.typeIn G.K (.ref C) = some (.type "type")
section
variable {X : Cx} {G : Gx} {E : XK} {x : Str} {C : Addr} {p pos pos2 : Pos}
theorem pmk_0 (hK : X.K = G.K) (hm : X.mg = G.mg) (F : ExF G x C) (hg : Gl X x) (hdb : (x == ("__debug__" : Str)) = false := by decide) : PMk X (.Call (.Name x p) [] [] pos) (fun _ H Q => Q (.ref C) none H) := by
  intro pins s σ H Q I h
  have gC : X.mg x = some (.ref C) := by rw [hm]; exact F.gC
  have kC : PySem.W.keepIn X.K (.ref C) = true := by rw [hK]; exact F.kp
  have q : PySem.W.excIn X.K C He.veBase "ValueError.__new__" = true := by rw [hK]; exact F.exc
  have r : Raises X (.ref C) := raises_own (by rw [hK]; exact F.sb) (by rw [hK]; exact F.ty)
  refine wpAny_Call_Name_kw (ld_glob I hg gC (PySem.W.callWith_K0 I.kIn kC ?_) hdb)
  show wpAny _ _ (call (.ref C) []) _ _ _
  obtain ⟨bm, N, nm, qn, bs, hdct, sn, sub, ab, col, dd, k0, k1, k2, k3, k5, mN, hC, hN, hni, T⟩ := exc_obj I.kIn q
  exact wpAny_call_exc_subT PySem.F.excBase_ValueError T hC hN hni (fun h' e hm => mk_of I hm r h (I.hok.gone hm.new)) (by show 0 ≤ sizeLine; exact Nat.zero_le _)
theorem xrz {W : WX} (hc : X.calm = true) (tk : Takes X W) (hW : ∀ cls d σ H, E cls d H → W cls d σ H) (hK : X.K = G.K) (hm : X.mg = G.mg) (F : ExF G x C) (hg : Gl X x) (hdb : (x == ("__debug__" : Str)) = false := by decide) :
    PS X (.Raise (some (.Call (.Name x p) [] [] pos)) none pos2) (rdS G E (rsC x)) := psI (ps_raise hc tk (pmk_0 hK hm F hg hdb)) fun D σ H h => by
  obtain ⟨ι, ρ, M, st, q⟩ := h
  exact hW _ _ _ _ (q ι H (.ref C) none (.refl st.mem) ⟨⟨C, F.gC, rfl⟩, rfl⟩)
/-- a callee's exceptions are let through, or are none -/
theorem px1 {W : WX} (tk : Takes X W) (hW : ∀ cls d σ H, E cls d H → W cls d σ H) : Passes (L2.CX X.prog X.w) X E := passes_call tk hW
theorem pxN : Passes (L2.CX X.prog X.w) X E0 := fun _ _ _ _ _ _ _ c => by
  obtain ⟨_, _, _, _, _, _, _, _, _, _, _, _, z⟩ := c
  exact z.elim
theorem tk_of {P : Program} {w : World} {K : PySem.W.Frag} {mg : Str → Option Value} {base : Heap} {N : List Str} {q : Str} {sc : Scope} {f : Addr} {cdv : Value} {A : Around} {outer : List Env} {s : Shared} {H : Hp} : Takes (cxOf (L2.CX P w) P w K mg base N q sc f cdv A outer s H E) (fun cls d _ H => E cls d H) := takes_of rfl rfl rfl rfl
end
end Xt
set_option Elab.async false
set_option linter.all false
set_option maxRecDepth 100000
set_option maxHeartbeats 4000000
namespace Xt
open PySem PySem.Spec PyProof.Rows L2
section
variable {P : Program} {w : World} {K : PySem.W.Frag} {mg : Str → Option Value} {base : Heap} {N : List Str} {q : Str} {sc : Scope} {f : Addr} {cdv : Value} {A : Around} {outer : List Env} {s : Shared} {H : Hp} {E : XK} {G : Gx} {x : Str} {C : Addr} {p pos pos2 : Pos}
theorem pxX : Passes (L2.CX P w) (cxOf (L2.CX P w) P w K mg base N q sc f cdv A outer s H E) E := px1 tk_of fun _ _ _ _ h => h
theorem pxNX {CX : CXT} : Passes (L2.CX P w) (cxOf CX P w K mg base N q sc f cdv A outer s H E).nox E0 := pxN
theorem xrX (F : ExF G x C) (hg : Gl (cxOf (L2.CX P w) P w G.K G.mg base N q sc f cdv A outer s H E) x) (hdb : (x == ("__debug__" : Str)) = false := by decide) :
    PS (cxOf (L2.CX P w) P w G.K G.mg base N q sc f cdv A outer s H E) (.Raise (some (.Call (.Name x p) [] [] pos)) none pos2) (rdS G E (rsC x)) := xrz rfl tk_of (fun _ _ _ _ h => h) rfl rfl F hg hdb
end
theorem Tx.ex {fa : List He.Fa} {fn : List He.DefD} {G : Gx} (T : Tx fa fn G) {x : Str} (i j : Nat) (h : fa[i]? = some (.glo x) := by rfl) (h2 : fa[j]? = some (.exc x) := by rfl) : ExF G x (He.ga G.K x) := by
  have g := T.glo i h
  have e := T.says.fact j h2
  obtain ⟨e1, e2⟩ := Bool.and_eq_true_iff.mp e
  obtain ⟨e3, e4⟩ := Bool.and_eq_true_iff.mp e2
  obtain ⟨e5, e6⟩ := Bool.and_eq_true_iff.mp e4
  exact ⟨g, e1, e3, of_decide_eq_true e5, of_decide_eq_true e6⟩
/-- a def that may raise -/
theorem dokX_mk {P : Program} {w : World} {base : Heap} {G : Gx} {x nm qual : Str} {params : Arguments} {body : List Stmt} {scope : Scope} {fa : Addr} {N ps : List Str} {Fn : Nat → List Dv → Co Dv} {b : Nat → Slots → Co Fl} (h0 : Fn 0 = fun _ => fl) (hs : ∀ n, Fn (n + 1) = defF N.length ps.length (b n))
    (F : ∃ fd, FunD G.K nm qual params body scope [] [] fa fd) (hm : G.mg x = some (.ref fa)) (S : FnScope N ps scope)
    (hbd : ∀ (kV doc pm : Value) (an : Option Addr) (cdv ct : Value) (us : List Value), us.length = ps.length → bindArgs (PySem.W.fnOf nm qual params body scope .none kV doc pm an cdv ct) ⟨us, []⟩ = pure (ps.zip us))
    (hb : ∀ n, Dok P w base (L2.CX P w) G x ps n (Fn n) → ∀ (cdv : Value) (A : Around) (outer : List Env) (s : Shared) (H : Hp) (E : XK), Room n (A.deeper (envOfC qual scope s.heap.objs.size fa cdv)) → PSs (cxOf (L2.CX P w) P w G.K G.mg base N qual scope fa cdv A outer s H E) body (rdS G E (b n))) :
    ∀ n, Dok P w base (L2.CX P w) G x ps n (Fn n) := by
  obtain ⟨fd, F⟩ := F
  intro n
  induction n with
  | zero => exact ⟨fa, fd, hm, F.kp, F.bindsN hbd, by rw [h0]; exact fn_zero⟩
  | succ n ih => exact ⟨fa, fd, hm, F.kp, F.bindsN hbd, by
      rw [hs]
      exact xdef F S fun cdv A outer s H E hr => hb n ih cdv A outer s H E hr⟩
/-- .. with a table of code objects -/
theorem dokTX_mk {P : Program} {w : World} {base : Heap} {G : Gx} {x nm qual : Str} {params : Arguments} {body : List Stmt} {scope : Scope} {N ps : List Str} {Fn : Nat → List Dv → Co Dv} {b : Nat → Slots → Co Fl} (h0 : Fn 0 = fun _ => fl) (h1 : Fn 1 = fun _ => fl) (hs : ∀ n, Fn (n + 2) = defF N.length ps.length (b n))
    (F : ∃ fd, FunD G.K nm qual params body scope [] [] (He.fAd G.K (x, none)) fd) (hm : G.mg x = some (.ref (He.fAd G.K (x, none)))) (S : FnScope N ps scope)
    (hbd : ∀ (kV doc pm : Value) (an : Option Addr) (cdv ct : Value) (us : List Value), us.length = ps.length → bindArgs (PySem.W.fnOf nm qual params body scope .none kV doc pm an cdv ct) ⟨us, []⟩ = pure (ps.zip us))
    (hb : ∀ n, Dok P w base (L2.CX P w) G x ps n (Fn n) → ∀ (A : Around) (outer : List Env) (s : Shared) (H : Hp) (E : XK), Room (n + 1) (A.deeper (envOfC qual scope s.heap.objs.size (He.fAd G.K (x, none)) (.ref (He.cT G.K (x, none)).1))) →
      PSs (cxOf (L2.CX P w) P w G.K G.mg base N qual scope (He.fAd G.K (x, none)) (.ref (He.cT G.K (x, none)).1) A outer s H E) body (rdS G E (b n))) :
    ∀ n, Dok P w base (L2.CX P w) G x ps n (Fn n) := by
  obtain ⟨fd, F⟩ := F
  have both : ∀ n, Dok P w base (L2.CX P w) G x ps n (Fn n) ∧ Dok P w base (L2.CX P w) G x ps (n + 1) (Fn (n + 1)) := by
    intro n
    induction n with
    | zero => exact ⟨⟨_, fd, hm, F.kp, F.bindsN hbd, by rw [h0]; exact fn_zero⟩, ⟨_, fd, hm, F.kp, F.bindsN hbd, by rw [h1]; exact fn_zero⟩⟩
    | succ n ih0 =>
    have ih := ih0.1
    refine ⟨ih0.2, ?_⟩
    refine ⟨_, fd, hm, F.kp, F.bindsN hbd, ?_⟩
    show FnOk P w G.K G.mg base (L2.CX P w) (n + 2) _ fd ps (spF G (Fn (n + 2)))
    rw [hs]
    obtain ⟨oc, od, dV, kV, doc, pm, an, cdv, ct, osl, rfl, lk, hcd, _, _⟩ := id F.ex
    obtain ⟨c, rfl⟩ := He.codeIn_ref hcd
    have ec : He.codeOf G.K (x, none) = c := He.codeOf_eq lk rfl
    refine fn_of lk hcd S (fun vs H Q E h => spF_len h) fun A outer s H vs Q E hr h => ?_
    have hl := spF_len h
    obtain ⟨ι, M, ds, m, r, p⟩ := h
    obtain ⟨_, p⟩ := Post.chk p
    have hb' := hb n ih A outer s H E
    have e2 : (He.cT G.K (x, none)).1 = c := ec
    rw [e2] at hb'
    refine ⟨_, hb' hr, ι, _, M, ?_, (Post.bnd p).mono fun fl ι1 M1 H1 x1 p1 => ?_⟩
    · have e := start_st (N := N) m r
      rw [← r.length, hl] at e
      exact e
    · cases fl with
      | nx ρ => exact fun σ _ => Post.rt x1.mem p1 _ (.g .non)
      | rt d => exact Post.rt (E := E) x1.mem p1
      | _ => exact p1.elim
  exact fun n => (both n).1
end Xt
set_option Elab.async false
set_option linter.all false
set_option maxRecDepth 100000
set_option maxHeartbeats 4000000
namespace Xt
open PySem PySem.Spec PyProof.Rows L2 LamX
/-! ### a lambda handed to a def -/
/-- all stays but the table at P -/
def Stp (P : Addr) (H H' : Hp) : Prop := ∀ b o, H b = some o → b ≠ P → H' b = some o
section
variable {X : Cx} {pins : List (Addr × Obj)} {σ : L2.St} {H : Hp} {s : Shared}
theorem lam3 {nm : Addr → Option Str} {c P : Addr} {params : Arguments} {body : Expr} {scope : Scope} {pos : Pos} {E Q : Value → Shared → Prop} (I : Inv X pins σ H s) (TB : TabB X.base X.mg c P) (hcode : X.env.code = .ref c) (hnm : nm P = some (X.env.qual ++ "<lambda>")) (hT : TbR nm H P)
    (hdef : defaultsOf params X.env = ([], [])) (hfree : ∀ y ∈ scope.names, y.2 = .free → ∃ c, X.env.cells.lookup y.1 = some c)
    (h : ∀ (f c' : Addr) (pm ctv : Value) (H1 : Hp) (s' : Shared), Inv X pins σ H1 s' → Stp P H H1 → TbR nm H1 P →
      s'.heap.get? f = some (PySem.W.kla_obj "<lambda>" (X.env.qual ++ "<lambda>") params body scope (cloFrom X.env.cells scope.names []) pm c' ctv) → H1 f = none → f ∉ frs X.stack → H1 c' = some (CodeO c' (X.env.qual ++ "<lambda>")) → Q (.ref f) s') :
    wpAny (model X.prog X.w) X.A (eval (.Lambda params body scope pos) X.env) Q E s := by
  obtain ⟨ps, hP, trip, names⟩ := hT
  have hold : s.heap.get? P = some { cls := .none, data := .fields ps } := I.hok P _ hP
  have far : ∀ f, s.heap.objs.size ≤ f → f ∉ frs X.stack := fun f hf z => (List.mem_cons.mp (I.stkSub _ z)).elim (fun e => Nat.lt_irrefl _ (Nat.lt_of_lt_of_le (e ▸ I.lt) hf)) fun e => I.nofs hf e
  refine PySem.W.kla_eval hdef ?_
  cases hc : codeAmong pos ps.toList with
  | some cv =>
    obtain ⟨c', rfl, hco⟩ := names _ hnm pos cv hc
    refine PySem.W.kla_makeFunctionHit (c := c) (P := P) (ps := ps) (mg := X.mg) (closure_ok hfree) I.ok.glob (I.mod.glob.keeps I.bk) hcode (TB.code.keeps I.bk) hold trip hc (TB.bm.keeps I.bk) fun ctv h' tk up big => ?_
    exact h h'.objs.size c' ((X.mg "__name__").getD .none) ctv H _ (I.kept (t' := tk) fun b o e => Heap.get?_push_of_some _ (up b o e)) (fun _ _ e _ => e) ⟨ps, hP, trip, names⟩ (Heap.get?_push_size _ rfl) (I.hok.fresh big) (far _ big) hco
  | none =>
    refine PySem.W.kla_makeFunction (c := c) (P := P) (ps := ps) (mg := X.mg) (closure_ok hfree) I.ok.glob (I.mod.glob.keeps I.bk) hcode (TB.code.keeps I.bk) hold trip hc TB.gP (TB.bm.keeps I.bk) fun c' ctv h' tk up lo hi rec_ at_ => ?_
    obtain ⟨c2, oc, vs, t, ec, o1, o2, o3⟩ := rec_
    cases ec
    have big : s.heap.objs.size ≤ h'.objs.size := Nat.le_trans lo (Nat.le_of_lt hi)
    have nC : H c' = none := I.hok.fresh lo
    have PC : P ≠ c' := ne_of_none hP nC
    let new : HO := .tbl (ps ++ #[rawInt pos.line, rawInt pos.col, .ref c'])
    have J := inv_table (t' := tk) (q := X.env.qual ++ "<lambda>") (more := #[rawInt pos.line, rawInt pos.col, .ref c']) (h' := h'.push (PySem.W.kla_obj "<lambda>" (X.env.qual ++ "<lambda>") params body scope (cloFrom X.env.cells scope.names []) ((X.mg "__name__").getD .none) c' ctv)) I hP
      (fun b o hb e => Heap.get?_push_of_some _ (up b o hb e)) (Heap.get?_push_of_some _ at_) lo ⟨oc, vs, t, Heap.get?_push_of_some _ o1, o2, o3⟩
    have st : Stp P H (upd (upd H P new) c' (CodeO c' (X.env.qual ++ "<lambda>"))) := fun b o e ne => by rw [upd_ne (ne_of_none e nC), upd_ne ne]; exact e
    have eL : (ps ++ #[rawInt pos.line, rawInt pos.col, .ref c']).toList = ps.toList ++ [rawInt pos.line, rawInt pos.col, .ref c'] := by simp
    refine h h'.objs.size c' ((X.mg "__name__").getD .none) ctv _ _ J st ⟨_, by rw [upd_ne PC, upd_same], by rw [eL]; exact PySem.TriplesOk_snoc _ _ _ _ trip, fun q hq pos' cv hcv => ?_⟩ (Heap.get?_push_size _ rfl) ?_ (far _ big) upd_same
    · have eq : q = X.env.qual ++ "<lambda>" := Option.some.inj (hq.symm.trans hnm)
      rw [eL] at hcv
      rcases among_app _ trip hcv with z | z
      · obtain ⟨c0, e1, e2⟩ := names q hq pos' cv z
        have ne0 : c0 ≠ P := fun z => by
          rw [z, hP] at e2
          cases e2
        exact ⟨c0, e1, st _ _ e2 ne0⟩
      · exact ⟨c', z, by rw [eq]; exact upd_same⟩
    · rw [upd_ne (Nat.ne_of_gt hi), upd_ne (Nat.ne_of_gt (Nat.lt_of_lt_of_le (Heap.lt_size hold) big))]
      exact I.hok.fresh big
end
/-- from one heap to the next where a lambda was made -/
theorem Ext.lam {G : Gx} {ι : List Addr} {H H1 : Hp} {M : Mem} {P : Addr} (m : MemR G ι H M) (t0 : TbR G.nm H P) (st : Stp P H H1) (t1 : TbR G.nm H1 P) : Ext G ι H ι M H1 := by
  obtain ⟨ps, hP, _, _⟩ := t0
  have nt : ∀ b o, H b = some o → isTbl o = false → b ≠ P := fun b o e z q => by
    rw [q, hP] at e
    cases e
    cases z
  have kp : Keep H H1 := ⟨fun b o u e => st b _ e (nt b _ e rfl), fun b xs e => st b _ e (nt b _ e rfl)⟩
  refine ⟨List.prefix_refl _, ⟨m.len, m.nd, fun i a mo h1 h2 => ?_, fun Q hQ => ?_⟩, kp, fun b o e z _ => st b o e (nt b o e z), fun b qs e => ?_, fun a h n => absurd h n⟩
  · have q := m.ob i a mo h1 h2
    obtain ⟨u, hu, hz⟩ : ∃ u, H a = some u ∧ isTbl u = false := by
      cases mo with
      | lst xs => obtain ⟨vs, e, _⟩ := q; exact ⟨_, e, rfl⟩
      | dct xs => obtain ⟨vs, e, _⟩ := q; exact ⟨_, e, rfl⟩
      | ins c xs => obtain ⟨C, dx, vs, _, e, _⟩ := q; exact ⟨_, e, rfl⟩
      | dead => exact q
    exact q.mono (List.prefix_refl _) kp ((st a u hu (nt a u hu hz)).trans hu.symm)
  · by_cases e : Q = P
    · rw [e]
      exact t1
    · exact (m.tab Q hQ).to (fun ps h => st Q _ h e) fun c f h => st c _ h (nt c _ h rfl)
  · by_cases z : b = P
    · rw [z]
      obtain ⟨qs', e1, _⟩ := t1
      exact ⟨qs', e1⟩
    · exact ⟨qs, st b _ e z⟩
end Xt
set_option Elab.async false
set_option linter.all false
set_option maxRecDepth 100000
set_option maxHeartbeats 4000000
namespace Xt
open PySem PySem.Spec PyProof.Rows L2 LamX
/-- what the told def makes of it: None, or what wd says of the exception -/
def TTold (G : Gx) (wd : Exn → Option PyData) : (XK → Hp → VK → Prop) → Hp → VK → Prop := fun tl H Q =>
  tl (fun cls dx H' => ∃ c y, wd c = some y ∧ ExR G H' c cls dx ∧ MemR G [] H' [] ∧ ∀ v ι2 M2 H2, Ext G [] H' ι2 M2 H2 → RpV G.K H2 v y → Q v H2) H fun _ H' => Q .non H'
/-- the def that got the lambda calls it by its parameter's name -/
def Gives3 (X : Cx) (Ng : List Str) (x : Str) (sg : Scope) (g : Addr) (cdg : Value) (bg : List Stmt) (a q : Str) (TT : (XK → Hp → VK → Prop) → Hp → VK → Prop) : Prop :=
  ∀ (f c' : Addr) (s : Shared) (H : Hp) (Q : VK) (tl : XK → Hp → VK → Prop), Room 1 (X.A.deeper (envOfC x sg s.heap.objs.size g cdg)) →
    (∀ (W : WX) (pn : List (Addr × Obj)) (xe : Value → Shared → Prop) (E : XK) (p1 p2 : Pos), (∀ cls d σ' H', E cls d H' → W cls d σ' H') → Takes ((cxOf C8.CX0 X.prog X.w X.K X.mg X.base Ng x sg g cdg X.A X.stack s H C8.E0).tr pn xe) W →
      PE ((cxOf C8.CX0 X.prog X.w X.K X.mg X.base Ng x sg g cdg X.A X.stack s H C8.E0).tr pn xe) (.Call (.Name a p1) [] [] p2) fun σZ HZ Q => σZ[0]? = some (some (.ref f)) ∧ HZ c' = some (CodeO c' q) ∧ tl E HZ Q) →
    H c' = some (CodeO c' q) → TT tl H Q → ∃ t, PSs (cxOf C8.CX0 X.prog X.w X.K X.mg X.base Ng x sg g cdg X.A X.stack s H C8.E0) bg t ∧ t { nx := fun _ H' => Q .non H', rt := Q } (L2.start Ng [.ref f]) H
def told (wd : Exn → Option PyData) (f : Slots → Co Dv) : Slots → Co Dv := fun ρ M => match f ρ M with
  | .ok _ M' => .ok (.g .none) M'
  | .ex c M' => (match wd c with
    | some y => .ok (.g y) M'
    | none => .fail)
  | .fail => .fail
/-- the def that is told: where it stands, and what it does with what it got -/
structure ToldD (P : Program) (w : World) (base : Heap) (G : Gx) (x a : Str) (wd : Exn → Option PyData) (Ng : List Str) (g : Addr) (sg : Scope) (bg : List Stmt) (cdg : Value) : Prop where
  mg : G.mg x = some (.ref g)
  kp : PySem.W.keepIn G.K (.ref g) = true
  fn : ∃ (oc : Value) (od : Option Addr) (pg : Arguments) (dV kV doc pm ct : Value) (an : Option Addr) (osl : Array (Option Value)), G.K.lookup g = some ⟨oc, od, .func (PySem.W.fnOf x x pg bg sg dV kV doc pm an cdg ct), osl⟩ ∧ L2.Binds G.K (PySem.W.fnOf x x pg bg sg dV kV doc pm an cdg ct) [a] []
  cd : PySem.W.codeIn G.K cdg x = true
  sc : FnScope Ng [a] sg
  n0 : Ng[0]? = some a
  vis : Vis sg a
  gives : ∀ (X : Cx), X.prog = P → X.w = w → X.K = G.K → X.mg = G.mg → X.base = base → ∀ q, Gives3 X Ng x sg g cdg bg a q (TTold G wd)
section
variable {X : Cx} {G : Gx}
theorem pe_lam3 {TT : (XK → Hp → VK → Prop) → Hp → VK → Prop} {x a : Str} {g c P : Addr} {k : Nat} {pg : Arguments} {bg : List Stmt} {sg : Scope} {dV kV doc pm cdv ct oc : Value} {an od : Option Addr} {osl : Array (Option Value)} {Ng : List Str} {nm : Addr → Option Str}
    {params : Arguments} {body : Expr} {scope : Scope} {t : XK → TE} {p lpos pos : Pos} (hg : Gl X x) (hm : X.mg x = some (.ref g)) (hk : PySem.W.keepIn X.K (.ref g) = true)
    (lk : X.K.lookup g = some ⟨oc, od, .func (PySem.W.fnOf x x pg bg sg dV kV doc pm an cdv ct), osl⟩) (hcg : PySem.W.codeIn X.K cdv x = true) (hb : L2.Binds X.K (PySem.W.fnOf x x pg bg sg dV kV doc pm an cdv ct) [a] []) (Sg : FnScope Ng [a] sg) (hNg : Ng[0]? = some a) (hva : Vis sg a)
    (hG : Gives3 X Ng x sg g cdv bg a (X.env.qual ++ "<lambda>") TT) (TB : TabB X.base X.mg c P) (hcode : X.env.code = .ref c) (hnm : nm P = some (X.env.qual ++ "<lambda>")) (hr : Room (k + 2) X.A) (L : LamS X.env.scope scope) (hdef : defaultsOf params X.env = ([], []))
    (hbind : ∀ (q : Str) (cl : List (Str × Addr)) (pm cv ctv : Value), bindArgs (PySem.W.kla_fn "<lambda>" q params body scope cl pm cv ctv) ⟨[], []⟩ = pure [])
    (hbody : ∀ (A : Around) (outer : List Env) (s : Shared) (H : Hp) (E : XK) (f c' : Addr), Room k (A.deeper (lamEnv X scope s.heap.objs.size f c')) → PE (lamCx X A outer s H E scope f c') body (t E))
    (hdb : (x == ("__debug__" : Str)) = false) (hd : (a == ("__debug__" : Str)) = false) (hcd : (a == ("__classdict__" : Str)) = false) :
    PE X (.Call (.Name x p) [.Lambda params body scope lpos] [] pos) (fun σ H Q => TbR nm H P ∧ ∀ H1, Stp P H H1 → TbR nm H1 P → TT (fun E H' Q' => t E σ H' Q') H1 Q) := by
  refine ⟨fun pins s σ H Q I ⟨hT, h⟩ => wpAny_Call_Name_kw (ld_glob I hg hm (PySem.W.callWith_K (h₀ := X.base) I.ok.mod.kin hk ?_ (by rfl) (by rfl)) hdb)⟩
  show wpAny _ _ (spliced ((false, eval (.Lambda params body scope lpos) X.env) :: backTo pos (starEach [] X.env))) _ _ s
  refine Calls.spliced_cons (lam3 I TB hcode hnm hT hdef (L.has I.ok) fun f c' pm' ctv H1 s' I1 st T1 e1 e2 e3 e4 => Calls.spliced_nil ⟨I1.kIn, ?_⟩)
  refine wpAny_call (codeAny_mono (R := CR C8.CX0 X.stack X.prog X.w H1 s' Q C8.E0) (run_ofS (vs := [.ref f]) (us := [.ref f]) (ps := [a]) (N := Ng) lk hcg Sg hr I1.env0 (hb s' [.ref f] I1.kIn rfl) (.cons rfl .nil) rfl fun hr' => ?_) fun r s2 hq => ?_)
  · exact hG f c' s' H1 Q (fun E H' Q' => t E σ H' Q') (hr'.mono (by omega)) (fun W pn xe E p1 p2 hW tk => pe_act (i := 0) I1 L e1 e2 e3 (hbind _ _ _ _ _) tk hW hr' (fun A outer s H hr2 => hbody A outer s H E f c' hr2) hNg hva hd hcd) e4 (h H1 st T1)
  · match r, hq with
    | .error e, hq => exact (show False from hq).elim
    | .ok (.ret u), hq => exact I1.after hq
theorem xtold {E : XK} {x a : Str} {wd : Exn → Option PyData} {Ng : List Str} {g c Pt : Addr} {sg : Scope} {bg : List Stmt} {cdg : Value} {k : Nat} {params : Arguments} {body : Expr} {scope : Scope} {p lpos pos : Pos} {f : Slots → Co Dv}
    (D : ToldD X.prog X.w X.base G x a wd Ng g sg bg cdg) (hK : X.K = G.K) (hmg : X.mg = G.mg) (hg : Gl X x) (TB : TabB X.base X.mg c Pt) (hPt : Pt ∈ G.tbs) (hcode : X.env.code = .ref c) (hnm : G.nm Pt = some (X.env.qual ++ "<lambda>")) (hr : Room (k + 2) X.A) (L : LamS X.env.scope scope) (hdef : defaultsOf params X.env = ([], []))
    (hbind : ∀ (q : Str) (cl : List (Str × Addr)) (pm cv ctv : Value), bindArgs (PySem.W.kla_fn "<lambda>" q params body scope cl pm cv ctv) ⟨[], []⟩ = pure [])
    (hbody : ∀ (A : Around) (outer : List Env) (s : Shared) (H : Hp) (E : XK) (f' c' : Addr), Room k (A.deeper (lamEnv X scope s.heap.objs.size f' c')) → PE (lamCx X A outer s H E scope f' c') body (rdE G E f))
    (hdb : (x == ("__debug__" : Str)) = false := by decide) (hd : (a == ("__debug__" : Str)) = false := by decide) (hcd : (a == ("__classdict__" : Str)) = false := by decide) :
    PE X (.Call (.Name x p) [.Lambda params body scope lpos] [] pos) (rdE G E (told wd f)) := by
  obtain ⟨oc, od, pg, dV, kV, doc, pm, ct, an, osl, lk, hb⟩ := D.fn
  refine peI (pe_lam3 (t := fun E => rdE G E f) (nm := G.nm) hg (by rw [hmg]; exact D.mg) (by rw [hK]; exact D.kp) (by rw [hK]; exact lk) (by rw [hK]; exact D.cd) (by rw [hK]; exact hb) D.sc D.n0 D.vis (D.gives X rfl rfl hK hmg rfl _) TB hcode hnm hr L hdef hbind hbody hdb hd hcd) fun σ H Q h => ?_
  obtain ⟨ι, ρ, M, st, q⟩ := h
  have t0 := st.mem.tab Pt hPt
  refine ⟨t0, fun H1 sp t1 => ?_⟩
  have x0 := Ext.lam st.mem t0 sp t1
  have q1 := q.shift x0
  refine ⟨ι, ρ, M, st.ext x0, ?_⟩
  unfold told at q1
  cases e : f ρ M with
  | fail =>
    rw [e] at q1
    exact q1.elim
  | ok d M' =>
    rw [e] at q1
    exact fun ι' H' x1 v _ => q1 ι' H' x1 .non (.g .non)
  | ex c0 M' =>
    rw [e] at q1
    cases e2 : wd c0 with
    | none =>
      simp only [e2] at q1
      exact q1.elim
    | some y =>
      simp only [e2] at q1
      refine fun ι' H' cls dx x1 er => ⟨c0, y, e2, er, ⟨rfl, List.nodup_nil, fun i a mo h _ => by simp at h, x1.mem.tab⟩, fun v ι2 M2 H2 up rv => ?_⟩
      exact q1 ι' H2 (x1.trans (Ext.pure x1.mem up)) v (.g rv)
end
end Xt
set_option Elab.async false
set_option linter.all false
set_option maxRecDepth 100000
set_option maxHeartbeats 4000000
namespace Xt
open PySem PySem.Spec PyProof.Rows L2 LamX
/-! ### the suite that asks what was caught -/
/-- what isinstance asks of an exception's class -/
def excCB (K : PySem.W.Frag) (D : Addr) : Bool :=
  He.eqO (PySem.W.findIn K (.ref D) "__getattribute__") (some (some (.builtin "BaseException.__getattribute__"))) && (He.eqO (PySem.W.findIn K (.ref D) "__getattr__") (some none) && (decide (PySem.W.subIn K (.ref D) (.type "BaseException") = some true) && (PySem.W.hasDictIn K D &&
    (He.eqO (PySem.W.findIn K (.ref D) "__class__") (some (some (.builtin "object.__class__"))) && (He.eqO (PySem.W.specialIn K (.builtin "object.__class__") "__get__") (some (some (.builtin "getset_descriptor.__get__"))) && (decide (PySem.W.takesIn K (.builtin "object.__class__") = some true) && decide (PySem.W.mroIn K D (.type "object") = some true)))))))
theorem excCB_ok {K : PySem.W.Frag} {D : Addr} (h : excCB K D = true) : ExcC K D := by
  obtain ⟨h1, h⟩ := Bool.and_eq_true_iff.mp h
  obtain ⟨h2, h⟩ := Bool.and_eq_true_iff.mp h
  obtain ⟨h3, h⟩ := Bool.and_eq_true_iff.mp h
  obtain ⟨h4, h⟩ := Bool.and_eq_true_iff.mp h
  obtain ⟨h5, h⟩ := Bool.and_eq_true_iff.mp h
  obtain ⟨h6, h⟩ := Bool.and_eq_true_iff.mp h
  obtain ⟨h7, h8⟩ := Bool.and_eq_true_iff.mp h
  exact ⟨He.eqO_ok h1, He.eqO_ok h2, of_decide_eq_true h3, h4, He.eqO_ok h5, He.eqO_ok h6, of_decide_eq_true h7, of_decide_eq_true h8⟩
section
variable {X : Cx} {G : Gx} {a D : Addr} {oe : Obj} {pn : List (Addr × Obj)} {n : Str}
/-- some answers, the exception standing in slot 1 -/
def tBs (a : Addr) (bs : List Bool) : TA := fun σ H Q => σ[1]? = some (some (.ref a)) ∧ Q (bs.map V.bl) H
theorem pBs0 : PA X [] (tBs a []) := paI pa_nil fun _ _ _ h => h.2
theorem pIs {x : Str} {C : Addr} {b : Bool} {p p1 p2 pos : Pos} (F : ExcC X.K D) (hz : Zc (.ref D) none oe) (hf : ∃ vs, oe.data = .fields vs) (hN : X.N[1]? = some n) (hv : Vis X.env.scope n) (hgi : Gl X "isinstance") (hmi : X.mg "isinstance" = none) (hg : Gl X x) (hm : X.mg x = some (.ref C)) (hb : PySem.W.kitOne X.K (.ref D) (.ref C) = some b)
    (hd : (n == ("__debug__" : Str)) = false := by decide) (hcd : (n == ("__classdict__" : Str)) = false := by decide) (hdx : (x == ("__debug__" : Str)) = false := by decide)
    (hs1 : starEach [.Name n p1, .Name x p2] X.env = (false, eval (.Name n p1) X.env) :: starEach [.Name x p2] X.env := by rfl) (hs2 : starEach [.Name x p2] X.env = (false, eval (.Name x p2) X.env) :: starEach [] X.env := by rfl) (hpl : (backTo pos (starEach [.Name x p2] X.env)).any (·.1) = false := by rfl) :
    PE (X.suite a ((a, oe) :: pn)) (.Call (.Name "isinstance" p) [.Name n p1, .Name x p2] [] pos) (fun σ H Q => σ[1]? = some (some (.ref a)) ∧ Q (.bl b) H) :=
  peI (pe_callB (X := X.suite a ((a, oe) :: pn)) (call_isE F hz hf) hgi hmi (show bootBuiltins "isinstance" = some (.builtin "isinstance") from rfl) (pa_cons (pe_var (i := 1) hN hv hd hcd) (pa_cons (pe_glob (v := .ref C) hg hm rfl hdx) pa_nil hs2) hs1) (by decide) (by decide) hs1 hpl) fun σ H Q h =>
    ⟨_, h.1, .ref C, .ref C, b, rfl, fun _ e => e, hb, h.2⟩
theorem pBs1 {X' : Cx} {e : Expr} {es : List Expr} {b : Bool} {bs : List Bool} (h : PE X' e (fun σ H Q => σ[1]? = some (some (.ref a)) ∧ Q (.bl b) H)) (hr : PA X' es (tBs a bs)) (hs : starEach (e :: es) X'.env = (false, eval e X'.env) :: starEach es X'.env := by rfl) : PA X' (e :: es) (tBs a (b :: bs)) :=
  paI (pa_cons h hr hs) fun _ _ _ z => ⟨z.1, z.1, z.2⟩
/-- the list of them, locked -/
theorem pBl {X' : Cx} {es : List Expr} {bs : List Bool} {pos : Pos} (h : PA X' es (tBs a bs)) (hl : bs.length ≤ 100) : PE X' (.List es pos) (fun σ H Q => σ[1]? = some (some (.ref a)) ∧ ∀ p, H p = none → ∀ od, Q (.ref p) (upd H p (.frz od (.lst (bs.map V.bl))))) :=
  peI (pe_frz (pe_lst h)) fun σ H Q z => ⟨z.1, by rw [List.length_map, sizeLine_eq]; omega, fun p hp => .inr ⟨p, _, rfl, upd_same, trivial, fun od => by rw [upd2]; exact z.2 p hp od⟩⟩
theorem rpVs_bl {K : PySem.W.Frag} {H : Hp} : ∀ bs : List Bool, RpVs K H (bs.map V.bl) (bs.map PyData.bool)
  | [] => .nil
  | b :: r => .cons (.bl b) (rpVs_bl r)
/-- the answers' list, in two statements, then the rest -/
theorem suite2 {X' : Cx} {es es2 : List Expr} {bs bs2 : List Bool} {m : Str} {p1 p2 p3 p4 p5 p6 p7 p8 : Pos} {rest : List Stmt} {k : Nat} {f3 : Slots → Co Fl} (hK : X'.K = G.K) (hNd : X'.N.Nodup) (hi : X'.N[2]? = some m) (hx : X'.env.scope.names.lookup m = some .local)
    (h1 : PA X' es (tBs a bs)) (h2 : PA X' es2 (tBs a bs2)) (hl : bs.length ≤ 100) (hl2 : bs2.length ≤ 100) (hr : PSs X' rest (rdS G E0 f3)) (hd : (m == ("__debug__" : Str)) = false) (hcd : (m == ("__classdict__" : Str)) = false)
    (hs1 : swapsWith (.List es p2) (some (.Name m p1)) p3.line X'.env = pure false) (hs2 : swapsWith (.BinOp (.Name m p5) .Add (.List es2 p6) p7) (some (.Name m p4)) p8.line X'.env = pure false) :
    PSs X' (.Assign [.Name m p1] (.List es p2) p3 :: .Assign [.Name m p4] (.BinOp (.Name m p5) .Add (.List es2 p6) p7) p8 :: rest)
      (fun Dn σ H => σ.length = 3 + k ∧ σ[1]? = some (some (.ref a)) ∧ MemR G [] H [] ∧ Post G E0 [] H (QS G Dn) (f3 (.u :: .u :: .g (.list ((bs ++ bs2).map .bool)) :: List.replicate k .u) [])) := by
  have s1 := ps_set (pos := p3) (pos' := p1) (i := 2) hNd hi (.inl hx) (pBl (pos := p2) h1 hl) hs1 (.inr hx)
  have s2 := ps_set (pos := p8) (pos' := p4) (i := 2) hNd hi (.inl hx) (pe_frz (pe_op (pos := p7) op_addX (pe_var (pos := p5) (i := 2) hi (.inl hx) hd hcd) (pBl (pos := p6) h2 hl2))) hs2 (.inr hx)
  refine pssI (pss_cons s1 (pss_cons s2 hr)) fun Dn σ H h => ?_
  obtain ⟨hlen, ha, mm, po⟩ := h
  refine ⟨ha, fun p hp od => ?_⟩
  have x1 : Ext G [] H [] [] (upd H p (.frz od (.lst (bs.map V.bl)))) := .new mm hp
  have l2 : 2 < σ.length := by omega
  refine ⟨_, List.getElem?_set_self l2, by rw [List.getElem?_set_ne (by decide)]; exact ha, fun q hq od2 => ?_⟩
  have x2 : Ext G [] _ [] [] (upd (upd H p (.frz od (.lst (bs.map V.bl)))) q (.frz od2 (.lst (bs2.map V.bl)))) := .new x1.mem hq
  have r1 : RpD G [] (upd (upd H p (.frz od (.lst (bs.map V.bl)))) q (.frz od2 (.lst (bs2.map V.bl)))) (.ref p) (.g (.list (bs.map .bool))) := .g (.lst (.inl ⟨od, by rw [upd_ne (ne_of_none upd_same hq)]; exact upd_same⟩) (rpVs_bl bs))
  have r2 : RpD G [] (upd (upd H p (.frz od (.lst (bs.map V.bl)))) q (.frz od2 (.lst (bs2.map V.bl)))) (.ref q) (.g (.list (bs2.map .bool))) := .g (.lst (.inl ⟨od2, upd_same⟩) (rpVs_bl bs2))
  have z : szOk ((bs.map PyData.bool).length + (bs2.map PyData.bool).length) = true := Nat.ble_eq_true_of_le (by simp; omega)
  have fin : ∀ v H3, Ext G [] (upd (upd H p (.frz od (.lst (bs.map V.bl)))) q (.frz od2 (.lst (bs2.map V.bl)))) [] [] H3 → RpD G [] H3 v (.g (.list (bs.map .bool ++ bs2.map .bool))) → rdS G E0 f3 Dn ((σ.set 2 (some (.ref p))).set 2 (some v)) H3 := fun v H3 x3 rv => by
    refine ⟨[], _, [], ⟨by simp [hlen]; omega, x3.mem, fun i d hi hu => ?_⟩, po.shift ((x1.trans x2).trans x3)⟩
    match i with
    | 0 => cases hi; exact absurd rfl hu
    | 1 => cases hi; exact absurd rfl hu
    | 2 =>
      cases hi
      refine ⟨v, List.getElem?_set_self (by simpa using l2), ?_⟩
      rw [List.map_append]
      exact rv
    | i + 3 =>
      have q2 : (List.replicate k Dv.u)[i]? = some d := hi
      rw [List.getElem?_replicate] at q2
      split at q2
      · cases q2
        exact absurd rfl hu
      · cases q2
  have pp : Post G E0 [] (upd (upd H p (.frz od (.lst (bs.map V.bl)))) q (.frz od2 (.lst (bs2.map V.bl)))) (QE G fun v H3 => rdS G E0 f3 Dn ((σ.set 2 (some (.ref p))).set 2 (some v)) H3) (addD (.g (.list (bs.map .bool))) (.g (.list (bs2.map .bool))) []) := by
    show Post G E0 [] _ _ (chk (szOk _) (rt (Dv.g (.list (bs.map .bool ++ bs2.map .bool)))) [])
    rw [z]
    intro ι' H3 x3 v rv
    have e : ι' = [] := List.length_eq_zero_iff.mp x3.mem.len
    subst e
    exact fin v H3 x3 rv
  have w := of_add (E := E0) [] [] _ _ _ _ _ _ x2.mem r1 r2 pp
  rw [← hK] at w
  exact w
end
end Xt
set_option Elab.async false
set_option linter.all false
set_option maxRecDepth 100000
set_option maxHeartbeats 4000000
namespace Xt
open PySem PySem.Spec PyProof.Rows L2 LamX
/-- what the head tells of the classes that the told def asks for -/
def toldB (K : PySem.W.Frag) (cs : List Str) (h : Str) : Bool := cs.all fun c => excCB K (He.ga K c) && (decide (PySem.W.exmOne K (.ref (He.ga K c)) (.ref (He.ga K h)) = some true) && cs.all fun d => decide (PySem.W.kitOne K (.ref (He.ga K c)) (.ref (He.ga K d)) = some (decide (c = d))))
theorem toldB_ok {K : PySem.W.Frag} {cs : List Str} {h : Str} (t : toldB K cs h = true) {c : Str} (hc : c ∈ cs) : ExcC K (He.ga K c) ∧ PySem.W.exmOne K (.ref (He.ga K c)) (.ref (He.ga K h)) = some true ∧ ∀ d ∈ cs, PySem.W.kitOne K (.ref (He.ga K c)) (.ref (He.ga K d)) = some (decide (c = d)) := by
  have q := List.all_eq_true.mp t c hc
  obtain ⟨q1, q⟩ := Bool.and_eq_true_iff.mp q
  obtain ⟨q2, q3⟩ := Bool.and_eq_true_iff.mp q
  exact ⟨excCB_ok q1, of_decide_eq_true q2, fun d hd => of_decide_eq_true (List.all_eq_true.mp q3 d hd)⟩
/-- the suite answers y -/
def SuiteY (X : Cx) (G : Gx) (suite : List Stmt) (C : Addr) (y : PyData) : Prop := ∀ (a : Addr) (oe : Obj) (pn : List (Addr × Obj)), Zc (.ref C) none oe → (∃ vs, oe.data = .fields vs) →
  PSs (X.suite a ((a, oe) :: pn)) suite fun Dn σ H => σ.length = X.N.length ∧ σ[1]? = some (some (.ref a)) ∧ MemR G [] H [] ∧ ∀ v ι2 M2 H2, Ext G [] H ι2 M2 H2 → RpV G.K H2 v y → Dn.rt v H2
theorem takesF {X : Cx} : Takes X (fun _ _ _ _ => False) := L2.takes0
theorem gives_try {X : Cx} {G : Gx} {wd : Exn → Option PyData} {Ng : List Str} {x a e n q : Str} {sg : Scope} {g CS : Addr} {cdg : Value} {b0 : Stmt} {suite : List Stmt} {j : Nat} {p1 p2 p3 p4 p6 p8 p9 p10 : Pos}
    (hge : sg.names.lookup e = some .globalImplicit) (hme : X.mg e = some (.ref CS)) (hde : (e == ("__debug__" : Str)) = false) (hNd : Ng.Nodup) (h1 : Ng[1]? = some n) (hn : sg.names.lookup n = some .local) (hl : 1 < Ng.length) (h0 : ∀ f : Addr, (L2.start Ng [V.ref f])[0]? = some (some (V.ref f)))
    (hex : ∀ c y, wd c = some y → c.ix = none ∧ ∀ C, G.mg c.cls = some (.ref C) → PySem.W.exmOne X.K (.ref C) (.ref CS) = some true)
    (hsu : ∀ c y C, wd c = some y → G.mg c.cls = some (.ref C) → ∀ (s : Shared) (H : Hp), Room 1 (X.A.deeper (envOfC x sg s.heap.objs.size g cdg)) → SuiteY (cxOf C8.CX0 X.prog X.w X.K X.mg X.base Ng x sg g cdg X.A X.stack s H C8.E0) G (b0 :: suite) C y) :
    Gives3 X Ng x sg g cdg [.Try [.Expr (.Call (.Name a p1) [] [] p2) p3] [.ExceptHandler (some (.Name e p4)) (some n) (b0 :: suite) p6] [] [] p8, .Return (some (.Constant .none j p9)) p10] a q (TTold G wd) := by
  intro f c' s H Q tl hr act hc h
  let XX : Cx := cxOf C8.CX0 X.prog X.w X.K X.mg X.base Ng x sg g cdg X.A X.stack s H C8.E0
  have hgl : Gl XX e := hge
  let ts : Addr → Value → Option Addr → TS := fun a cls d Dn σ H' => ∃ (c : Exn) (y : PyData) (C : Addr) (σ0 : L2.St), wd c = some y ∧ G.mg c.cls = some (.ref C) ∧ cls = .ref C ∧ d = none ∧ σ = σ0.set 1 (some (.ref a)) ∧ MemR G [] H' [] ∧ ∀ v ι2 M2 H2, Ext G [] H' ι2 M2 H2 → RpV G.K H2 v y → Dn.rt v H2
  refine ⟨_, pss_cons (ps_try_as (X := XX) (i := 1) (c := .ref CS) (ts := ts) (Wout := fun _ _ _ _ => False)
    (tb := fun W D σ H => ∃ Ech : XK, (∀ cls d σ' H', Ech cls d H' → W cls d σ' H') ∧ σ[0]? = some (some (.ref f)) ∧ H c' = some (CodeO c' q) ∧ tl Ech H fun _ H' => D.nx σ H')
    rfl rfl hNd h1 hn ⟨hgl, hde, .inl hme⟩ takesF (fun W pn xe tk _ => ?_) (fun a oe cls d pn hz hf => ?_)) (pss_one (ps_ret pe_non)), ?_⟩
  · refine ⟨fun pins s' σ H' D I ⟨Ech, hW, z1, z2, z3⟩ => ?_⟩
    exact (pss_one (ps_expr (pos := p3) (act W pn xe Ech p1 p2 hW tk) (by rfl))).run pins s' σ H' D I ⟨z1, z2, z3⟩
  · refine ⟨fun pins s' σ H' D I ⟨c, y, C, σ0, w1, w2, w3, w4, w5, w6, w7⟩ => ?_⟩
    subst w3 w4
    refine (hsu c y C w1 w2 s H hr a oe pn hz hf).run pins s' σ H' D I ⟨I.len, ?_, w6, w7⟩
    have len : σ.length = Ng.length := I.len
    rw [w5] at len ⊢
    exact List.getElem?_set_self (by simpa using (by rw [List.length_set] at len; omega : 1 < σ0.length))
  · refine ⟨fun cls dx H' => ∃ c y, wd c = some y ∧ ExR G H' c cls dx ∧ MemR G [] H' [] ∧ ∀ v ι2 M2 H2, Ext G [] H' ι2 M2 H2 → RpV G.K H2 v y → Q v H2, fun cls d σ' H' ⟨c, y, w1, er, mm, fin⟩ => ?_, h0 f, hc, ?_⟩
    · obtain ⟨⟨C, e1, rfl⟩, e2⟩ := er
      obtain ⟨i1, i2⟩ := hex c y w1
      rw [i1] at e2
      exact ⟨true, i2 C e1, fun _ a _ => ⟨c, y, C, σ', w1, e1, rfl, e2, rfl, mm, fin⟩, fun z => nomatch z⟩
    · exact h
end Xt
set_option Elab.async false
set_option linter.all false
set_option maxRecDepth 100000
set_option maxHeartbeats 4000000
namespace Xt
open PySem PySem.Spec PyProof.Rows L2 LamX
theorem pxL {X : Cx} {A : Around} {outer : List Env} {s : Shared} {H : Hp} {E : XK} {scope : Scope} {f c' : Addr} : Passes (L2.CX X.prog X.w) (lamCx X A outer s H E scope f c') E := px1 (X := lamCx X A outer s H E scope f c') (takes_of (X := lamCx X A outer s H E scope f c') rfl rfl rfl rfl) fun _ _ _ _ h => h
/-- a body that catches all -/
theorem pss_nox {X : Cx} {G : Gx} {E : XK} {body : List Stmt} {b : Slots → Co Fl} (h : PSs X body (rdS G E0 b)) : PSs X body (rdS G E fun ρ => nox (b ρ)) := pssI h fun D σ H z => by
  obtain ⟨ι, ρ, M, st, p⟩ := z
  exact ⟨ι, ρ, M, st, rd_nox p⟩
/-- a def in which lambdas are made -/
theorem dokL_mk {P : Program} {w : World} {base : Heap} {G : Gx} {x nm qual : Str} {params : Arguments} {body : List Stmt} {scope : Scope} {N ps : List Str} {Fn : Nat → List Dv → Co Dv} {b : Nat → Slots → Co Fl} (h0 : Fn 0 = fun _ => fl) (h1 : Fn 1 = fun _ => fl) (h2 : Fn 2 = fun _ => fl) (hs : ∀ n, Fn (n + 3) = defF N.length ps.length (b n))
    (F : ∃ fd, FunD G.K nm qual params body scope [] [] (He.fAd G.K (x, none)) fd) (hm : G.mg x = some (.ref (He.fAd G.K (x, none)))) (S : FnScope N ps scope)
    (hbd : ∀ (kV doc pm : Value) (an : Option Addr) (cdv ct : Value) (us : List Value), us.length = ps.length → bindArgs (PySem.W.fnOf nm qual params body scope .none kV doc pm an cdv ct) ⟨us, []⟩ = pure (ps.zip us))
    (hb : ∀ n, ∀ (A : Around) (outer : List Env) (s : Shared) (H : Hp) (E : XK), Room (n + 2) (A.deeper (envOfC qual scope s.heap.objs.size (He.fAd G.K (x, none)) (.ref (He.cT G.K (x, none)).1))) →
      PSs (cxOf (L2.CX P w) P w G.K G.mg base N qual scope (He.fAd G.K (x, none)) (.ref (He.cT G.K (x, none)).1) A outer s H E) body (rdS G E (b n))) :
    ∀ n, Dok P w base (L2.CX P w) G x ps n (Fn n) := by
  obtain ⟨fd, F⟩ := F
  have zero : ∀ k, FnOk P w G.K G.mg base (L2.CX P w) k (He.fAd G.K (x, none)) fd ps (spF G fun _ => fl) := fun k => fn_zero
  intro n
  match n with
  | 0 => exact ⟨_, fd, hm, F.kp, F.bindsN hbd, by rw [h0]; exact zero _⟩
  | 1 => exact ⟨_, fd, hm, F.kp, F.bindsN hbd, by rw [h1]; exact zero _⟩
  | 2 => exact ⟨_, fd, hm, F.kp, F.bindsN hbd, by rw [h2]; exact zero _⟩
  | n + 3 =>
    refine ⟨_, fd, hm, F.kp, F.bindsN hbd, ?_⟩
    show FnOk P w G.K G.mg base (L2.CX P w) (n + 3) _ fd ps (spF G (Fn (n + 3)))
    rw [hs]
    obtain ⟨oc, od, dV, kV, doc, pm, an, cdv, ct, osl, rfl, lk, hcd, _, _⟩ := id F.ex
    obtain ⟨c, rfl⟩ := He.codeIn_ref hcd
    have ec : He.codeOf G.K (x, none) = c := He.codeOf_eq lk rfl
    refine fn_of lk hcd S (fun vs H Q E h => spF_len h) fun A outer s H vs Q E hr h => ?_
    have hl := spF_len h
    obtain ⟨ι, M, ds, m, r, p⟩ := h
    obtain ⟨_, p⟩ := Post.chk p
    have hb' := hb n A outer s H E
    have e2 : (He.cT G.K (x, none)).1 = c := ec
    rw [e2] at hb'
    refine ⟨_, hb' hr, ι, _, M, ?_, (Post.bnd p).mono fun fl ι1 M1 H1 x1 p1 => ?_⟩
    · have e := start_st (N := N) m r
      rw [← r.length, hl] at e
      exact e
    · cases fl with
      | nx ρ => exact fun σ _ => Post.rt x1.mem p1 _ (.g .non)
      | rt d => exact Post.rt (E := E) x1.mem p1
      | _ => exact p1.elim
/-! ### [..] * k -/
def repG (gs : Slots → Co (List Dv)) (k : Nat) : Slots → Co Dv := fun ρ => bnd (gs ρ) fun ds => chk (Nat.ble ds.length 1000 && Nat.ble k 1000) (bnd (ofO (grd ds)) fun xs => rt (.g (.list (List.replicate k xs).flatten)))
theorem xrepG {X : Cx} {G : Gx} {E : XK} {es : List Expr} {gs : Slots → Co (List Dv)} {k j : Nat} {p1 p2 pos : Pos} (h : PA X es (rdA G E gs)) : PE X (.BinOp (.List es p1) .Mult (.Constant (.int k) j p2) pos) (rdE G E (repG gs k)) :=
  peI (pe_frz (pe_op op_rep (pe_lst h) pe_int)) fun σ H Q h => by
    obtain ⟨ι, ρ, M, st, p⟩ := h
    refine ⟨ι, ρ, M, st, (Post.bnd p).mono fun ds ι1 M1 H1 x1 p1 vs rv => ?_⟩
    obtain ⟨c, p2⟩ := Post.chk p1
    obtain ⟨c1, c2⟩ := Bool.and_eq_true_iff.mp c
    obtain ⟨xs, e, p3⟩ := Post.ofO p2
    have l1 := Nat.le_of_ble_eq_true c1
    have l2 := Nat.le_of_ble_eq_true c2
    have lv := rv.length
    refine ⟨by rw [lv, sizeLine_eq]; omega, fun a ha => ⟨a, k, vs, rfl, rfl, upd_same, by omega, by omega, ?_, fun q hq => ?_⟩⟩
    · have : vs.length * (k : Int).toNat ≤ 1000 * 1000 := Nat.mul_le_mul (by omega) (by omega)
      rw [sizeLine_eq]
      omega
    · have x2 : Ext G ι1 H1 ι1 M1 (upd H1 a (.lst vs)) := .new x1.mem ha
      exact lockL x2.mem hq (((rv.grd e).mono x2.keep).rep k) (p3.shift x2)
/-- a def whose table holds its lambdas -/
structure Tl (base : Heap) (G : Gx) (x q : Str) : Prop where
  tb : LamX.TabB base G.mg (He.cT G.K (x, none)).1 (He.cT G.K (x, none)).2
  mem : (He.cT G.K (x, none)).2 ∈ G.tbs
  nm : G.nm (He.cT G.K (x, none)).2 = some q
/-- x() -/
theorem xcP0 {X : Cx} {G : Gx} {E : XK} {CX : CXT} {x : Str} {n : Nat} {F : List Dv → Co Dv} {p pos : Pos} (d : Dok X.prog X.w X.base CX G x [] n F) (hK : X.K = G.K) (hm : X.mg = G.mg) (hr : Room n X.A) (hx : Passes CX X E) (hg : Gl X x := by rfl)
    (hdb : (x == ("__debug__" : Str)) = false := by decide) : PE X (.Call (.Name x p) [] [] pos) (rdE G E (cB (pureC F) ac0)) := by
  obtain ⟨fa, fd, h1, h2, h3, h4⟩ := d
  rw [← hK, ← hm] at h4
  rw [← hm] at h1
  rw [← hK] at h2 h3
  refine peI (pe_call0 h4 hr hg h1 h2 h3 .nil hx hdb) fun σ H Q h => ?_
  obtain ⟨ι, ρ, M, st, q⟩ := rd_callP h
  exact q ι H (.refl st.mem) [] .nil
end Xt
set_option Elab.async false
set_option linter.all false
set_option maxRecDepth 100000
set_option maxHeartbeats 2000000
namespace K16
open PySem PySem.Spec PyProof.Rows L2 Xt
def top (i : Nat) : Stmt := PySem.Challenge.pw_turnheaps_k16_shapes_refused.main.body.getD i (.Pass ⟨0, 0, 0, 0⟩)
def wd : Exn → Option PyData := fun c => match c.ix with
  | none => ([("BadHeap", PyData.str "heap"), ("BadKey", PyData.str "key"), ("BadNumber", PyData.str "number"), ("BadOrder", PyData.str "order"), ("BadShape", PyData.str "shape")] : List (Str × PyData)).lookup c.cls
  | some _ => none
def b_is_in : Slots → Co Fl :=
  (sq (ret (andV (isi "int" (sl 0)) (andV (ntV (isi "bool" (sl 0))) (ch leD leD (sl 1) (sl 0) (sl 2)))))
    skp)
def F_is_in : Nat → List Dv → Co Dv
  | 0 => fun _ => fl
  | n + 1 => defF 3 3 (b_is_in )
def b_need_number (c_is_in : List Dv → Co Dv) : Slots → Co Fl :=
  (sq (ifs (tnt (trV (cB (pureC c_is_in) (ac (sl 0) (ac (kk (.int 0)) (ac (sl 1) ac0)))))) (sq (rsC "BadNumber")
    skp) skp)
    skp)
def F_need_number : Nat → List Dv → Co Dv
  | 0 => fun _ => fl
  | n + 1 => defF 2 2 (b_need_number (F_is_in n))
def b_parted : Slots → Co Fl :=
  (sq (ret (lcX [1] (srcR3 (ac (b2 subD (sl 0) (kk (.int 1))) (ac (b1 ngD (kk (.int 1))) (ac (b1 ngD (kk (.int 1))) ac0)))) (tN 1) (tor (tst (b2 gtD (sl 1) (kk (.int 0)))) (tst (b2 (eqD false) (sl 0) (kk (.int 1))))) (tup (ac (sl 1) (ac (b2 subD (b2 subD (sl 0) (kk (.int 1))) (sl 1)) ac0)))))
    skp)
def F_parted : Nat → List Dv → Co Dv
  | 0 => fun _ => fl
  | n + 1 => defF 2 1 (b_parted )
def b_counts_to (c_parted : List Dv → Co Dv) : Slots → Co Fl :=
  (sq (asg (lstR (ac (kk (.int 1)) ac0)) (tN 1))
    (sq (forX (srcR2 (ac (kk (.int 1)) (ac (b2 addD (sl 0) (kk (.int 1))) ac0))) (tN 2) (sq (drp (app (sl 1) (sumG (nxS (srcS (cB (pureC c_parted) (ac (sl 2) ac0)))) (tT 2 (tC (tN 0) (tC (tN 1) tZ))) (b2 mulD (b2 ixD (sl 2) (sl 0)) (b2 ixD (sl 2) (sl 1))) [none, none, some 1])))
    skp))
    (sq (ret (b1 frZ (sl 1)))
    skp)))
def F_counts_to : Nat → List Dv → Co Dv
  | 0 => fun _ => fl
  | 1 => fun _ => fl
  | n + 2 => defF 3 1 (b_counts_to (F_parted n))
def b_shape_count (c_counts_to : List Dv → Co Dv) (c_need_number : List Dv → Co Dv) : Slots → Co Fl :=
  (sq (drp (cB (pureC c_need_number) (ac (sl 0) (ac (kk (.int 200)) ac0))))
    (sq (ret (b2 ixD (cB (pureC c_counts_to) (ac (sl 0) ac0)) (sl 0)))
    skp))
def F_shape_count : Nat → List Dv → Co Dv
  | 0 => fun _ => fl
  | n + 1 => defF 1 1 (b_shape_count (F_counts_to n) (F_need_number n))
def b_heap_count (c_parted : List Dv → Co Dv) (c_need_number : List Dv → Co Dv) : Slots → Co Fl :=
  (sq (drp (cB (pureC c_need_number) (ac (sl 0) (ac (kk (.int 200)) ac0))))
    (sq (asg (lstR (ac (kk (.int 1)) ac0)) (tN 1))
    (sq (forX (srcR2 (ac (kk (.int 1)) (ac (b2 addD (sl 0) (kk (.int 1))) ac0))) (tN 2) (sq (drp (app (sl 1) (sumG (nxS (srcS (cB (pureC c_parted) (ac (sl 2) ac0)))) (tT 2 (tC (tN 0) (tC (tN 1) tZ))) (b2 mulD (b2 mulD (cB combD (ac (b2 subD (sl 3) (kk (.int 1))) (ac (sl 0) ac0))) (b2 ixD (sl 2) (sl 0))) (b2 ixD (sl 2) (sl 1))) [none, none, some 1, some 2])))
    skp))
    (sq (ret (b2 ixD (sl 1) (sl 0)))
    skp))))
def F_heap_count : Nat → List Dv → Co Dv
  | 0 => fun _ => fl
  | 1 => fun _ => fl
  | n + 2 => defF 3 1 (b_heap_count (F_parted n) (F_need_number n))
def b_numbered (c_numbered : List Dv → Co Dv) (c_parted : List Dv → Co Dv) : Slots → Co Fl :=
  (sq (ifs (tst (b2 (eqD false) (sl 0) (kk (.int 0)))) (sq (ret (kk .none))
    skp) skp)
    (sq (forX (srcS (cB (pureC c_parted) (ac (sl 0) ac0))) (tT 2 (tC (tN 3) (tC (tN 4) tZ))) (sq (asg (b2 mulD (b2 ixD (sl 2) (sl 3)) (b2 ixD (sl 2) (sl 4))) (tN 5))
    (sq (ifs (tst (b2 ltD (sl 1) (sl 5))) (sq brk
    skp) skp)
    (sq (asg (b2 subD (sl 1) (sl 5)) (tN 1))
    skp))))
    (sq (ret (tup (ac (cB (pureC c_numbered) (ac (sl 3) (ac (b2 fdivD (sl 1) (b2 ixD (sl 2) (sl 4))) (ac (sl 2) ac0)))) (ac (cB (pureC c_numbered) (ac (sl 4) (ac (b2 modD (sl 1) (b2 ixD (sl 2) (sl 4))) (ac (sl 2) ac0)))) ac0))))
    skp)))
def F_numbered : Nat → List Dv → Co Dv
  | 0 => fun _ => fl
  | n + 1 => defF 6 3 (b_numbered (F_numbered n) (F_parted n))
def b_shape_at (c_numbered : List Dv → Co Dv) (c_need_number : List Dv → Co Dv) (c_counts_to : List Dv → Co Dv) : Slots → Co Fl :=
  (sq (drp (cB (pureC c_need_number) (ac (sl 0) (ac (kk (.int 200)) ac0))))
    (sq (asg (cB (pureC c_counts_to) (ac (sl 0) ac0)) (tN 2))
    (sq (drp (cB (pureC c_need_number) (ac (sl 1) (ac (b2 subD (b2 ixD (sl 2) (sl 0)) (kk (.int 1))) ac0))))
    (sq (ret (cB (pureC c_numbered) (ac (sl 0) (ac (sl 1) (ac (sl 2) ac0)))))
    skp))))
def F_shape_at : Nat → List Dv → Co Dv
  | 0 => fun _ => fl
  | n + 1 => defF 3 2 (b_shape_at (F_numbered n) (F_need_number n) (F_counts_to n))
def b_has_form_shapes (c_has_form_shapes : List Dv → Co Dv) : Slots → Co Fl :=
  (sq (ifs (tst (b1 (isN false) (sl 0))) (sq (ret (kk (.bool true)))
    skp) skp)
    (sq (ifs (tor (tst (b2 (eqD false) (sl 1) (kk (.int 0)))) (tor (tnt (trV (isi "tuple" (sl 0)))) (tor (tst (b2 (eqD true) (cB lenD (ac (sl 0) ac0)) (kk (.int 2)))) (tand (tst (b1 (isN false) (b2 ixD (sl 0) (kk (.int 0))))) (tst (b1 (isN true) (b2 ixD (sl 0) (kk (.int 1))))))))) (sq (ret (kk (.bool false)))
    skp) skp)
    (sq (ret (andV (cB (pureC c_has_form_shapes) (ac (b2 ixD (sl 0) (kk (.int 0))) (ac (b2 subD (sl 1) (kk (.int 1))) ac0))) (cB (pureC c_has_form_shapes) (ac (b2 ixD (sl 0) (kk (.int 1))) (ac (b2 subD (sl 1) (kk (.int 1))) ac0)))))
    skp)))
def F_has_form_shapes : Nat → List Dv → Co Dv
  | 0 => fun _ => fl
  | n + 1 => defF 2 2 (b_has_form_shapes (F_has_form_shapes n))
def b_many_of (c_many_of : List Dv → Co Dv) : Slots → Co Fl :=
  (sq (ret (iff (tst (b1 (isN false) (sl 0))) (kk (.int 0)) (b2 addD (b2 addD (kk (.int 1)) (cB (pureC c_many_of) (ac (b2 ixD (sl 0) (kk (.int 0))) ac0))) (cB (pureC c_many_of) (ac (b2 ixD (sl 0) (kk (.int 1))) ac0)))))
    skp)
def F_many_of : Nat → List Dv → Co Dv
  | 0 => fun _ => fl
  | n + 1 => defF 1 1 (b_many_of (F_many_of n))
def b_is_turned_shape (c_many_of : List Dv → Co Dv) (c_has_form_shapes : List Dv → Co Dv) : Slots → Co Fl :=
  (sq (ret (andV (cB (pureC c_has_form_shapes) (ac (sl 0) (ac (kk (.int 200)) ac0))) (b2 leD (cB (pureC c_many_of) (ac (sl 0) ac0)) (kk (.int 200)))))
    skp)
def F_is_turned_shape : Nat → List Dv → Co Dv
  | 0 => fun _ => fl
  | n + 1 => defF 1 1 (b_is_turned_shape (F_many_of n) (F_has_form_shapes n))
def b_need_shape (c_is_turned_shape : List Dv → Co Dv) : Slots → Co Fl :=
  (sq (ifs (tnt (trV (cB (pureC c_is_turned_shape) (ac (sl 0) ac0)))) (sq (rsC "BadShape")
    skp) skp)
    skp)
def F_need_shape : Nat → List Dv → Co Dv
  | 0 => fun _ => fl
  | n + 1 => defF 1 1 (b_need_shape (F_is_turned_shape n))
def b_index_of (c_index_of : List Dv → Co Dv) (c_parted : List Dv → Co Dv) (c_many_of : List Dv → Co Dv) : Slots → Co Fl :=
  (sq (ifs (tst (b1 (isN false) (sl 0))) (sq (ret (kk (.int 0)))
    skp) skp)
    (sq (par2 2 3 (ac (tup (ac (cB (pureC c_many_of) (ac (b2 ixD (sl 0) (kk (.int 0))) ac0)) (ac (cB (pureC c_many_of) (ac (b2 ixD (sl 0) (kk (.int 1))) ac0)) ac0))) (ac (kk (.int 0)) ac0)))
    (sq (forX (srcS (cB (pureC c_parted) (ac (cB (pureC c_many_of) (ac (sl 0) ac0)) ac0))) (tT 2 (tC (tN 4) (tC (tN 5) tZ))) (sq (ifs (tst (b2 (eqD false) (tup (ac (sl 4) (ac (sl 5) ac0))) (sl 2))) (sq brk
    skp) skp)
    (sq (asg (b2 addD (sl 3) (b2 mulD (b2 ixD (sl 1) (sl 4)) (b2 ixD (sl 1) (sl 5)))) (tN 3))
    skp)))
    (sq (ret (b2 addD (b2 addD (sl 3) (b2 mulD (cB (pureC c_index_of) (ac (b2 ixD (sl 0) (kk (.int 0))) (ac (sl 1) ac0))) (b2 ixD (sl 1) (b2 ixD (sl 2) (kk (.int 1)))))) (cB (pureC c_index_of) (ac (b2 ixD (sl 0) (kk (.int 1))) (ac (sl 1) ac0)))))
    skp))))
def F_index_of : Nat → List Dv → Co Dv
  | 0 => fun _ => fl
  | n + 1 => defF 6 2 (b_index_of (F_index_of n) (F_parted n) (F_many_of n))
def b_shape_index (c_index_of : List Dv → Co Dv) (c_counts_to : List Dv → Co Dv) (c_many_of : List Dv → Co Dv) (c_need_shape : List Dv → Co Dv) : Slots → Co Fl :=
  (sq (drp (cB (pureC c_need_shape) (ac (sl 0) ac0)))
    (sq (ret (cB (pureC c_index_of) (ac (sl 0) (ac (cB (pureC c_counts_to) (ac (cB (pureC c_many_of) (ac (sl 0) ac0)) ac0)) ac0))))
    skp))
def F_shape_index : Nat → List Dv → Co Dv
  | 0 => fun _ => fl
  | n + 1 => defF 1 1 (b_shape_index (F_index_of n) (F_counts_to n) (F_many_of n) (F_need_shape n))
def b_sizes (c_many_of : List Dv → Co Dv) (c_sizes : List Dv → Co Dv) : Slots → Co Fl :=
  (sq (ret (iff (tst (b1 (isN false) (sl 0))) (kk (.int 1)) (b2 mulD (b2 mulD (cB (pureC c_many_of) (ac (sl 0) ac0)) (cB (pureC c_sizes) (ac (b2 ixD (sl 0) (kk (.int 0))) ac0))) (cB (pureC c_sizes) (ac (b2 ixD (sl 0) (kk (.int 1))) ac0)))))
    skp)
def F_sizes : Nat → List Dv → Co Dv
  | 0 => fun _ => fl
  | n + 1 => defF 1 1 (b_sizes (F_many_of n) (F_sizes n))
def b_heaps_of (c_many_of : List Dv → Co Dv) (c_sizes : List Dv → Co Dv) : Slots → Co Fl :=
  (sq (ret (b2 fdivD (cB factD (ac (cB (pureC c_many_of) (ac (sl 0) ac0)) ac0)) (cB (pureC c_sizes) (ac (sl 0) ac0))))
    skp)
def F_heaps_of : Nat → List Dv → Co Dv
  | 0 => fun _ => fl
  | n + 1 => defF 1 1 (b_heaps_of (F_many_of n) (F_sizes n))
def b_shape_heaps (c_heaps_of : List Dv → Co Dv) (c_need_shape : List Dv → Co Dv) : Slots → Co Fl :=
  (sq (drp (cB (pureC c_need_shape) (ac (sl 0) ac0)))
    (sq (ret (cB (pureC c_heaps_of) (ac (sl 0) ac0)))
    skp))
def F_shape_heaps : Nat → List Dv → Co Dv
  | 0 => fun _ => fl
  | n + 1 => defF 1 1 (b_shape_heaps (F_heaps_of n) (F_need_shape n))
def b_stepped (c_stepped : List Dv → Co Dv) : Slots → Co Fl :=
  (sq (ifs (tst (b1 (isN true) (b2 ixD (sl 0) (kk (.int 1))))) (sq (asg (cB (pureC c_stepped) (ac (b2 ixD (sl 0) (kk (.int 0))) ac0)) (tT 2 (tC (tN 1) (tC (tN 2) tZ))))
    (sq (ret (tup (ac (tup (ac (b2 ixD (sl 0) (kk (.int 1))) (ac (sl 1) ac0))) (ac (sl 2) ac0))))
    skp)) skp)
    (sq (ret (tup (ac (b2 ixD (sl 0) (kk (.int 0))) (ac (b2 (eqD false) (b2 ixD (sl 0) (kk (.int 0))) (tup (ac (kk .none) (ac (kk .none) ac0)))) ac0))))
    skp))
def F_stepped : Nat → List Dv → Co Dv
  | 0 => fun _ => fl
  | n + 1 => defF 3 1 (b_stepped (F_stepped n))
def b_choices_of (c_stepped : List Dv → Co Dv) : Slots → Co Fl :=
  (sq (asg (kk (.int 0)) (tN 1))
    (sq (whl (tst (b1 (isN true) (sl 0))) (sq (asg (cB (pureC c_stepped) (ac (sl 0) ac0)) (tT 2 (tC (tN 0) (tC (tN 2) tZ))))
    (sq (asg (b2 addD (sl 1) (iff (trV (sl 2)) (kk (.int 1)) (kk (.int 0)))) (tN 1))
    skp)) 1000)
    (sq (ret (b1 frZ (sl 1)))
    skp)))
def F_choices_of : Nat → List Dv → Co Dv
  | 0 => fun _ => fl
  | n + 1 => defF 3 1 (b_choices_of (F_stepped n))
def b_shape_choices (c_choices_of : List Dv → Co Dv) (c_need_shape : List Dv → Co Dv) : Slots → Co Fl :=
  (sq (drp (cB (pureC c_need_shape) (ac (sl 0) ac0)))
    (sq (ret (cB (pureC c_choices_of) (ac (sl 0) ac0)))
    skp))
def F_shape_choices : Nat → List Dv → Co Dv
  | 0 => fun _ => fl
  | n + 1 => defF 1 1 (b_shape_choices (F_choices_of n) (F_need_shape n))
def b_most_looks (c_need_number : List Dv → Co Dv) : Slots → Co Fl :=
  (sq (drp (cB (pureC c_need_number) (ac (sl 0) (ac (kk (.int 1000000000000000000000000000000)) ac0))))
    (sq (asg (tup (ac (kk (.int 0)) (ac (kk (.int 0)) (ac (kk (.int 1)) ac0)))) (tT 3 (tC (tN 1) (tC (tN 2) (tC (tN 3) tZ)))))
    (sq (whl (tst (b2 leD (sl 3) (sl 0))) (sq (asg (b2 addD (sl 1) (b2 mulD (sl 2) (b2 addD (b2 subD (cB min2D (ac (sl 0) (ac (b2 subD (b2 mulD (kk (.int 2)) (sl 3)) (kk (.int 1))) ac0))) (sl 3)) (kk (.int 1))))) (tN 1))
    (sq (par2 2 3 (ac (b2 addD (sl 2) (kk (.int 1))) (ac (b2 mulD (kk (.int 2)) (sl 3)) ac0)))
    skp)) 1000)
    (sq (ret (b1 frZ (sl 1)))
    skp))))
def F_most_looks : Nat → List Dv → Co Dv
  | 0 => fun _ => fl
  | n + 1 => defF 4 1 (b_most_looks (F_need_number n))
def b_least_looks (c_need_number : List Dv → Co Dv) : Slots → Co Fl :=
  (sq (drp (cB (pureC c_need_number) (ac (sl 0) (ac (kk (.int 1000000000000000000000000000000)) ac0))))
    (sq (ret (cB max2D (ac (b2 subD (sl 0) (kk (.int 1))) (ac (kk (.int 0)) ac0))))
    skp))
def F_least_looks : Nat → List Dv → Co Dv
  | 0 => fun _ => fl
  | n + 1 => defF 1 1 (b_least_looks (F_need_number n))
def b_sides : Slots → Co Fl :=
  (sq (asg (b2 fdivD (sl 1) (kk (.int 2))) (tN 2))
    (sq (ret (iff (tst (b2 (eqD false) (b2 modD (sl 1) (kk (.int 2))) (kk (.int 0)))) (tup (ac (b2 addD (sl 0) (sl 2)) (ac (sl 2) ac0))) (tup (ac (b2 addD (sl 2) (kk (.int 1))) (ac (b2 addD (sl 0) (sl 2)) ac0)))))
    skp))
def F_sides : Nat → List Dv → Co Dv
  | 0 => fun _ => fl
  | n + 1 => defF 3 2 (b_sides )
def b_spread_of (c_sides : List Dv → Co Dv) : Slots → Co Fl :=
  (sq (ifs (tst (b2 (eqD false) (sl 0) (kk (.int 0)))) (sq (ret (b1 frZ (dsp1 (kk (.int 0)) (kk (.int 1)))))
    skp) skp)
    (sq (asg dnew (tN 2))
    (sq (forX (srcR1 (ac (sl 0) ac0)) (tN 3) (sq (asg (b2 subD (b2 subD (sl 0) (kk (.int 1))) (sl 3)) (tN 4))
    (sq (asg (b2 addD (sl 4) (iff (trV (sl 3)) (kk (.int 1)) (kk (.int 0)))) (tN 5))
    (sq (asg (cB (pureC c_sides) (ac (sl 3) (ac (sl 4) ac0))) (tT 2 (tC (tN 6) (tC (tN 7) tZ))))
    (sq (asg (cB combD (ac (b2 subD (sl 0) (kk (.int 1))) (ac (sl 6) ac0))) (tN 8))
    (sq (forX (srcD (b2 ixD (sl 1) (sl 6))) (tT 2 (tC (tN 9) (tC (tN 10) tZ))) (sq (forX (srcD (b2 ixD (sl 1) (sl 7))) (tT 2 (tC (tN 11) (tC (tN 12) tZ))) (sq (asg (b2 addD (b2 addD (sl 5) (sl 9)) (sl 11)) (tN 13))
    (sq (asg (b2 addD (dgt (sl 2) (sl 13) (kk (.int 0))) (b2 mulD (b2 mulD (sl 8) (sl 10)) (sl 12))) (tSub (sl 2) (sl 13)))
    skp)))
    skp))
    skp))))))
    (sq (ret (b1 frZ (sl 2)))
    skp))))
def F_spread_of : Nat → List Dv → Co Dv
  | 0 => fun _ => fl
  | n + 1 => defF 14 2 (b_spread_of (F_sides n))
def b_orders_by_looks (c_spread_of : List Dv → Co Dv) (c_need_number : List Dv → Co Dv) : Slots → Co Fl :=
  (sq (drp (cB (pureC c_need_number) (ac (sl 0) (ac (kk (.int 40)) ac0))))
    (sq (asg (lstR ac0) (tN 1))
    (sq (forX (srcR1 (ac (b2 addD (sl 0) (kk (.int 1))) ac0)) (tN 2) (sq (drp (app (sl 1) (cB (trimC c_spread_of) (ac (sl 2) (ac (sl 1) ac0)))))
    skp))
    (sq (ret (cB tupL (ac (srtI (b2 ixD (sl 1) (sl 0))) ac0)))
    skp))))
def F_orders_by_looks : Nat → List Dv → Co Dv
  | 0 => fun _ => fl
  | n + 1 => defF 3 1 (b_orders_by_looks (F_spread_of n) (F_need_number n))
def b_mean_looks (c_sides : List Dv → Co Dv) (c_need_number : List Dv → Co Dv) : Slots → Co Fl :=
  (sq (drp (cB (pureC c_need_number) (ac (sl 0) (ac (kk (.int 40)) ac0))))
    (sq (asg (lstR (ac (tup (ac (kk (.int 0)) (ac (kk (.int 1)) ac0))) ac0)) (tN 1))
    (sq (forX (srcR2 (ac (kk (.int 1)) (ac (b2 addD (sl 0) (kk (.int 1))) ac0))) (tN 2) (sq (asg (tup (ac (kk (.int 0)) (ac (kk (.int 1)) ac0))) (tT 2 (tC (tN 3) (tC (tN 4) tZ))))
    (sq (forX (srcR1 (ac (sl 2) ac0)) (tN 5) (sq (asg (b2 subD (b2 subD (sl 2) (kk (.int 1))) (sl 5)) (tN 6))
    (sq (asg (b2 addD (lcX [11] (srcS (cB (pureC c_sides) (ac (sl 5) (ac (sl 6) ac0)))) (tN 11) yes (b2 ixD (sl 1) (sl 11))) (lstG (ac (tup (ac (b2 addD (sl 6) (iff (trV (sl 5)) (kk (.int 1)) (kk (.int 0)))) (ac (kk (.int 1)) ac0))) ac0))) (tN 7))
    (sq (forX (srcS (sl 7)) (tT 2 (tC (tN 8) (tC (tN 9) tZ))) (sq (par2 3 4 (ac (b2 addD (b2 mulD (sl 3) (sl 9)) (b2 mulD (sl 8) (sl 4))) (ac (b2 mulD (sl 4) (sl 9)) ac0)))
    (sq (asg (cB gcdD (ac (sl 3) (ac (sl 4) ac0))) (tN 10))
    (sq (par2 3 4 (ac (b2 fdivD (sl 3) (sl 10)) (ac (b2 fdivD (sl 4) (sl 10)) ac0)))
    skp))))
    skp))))
    (sq (asg (cB gcdD (ac (sl 3) (ac (b2 mulD (sl 4) (sl 2)) ac0))) (tN 10))
    (sq (drp (app (sl 1) (tup (ac (b2 fdivD (sl 3) (sl 10)) (ac (b2 fdivD (b2 mulD (sl 4) (sl 2)) (sl 10)) ac0)))))
    skp)))))
    (sq (ret (b2 ixD (sl 1) (sl 0)))
    skp))))
def F_mean_looks : Nat → List Dv → Co Dv
  | 0 => fun _ => fl
  | n + 1 => defF 12 1 (b_mean_looks (F_sides n) (F_need_number n))
def b_looks_of (c_looks_of : List Dv → Co Dv) (c_many_of : List Dv → Co Dv) : Slots → Co Fl :=
  (sq (ifs (tst (b1 (isN false) (sl 0))) (sq (ret (kk (.int 0)))
    skp) skp)
    (sq (par2 1 2 (ac (cB (pureC c_many_of) (ac (b2 ixD (sl 0) (kk (.int 0))) ac0)) (ac (cB (pureC c_many_of) (ac (b2 ixD (sl 0) (kk (.int 1))) ac0)) ac0)))
    (sq (ret (b2 addD (b2 addD (cB min2D (ac (b2 mulD (kk (.int 2)) (sl 1)) (ac (b2 addD (b2 mulD (kk (.int 2)) (sl 2)) (kk (.int 1))) ac0))) (cB (pureC c_looks_of) (ac (b2 ixD (sl 0) (kk (.int 0))) ac0))) (cB (pureC c_looks_of) (ac (b2 ixD (sl 0) (kk (.int 1))) ac0))))
    skp)))
def F_looks_of : Nat → List Dv → Co Dv
  | 0 => fun _ => fl
  | n + 1 => defF 3 1 (b_looks_of (F_looks_of n) (F_many_of n))
def b_shape_looks (c_looks_of : List Dv → Co Dv) (c_need_shape : List Dv → Co Dv) : Slots → Co Fl :=
  (sq (drp (cB (pureC c_need_shape) (ac (sl 0) ac0)))
    (sq (ret (cB (pureC c_looks_of) (ac (sl 0) ac0)))
    skp))
def F_shape_looks : Nat → List Dv → Co Dv
  | 0 => fun _ => fl
  | n + 1 => defF 1 1 (b_shape_looks (F_looks_of n) (F_need_shape n))
def b_whole (c_heaps_of : List Dv → Co Dv) (c_choices_of : List Dv → Co Dv) (c_numbered : List Dv → Co Dv) (c_counts_to : List Dv → Co Dv) (c_need_number : List Dv → Co Dv) : Slots → Co Fl :=
  (sq (drp (cB (pureC c_need_number) (ac (sl 0) (ac (kk (.int 10)) ac0))))
    (sq (asg (cB (pureC c_counts_to) (ac (sl 0) ac0)) (tN 1))
    (sq (asg (lcX [3] (srcR1 (ac (b2 ixD (sl 1) (sl 0)) ac0)) (tN 3) yes (cB (pureC c_numbered) (ac (sl 0) (ac (sl 3) (ac (sl 1) ac0))))) (tN 2))
    (sq (ret (sumG (nxS (srcS (sl 2))) (tN 0) (b2 shlD (cB (pureC c_heaps_of) (ac (sl 0) ac0)) (cB (pureC c_choices_of) (ac (sl 0) ac0))) [none]))
    skp))))
def F_whole : Nat → List Dv → Co Dv
  | 0 => fun _ => fl
  | 1 => fun _ => fl
  | n + 2 => defF 4 1 (b_whole (F_heaps_of n) (F_choices_of n) (F_numbered n) (F_counts_to n) (F_need_number n))
def b_even (c_even : List Dv → Co Dv) : Slots → Co Fl :=
  (sq (ifs (tst (b2 (eqD false) (sl 0) (kk (.int 0)))) (sq (ret (kk .none))
    skp) skp)
    (sq (ret (tup (ac (cB (pureC c_even) (ac (b2 fdivD (sl 0) (kk (.int 2))) ac0)) (ac (cB (pureC c_even) (ac (b2 fdivD (b2 subD (sl 0) (kk (.int 1))) (kk (.int 2))) ac0)) ac0))))
    skp))
def F_even : Nat → List Dv → Co Dv
  | 0 => fun _ => fl
  | n + 1 => defF 1 1 (b_even (F_even n))
def b_most_shape (c_even : List Dv → Co Dv) (c_need_number : List Dv → Co Dv) : Slots → Co Fl :=
  (sq (drp (cB (pureC c_need_number) (ac (sl 0) (ac (kk (.int 200)) ac0))))
    (sq (ret (cB (pureC c_even) (ac (sl 0) ac0)))
    skp))
def F_most_shape : Nat → List Dv → Co Dv
  | 0 => fun _ => fl
  | n + 1 => defF 1 1 (b_most_shape (F_even n) (F_need_number n))
def b_least_shape (c_need_number : List Dv → Co Dv) : Slots → Co Fl :=
  (sq (drp (cB (pureC c_need_number) (ac (sl 0) (ac (kk (.int 200)) ac0))))
    (sq (asg (kk .none) (tN 1))
    (sq (forX (srcR1 (ac (sl 0) ac0)) (tN 2) (sq (asg (tup (ac (sl 1) (ac (kk .none) ac0))) (tN 1))
    skp))
    (sq (ret (b1 frZ (sl 1)))
    skp))))
def F_least_shape : Nat → List Dv → Co Dv
  | 0 => fun _ => fl
  | n + 1 => defF 3 1 (b_least_shape (F_need_number n))
def b_q_written (c_least_shape : List Dv → Co Dv) (c_most_shape : List Dv → Co Dv) (c_whole : List Dv → Co Dv) (c_shape_looks : List Dv → Co Dv) (c_mean_looks : List Dv → Co Dv) (c_orders_by_looks : List Dv → Co Dv) (c_least_looks : List Dv → Co Dv) (c_most_looks : List Dv → Co Dv) (c_shape_choices : List Dv → Co Dv) (c_shape_heaps : List Dv → Co Dv) (c_shape_index : List Dv → Co Dv) (c_shape_at : List Dv → Co Dv) (c_heap_count : List Dv → Co Dv) (c_shape_count : List Dv → Co Dv) : Slots → Co Fl :=
  (sq (asg (tup (ac (kk .none) (ac (kk .none) ac0))) (tN 1))
    (sq (ifs (tst (b2 (eqD true) (lcX [2] (srcR1 (ac (kk (.int 9)) ac0)) (tN 2) yes (cB (pureC c_shape_count) (ac (sl 2) ac0))) (lstG (ac (kk (.int 1)) (ac (kk (.int 1)) (ac (kk (.int 1)) (ac (kk (.int 2)) (ac (kk (.int 4)) (ac (kk (.int 9)) (ac (kk (.int 21)) (ac (kk (.int 51)) (ac (kk (.int 127)) ac0)))))))))))) (sq (ret (kk (.bool false)))
    skp) skp)
    (sq (ifs (tst (b2 (eqD true) (lcX [2] (srcR1 (ac (kk (.int 8)) ac0)) (tN 2) yes (cB (pureC c_heap_count) (ac (sl 2) ac0))) (lstG (ac (kk (.int 1)) (ac (kk (.int 1)) (ac (kk (.int 1)) (ac (kk (.int 3)) (ac (kk (.int 9)) (ac (kk (.int 39)) (ac (kk (.int 189)) (ac (kk (.int 1107)) ac0))))))))))) (sq (ret (kk (.bool false)))
    skp) skp)
    (sq (ifs (tst (b2 (eqD true) (cB (pureC c_shape_at) (ac (kk (.int 3)) (ac (kk (.int 0)) ac0))) (tup (ac (tup (ac (sl 1) (ac (kk .none) ac0))) (ac (kk .none) ac0))))) (sq (ret (kk (.bool false)))
    skp) skp)
    (sq (ifs (tst (b2 (eqD true) (cB (pureC c_shape_at) (ac (kk (.int 3)) (ac (kk (.int 1)) ac0))) (tup (ac (sl 1) (ac (sl 1) ac0))))) (sq (ret (kk (.bool false)))
    skp) skp)
    (sq (ifs (tst (b2 (eqD true) (cB (pureC c_shape_index) (ac (tup (ac (sl 1) (ac (sl 1) ac0))) ac0)) (kk (.int 1)))) (sq (ret (kk (.bool false)))
    skp) skp)
    (sq (ifs (tst (b2 (eqD true) (cB (pureC c_shape_heaps) (ac (tup (ac (sl 1) (ac (sl 1) ac0))) ac0)) (kk (.int 2)))) (sq (ret (kk (.bool false)))
    skp) skp)
    (sq (ifs (tst (b2 (eqD true) (cB (pureC c_shape_choices) (ac (tup (ac (sl 1) (ac (sl 1) ac0))) ac0)) (kk (.int 1)))) (sq (ret (kk (.bool false)))
    skp) skp)
    (sq (ifs (tst (b2 (eqD true) (lcX [2] (srcR1 (ac (kk (.int 13)) ac0)) (tN 2) yes (cB (pureC c_most_looks) (ac (sl 2) ac0))) (lstG (ac (kk (.int 0)) (ac (kk (.int 0)) (ac (kk (.int 1)) (ac (kk (.int 2)) (ac (kk (.int 4)) (ac (kk (.int 6)) (ac (kk (.int 8)) (ac (kk (.int 10)) (ac (kk (.int 13)) (ac (kk (.int 16)) (ac (kk (.int 19)) (ac (kk (.int 22)) (ac (kk (.int 25)) ac0)))))))))))))))) (sq (ret (kk (.bool false)))
    skp) skp)
    (sq (ifs (tst (b2 (eqD true) (cB (pureC c_most_looks) (ac (kk (.int 1000000)) ac0)) (kk (.int 17951445)))) (sq (ret (kk (.bool false)))
    skp) skp)
    (sq (ifs (tst (b2 (eqD true) (cB (pureC c_least_looks) (ac (sl 0) ac0)) (cB max2D (ac (b2 subD (sl 0) (kk (.int 1))) (ac (kk (.int 0)) ac0))))) (sq (ret (kk (.bool false)))
    skp) skp)
    (sq (ifs (tst (b2 (eqD true) (cB (pureC c_orders_by_looks) (ac (kk (.int 4)) ac0)) (tup (ac (tup (ac (kk (.int 3)) (ac (kk (.int 12)) ac0))) (ac (tup (ac (kk (.int 4)) (ac (kk (.int 12)) ac0))) ac0))))) (sq (ret (kk (.bool false)))
    skp) skp)
    (sq (ifs (tst (b2 (eqD true) (cB (pureC c_orders_by_looks) (ac (kk (.int 0)) ac0)) (tup (ac (tup (ac (kk (.int 0)) (ac (kk (.int 1)) ac0))) ac0)))) (sq (ret (kk (.bool false)))
    skp) skp)
    (sq (ifs (tst (b2 (eqD true) (cB (pureC c_mean_looks) (ac (kk (.int 5)) ac0)) (tup (ac (kk (.int 51)) (ac (kk (.int 10)) ac0))))) (sq (ret (kk (.bool false)))
    skp) skp)
    (sq (ifs (tst (b2 (eqD true) (cB (pureC c_mean_looks) (ac (kk (.int 0)) ac0)) (tup (ac (kk (.int 0)) (ac (kk (.int 1)) ac0))))) (sq (ret (kk (.bool false)))
    skp) skp)
    (sq (ifs (tst (b2 (eqD true) (cB (pureC c_mean_looks) (ac (kk (.int 8)) ac0)) (tup (ac (kk (.int 12057)) (ac (kk (.int 1120)) ac0))))) (sq (ret (kk (.bool false)))
    skp) skp)
    (sq (ret (andV (b2 (eqD false) (cB (pureC c_shape_looks) (ac (tup (ac (tup (ac (sl 1) (ac (kk .none) ac0))) (ac (sl 1) ac0))) ac0)) (kk (.int 4))) (andV (b2 (eqD false) (cB (pureC c_whole) (ac (kk (.int 5)) ac0)) (kk (.int 120))) (andV (b2 (eqD false) (cB (pureC c_whole) (ac (kk (.int 0)) ac0)) (kk (.int 1))) (andV (b1 (isN false) (cB (pureC c_most_shape) (ac (kk (.int 0)) ac0))) (b2 (eqD false) (cB (pureC c_least_shape) (ac (kk (.int 2)) ac0)) (tup (ac (sl 1) (ac (kk .none) ac0)))))))))
    skp)))))))))))))))))
def F_q_written : Nat → List Dv → Co Dv
  | 0 => fun _ => fl
  | n + 1 => defF 3 1 (b_q_written (F_least_shape n) (F_most_shape n) (F_whole n) (F_shape_looks n) (F_mean_looks n) (F_orders_by_looks n) (F_least_looks n) (F_most_looks n) (F_shape_choices n) (F_shape_heaps n) (F_shape_index n) (F_shape_at n) (F_heap_count n) (F_shape_count n))
def b_places (c_many_of : List Dv → Co Dv) (c_need_shape : List Dv → Co Dv) : Slots → Co Fl :=
  (sq (drp (cB (pureC c_need_shape) (ac (sl 0) ac0)))
    (sq (ret (cB (pureC c_many_of) (ac (sl 0) ac0)))
    skp))
def F_places : Nat → List Dv → Co Dv
  | 0 => fun _ => fl
  | n + 1 => defF 1 1 (b_places (F_many_of n) (F_need_shape n))
def b_is_key (c_is_in : List Dv → Co Dv) : Slots → Co Fl :=
  (sq (ret (cB (pureC c_is_in) (ac (sl 0) (ac (b2 subD (kk (.int 0)) (kk (.int 1000000))) (ac (kk (.int 1000000)) ac0)))))
    skp)
def F_is_key : Nat → List Dv → Co Dv
  | 0 => fun _ => fl
  | n + 1 => defF 1 1 (b_is_key (F_is_in n))
def b_has_form_heaps (c_has_form_heaps : List Dv → Co Dv) (c_is_key : List Dv → Co Dv) : Slots → Co Fl :=
  (sq (ifs (tst (b1 (isN false) (sl 0))) (sq (ret (kk (.bool true)))
    skp) skp)
    (sq (ifs (tor (tst (b2 (eqD false) (sl 2) (kk (.int 0)))) (tor (tnt (trV (isi "tuple" (sl 0)))) (tor (tst (b2 (eqD true) (cB lenD (ac (sl 0) ac0)) (kk (.int 3)))) (tor (tnt (trV (cB (pureC c_is_key) (ac (b2 ixD (sl 0) (kk (.int 0))) ac0)))) (tst (b2 leD (b2 ixD (sl 0) (kk (.int 0))) (sl 1))))))) (sq (ret (kk (.bool false)))
    skp) skp)
    (sq (ret (andV (cB (pureC c_has_form_heaps) (ac (b2 ixD (sl 0) (kk (.int 1))) (ac (b2 ixD (sl 0) (kk (.int 0))) (ac (b2 subD (sl 2) (kk (.int 1))) ac0)))) (cB (pureC c_has_form_heaps) (ac (b2 ixD (sl 0) (kk (.int 2))) (ac (b2 ixD (sl 0) (kk (.int 0))) (ac (b2 subD (sl 2) (kk (.int 1))) ac0))))))
    skp)))
def F_has_form_heaps : Nat → List Dv → Co Dv
  | 0 => fun _ => fl
  | n + 1 => defF 3 3 (b_has_form_heaps (F_has_form_heaps n) (F_is_key n))
def b_key_list (c_key_list : List Dv → Co Dv) : Slots → Co Fl :=
  (sq (ret (iff (tst (b1 (isN false) (sl 0))) (lstG ac0) (lstG (ac (b2 ixD (sl 0) (kk (.int 0))) (acS (cB (pureC c_key_list) (ac (b2 ixD (sl 0) (kk (.int 1))) ac0)) (acS (cB (pureC c_key_list) (ac (b2 ixD (sl 0) (kk (.int 2))) ac0)) ac0))))))
    skp)
def F_key_list : Nat → List Dv → Co Dv
  | 0 => fun _ => fl
  | n + 1 => defF 1 1 (b_key_list (F_key_list n))
def b_is_heap (c_key_list : List Dv → Co Dv) (c_has_form_heaps : List Dv → Co Dv) : Slots → Co Fl :=
  (sq (ifs (tnt (trV (cB (pureC c_has_form_heaps) (ac (sl 0) (ac (b2 subD (b2 subD (kk (.int 0)) (kk (.int 1000000))) (kk (.int 1))) (ac (kk (.int 200)) ac0)))))) (sq (ret (kk (.bool false)))
    skp) skp)
    (sq (asg (cB (pureC c_key_list) (ac (sl 0) ac0)) (tN 1))
    (sq (ret (andV (b2 leD (cB lenD (ac (sl 1) ac0)) (kk (.int 200))) (b2 (eqD false) (lnS (sl 1)) (cB lenD (ac (sl 1) ac0)))))
    skp)))
def F_is_heap : Nat → List Dv → Co Dv
  | 0 => fun _ => fl
  | n + 1 => defF 2 1 (b_is_heap (F_key_list n) (F_has_form_heaps n))
def b_need_heap (c_is_heap : List Dv → Co Dv) : Slots → Co Fl :=
  (sq (ifs (tnt (trV (cB (pureC c_is_heap) (ac (sl 0) ac0)))) (sq (rsC "BadHeap")
    skp) skp)
    skp)
def F_need_heap : Nat → List Dv → Co Dv
  | 0 => fun _ => fl
  | n + 1 => defF 1 1 (b_need_heap (F_is_heap n))
def b_need_both (c_key_list : List Dv → Co Dv) (c_is_heap : List Dv → Co Dv) (c_need_heap : List Dv → Co Dv) : Slots → Co Fl :=
  (sq (drp (cB (pureC c_need_heap) (ac (sl 0) ac0)))
    (sq (ifs (tnt (trV (cB (pureC c_is_heap) (ac (sl 1) ac0)))) (sq (rsC "BadHeap")
    skp) skp)
    (sq (asg (b2 addD (cB (pureC c_key_list) (ac (sl 0) ac0)) (cB (pureC c_key_list) (ac (sl 1) ac0))) (tN 2))
    (sq (ifs (tor (tst (b2 gtD (cB lenD (ac (sl 2) ac0)) (kk (.int 200)))) (tst (b2 ltD (lnS (sl 2)) (cB lenD (ac (sl 2) ac0))))) (sq (rsC "BadHeap")
    skp) skp)
    skp))))
def F_need_both : Nat → List Dv → Co Dv
  | 0 => fun _ => fl
  | n + 1 => defF 3 2 (b_need_both (F_key_list n) (F_is_heap n) (F_need_heap n))
def b_join (c_need_both : List Dv → Co Dv) : Slots → Co Fl :=
  (sq (drp (cB (pureC c_need_both) (ac (sl 0) (ac (sl 1) ac0))))
    (sq nvr
    skp))
def F_join : Nat → List Dv → Co Dv
  | 0 => fun _ => fl
  | n + 1 => defF 2 2 (b_join (F_need_both n))
def b_can_put (c_is_key : List Dv → Co Dv) (c_key_list : List Dv → Co Dv) : Slots → Co Fl :=
  (sq (asg (cB (pureC c_key_list) (ac (sl 0) ac0)) (tN 2))
    (sq (ret (andV (cB (pureC c_is_key) (ac (sl 1) ac0)) (andV (b2 (inD true) (sl 1) (sl 2)) (b2 ltD (cB lenD (ac (sl 2) ac0)) (kk (.int 200))))))
    skp))
def F_can_put : Nat → List Dv → Co Dv
  | 0 => fun _ => fl
  | n + 1 => defF 3 2 (b_can_put (F_is_key n) (F_key_list n))
def b_put (c_can_put : List Dv → Co Dv) (c_need_heap : List Dv → Co Dv) : Slots → Co Fl :=
  (sq (drp (cB (pureC c_need_heap) (ac (sl 0) ac0)))
    (sq (ifs (tnt (trV (cB (pureC c_can_put) (ac (sl 0) (ac (sl 1) ac0))))) (sq (rsC "BadKey")
    skp) skp)
    (sq nvr
    skp)))
def F_put : Nat → List Dv → Co Dv
  | 0 => fun _ => fl
  | n + 1 => defF 2 2 (b_put (F_can_put n) (F_need_heap n))
def b_need_some (c_is_heap : List Dv → Co Dv) : Slots → Co Fl :=
  (sq (ifs (tor (tst (b1 (isN false) (sl 0))) (tnt (trV (cB (pureC c_is_heap) (ac (sl 0) ac0))))) (sq (rsC "BadHeap")
    skp) skp)
    skp)
def F_need_some : Nat → List Dv → Co Dv
  | 0 => fun _ => fl
  | n + 1 => defF 1 1 (b_need_some (F_is_heap n))
def b_without_last (c_need_some : List Dv → Co Dv) : Slots → Co Fl :=
  (sq (drp (cB (pureC c_need_some) (ac (sl 0) ac0)))
    (sq nvr
    (sq nvr
    (sq nvr
    skp))))
def F_without_last : Nat → List Dv → Co Dv
  | 0 => fun _ => fl
  | n + 1 => defF 2 2 (b_without_last (F_need_some n))
def b_need_order (c_is_key : List Dv → Co Dv) : Slots → Co Fl :=
  (sq (ifs (tor (tnt (trV (isi "tuple" (sl 0)))) (tor (tst (b2 gtD (cB lenD (ac (sl 0) ac0)) (kk (.int 200)))) (tnt (trV (allG (nxS (srcS (sl 0))) (tN 0) (cB (pureC c_is_key) (ac (sl 0) ac0)) [none]))))) (sq (rsC "BadOrder")
    skp) skp)
    (sq (ifs (tst (b2 ltD (lnS (sl 0)) (cB lenD (ac (sl 0) ac0)))) (sq (rsC "BadOrder")
    skp) skp)
    skp))
def F_need_order : Nat → List Dv → Co Dv
  | 0 => fun _ => fl
  | 1 => fun _ => fl
  | n + 2 => defF 1 1 (b_need_order (F_is_key n))
def b_renamings (c_need_order : List Dv → Co Dv) : Slots → Co Fl :=
  (sq (drp (cB (pureC c_need_order) (ac (sl 0) ac0)))
    (sq nvr
    (sq nvr
    skp)))
def F_renamings : Nat → List Dv → Co Dv
  | 0 => fun _ => fl
  | n + 1 => defF 2 2 (b_renamings (F_need_order n))
def q_refused_s0 (c_renamings : List Dv → Co Dv) (c_without_last : List Dv → Co Dv) (c_put : List Dv → Co Dv) (c_join : List Dv → Co Dv) (c_shape_at : List Dv → Co Dv) (c_shape_index : List Dv → Co Dv) (c_places : List Dv → Co Dv) (c_mean_looks : List Dv → Co Dv) (c_orders_by_looks : List Dv → Co Dv) (c_whole : List Dv → Co Dv) (c_least_looks : List Dv → Co Dv) (c_most_looks : List Dv → Co Dv) (c_least_shape : List Dv → Co Dv) (c_most_shape : List Dv → Co Dv) (c_heap_count : List Dv → Co Dv) (c_shape_count : List Dv → Co Dv) (c_shape_looks : List Dv → Co Dv) (c_shape_choices : List Dv → Co Dv) (c_shape_heaps : List Dv → Co Dv) : Slots → Co Fl :=
  (asg (tup (ac (kk .none) (ac (kk .none) ac0))) (tN 0))
def q_refused_s1 (c_renamings : List Dv → Co Dv) (c_without_last : List Dv → Co Dv) (c_put : List Dv → Co Dv) (c_join : List Dv → Co Dv) (c_shape_at : List Dv → Co Dv) (c_shape_index : List Dv → Co Dv) (c_places : List Dv → Co Dv) (c_mean_looks : List Dv → Co Dv) (c_orders_by_looks : List Dv → Co Dv) (c_whole : List Dv → Co Dv) (c_least_looks : List Dv → Co Dv) (c_most_looks : List Dv → Co Dv) (c_least_shape : List Dv → Co Dv) (c_most_shape : List Dv → Co Dv) (c_heap_count : List Dv → Co Dv) (c_shape_count : List Dv → Co Dv) (c_shape_looks : List Dv → Co Dv) (c_shape_choices : List Dv → Co Dv) (c_shape_heaps : List Dv → Co Dv) : Slots → Co Fl :=
  (asg (kk .none) (tN 1))
def q_refused_s2 (c_renamings : List Dv → Co Dv) (c_without_last : List Dv → Co Dv) (c_put : List Dv → Co Dv) (c_join : List Dv → Co Dv) (c_shape_at : List Dv → Co Dv) (c_shape_index : List Dv → Co Dv) (c_places : List Dv → Co Dv) (c_mean_looks : List Dv → Co Dv) (c_orders_by_looks : List Dv → Co Dv) (c_whole : List Dv → Co Dv) (c_least_looks : List Dv → Co Dv) (c_most_looks : List Dv → Co Dv) (c_least_shape : List Dv → Co Dv) (c_most_shape : List Dv → Co Dv) (c_heap_count : List Dv → Co Dv) (c_shape_count : List Dv → Co Dv) (c_shape_looks : List Dv → Co Dv) (c_shape_choices : List Dv → Co Dv) (c_shape_heaps : List Dv → Co Dv) : Slots → Co Fl :=
  (forX (srcR1 (ac (kk (.int 201)) ac0)) (tN 2) (sq (asg (tup (ac (sl 1) (ac (kk .none) ac0))) (tN 1))
    skp))
def q_refused_s3 (c_renamings : List Dv → Co Dv) (c_without_last : List Dv → Co Dv) (c_put : List Dv → Co Dv) (c_join : List Dv → Co Dv) (c_shape_at : List Dv → Co Dv) (c_shape_index : List Dv → Co Dv) (c_places : List Dv → Co Dv) (c_mean_looks : List Dv → Co Dv) (c_orders_by_looks : List Dv → Co Dv) (c_whole : List Dv → Co Dv) (c_least_looks : List Dv → Co Dv) (c_most_looks : List Dv → Co Dv) (c_least_shape : List Dv → Co Dv) (c_most_shape : List Dv → Co Dv) (c_heap_count : List Dv → Co Dv) (c_shape_count : List Dv → Co Dv) (c_shape_looks : List Dv → Co Dv) (c_shape_choices : List Dv → Co Dv) (c_shape_heaps : List Dv → Co Dv) : Slots → Co Fl :=
  (forX (srcS (lstG (ac (kk (.int 3)) (ac (tup ac0) (ac (tup (ac (kk .none) ac0)) (ac (lstG (ac (kk .none) (ac (kk .none) ac0))) (ac (tup (ac (kk .none) (ac (sl 0) ac0))) (ac (tup (ac (sl 0) (ac (tup (ac (kk .none) (ac (sl 0) ac0))) ac0))) (ac (tup (ac (sl 0) (ac (kk (.int 3)) ac0))) (ac (tup (ac (kk .none) (ac (kk .none) (ac (kk .none) ac0)))) (ac (sl 1) ac0))))))))))) (tN 3) (sq (asg (lstR (ac (told wd (cB (pureC c_places) (ac (sl 3) ac0))) ac0)) (tN 4))
    (sq (drp (app (sl 4) (told wd (cB (pureC c_shape_index) (ac (sl 3) ac0)))))
    (sq (drp (app (sl 4) (told wd (cB (pureC c_shape_heaps) (ac (sl 3) ac0)))))
    (sq (drp (app (sl 4) (told wd (cB (pureC c_shape_choices) (ac (sl 3) ac0)))))
    (sq (drp (app (sl 4) (told wd (cB (pureC c_shape_looks) (ac (sl 3) ac0)))))
    (sq (ifs (tst (b2 (eqD true) (sl 4) (repG (ac (kk (.str "shape")) ac0) 5))) (sq (ret (kk (.bool false)))
    skp) skp)
    skp)))))))
def q_refused_s4 (c_renamings : List Dv → Co Dv) (c_without_last : List Dv → Co Dv) (c_put : List Dv → Co Dv) (c_join : List Dv → Co Dv) (c_shape_at : List Dv → Co Dv) (c_shape_index : List Dv → Co Dv) (c_places : List Dv → Co Dv) (c_mean_looks : List Dv → Co Dv) (c_orders_by_looks : List Dv → Co Dv) (c_whole : List Dv → Co Dv) (c_least_looks : List Dv → Co Dv) (c_most_looks : List Dv → Co Dv) (c_least_shape : List Dv → Co Dv) (c_most_shape : List Dv → Co Dv) (c_heap_count : List Dv → Co Dv) (c_shape_count : List Dv → Co Dv) (c_shape_looks : List Dv → Co Dv) (c_shape_choices : List Dv → Co Dv) (c_shape_heaps : List Dv → Co Dv) : Slots → Co Fl :=
  (forX (srcS (lstG (ac (kk .none) (ac (b1 ngD (kk (.int 1))) (ac (kk (.int 201)) (ac (kk (.bool true)) (ac (kk (.str "3")) ac0))))))) (tN 3) (sq (asg (lstR (ac (told wd (cB (pureC c_shape_count) (ac (sl 3) ac0))) ac0)) (tN 4))
    (sq (drp (app (sl 4) (told wd (cB (pureC c_shape_at) (ac (sl 3) (ac (kk .none) ac0))))))
    (sq (drp (app (sl 4) (told wd (cB (pureC c_heap_count) (ac (sl 3) ac0)))))
    (sq (drp (app (sl 4) (told wd (cB (pureC c_most_shape) (ac (sl 3) ac0)))))
    (sq (drp (app (sl 4) (told wd (cB (pureC c_least_shape) (ac (sl 3) ac0)))))
    (sq (ifs (tst (b2 (eqD true) (sl 4) (repG (ac (kk (.str "number")) ac0) 5))) (sq (ret (kk (.bool false)))
    skp) skp)
    skp)))))))
def q_refused_s5 (c_renamings : List Dv → Co Dv) (c_without_last : List Dv → Co Dv) (c_put : List Dv → Co Dv) (c_join : List Dv → Co Dv) (c_shape_at : List Dv → Co Dv) (c_shape_index : List Dv → Co Dv) (c_places : List Dv → Co Dv) (c_mean_looks : List Dv → Co Dv) (c_orders_by_looks : List Dv → Co Dv) (c_whole : List Dv → Co Dv) (c_least_looks : List Dv → Co Dv) (c_most_looks : List Dv → Co Dv) (c_least_shape : List Dv → Co Dv) (c_most_shape : List Dv → Co Dv) (c_heap_count : List Dv → Co Dv) (c_shape_count : List Dv → Co Dv) (c_shape_looks : List Dv → Co Dv) (c_shape_choices : List Dv → Co Dv) (c_shape_heaps : List Dv → Co Dv) : Slots → Co Fl :=
  (forX (srcS (lstG (ac (kk .none) (ac (b1 ngD (kk (.int 1))) (ac (kk (.bool true)) (ac (kk (.int 1000000000000000000000000000001)) ac0)))))) (tN 3) (sq (asg (lstR (ac (told wd (cB (pureC c_most_looks) (ac (sl 3) ac0))) ac0)) (tN 4))
    (sq (drp (app (sl 4) (told wd (cB (pureC c_least_looks) (ac (sl 3) ac0)))))
    (sq (drp (app (sl 4) (told wd (cB (pureC c_whole) (ac (sl 3) ac0)))))
    (sq (drp (app (sl 4) (told wd (cB (pureC c_orders_by_looks) (ac (sl 3) ac0)))))
    (sq (drp (app (sl 4) (told wd (cB (pureC c_mean_looks) (ac (sl 3) ac0)))))
    (sq (drp (app (sl 4) (told wd (cB (pureC c_shape_at) (ac (kk (.int 5)) (ac (sl 3) ac0))))))
    (sq (ifs (tst (b2 (eqD true) (sl 4) (repG (ac (kk (.str "number")) ac0) 6))) (sq (ret (kk (.bool false)))
    skp) skp)
    skp))))))))
def q_refused_s6 (c_renamings : List Dv → Co Dv) (c_without_last : List Dv → Co Dv) (c_put : List Dv → Co Dv) (c_join : List Dv → Co Dv) (c_shape_at : List Dv → Co Dv) (c_shape_index : List Dv → Co Dv) (c_places : List Dv → Co Dv) (c_mean_looks : List Dv → Co Dv) (c_orders_by_looks : List Dv → Co Dv) (c_whole : List Dv → Co Dv) (c_least_looks : List Dv → Co Dv) (c_most_looks : List Dv → Co Dv) (c_least_shape : List Dv → Co Dv) (c_most_shape : List Dv → Co Dv) (c_heap_count : List Dv → Co Dv) (c_shape_count : List Dv → Co Dv) (c_shape_looks : List Dv → Co Dv) (c_shape_choices : List Dv → Co Dv) (c_shape_heaps : List Dv → Co Dv) : Slots → Co Fl :=
  (asg (lstR (ac (told wd (cB (pureC c_whole) (ac (kk (.int 11)) ac0))) ac0)) (tN 4))
def q_refused_s7 (c_renamings : List Dv → Co Dv) (c_without_last : List Dv → Co Dv) (c_put : List Dv → Co Dv) (c_join : List Dv → Co Dv) (c_shape_at : List Dv → Co Dv) (c_shape_index : List Dv → Co Dv) (c_places : List Dv → Co Dv) (c_mean_looks : List Dv → Co Dv) (c_orders_by_looks : List Dv → Co Dv) (c_whole : List Dv → Co Dv) (c_least_looks : List Dv → Co Dv) (c_most_looks : List Dv → Co Dv) (c_least_shape : List Dv → Co Dv) (c_most_shape : List Dv → Co Dv) (c_heap_count : List Dv → Co Dv) (c_shape_count : List Dv → Co Dv) (c_shape_looks : List Dv → Co Dv) (c_shape_choices : List Dv → Co Dv) (c_shape_heaps : List Dv → Co Dv) : Slots → Co Fl :=
  (drp (app (sl 4) (told wd (cB (pureC c_orders_by_looks) (ac (kk (.int 41)) ac0)))))
def q_refused_s8 (c_renamings : List Dv → Co Dv) (c_without_last : List Dv → Co Dv) (c_put : List Dv → Co Dv) (c_join : List Dv → Co Dv) (c_shape_at : List Dv → Co Dv) (c_shape_index : List Dv → Co Dv) (c_places : List Dv → Co Dv) (c_mean_looks : List Dv → Co Dv) (c_orders_by_looks : List Dv → Co Dv) (c_whole : List Dv → Co Dv) (c_least_looks : List Dv → Co Dv) (c_most_looks : List Dv → Co Dv) (c_least_shape : List Dv → Co Dv) (c_most_shape : List Dv → Co Dv) (c_heap_count : List Dv → Co Dv) (c_shape_count : List Dv → Co Dv) (c_shape_looks : List Dv → Co Dv) (c_shape_choices : List Dv → Co Dv) (c_shape_heaps : List Dv → Co Dv) : Slots → Co Fl :=
  (drp (app (sl 4) (told wd (cB (pureC c_mean_looks) (ac (kk (.int 41)) ac0)))))
def q_refused_s9 (c_renamings : List Dv → Co Dv) (c_without_last : List Dv → Co Dv) (c_put : List Dv → Co Dv) (c_join : List Dv → Co Dv) (c_shape_at : List Dv → Co Dv) (c_shape_index : List Dv → Co Dv) (c_places : List Dv → Co Dv) (c_mean_looks : List Dv → Co Dv) (c_orders_by_looks : List Dv → Co Dv) (c_whole : List Dv → Co Dv) (c_least_looks : List Dv → Co Dv) (c_most_looks : List Dv → Co Dv) (c_least_shape : List Dv → Co Dv) (c_most_shape : List Dv → Co Dv) (c_heap_count : List Dv → Co Dv) (c_shape_count : List Dv → Co Dv) (c_shape_looks : List Dv → Co Dv) (c_shape_choices : List Dv → Co Dv) (c_shape_heaps : List Dv → Co Dv) : Slots → Co Fl :=
  (drp (app (sl 4) (told wd (cB (pureC c_shape_at) (ac (kk (.int 5)) (ac (kk (.int 9)) ac0))))))
def q_refused_s10 (c_renamings : List Dv → Co Dv) (c_without_last : List Dv → Co Dv) (c_put : List Dv → Co Dv) (c_join : List Dv → Co Dv) (c_shape_at : List Dv → Co Dv) (c_shape_index : List Dv → Co Dv) (c_places : List Dv → Co Dv) (c_mean_looks : List Dv → Co Dv) (c_orders_by_looks : List Dv → Co Dv) (c_whole : List Dv → Co Dv) (c_least_looks : List Dv → Co Dv) (c_most_looks : List Dv → Co Dv) (c_least_shape : List Dv → Co Dv) (c_most_shape : List Dv → Co Dv) (c_heap_count : List Dv → Co Dv) (c_shape_count : List Dv → Co Dv) (c_shape_looks : List Dv → Co Dv) (c_shape_choices : List Dv → Co Dv) (c_shape_heaps : List Dv → Co Dv) : Slots → Co Fl :=
  (asg (b2 addD (sl 4) (lstG (ac (told wd (cB (pureC c_shape_at) (ac (kk (.int 0)) (ac (kk (.int 1)) ac0)))) ac0))) (tN 4))
def q_refused_s11 (c_renamings : List Dv → Co Dv) (c_without_last : List Dv → Co Dv) (c_put : List Dv → Co Dv) (c_join : List Dv → Co Dv) (c_shape_at : List Dv → Co Dv) (c_shape_index : List Dv → Co Dv) (c_places : List Dv → Co Dv) (c_mean_looks : List Dv → Co Dv) (c_orders_by_looks : List Dv → Co Dv) (c_whole : List Dv → Co Dv) (c_least_looks : List Dv → Co Dv) (c_most_looks : List Dv → Co Dv) (c_least_shape : List Dv → Co Dv) (c_most_shape : List Dv → Co Dv) (c_heap_count : List Dv → Co Dv) (c_shape_count : List Dv → Co Dv) (c_shape_looks : List Dv → Co Dv) (c_shape_choices : List Dv → Co Dv) (c_shape_heaps : List Dv → Co Dv) : Slots → Co Fl :=
  (ifs (tst (b2 (eqD true) (sl 4) (repG (ac (kk (.str "number")) ac0) 5))) (sq (ret (kk (.bool false)))
    skp) skp)
def q_refused_s12 (c_renamings : List Dv → Co Dv) (c_without_last : List Dv → Co Dv) (c_put : List Dv → Co Dv) (c_join : List Dv → Co Dv) (c_shape_at : List Dv → Co Dv) (c_shape_index : List Dv → Co Dv) (c_places : List Dv → Co Dv) (c_mean_looks : List Dv → Co Dv) (c_orders_by_looks : List Dv → Co Dv) (c_whole : List Dv → Co Dv) (c_least_looks : List Dv → Co Dv) (c_most_looks : List Dv → Co Dv) (c_least_shape : List Dv → Co Dv) (c_most_shape : List Dv → Co Dv) (c_heap_count : List Dv → Co Dv) (c_shape_count : List Dv → Co Dv) (c_shape_looks : List Dv → Co Dv) (c_shape_choices : List Dv → Co Dv) (c_shape_heaps : List Dv → Co Dv) : Slots → Co Fl :=
  (ifs (tst (b2 (eqD true) (cB (pureC c_places) (ac (b2 ixD (sl 1) (kk (.int 0))) ac0)) (kk (.int 200)))) (sq (ret (kk (.bool false)))
    skp) skp)
def q_refused_s13 (c_renamings : List Dv → Co Dv) (c_without_last : List Dv → Co Dv) (c_put : List Dv → Co Dv) (c_join : List Dv → Co Dv) (c_shape_at : List Dv → Co Dv) (c_shape_index : List Dv → Co Dv) (c_places : List Dv → Co Dv) (c_mean_looks : List Dv → Co Dv) (c_orders_by_looks : List Dv → Co Dv) (c_whole : List Dv → Co Dv) (c_least_looks : List Dv → Co Dv) (c_most_looks : List Dv → Co Dv) (c_least_shape : List Dv → Co Dv) (c_most_shape : List Dv → Co Dv) (c_heap_count : List Dv → Co Dv) (c_shape_count : List Dv → Co Dv) (c_shape_looks : List Dv → Co Dv) (c_shape_choices : List Dv → Co Dv) (c_shape_heaps : List Dv → Co Dv) : Slots → Co Fl :=
  (ifs (tst (b2 (eqD true) (cB (pureC c_shape_index) (ac (b2 ixD (sl 1) (kk (.int 0))) ac0)) (kk (.int 0)))) (sq (ret (kk (.bool false)))
    skp) skp)
def q_refused_s14 (c_renamings : List Dv → Co Dv) (c_without_last : List Dv → Co Dv) (c_put : List Dv → Co Dv) (c_join : List Dv → Co Dv) (c_shape_at : List Dv → Co Dv) (c_shape_index : List Dv → Co Dv) (c_places : List Dv → Co Dv) (c_mean_looks : List Dv → Co Dv) (c_orders_by_looks : List Dv → Co Dv) (c_whole : List Dv → Co Dv) (c_least_looks : List Dv → Co Dv) (c_most_looks : List Dv → Co Dv) (c_least_shape : List Dv → Co Dv) (c_most_shape : List Dv → Co Dv) (c_heap_count : List Dv → Co Dv) (c_shape_count : List Dv → Co Dv) (c_shape_looks : List Dv → Co Dv) (c_shape_choices : List Dv → Co Dv) (c_shape_heaps : List Dv → Co Dv) : Slots → Co Fl :=
  (ifs (tst (b2 (eqD true) (cB (pureC c_shape_at) (ac (kk (.int 200)) (ac (kk (.int 0)) ac0))) (b2 ixD (sl 1) (kk (.int 0))))) (sq (ret (kk (.bool false)))
    skp) skp)
def q_refused_s15 (c_renamings : List Dv → Co Dv) (c_without_last : List Dv → Co Dv) (c_put : List Dv → Co Dv) (c_join : List Dv → Co Dv) (c_shape_at : List Dv → Co Dv) (c_shape_index : List Dv → Co Dv) (c_places : List Dv → Co Dv) (c_mean_looks : List Dv → Co Dv) (c_orders_by_looks : List Dv → Co Dv) (c_whole : List Dv → Co Dv) (c_least_looks : List Dv → Co Dv) (c_most_looks : List Dv → Co Dv) (c_least_shape : List Dv → Co Dv) (c_most_shape : List Dv → Co Dv) (c_heap_count : List Dv → Co Dv) (c_shape_count : List Dv → Co Dv) (c_shape_looks : List Dv → Co Dv) (c_shape_choices : List Dv → Co Dv) (c_shape_heaps : List Dv → Co Dv) : Slots → Co Fl :=
  (asg (lstR (ac (told wd (cB (pureC c_join) (ac (kk (.int 3)) (ac (kk (.int 3)) ac0)))) ac0)) (tN 4))
def q_refused_s16 (c_renamings : List Dv → Co Dv) (c_without_last : List Dv → Co Dv) (c_put : List Dv → Co Dv) (c_join : List Dv → Co Dv) (c_shape_at : List Dv → Co Dv) (c_shape_index : List Dv → Co Dv) (c_places : List Dv → Co Dv) (c_mean_looks : List Dv → Co Dv) (c_orders_by_looks : List Dv → Co Dv) (c_whole : List Dv → Co Dv) (c_least_looks : List Dv → Co Dv) (c_most_looks : List Dv → Co Dv) (c_least_shape : List Dv → Co Dv) (c_most_shape : List Dv → Co Dv) (c_heap_count : List Dv → Co Dv) (c_shape_count : List Dv → Co Dv) (c_shape_looks : List Dv → Co Dv) (c_shape_choices : List Dv → Co Dv) (c_shape_heaps : List Dv → Co Dv) : Slots → Co Fl :=
  (drp (app (sl 4) (told wd (cB (pureC c_put) (ac (kk (.int 3)) (ac (kk .none) ac0))))))
def q_refused_s17 (c_renamings : List Dv → Co Dv) (c_without_last : List Dv → Co Dv) (c_put : List Dv → Co Dv) (c_join : List Dv → Co Dv) (c_shape_at : List Dv → Co Dv) (c_shape_index : List Dv → Co Dv) (c_places : List Dv → Co Dv) (c_mean_looks : List Dv → Co Dv) (c_orders_by_looks : List Dv → Co Dv) (c_whole : List Dv → Co Dv) (c_least_looks : List Dv → Co Dv) (c_most_looks : List Dv → Co Dv) (c_least_shape : List Dv → Co Dv) (c_most_shape : List Dv → Co Dv) (c_heap_count : List Dv → Co Dv) (c_shape_count : List Dv → Co Dv) (c_shape_looks : List Dv → Co Dv) (c_shape_choices : List Dv → Co Dv) (c_shape_heaps : List Dv → Co Dv) : Slots → Co Fl :=
  (drp (app (sl 4) (told wd (cB (pureC c_put) (ac (kk .none) (ac (kk .none) ac0))))))
def q_refused_s18 (c_renamings : List Dv → Co Dv) (c_without_last : List Dv → Co Dv) (c_put : List Dv → Co Dv) (c_join : List Dv → Co Dv) (c_shape_at : List Dv → Co Dv) (c_shape_index : List Dv → Co Dv) (c_places : List Dv → Co Dv) (c_mean_looks : List Dv → Co Dv) (c_orders_by_looks : List Dv → Co Dv) (c_whole : List Dv → Co Dv) (c_least_looks : List Dv → Co Dv) (c_most_looks : List Dv → Co Dv) (c_least_shape : List Dv → Co Dv) (c_most_shape : List Dv → Co Dv) (c_heap_count : List Dv → Co Dv) (c_shape_count : List Dv → Co Dv) (c_shape_looks : List Dv → Co Dv) (c_shape_choices : List Dv → Co Dv) (c_shape_heaps : List Dv → Co Dv) : Slots → Co Fl :=
  (drp (app (sl 4) (told wd (cB (pureC c_without_last) (ac (kk .none) (ac (kk .none) ac0))))))
def q_refused_s19 (c_renamings : List Dv → Co Dv) (c_without_last : List Dv → Co Dv) (c_put : List Dv → Co Dv) (c_join : List Dv → Co Dv) (c_shape_at : List Dv → Co Dv) (c_shape_index : List Dv → Co Dv) (c_places : List Dv → Co Dv) (c_mean_looks : List Dv → Co Dv) (c_orders_by_looks : List Dv → Co Dv) (c_whole : List Dv → Co Dv) (c_least_looks : List Dv → Co Dv) (c_most_looks : List Dv → Co Dv) (c_least_shape : List Dv → Co Dv) (c_most_shape : List Dv → Co Dv) (c_heap_count : List Dv → Co Dv) (c_shape_count : List Dv → Co Dv) (c_shape_looks : List Dv → Co Dv) (c_shape_choices : List Dv → Co Dv) (c_shape_heaps : List Dv → Co Dv) : Slots → Co Fl :=
  (drp (app (sl 4) (told wd (cB (pureC c_renamings) (ac (kk .none) (ac (tup (ac (kk (.int 1)) (ac (kk (.int 1)) ac0))) ac0))))))
def q_refused_s20 (c_renamings : List Dv → Co Dv) (c_without_last : List Dv → Co Dv) (c_put : List Dv → Co Dv) (c_join : List Dv → Co Dv) (c_shape_at : List Dv → Co Dv) (c_shape_index : List Dv → Co Dv) (c_places : List Dv → Co Dv) (c_mean_looks : List Dv → Co Dv) (c_orders_by_looks : List Dv → Co Dv) (c_whole : List Dv → Co Dv) (c_least_looks : List Dv → Co Dv) (c_most_looks : List Dv → Co Dv) (c_least_shape : List Dv → Co Dv) (c_most_shape : List Dv → Co Dv) (c_heap_count : List Dv → Co Dv) (c_shape_count : List Dv → Co Dv) (c_shape_looks : List Dv → Co Dv) (c_shape_choices : List Dv → Co Dv) (c_shape_heaps : List Dv → Co Dv) : Slots → Co Fl :=
  (ifs (tst (b2 (eqD true) (sl 4) (lstG (ac (kk (.str "heap")) (ac (kk (.str "heap")) (ac (kk (.str "key")) (ac (kk (.str "heap")) (ac (kk (.str "order")) ac0)))))))) (sq (ret (kk (.bool false)))
    skp) skp)
def q_refused_s21 (c_renamings : List Dv → Co Dv) (c_without_last : List Dv → Co Dv) (c_put : List Dv → Co Dv) (c_join : List Dv → Co Dv) (c_shape_at : List Dv → Co Dv) (c_shape_index : List Dv → Co Dv) (c_places : List Dv → Co Dv) (c_mean_looks : List Dv → Co Dv) (c_orders_by_looks : List Dv → Co Dv) (c_whole : List Dv → Co Dv) (c_least_looks : List Dv → Co Dv) (c_most_looks : List Dv → Co Dv) (c_least_shape : List Dv → Co Dv) (c_most_shape : List Dv → Co Dv) (c_heap_count : List Dv → Co Dv) (c_shape_count : List Dv → Co Dv) (c_shape_looks : List Dv → Co Dv) (c_shape_choices : List Dv → Co Dv) (c_shape_heaps : List Dv → Co Dv) : Slots → Co Fl :=
  (ret (kk (.bool true)))
def b_q_refused (c_renamings : List Dv → Co Dv) (c_without_last : List Dv → Co Dv) (c_put : List Dv → Co Dv) (c_join : List Dv → Co Dv) (c_shape_at : List Dv → Co Dv) (c_shape_index : List Dv → Co Dv) (c_places : List Dv → Co Dv) (c_mean_looks : List Dv → Co Dv) (c_orders_by_looks : List Dv → Co Dv) (c_whole : List Dv → Co Dv) (c_least_looks : List Dv → Co Dv) (c_most_looks : List Dv → Co Dv) (c_least_shape : List Dv → Co Dv) (c_most_shape : List Dv → Co Dv) (c_heap_count : List Dv → Co Dv) (c_shape_count : List Dv → Co Dv) (c_shape_looks : List Dv → Co Dv) (c_shape_choices : List Dv → Co Dv) (c_shape_heaps : List Dv → Co Dv) : Slots → Co Fl :=
  (sq (q_refused_s0 c_renamings c_without_last c_put c_join c_shape_at c_shape_index c_places c_mean_looks c_orders_by_looks c_whole c_least_looks c_most_looks c_least_shape c_most_shape c_heap_count c_shape_count c_shape_looks c_shape_choices c_shape_heaps) (sq (q_refused_s1 c_renamings c_without_last c_put c_join c_shape_at c_shape_index c_places c_mean_looks c_orders_by_looks c_whole c_least_looks c_most_looks c_least_shape c_most_shape c_heap_count c_shape_count c_shape_looks c_shape_choices c_shape_heaps) (sq (q_refused_s2 c_renamings c_without_last c_put c_join c_shape_at c_shape_index c_places c_mean_looks c_orders_by_looks c_whole c_least_looks c_most_looks c_least_shape c_most_shape c_heap_count c_shape_count c_shape_looks c_shape_choices c_shape_heaps) (sq (q_refused_s3 c_renamings c_without_last c_put c_join c_shape_at c_shape_index c_places c_mean_looks c_orders_by_looks c_whole c_least_looks c_most_looks c_least_shape c_most_shape c_heap_count c_shape_count c_shape_looks c_shape_choices c_shape_heaps) (sq (q_refused_s4 c_renamings c_without_last c_put c_join c_shape_at c_shape_index c_places c_mean_looks c_orders_by_looks c_whole c_least_looks c_most_looks c_least_shape c_most_shape c_heap_count c_shape_count c_shape_looks c_shape_choices c_shape_heaps) (sq (q_refused_s5 c_renamings c_without_last c_put c_join c_shape_at c_shape_index c_places c_mean_looks c_orders_by_looks c_whole c_least_looks c_most_looks c_least_shape c_most_shape c_heap_count c_shape_count c_shape_looks c_shape_choices c_shape_heaps) (sq (q_refused_s6 c_renamings c_without_last c_put c_join c_shape_at c_shape_index c_places c_mean_looks c_orders_by_looks c_whole c_least_looks c_most_looks c_least_shape c_most_shape c_heap_count c_shape_count c_shape_looks c_shape_choices c_shape_heaps) (sq (q_refused_s7 c_renamings c_without_last c_put c_join c_shape_at c_shape_index c_places c_mean_looks c_orders_by_looks c_whole c_least_looks c_most_looks c_least_shape c_most_shape c_heap_count c_shape_count c_shape_looks c_shape_choices c_shape_heaps) (sq (q_refused_s8 c_renamings c_without_last c_put c_join c_shape_at c_shape_index c_places c_mean_looks c_orders_by_looks c_whole c_least_looks c_most_looks c_least_shape c_most_shape c_heap_count c_shape_count c_shape_looks c_shape_choices c_shape_heaps) (sq (q_refused_s9 c_renamings c_without_last c_put c_join c_shape_at c_shape_index c_places c_mean_looks c_orders_by_looks c_whole c_least_looks c_most_looks c_least_shape c_most_shape c_heap_count c_shape_count c_shape_looks c_shape_choices c_shape_heaps) (sq (q_refused_s10 c_renamings c_without_last c_put c_join c_shape_at c_shape_index c_places c_mean_looks c_orders_by_looks c_whole c_least_looks c_most_looks c_least_shape c_most_shape c_heap_count c_shape_count c_shape_looks c_shape_choices c_shape_heaps) (sq (q_refused_s11 c_renamings c_without_last c_put c_join c_shape_at c_shape_index c_places c_mean_looks c_orders_by_looks c_whole c_least_looks c_most_looks c_least_shape c_most_shape c_heap_count c_shape_count c_shape_looks c_shape_choices c_shape_heaps) (sq (q_refused_s12 c_renamings c_without_last c_put c_join c_shape_at c_shape_index c_places c_mean_looks c_orders_by_looks c_whole c_least_looks c_most_looks c_least_shape c_most_shape c_heap_count c_shape_count c_shape_looks c_shape_choices c_shape_heaps) (sq (q_refused_s13 c_renamings c_without_last c_put c_join c_shape_at c_shape_index c_places c_mean_looks c_orders_by_looks c_whole c_least_looks c_most_looks c_least_shape c_most_shape c_heap_count c_shape_count c_shape_looks c_shape_choices c_shape_heaps) (sq (q_refused_s14 c_renamings c_without_last c_put c_join c_shape_at c_shape_index c_places c_mean_looks c_orders_by_looks c_whole c_least_looks c_most_looks c_least_shape c_most_shape c_heap_count c_shape_count c_shape_looks c_shape_choices c_shape_heaps) (sq (q_refused_s15 c_renamings c_without_last c_put c_join c_shape_at c_shape_index c_places c_mean_looks c_orders_by_looks c_whole c_least_looks c_most_looks c_least_shape c_most_shape c_heap_count c_shape_count c_shape_looks c_shape_choices c_shape_heaps) (sq (q_refused_s16 c_renamings c_without_last c_put c_join c_shape_at c_shape_index c_places c_mean_looks c_orders_by_looks c_whole c_least_looks c_most_looks c_least_shape c_most_shape c_heap_count c_shape_count c_shape_looks c_shape_choices c_shape_heaps) (sq (q_refused_s17 c_renamings c_without_last c_put c_join c_shape_at c_shape_index c_places c_mean_looks c_orders_by_looks c_whole c_least_looks c_most_looks c_least_shape c_most_shape c_heap_count c_shape_count c_shape_looks c_shape_choices c_shape_heaps) (sq (q_refused_s18 c_renamings c_without_last c_put c_join c_shape_at c_shape_index c_places c_mean_looks c_orders_by_looks c_whole c_least_looks c_most_looks c_least_shape c_most_shape c_heap_count c_shape_count c_shape_looks c_shape_choices c_shape_heaps) (sq (q_refused_s19 c_renamings c_without_last c_put c_join c_shape_at c_shape_index c_places c_mean_looks c_orders_by_looks c_whole c_least_looks c_most_looks c_least_shape c_most_shape c_heap_count c_shape_count c_shape_looks c_shape_choices c_shape_heaps) (sq (q_refused_s20 c_renamings c_without_last c_put c_join c_shape_at c_shape_index c_places c_mean_looks c_orders_by_looks c_whole c_least_looks c_most_looks c_least_shape c_most_shape c_heap_count c_shape_count c_shape_looks c_shape_choices c_shape_heaps) (sq (q_refused_s21 c_renamings c_without_last c_put c_join c_shape_at c_shape_index c_places c_mean_looks c_orders_by_looks c_whole c_least_looks c_most_looks c_least_shape c_most_shape c_heap_count c_shape_count c_shape_looks c_shape_choices c_shape_heaps) skp))))))))))))))))))))))
def F_q_refused : Nat → List Dv → Co Dv
  | 0 => fun _ => fl
  | 1 => fun _ => fl
  | 2 => fun _ => fl
  | n + 3 => defF 5 0 (b_q_refused (F_renamings n) (F_without_last n) (F_put n) (F_join n) (F_shape_at n) (F_shape_index n) (F_places n) (F_mean_looks n) (F_orders_by_looks n) (F_whole n) (F_least_looks n) (F_most_looks n) (F_least_shape n) (F_most_shape n) (F_heap_count n) (F_shape_count n) (F_shape_looks n) (F_shape_choices n) (F_shape_heaps n))
def b_q_taken : Slots → Co Fl :=
  (sq (ifs (tst (b2 gtD (b2 ixD (sl 0) (kk (.int 3))) (kk (.int 0)))) (sq (asg (b2 modD (cB intD (ac (b2 ixD (sl 0) (kk (.int 3))) ac0)) (sl 1)) (tN 2))
    (sq (asg (b2 fdivD (b2 ixD (sl 0) (kk (.int 3))) (sl 1)) (tSub (sl 0) (kk (.int 3))))
    (sq (ret (b1 frZ (sl 2)))
    skp))) skp)
    (sq (asg (b2 addD (b2 ixD (sl 0) (kk (.int 1))) (kk (.int 1))) (tSub (sl 0) (kk (.int 1))))
    (sq (ifs (tst (b2 gtD (b2 ixD (sl 0) (kk (.int 1))) (cB lenD (ac (b2 ixD (sl 0) (kk (.int 0))) ac0)))) (sq (asg (b2 modD (cB intD (ac (b2 addD (b2 mulD (b2 ixD (sl 0) (kk (.int 2))) (kk (.int 48271))) (kk (.int 11))) ac0)) (kk (.int 2147483647))) (tSub (sl 0) (kk (.int 2))))
    (sq (ret (b2 modD (cB intD (ac (b2 fdivD (b2 ixD (sl 0) (kk (.int 2))) (kk (.int 7))) ac0)) (sl 1)))
    skp)) skp)
    (sq (asg (b2 ixD (b2 ixD (sl 0) (kk (.int 0))) (b2 subD (b2 ixD (sl 0) (kk (.int 1))) (kk (.int 1)))) (tN 3))
    (sq (asg (b2 modD (cB intD (ac (b2 addD (b2 addD (b2 mulD (b2 ixD (sl 0) (kk (.int 2))) (kk (.int 48271))) (sl 3)) (kk (.int 11))) ac0)) (kk (.int 2147483647))) (tSub (sl 0) (kk (.int 2))))
    (sq (ifs (tst (b2 geD (sl 3) (b2 powD (kk (.int 10)) (kk (.int 18))))) (sq (asg (b2 fdivD (sl 3) (sl 1)) (tSub (sl 0) (kk (.int 3))))
    skp) skp)
    (sq (ret (b2 modD (cB intD (ac (sl 3) ac0)) (sl 1)))
    skp)))))))
def F_q_taken : Nat → List Dv → Co Dv
  | 0 => fun _ => fl
  | n + 1 => defF 4 2 (b_q_taken )
def law_s0 (c_q_refused : List Dv → Co Dv) (c_q_written : List Dv → Co Dv) (c_q_taken : List Dv → Co Dv) : Slots → Co Fl :=
  (asg (lstR (ac (sl 0) (ac (kk (.int 0)) (ac (kk (.int 14516)) (ac (kk (.int 0)) ac0))))) (tN 1))
def law_s1 (c_q_refused : List Dv → Co Dv) (c_q_written : List Dv → Co Dv) (c_q_taken : List Dv → Co Dv) : Slots → Co Fl :=
  (ret (andV (cB (pureC c_q_written) (ac (cB (trimC c_q_taken) (ac (sl 1) (ac (kk (.int 9)) ac0))) ac0)) (cB (pureC c_q_refused) ac0)))
def b_law (c_q_refused : List Dv → Co Dv) (c_q_written : List Dv → Co Dv) (c_q_taken : List Dv → Co Dv) : Slots → Co Fl :=
  (sq (law_s0 c_q_refused c_q_written c_q_taken) (sq (law_s1 c_q_refused c_q_written c_q_taken) skp))
def F_law : Nat → List Dv → Co Dv
  | 0 => fun _ => fl
  | n + 1 => defF 2 1 (fun ρ => nox (b_law (F_q_refused n) (F_q_written n) (F_q_taken n) ρ))
abbrev q_refused_21 (n : Nat) : Slots → Co Fl := q_refused_s21 (F_renamings n) (F_without_last n) (F_put n) (F_join n) (F_shape_at n) (F_shape_index n) (F_places n) (F_mean_looks n) (F_orders_by_looks n) (F_whole n) (F_least_looks n) (F_most_looks n) (F_least_shape n) (F_most_shape n) (F_heap_count n) (F_shape_count n) (F_shape_looks n) (F_shape_choices n) (F_shape_heaps n)
abbrev q_refused_20 (n : Nat) : Slots → Co Fl := q_refused_s20 (F_renamings n) (F_without_last n) (F_put n) (F_join n) (F_shape_at n) (F_shape_index n) (F_places n) (F_mean_looks n) (F_orders_by_looks n) (F_whole n) (F_least_looks n) (F_most_looks n) (F_least_shape n) (F_most_shape n) (F_heap_count n) (F_shape_count n) (F_shape_looks n) (F_shape_choices n) (F_shape_heaps n)
abbrev q_refused_19 (n : Nat) : Slots → Co Fl := q_refused_s19 (F_renamings n) (F_without_last n) (F_put n) (F_join n) (F_shape_at n) (F_shape_index n) (F_places n) (F_mean_looks n) (F_orders_by_looks n) (F_whole n) (F_least_looks n) (F_most_looks n) (F_least_shape n) (F_most_shape n) (F_heap_count n) (F_shape_count n) (F_shape_looks n) (F_shape_choices n) (F_shape_heaps n)
abbrev q_refused_18 (n : Nat) : Slots → Co Fl := q_refused_s18 (F_renamings n) (F_without_last n) (F_put n) (F_join n) (F_shape_at n) (F_shape_index n) (F_places n) (F_mean_looks n) (F_orders_by_looks n) (F_whole n) (F_least_looks n) (F_most_looks n) (F_least_shape n) (F_most_shape n) (F_heap_count n) (F_shape_count n) (F_shape_looks n) (F_shape_choices n) (F_shape_heaps n)
abbrev q_refused_17 (n : Nat) : Slots → Co Fl := q_refused_s17 (F_renamings n) (F_without_last n) (F_put n) (F_join n) (F_shape_at n) (F_shape_index n) (F_places n) (F_mean_looks n) (F_orders_by_looks n) (F_whole n) (F_least_looks n) (F_most_looks n) (F_least_shape n) (F_most_shape n) (F_heap_count n) (F_shape_count n) (F_shape_looks n) (F_shape_choices n) (F_shape_heaps n)
abbrev q_refused_16 (n : Nat) : Slots → Co Fl := q_refused_s16 (F_renamings n) (F_without_last n) (F_put n) (F_join n) (F_shape_at n) (F_shape_index n) (F_places n) (F_mean_looks n) (F_orders_by_looks n) (F_whole n) (F_least_looks n) (F_most_looks n) (F_least_shape n) (F_most_shape n) (F_heap_count n) (F_shape_count n) (F_shape_looks n) (F_shape_choices n) (F_shape_heaps n)
abbrev q_refused_15 (n : Nat) : Slots → Co Fl := q_refused_s15 (F_renamings n) (F_without_last n) (F_put n) (F_join n) (F_shape_at n) (F_shape_index n) (F_places n) (F_mean_looks n) (F_orders_by_looks n) (F_whole n) (F_least_looks n) (F_most_looks n) (F_least_shape n) (F_most_shape n) (F_heap_count n) (F_shape_count n) (F_shape_looks n) (F_shape_choices n) (F_shape_heaps n)
abbrev q_refused_14 (n : Nat) : Slots → Co Fl := q_refused_s14 (F_renamings n) (F_without_last n) (F_put n) (F_join n) (F_shape_at n) (F_shape_index n) (F_places n) (F_mean_looks n) (F_orders_by_looks n) (F_whole n) (F_least_looks n) (F_most_looks n) (F_least_shape n) (F_most_shape n) (F_heap_count n) (F_shape_count n) (F_shape_looks n) (F_shape_choices n) (F_shape_heaps n)
abbrev q_refused_13 (n : Nat) : Slots → Co Fl := q_refused_s13 (F_renamings n) (F_without_last n) (F_put n) (F_join n) (F_shape_at n) (F_shape_index n) (F_places n) (F_mean_looks n) (F_orders_by_looks n) (F_whole n) (F_least_looks n) (F_most_looks n) (F_least_shape n) (F_most_shape n) (F_heap_count n) (F_shape_count n) (F_shape_looks n) (F_shape_choices n) (F_shape_heaps n)
abbrev q_refused_12 (n : Nat) : Slots → Co Fl := q_refused_s12 (F_renamings n) (F_without_last n) (F_put n) (F_join n) (F_shape_at n) (F_shape_index n) (F_places n) (F_mean_looks n) (F_orders_by_looks n) (F_whole n) (F_least_looks n) (F_most_looks n) (F_least_shape n) (F_most_shape n) (F_heap_count n) (F_shape_count n) (F_shape_looks n) (F_shape_choices n) (F_shape_heaps n)
abbrev q_refused_11 (n : Nat) : Slots → Co Fl := q_refused_s11 (F_renamings n) (F_without_last n) (F_put n) (F_join n) (F_shape_at n) (F_shape_index n) (F_places n) (F_mean_looks n) (F_orders_by_looks n) (F_whole n) (F_least_looks n) (F_most_looks n) (F_least_shape n) (F_most_shape n) (F_heap_count n) (F_shape_count n) (F_shape_looks n) (F_shape_choices n) (F_shape_heaps n)
abbrev q_refused_10 (n : Nat) : Slots → Co Fl := q_refused_s10 (F_renamings n) (F_without_last n) (F_put n) (F_join n) (F_shape_at n) (F_shape_index n) (F_places n) (F_mean_looks n) (F_orders_by_looks n) (F_whole n) (F_least_looks n) (F_most_looks n) (F_least_shape n) (F_most_shape n) (F_heap_count n) (F_shape_count n) (F_shape_looks n) (F_shape_choices n) (F_shape_heaps n)
abbrev q_refused_9 (n : Nat) : Slots → Co Fl := q_refused_s9 (F_renamings n) (F_without_last n) (F_put n) (F_join n) (F_shape_at n) (F_shape_index n) (F_places n) (F_mean_looks n) (F_orders_by_looks n) (F_whole n) (F_least_looks n) (F_most_looks n) (F_least_shape n) (F_most_shape n) (F_heap_count n) (F_shape_count n) (F_shape_looks n) (F_shape_choices n) (F_shape_heaps n)
abbrev q_refused_8 (n : Nat) : Slots → Co Fl := q_refused_s8 (F_renamings n) (F_without_last n) (F_put n) (F_join n) (F_shape_at n) (F_shape_index n) (F_places n) (F_mean_looks n) (F_orders_by_looks n) (F_whole n) (F_least_looks n) (F_most_looks n) (F_least_shape n) (F_most_shape n) (F_heap_count n) (F_shape_count n) (F_shape_looks n) (F_shape_choices n) (F_shape_heaps n)
abbrev q_refused_7 (n : Nat) : Slots → Co Fl := q_refused_s7 (F_renamings n) (F_without_last n) (F_put n) (F_join n) (F_shape_at n) (F_shape_index n) (F_places n) (F_mean_looks n) (F_orders_by_looks n) (F_whole n) (F_least_looks n) (F_most_looks n) (F_least_shape n) (F_most_shape n) (F_heap_count n) (F_shape_count n) (F_shape_looks n) (F_shape_choices n) (F_shape_heaps n)
abbrev q_refused_6 (n : Nat) : Slots → Co Fl := q_refused_s6 (F_renamings n) (F_without_last n) (F_put n) (F_join n) (F_shape_at n) (F_shape_index n) (F_places n) (F_mean_looks n) (F_orders_by_looks n) (F_whole n) (F_least_looks n) (F_most_looks n) (F_least_shape n) (F_most_shape n) (F_heap_count n) (F_shape_count n) (F_shape_looks n) (F_shape_choices n) (F_shape_heaps n)
abbrev q_refused_5 (n : Nat) : Slots → Co Fl := q_refused_s5 (F_renamings n) (F_without_last n) (F_put n) (F_join n) (F_shape_at n) (F_shape_index n) (F_places n) (F_mean_looks n) (F_orders_by_looks n) (F_whole n) (F_least_looks n) (F_most_looks n) (F_least_shape n) (F_most_shape n) (F_heap_count n) (F_shape_count n) (F_shape_looks n) (F_shape_choices n) (F_shape_heaps n)
abbrev q_refused_4 (n : Nat) : Slots → Co Fl := q_refused_s4 (F_renamings n) (F_without_last n) (F_put n) (F_join n) (F_shape_at n) (F_shape_index n) (F_places n) (F_mean_looks n) (F_orders_by_looks n) (F_whole n) (F_least_looks n) (F_most_looks n) (F_least_shape n) (F_most_shape n) (F_heap_count n) (F_shape_count n) (F_shape_looks n) (F_shape_choices n) (F_shape_heaps n)
abbrev q_refused_3 (n : Nat) : Slots → Co Fl := q_refused_s3 (F_renamings n) (F_without_last n) (F_put n) (F_join n) (F_shape_at n) (F_shape_index n) (F_places n) (F_mean_looks n) (F_orders_by_looks n) (F_whole n) (F_least_looks n) (F_most_looks n) (F_least_shape n) (F_most_shape n) (F_heap_count n) (F_shape_count n) (F_shape_looks n) (F_shape_choices n) (F_shape_heaps n)
abbrev q_refused_2 (n : Nat) : Slots → Co Fl := q_refused_s2 (F_renamings n) (F_without_last n) (F_put n) (F_join n) (F_shape_at n) (F_shape_index n) (F_places n) (F_mean_looks n) (F_orders_by_looks n) (F_whole n) (F_least_looks n) (F_most_looks n) (F_least_shape n) (F_most_shape n) (F_heap_count n) (F_shape_count n) (F_shape_looks n) (F_shape_choices n) (F_shape_heaps n)
abbrev q_refused_1 (n : Nat) : Slots → Co Fl := q_refused_s1 (F_renamings n) (F_without_last n) (F_put n) (F_join n) (F_shape_at n) (F_shape_index n) (F_places n) (F_mean_looks n) (F_orders_by_looks n) (F_whole n) (F_least_looks n) (F_most_looks n) (F_least_shape n) (F_most_shape n) (F_heap_count n) (F_shape_count n) (F_shape_looks n) (F_shape_choices n) (F_shape_heaps n)
abbrev q_refused_0 (n : Nat) : Slots → Co Fl := q_refused_s0 (F_renamings n) (F_without_last n) (F_put n) (F_join n) (F_shape_at n) (F_shape_index n) (F_places n) (F_mean_looks n) (F_orders_by_looks n) (F_whole n) (F_least_looks n) (F_most_looks n) (F_least_shape n) (F_most_shape n) (F_heap_count n) (F_shape_count n) (F_shape_looks n) (F_shape_choices n) (F_shape_heaps n)
theorem F_q_refused_eq (n : Nat) : F_q_refused (n + 3) = defF 5 0 (sq (q_refused_0 n) (sq (q_refused_1 n) (sq (q_refused_2 n) (sq (q_refused_3 n) (sq (q_refused_4 n) (sq (q_refused_5 n) (sq (q_refused_6 n) (sq (q_refused_7 n) (sq (q_refused_8 n) (sq (q_refused_9 n) (sq (q_refused_10 n) (sq (q_refused_11 n) (sq (q_refused_12 n) (sq (q_refused_13 n) (sq (q_refused_14 n) (sq (q_refused_15 n) (sq (q_refused_16 n) (sq (q_refused_17 n) (sq (q_refused_18 n) (sq (q_refused_19 n) (sq (q_refused_20 n) (sq (q_refused_21 n) skp)))))))))))))))))))))) := rfl
abbrev lw1 (n : Nat) : Slots → Co Fl := law_s1 (F_q_refused n) (F_q_written n) (F_q_taken n)
abbrev lw0 (n : Nat) : Slots → Co Fl := law_s0 (F_q_refused n) (F_q_written n) (F_q_taken n)
theorem F_law_eq (n : Nat) : F_law (n + 1) = defF 2 1 (fun ρ => nox ((sq (lw0 n) (sq (lw1 n) skp)) ρ)) := rfl
abbrev s_is_in : Stmt := top 12
abbrev s_need_number : Stmt := top 29
abbrev s_parted : Stmt := top 30
abbrev s_counts_to : Stmt := top 31
abbrev s_shape_count : Stmt := top 32
abbrev s_heap_count : Stmt := top 40
abbrev s_numbered : Stmt := top 33
abbrev s_shape_at : Stmt := top 34
abbrev s_has_form_shapes : Stmt := top 23
abbrev s_many_of : Stmt := top 25
abbrev s_is_turned_shape : Stmt := top 26
abbrev s_need_shape : Stmt := top 27
abbrev s_index_of : Stmt := top 35
abbrev s_shape_index : Stmt := top 36
abbrev s_sizes : Stmt := top 37
abbrev s_heaps_of : Stmt := top 38
abbrev s_shape_heaps : Stmt := top 39
abbrev s_stepped : Stmt := top 41
abbrev s_choices_of : Stmt := top 42
abbrev s_shape_choices : Stmt := top 43
abbrev s_most_looks : Stmt := top 50
abbrev s_least_looks : Stmt := top 51
abbrev s_sides : Stmt := top 55
abbrev s_spread_of : Stmt := top 56
abbrev s_orders_by_looks : Stmt := top 57
abbrev s_mean_looks : Stmt := top 58
abbrev s_looks_of : Stmt := top 48
abbrev s_shape_looks : Stmt := top 49
abbrev s_whole : Stmt := top 44
abbrev s_even : Stmt := top 52
abbrev s_most_shape : Stmt := top 53
abbrev s_least_shape : Stmt := top 54
abbrev s_q_written : Stmt := top 82
abbrev s_places : Stmt := top 28
abbrev s_is_key : Stmt := top 13
abbrev s_has_form_heaps : Stmt := top 14
abbrev s_key_list : Stmt := top 16
abbrev s_is_heap : Stmt := top 17
abbrev s_need_heap : Stmt := top 18
abbrev s_need_both : Stmt := top 61
abbrev s_join : Stmt := top 62
abbrev s_can_put : Stmt := top 63
abbrev s_put : Stmt := top 64
abbrev s_need_some : Stmt := top 19
abbrev s_without_last : Stmt := top 71
abbrev s_need_order : Stmt := top 65
abbrev s_renamings : Stmt := top 76
abbrev s_q_refused : Stmt := top 81
abbrev s_q_taken : Stmt := top 78
abbrev s_law : Stmt := top 83
def d0_is_in : He.DefD := ⟨("is_in", none), "is_in", "is_in", defArgs s_is_in, defBody s_is_in, defScope s_is_in, [], []⟩
def d0_need_number : He.DefD := ⟨("need_number", none), "need_number", "need_number", defArgs s_need_number, defBody s_need_number, defScope s_need_number, [], []⟩
def d0_parted : He.DefD := ⟨("parted", none), "parted", "parted", defArgs s_parted, defBody s_parted, defScope s_parted, [], []⟩
def d0_counts_to : He.DefD := ⟨("counts_to", none), "counts_to", "counts_to", defArgs s_counts_to, defBody s_counts_to, defScope s_counts_to, [], []⟩
def d0_shape_count : He.DefD := ⟨("shape_count", none), "shape_count", "shape_count", defArgs s_shape_count, defBody s_shape_count, defScope s_shape_count, [], []⟩
def d0_heap_count : He.DefD := ⟨("heap_count", none), "heap_count", "heap_count", defArgs s_heap_count, defBody s_heap_count, defScope s_heap_count, [], []⟩
def d0_numbered : He.DefD := ⟨("numbered", none), "numbered", "numbered", defArgs s_numbered, defBody s_numbered, defScope s_numbered, [], []⟩
def d0_shape_at : He.DefD := ⟨("shape_at", none), "shape_at", "shape_at", defArgs s_shape_at, defBody s_shape_at, defScope s_shape_at, [], []⟩
def d0_has_form_shapes : He.DefD := ⟨("has_form_shapes", none), "has_form", "has_form", defArgs s_has_form_shapes, defBody s_has_form_shapes, defScope s_has_form_shapes, [], []⟩
def d0_many_of : He.DefD := ⟨("many_of", none), "many_of", "many_of", defArgs s_many_of, defBody s_many_of, defScope s_many_of, [], []⟩
def d0_is_turned_shape : He.DefD := ⟨("is_turned_shape", none), "is_turned_shape", "is_turned_shape", defArgs s_is_turned_shape, defBody s_is_turned_shape, defScope s_is_turned_shape, [], []⟩
def d0_need_shape : He.DefD := ⟨("need_shape", none), "need_shape", "need_shape", defArgs s_need_shape, defBody s_need_shape, defScope s_need_shape, [], []⟩
def d0_index_of : He.DefD := ⟨("index_of", none), "index_of", "index_of", defArgs s_index_of, defBody s_index_of, defScope s_index_of, [], []⟩
def d0_shape_index : He.DefD := ⟨("shape_index", none), "shape_index", "shape_index", defArgs s_shape_index, defBody s_shape_index, defScope s_shape_index, [], []⟩
def d0_sizes : He.DefD := ⟨("sizes", none), "sizes", "sizes", defArgs s_sizes, defBody s_sizes, defScope s_sizes, [], []⟩
def d0_heaps_of : He.DefD := ⟨("heaps_of", none), "heaps_of", "heaps_of", defArgs s_heaps_of, defBody s_heaps_of, defScope s_heaps_of, [], []⟩
def d0_shape_heaps : He.DefD := ⟨("shape_heaps", none), "shape_heaps", "shape_heaps", defArgs s_shape_heaps, defBody s_shape_heaps, defScope s_shape_heaps, [], []⟩
def d0_stepped : He.DefD := ⟨("stepped", none), "stepped", "stepped", defArgs s_stepped, defBody s_stepped, defScope s_stepped, [], []⟩
def d0_choices_of : He.DefD := ⟨("choices_of", none), "choices_of", "choices_of", defArgs s_choices_of, defBody s_choices_of, defScope s_choices_of, [], []⟩
def d0_shape_choices : He.DefD := ⟨("shape_choices", none), "shape_choices", "shape_choices", defArgs s_shape_choices, defBody s_shape_choices, defScope s_shape_choices, [], []⟩
def d0_most_looks : He.DefD := ⟨("most_looks", none), "most_looks", "most_looks", defArgs s_most_looks, defBody s_most_looks, defScope s_most_looks, [], []⟩
def d0_least_looks : He.DefD := ⟨("least_looks", none), "least_looks", "least_looks", defArgs s_least_looks, defBody s_least_looks, defScope s_least_looks, [], []⟩
def d0_sides : He.DefD := ⟨("sides", none), "sides", "sides", defArgs s_sides, defBody s_sides, defScope s_sides, [], []⟩
def d0_spread_of : He.DefD := ⟨("spread_of", none), "spread_of", "spread_of", defArgs s_spread_of, defBody s_spread_of, defScope s_spread_of, [], []⟩
def d0_orders_by_looks : He.DefD := ⟨("orders_by_looks", none), "orders_by_looks", "orders_by_looks", defArgs s_orders_by_looks, defBody s_orders_by_looks, defScope s_orders_by_looks, [], []⟩
def d0_mean_looks : He.DefD := ⟨("mean_looks", none), "mean_looks", "mean_looks", defArgs s_mean_looks, defBody s_mean_looks, defScope s_mean_looks, [], []⟩
def d0_looks_of : He.DefD := ⟨("looks_of", none), "looks_of", "looks_of", defArgs s_looks_of, defBody s_looks_of, defScope s_looks_of, [], []⟩
def d0_shape_looks : He.DefD := ⟨("shape_looks", none), "shape_looks", "shape_looks", defArgs s_shape_looks, defBody s_shape_looks, defScope s_shape_looks, [], []⟩
def d0_whole : He.DefD := ⟨("whole", none), "whole", "whole", defArgs s_whole, defBody s_whole, defScope s_whole, [], []⟩
def d0_even : He.DefD := ⟨("even", none), "even", "even", defArgs s_even, defBody s_even, defScope s_even, [], []⟩
def d0_most_shape : He.DefD := ⟨("most_shape", none), "most_shape", "most_shape", defArgs s_most_shape, defBody s_most_shape, defScope s_most_shape, [], []⟩
def d0_least_shape : He.DefD := ⟨("least_shape", none), "least_shape", "least_shape", defArgs s_least_shape, defBody s_least_shape, defScope s_least_shape, [], []⟩
def d0_q_written : He.DefD := ⟨("_law_written", none), "_law_written", "_law_written", defArgs s_q_written, defBody s_q_written, defScope s_q_written, [], []⟩
def d0_places : He.DefD := ⟨("places", none), "places", "places", defArgs s_places, defBody s_places, defScope s_places, [], []⟩
def d0_is_key : He.DefD := ⟨("is_key", none), "is_key", "is_key", defArgs s_is_key, defBody s_is_key, defScope s_is_key, [], []⟩
def d0_has_form_heaps : He.DefD := ⟨("has_form_heaps", none), "has_form", "has_form", defArgs s_has_form_heaps, defBody s_has_form_heaps, defScope s_has_form_heaps, [], []⟩
def d0_key_list : He.DefD := ⟨("key_list", none), "key_list", "key_list", defArgs s_key_list, defBody s_key_list, defScope s_key_list, [], []⟩
def d0_is_heap : He.DefD := ⟨("is_heap", none), "is_heap", "is_heap", defArgs s_is_heap, defBody s_is_heap, defScope s_is_heap, [], []⟩
def d0_need_heap : He.DefD := ⟨("need_heap", none), "need_heap", "need_heap", defArgs s_need_heap, defBody s_need_heap, defScope s_need_heap, [], []⟩
def d0_need_both : He.DefD := ⟨("need_both", none), "need_both", "need_both", defArgs s_need_both, defBody s_need_both, defScope s_need_both, [], []⟩
def d0_join : He.DefD := ⟨("join", none), "join", "join", defArgs s_join, defBody s_join, defScope s_join, [], []⟩
def d0_can_put : He.DefD := ⟨("can_put", none), "can_put", "can_put", defArgs s_can_put, defBody s_can_put, defScope s_can_put, [], []⟩
def d0_put : He.DefD := ⟨("put", none), "put", "put", defArgs s_put, defBody s_put, defScope s_put, [], []⟩
def d0_need_some : He.DefD := ⟨("need_some", none), "need_some", "need_some", defArgs s_need_some, defBody s_need_some, defScope s_need_some, [], []⟩
def d0_without_last : He.DefD := ⟨("without_last", none), "without_last", "without_last", defArgs s_without_last, defBody s_without_last, defScope s_without_last, [], []⟩
def d0_need_order : He.DefD := ⟨("need_order", none), "need_order", "need_order", defArgs s_need_order, defBody s_need_order, defScope s_need_order, [], []⟩
def d0_renamings : He.DefD := ⟨("renamings", none), "renamings", "renamings", defArgs s_renamings, defBody s_renamings, defScope s_renamings, [], []⟩
def d0_q_refused : He.DefD := ⟨("_law_refused", none), "_law_refused", "_law_refused", defArgs s_q_refused, defBody s_q_refused, defScope s_q_refused, [], []⟩
def d0_q_taken : He.DefD := ⟨("_law_taken", none), "_law_taken", "_law_taken", defArgs s_q_taken, defBody s_q_taken, defScope s_q_taken, [], []⟩
def d0_law : He.DefD := ⟨("law", none), "law", "law", defArgs s_law, defBody s_law, defScope s_law, [], []⟩
abbrev s_q_told : Stmt := top 80
def d0_q_told : He.DefD := ⟨("_law_told", none), "_law_told", "_law_told", defArgs s_q_told, defBody s_q_told, defScope s_q_told, [], []⟩
def fn : List He.DefD := [d0_is_in, d0_need_number, d0_parted, d0_counts_to, d0_shape_count, d0_heap_count, d0_numbered, d0_shape_at, d0_has_form_shapes, d0_many_of, d0_is_turned_shape, d0_need_shape, d0_index_of, d0_shape_index, d0_sizes, d0_heaps_of, d0_shape_heaps, d0_stepped, d0_choices_of, d0_shape_choices, d0_most_looks, d0_least_looks, d0_sides, d0_spread_of, d0_orders_by_looks, d0_mean_looks, d0_looks_of, d0_shape_looks, d0_whole, d0_even, d0_most_shape, d0_least_shape, d0_q_written, d0_places, d0_is_key, d0_has_form_heaps, d0_key_list, d0_is_heap, d0_need_heap, d0_need_both, d0_join, d0_can_put, d0_put, d0_need_some, d0_without_last, d0_need_order, d0_renamings, d0_q_refused, d0_q_taken, d0_law, d0_q_told]
def fa : List He.Fa := [.free "bool", .free "isinstance", .free "int", .glo "BadNumber", .exc "BadNumber", .free "range", .free "sum", .int "MOST_KEYS" 200, .free "len", .free "tuple", .glo "BadShape", .exc "BadShape", .free "min", .int "MOST_N" 1000000000000000000000000000000, .free "max", .free "sorted", .int "MOST_SPREAD" 40, .int "MOST_WHOLE" 10, .int "MOST_KEY" 1000000, .free "set", .glo "BadHeap", .exc "BadHeap", .glo "BadKey", .exc "BadKey", .glo "BadOrder", .exc "BadOrder", .free "all", .glo "is_in", .glo "need_number", .glo "parted", .glo "counts_to", .glo "shape_count", .glo "heap_count", .glo "numbered", .glo "shape_at", .glo "has_form_shapes", .glo "many_of", .glo "is_turned_shape", .glo "need_shape", .glo "index_of", .glo "shape_index", .glo "sizes", .glo "heaps_of", .glo "shape_heaps", .glo "stepped", .glo "choices_of", .glo "shape_choices", .glo "most_looks", .glo "least_looks", .glo "sides", .glo "spread_of", .glo "orders_by_looks", .glo "mean_looks", .glo "looks_of", .glo "shape_looks", .glo "whole", .glo "even", .glo "most_shape", .glo "least_shape", .glo "_law_written", .glo "places", .glo "is_key", .glo "has_form_heaps", .glo "key_list", .glo "is_heap", .glo "need_heap", .glo "need_both", .glo "join", .glo "can_put", .glo "put", .glo "need_some", .glo "without_last", .glo "need_order", .glo "renamings", .glo "_law_refused", .glo "_law_taken", .glo "law", .glo "HeapError", .glo "_law_told"]
section
variable {P : Program} {w : World} {base : Heap} {G : Gx}
def Nt : List Str := ["_law_work", "e", "_law_some", "_law_words", "_law_word"]
def csT : List Str := ["BadHeap", "BadKey", "BadNumber", "BadOrder", "BadShape"]
theorem sc_q_told : FnScope Nt ["_law_work"] (defScope s_q_told) := ⟨rfl, rfl, rfl, by decide +kernel, rfl, by decide +kernel, by decide +kernel⟩
def f3T : Slots → Co Fl := (sq (asg (lstG (ac (kk (.str "heap")) (ac (kk (.str "key")) (ac (kk (.str "number")) (ac (kk (.str "order")) (ac (kk (.str "shape")) ac0)))))) (tN 3))
    (sq (asg (iff (tst (b2 (eqD false) (mdF ctF (sl 2) (kk (.bool true))) (kk (.int 1)))) (b2 ixD (sl 3) (mdF ixF (sl 2) (kk (.bool true)))) (kk (.str "other"))) (tN 4))
    (sq (ret (b1 frZ (sl 4)))
    skp)))
theorem wd_cases {c : Exn} {y : PyData} (h : wd c = some y) : c.ix = none ∧ ((c.cls = "BadHeap" ∧ y = .str "heap") ∨ (c.cls = "BadKey" ∧ y = .str "key") ∨ (c.cls = "BadNumber" ∧ y = .str "number") ∨ (c.cls = "BadOrder" ∧ y = .str "order") ∨ (c.cls = "BadShape" ∧ y = .str "shape")) := by
  unfold wd at h
  cases e : c.ix with
  | some _ => rw [e] at h; cases h
  | none =>
    rw [e] at h
    refine ⟨rfl, ?_⟩
    simp only [List.lookup] at h
    repeat' split at h
    all_goals first
      | (rename_i q; simp_all)
      | simp_all
theorem ok_q_told (T : Tx fa fn G) (kb : toldB G.K csT "HeapError" = true) : ∃ cdt, ToldD P w base G "_law_told" "_law_work" wd Nt (He.ga G.K "_law_told") (defScope s_q_told) (defBody s_q_told) cdt := by
  obtain ⟨fd, F⟩ := T.says.def_ 50 (d := d0_q_told) rfl
  have bd := F.bindsN (ps := ["_law_work"]) fun _ _ _ _ _ _ us hl => match us, hl with | [_], _ => rfl
  obtain ⟨oc, od, dV, kV, doc, pm, an, cdv, ct, osl, rfl, lk, hcd, _, _⟩ := id F.ex
  refine ⟨cdv, T.glo 78, F.kp, ⟨oc, od, _, dV, kV, doc, pm, ct, an, osl, lk, bd⟩, hcd, sc_q_told, rfl, .inl rfl, fun X hP hw hK hm hb q => ?_⟩
  cases X
  dsimp only at hP hw hK hm hb
  subst hP hw hK hm hb
  have CS : G.mg "HeapError" = some (.ref (He.ga G.K "HeapError")) := T.glo 77
  have glc : ∀ c y, wd c = some y → c.cls ∈ csT ∧ G.mg c.cls = some (.ref (He.ga G.K c.cls)) := fun c y hw => by
    obtain ⟨_, hc⟩ := wd_cases hw
    rcases hc with ⟨e, _⟩ | ⟨e, _⟩ | ⟨e, _⟩ | ⟨e, _⟩ | ⟨e, _⟩
    · rw [e]; exact ⟨by decide, T.glo 20⟩
    · rw [e]; exact ⟨by decide, T.glo 22⟩
    · rw [e]; exact ⟨by decide, T.glo 3⟩
    · rw [e]; exact ⟨by decide, T.glo 24⟩
    · rw [e]; exact ⟨by decide, T.glo 10⟩
  refine gives_try (by rfl) CS (by decide) sc_q_told.nd rfl rfl (by decide) (fun _ => rfl) (fun c y hw => ⟨(wd_cases hw).1, fun C hC => ?_⟩) (fun c y C hw hC s H hr a oe pn hz hf => ?_)
  · obtain ⟨h1, h2⟩ := glc c y hw
    rw [h2] at hC
    cases hC
    exact (toldB_ok kb h1).2.1
  · obtain ⟨h1, h2⟩ := glc c y hw
    rw [h2] at hC
    cases hC
    obtain ⟨F0, _, kq⟩ := toldB_ok kb h1
    have hU := hr.u200
    have hN := sc_q_told.nd
    refine pssI (suite2 (k := 2) (f3 := f3T) rfl hN rfl (by rfl) (pBs1 (pIs F0 hz hf rfl (.inl rfl) rfl (T.free 1) rfl (T.glo 20) (kq "BadHeap" (by decide))) (pBs1 (pIs F0 hz hf rfl (.inl rfl) rfl (T.free 1) rfl (T.glo 22) (kq "BadKey" (by decide))) (pBs1 (pIs F0 hz hf rfl (.inl rfl) rfl (T.free 1) rfl (T.glo 3) (kq "BadNumber" (by decide))) (pBs1 (pIs F0 hz hf rfl (.inl rfl) rfl (T.free 1) rfl (T.glo 24) (kq "BadOrder" (by decide))) pBs0)))) (pBs1 (pIs F0 hz hf rfl (.inl rfl) rfl (T.free 1) rfl (T.glo 10) (kq "BadShape" (by decide))) pBs0) (Nat.le_of_ble_eq_true rfl) (Nat.le_of_ble_eq_true rfl) (xs1 (xset 3 hN (xlstG (xa1 xstr (xa1 xstr (xa1 xstr (xa1 xstr (xa1 xstr xa0)))))))
    (xs1 (xset 4 hN (xif (xtcmp op_eqX (os_eq hU) (xmd hU rfl PySem.F.slot_list_count PySem.F.type_list_count mt_countL (xv 2) xbl) xint) (xix rfl (xv 3) (xmd hU rfl PySem.F.slot_list_index PySem.F.type_list_index mt_indexL (xv 2) xbl)) xstr))
    (xs1 (xret (xfrZ (xv 4)))
    xs0))) (by decide) (by decide) (by rfl) (by rfl)) fun Dn σ H2 z => ?_
    obtain ⟨z1, z2, z3, z4⟩ := z
    refine ⟨z1, z2, z3, ?_⟩
    obtain ⟨_, hc⟩ := wd_cases hw
    rcases hc with ⟨e, rfl⟩ | ⟨e, rfl⟩ | ⟨e, rfl⟩ | ⟨e, rfl⟩ | ⟨e, rfl⟩
    · rw [e]; exact fun ι2 H3 x v rv => z4 v ι2 _ H3 x (by cases rv with | g rv => exact rv)
    · rw [e]; exact fun ι2 H3 x v rv => z4 v ι2 _ H3 x (by cases rv with | g rv => exact rv)
    · rw [e]; exact fun ι2 H3 x v rv => z4 v ι2 _ H3 x (by cases rv with | g rv => exact rv)
    · rw [e]; exact fun ι2 H3 x v rv => z4 v ι2 _ H3 x (by cases rv with | g rv => exact rv)
    · rw [e]; exact fun ι2 H3 x v rv => z4 v ι2 _ H3 x (by cases rv with | g rv => exact rv)

theorem sc_is_in : FnScope ["value", "least", "most"] ["value", "least", "most"] (defScope s_is_in) := ⟨rfl, rfl, rfl, by decide +kernel, rfl, by decide +kernel, by decide +kernel⟩
theorem ok_is_in (T : Tx fa fn G) : ∀ n, Dok P w base CX0 G "is_in" ["value", "least", "most"] n (F_is_in n) :=
  dok_mk rfl (fun _ => rfl) (T.says.def_ 0 (d := d0_is_in) rfl) (T.glo 27) sc_is_in (fun _ _ _ _ _ _ us hl => match us, hl with | [_, _, _], _ => rfl) fun n d0 cdv A outer s H E hr => by
    have hN := sc_is_in.nd
    have hU := hr.u200
    have hu1 := hr.u1
    exact (xs1 (xret (xand (xisi rfl ok_int rfl (T.free 2) (by rfl) (by rfl) (T.free 1) (xv 0)) (xand (xnot (xisi rfl ok_bool rfl (T.free 0) (by rfl) (by rfl) (T.free 1) (xv 0))) (xone (xchain op_le op_le os_le os_le (xv 1) (xv 0) (xv 2))))))
    xs0)

theorem sc_need_number : FnScope ["n", "most"] ["n", "most"] (defScope s_need_number) := ⟨rfl, rfl, rfl, by decide +kernel, rfl, by decide +kernel, by decide +kernel⟩
theorem ok_need_number (T : Tx fa fn G) (d_is_in : ∀ n, Dok P w base CX0 G "is_in" ["value", "least", "most"] n (F_is_in n)) : ∀ n, Dok P w base (L2.CX P w) G "need_number" ["n", "most"] n (F_need_number n) :=
  dokX_mk rfl (fun _ => rfl) (T.says.def_ 1 (d := d0_need_number) rfl) (T.glo 28) sc_need_number (fun _ _ _ _ _ _ us hl => match us, hl with | [_, _], _ => rfl) fun n d0 cdv A outer s H E hr => by
    have hN := sc_need_number.nd
    have hU := hr.u200
    have hu1 := hr.u1
    exact (xs1 (xifs (xtnot (xtru rfl (xcP (d_is_in n) rfl rfl hr px0 (xa1 (xv 0) (xa1 xint (xa1 (xv 1) xa0)))))) (xs1 (xrX (T.ex 3 4) (by rfl))
    xs0) xs0)
    xs0)

theorem sc_parted : FnScope ["n", "left"] ["n"] (defScope s_parted) := ⟨rfl, rfl, rfl, by decide +kernel, rfl, by decide +kernel, by decide +kernel⟩
theorem ok_parted (T : Tx fa fn G) : ∀ n, Dok P w base CX0 G "parted" ["n"] n (F_parted n) :=
  dok_mk rfl (fun _ => rfl) (T.says.def_ 2 (d := d0_parted) rfl) (T.glo 29) sc_parted (fun _ _ _ _ _ _ us hl => match us, hl with | [_], _ => rfl) fun n d0 cdv A outer s H E hr => by
    have hN := sc_parted.nd
    have hU := hr.u200
    have hu1 := hr.u1
    exact (xs1 (xret (xlc (own := [("left", 1)]) rfl hN (xir3 (xa1 (xbin op_sub os_sub (xv 0) xint) (xa1 (xneg xint) (xa1 (xneg xint) xa0))) (by rfl) (T.free 5)) (blk_ok (by rfl)) (tg_n (i := 1) (by decide)) pt_1 (fun _ _ _ _ _ => pg_name (i := 1) hN rfl (Or.inl rfl)) (fun _ _ _ _ _ => pts1 (xpw (xwor (xtcmp op_gt os_gt (xv 1) xint) (xwor1 (xtcmp op_eqX (os_eq hU) (xv 0) xint))))) (fun _ _ _ _ _ => (xtup (xa1 (xv 1) (xa1 (xbin op_sub os_sub (xbin op_sub os_sub (xv 0) xint) (xv 1)) xa0))))))
    xs0)

theorem sc_counts_to : FnScope ["n", "found", "many"] ["n"] (defScope s_counts_to) := ⟨rfl, rfl, rfl, by decide +kernel, rfl, by decide +kernel, by decide +kernel⟩
theorem ok_counts_to (T : Tx fa fn G) (tb : Tb base G "counts_to") (d_parted : ∀ n, Dok P w base CX0 G "parted" ["n"] n (F_parted n)) : ∀ n, Dok P w base CX0 G "counts_to" ["n"] n (F_counts_to n) :=
  dokT_mk rfl rfl (fun _ => rfl) (T.says.def_ 3 (d := d0_counts_to) rfl) (T.glo 30) sc_counts_to (fun _ _ _ _ _ _ us hl => match us, hl with | [_], _ => rfl) fun n d0 A outer s H E hr1 => by
    have hr := hr1.mono (Nat.le_succ n)
    have hN := sc_counts_to.nd
    have hU := hr.u200
    have hu1 := hr.u1
    exact (xs1 (xset 1 hN (xlstR (xa1 xint xa0)))
    (xs1 (xfor .never rfl (xir2 (xa1 xint (xa1 (xbinF op_addX of_add (xv 0) xint) xa0)) (by rfl) (T.free 5)) (xgn 2 hN) (xs1 (xexp (xapp (xv 1) (xsumG (N' := ["left", "right", "found"]) ⟨gx_ok (by rfl), (xis rfl (xcP (d_parted n) rfl rfl hr px0 (xa1 (xv 2) xa0))), fun _ _ _ _ _ _ => (xgt rfl rfl (xgs1 (xgn 0 (show (["left", "right", "found"] : List Str).Nodup by decide +kernel)) (xgs1 (xgn 1 (show (["left", "right", "found"] : List Str).Nodup by decide +kernel)) xgs0))), fun _ _ _ _ _ _ hr2 => (xbin op_mulY os_mul (xix rfl (xv 2) (xv 0)) (xix rfl (xv 2) (xv 1))), fun ρ => bk_2 (by decide) (gρ_own rfl) (gρ_own rfl), fun _ => rfl⟩ hr1 tb.tb tb.mem rfl (by rfl) (T.free 6))))
    xs0))
    (xs1 (xret (xfrZ (xv 1)))
    xs0)))

theorem sc_shape_count : FnScope ["n"] ["n"] (defScope s_shape_count) := ⟨rfl, rfl, rfl, by decide +kernel, rfl, by decide +kernel, by decide +kernel⟩
theorem ok_shape_count (T : Tx fa fn G) (d_counts_to : ∀ n, Dok P w base CX0 G "counts_to" ["n"] n (F_counts_to n)) (d_need_number : ∀ n, Dok P w base (L2.CX P w) G "need_number" ["n", "most"] n (F_need_number n)) : ∀ n, Dok P w base (L2.CX P w) G "shape_count" ["n"] n (F_shape_count n) :=
  dokX_mk rfl (fun _ => rfl) (T.says.def_ 4 (d := d0_shape_count) rfl) (T.glo 31) sc_shape_count (fun _ _ _ _ _ _ us hl => match us, hl with | [_], _ => rfl) fun n d0 cdv A outer s H E hr => by
    have hN := sc_shape_count.nd
    have hU := hr.u200
    have hu1 := hr.u1
    exact (xs1 (xexp (xcP (d_need_number n) rfl rfl hr pxX (xa1 (xv 0) (xa1 (xgint (by rfl) (T.int 7)) xa0))))
    (xs1 (xret (xix rfl (xcP (d_counts_to n) rfl rfl hr px0 (xa1 (xv 0) xa0)) (xv 0)))
    xs0))

theorem sc_heap_count : FnScope ["n", "found", "many"] ["n"] (defScope s_heap_count) := ⟨rfl, rfl, rfl, by decide +kernel, rfl, by decide +kernel, by decide +kernel⟩
theorem ok_heap_count (T : Tx fa fn G) (tb : Tb base G "heap_count") (d_parted : ∀ n, Dok P w base CX0 G "parted" ["n"] n (F_parted n)) (d_need_number : ∀ n, Dok P w base (L2.CX P w) G "need_number" ["n", "most"] n (F_need_number n)) (m_comb : G.mg "comb" = some (.builtin "math.comb")) : ∀ n, Dok P w base (L2.CX P w) G "heap_count" ["n"] n (F_heap_count n) :=
  dokTX_mk rfl rfl (fun _ => rfl) (T.says.def_ 5 (d := d0_heap_count) rfl) (T.glo 32) sc_heap_count (fun _ _ _ _ _ _ us hl => match us, hl with | [_], _ => rfl) fun n d0 A outer s H E hr1 => by
    have hr := hr1.mono (Nat.le_succ n)
    have hN := sc_heap_count.nd
    have hU := hr.u200
    have hu1 := hr.u1
    exact (xs1 (xexp (xcP (d_need_number n) rfl rfl hr pxX (xa1 (xv 0) (xa1 (xgint (by rfl) (T.int 7)) xa0))))
    (xs1 (xset 1 hN (xlstR (xa1 xint xa0)))
    (xs1 (xfor (passes_of rfl) rfl (xir2 (xa1 xint (xa1 (xbinF op_addX of_add (xv 0) xint) xa0)) (by rfl) (T.free 5)) (xgn 2 hN) (xs1 (xexp (xapp (xv 1) (xsumG (N' := ["left", "right", "found", "many"]) ⟨gx_ok (by rfl), (xis rfl (xcP (d_parted n) rfl rfl hr px0 (xa1 (xv 2) xa0))), fun _ _ _ _ _ _ => (xgt rfl rfl (xgs1 (xgn 0 (show (["left", "right", "found", "many"] : List Str).Nodup by decide +kernel)) (xgs1 (xgn 1 (show (["left", "right", "found", "many"] : List Str).Nodup by decide +kernel)) xgs0))), fun _ _ _ _ _ _ hr2 => (xbin op_mulY os_mul (xbin op_mulY os_mul (xcm cr_comb cs_comb (by rfl) m_comb (xa1 (xbin op_sub os_sub (xv 3) xint) (xa1 (xv 0) xa0))) (xix rfl (xv 2) (xv 0))) (xix rfl (xv 2) (xv 1))), fun ρ => bk_2 (by decide) (gρ_own rfl) (gρ_own rfl), fun _ => rfl⟩ hr1 tb.tb tb.mem rfl (by rfl) (T.free 6))))
    xs0))
    (xs1 (xret (xix rfl (xv 1) (xv 0)))
    xs0))))

theorem sc_numbered : FnScope ["n", "index", "counts", "left", "right", "many"] ["n", "index", "counts"] (defScope s_numbered) := ⟨rfl, rfl, rfl, by decide +kernel, rfl, by decide +kernel, by decide +kernel⟩
theorem ok_numbered (T : Tx fa fn G) (d_parted : ∀ n, Dok P w base CX0 G "parted" ["n"] n (F_parted n)) : ∀ n, Dok P w base CX0 G "numbered" ["n", "index", "counts"] n (F_numbered n) :=
  dok_mk rfl (fun _ => rfl) (T.says.def_ 6 (d := d0_numbered) rfl) (T.glo 33) sc_numbered (fun _ _ _ _ _ _ us hl => match us, hl with | [_, _, _], _ => rfl) fun n d0 cdv A outer s H E hr => by
    have hN := sc_numbered.nd
    have d_numbered : ∀ _ : Nat, Dok P w base CX0 G "numbered" ["n", "index", "counts"] n (F_numbered n) := fun _ => d0
    have hU := hr.u200
    have hu1 := hr.u1
    exact (xs1 (xifs (xtcmp op_eqX (os_eq hU) (xv 0) xint) (xs1 (xret xnon)
    xs0) xs0)
    (xs1 (xfor .never rfl (xis rfl (xcP (d_parted n) rfl rfl hr px0 (xa1 (xv 0) xa0))) (xgt rfl rfl (xgs1 (xgn 3 hN) (xgs1 (xgn 4 hN) xgs0))) (xs1 (xset 5 hN (xbin op_mulY os_mul (xix rfl (xv 2) (xv 3)) (xix rfl (xv 2) (xv 4))))
    (xs1 (xifs (xtcmp op_lt os_lt (xv 1) (xv 5)) (xs1 xbrk
    xs0) xs0)
    (xs1 (xset 1 hN (xbin op_sub os_sub (xv 1) (xv 5)))
    xs0))))
    (xs1 (xret (xtup (xa1 (xcP (d_numbered n) rfl rfl hr px0 (xa1 (xv 3) (xa1 (xbin op_fdivW os_fdiv (xv 1) (xix rfl (xv 2) (xv 4))) (xa1 (xv 2) xa0)))) (xa1 (xcP (d_numbered n) rfl rfl hr px0 (xa1 (xv 4) (xa1 (xbin op_mod os_mod (xv 1) (xix rfl (xv 2) (xv 4))) (xa1 (xv 2) xa0)))) xa0))))
    xs0)))

theorem sc_shape_at : FnScope ["n", "index", "counts"] ["n", "index"] (defScope s_shape_at) := ⟨rfl, rfl, rfl, by decide +kernel, rfl, by decide +kernel, by decide +kernel⟩
theorem ok_shape_at (T : Tx fa fn G) (d_numbered : ∀ n, Dok P w base CX0 G "numbered" ["n", "index", "counts"] n (F_numbered n)) (d_need_number : ∀ n, Dok P w base (L2.CX P w) G "need_number" ["n", "most"] n (F_need_number n)) (d_counts_to : ∀ n, Dok P w base CX0 G "counts_to" ["n"] n (F_counts_to n)) : ∀ n, Dok P w base (L2.CX P w) G "shape_at" ["n", "index"] n (F_shape_at n) :=
  dokX_mk rfl (fun _ => rfl) (T.says.def_ 7 (d := d0_shape_at) rfl) (T.glo 34) sc_shape_at (fun _ _ _ _ _ _ us hl => match us, hl with | [_, _], _ => rfl) fun n d0 cdv A outer s H E hr => by
    have hN := sc_shape_at.nd
    have hU := hr.u200
    have hu1 := hr.u1
    exact (xs1 (xexp (xcP (d_need_number n) rfl rfl hr pxX (xa1 (xv 0) (xa1 (xgint (by rfl) (T.int 7)) xa0))))
    (xs1 (xset 2 hN (xcP (d_counts_to n) rfl rfl hr px0 (xa1 (xv 0) xa0)))
    (xs1 (xexp (xcP (d_need_number n) rfl rfl hr pxX (xa1 (xv 1) (xa1 (xbin op_sub os_sub (xix rfl (xv 2) (xv 0)) xint) xa0))))
    (xs1 (xret (xcP (d_numbered n) rfl rfl hr px0 (xa1 (xv 0) (xa1 (xv 1) (xa1 (xv 2) xa0)))))
    xs0))))

theorem sc_has_form_shapes : FnScope ["value", "deep"] ["value", "deep"] (defScope s_has_form_shapes) := ⟨rfl, rfl, rfl, by decide +kernel, rfl, by decide +kernel, by decide +kernel⟩
theorem ok_has_form_shapes (T : Tx fa fn G) : ∀ n, Dok P w base CX0 G "has_form_shapes" ["value", "deep"] n (F_has_form_shapes n) :=
  dok_mk rfl (fun _ => rfl) (T.says.def_ 8 (d := d0_has_form_shapes) rfl) (T.glo 35) sc_has_form_shapes (fun _ _ _ _ _ _ us hl => match us, hl with | [_, _], _ => rfl) fun n d0 cdv A outer s H E hr => by
    have hN := sc_has_form_shapes.nd
    have d_has_form_shapes : ∀ _ : Nat, Dok P w base CX0 G "has_form_shapes" ["value", "deep"] n (F_has_form_shapes n) := fun _ => d0
    have hU := hr.u200
    have hu1 := hr.u1
    exact (xs1 (xifs (xtisN (xv 0)) (xs1 (xret xbl)
    xs0) xs0)
    (xs1 (xifs (xpw (xwor (xtcmp op_eqX (os_eq hU) (xv 1) xint) (xwor (xtnot (xtru rfl (xisi rfl ok_tuple rfl (T.free 9) (by rfl) (by rfl) (T.free 1) (xv 0)))) (xwor (xtcmp op_neX (os_eq hU) (xcb cr_lenX cs_len (by rfl) (T.free 8) rfl (xa1 (xv 0) xa0)) xint) (xwor1 (xpw (xwand (xtisN (xix rfl (xv 0) xint)) (xwand1 (xtnotN (xix rfl (xv 0) xint)))))))))) (xs1 (xret xbl)
    xs0) xs0)
    (xs1 (xret (xand (xcP (d_has_form_shapes n) rfl rfl hr px0 (xa1 (xix rfl (xv 0) xint) (xa1 (xbin op_sub os_sub (xv 1) xint) xa0))) (xone (xcP (d_has_form_shapes n) rfl rfl hr px0 (xa1 (xix rfl (xv 0) xint) (xa1 (xbin op_sub os_sub (xv 1) xint) xa0))))))
    xs0)))

theorem sc_many_of : FnScope ["shape"] ["shape"] (defScope s_many_of) := ⟨rfl, rfl, rfl, by decide +kernel, rfl, by decide +kernel, by decide +kernel⟩
theorem ok_many_of (T : Tx fa fn G) : ∀ n, Dok P w base CX0 G "many_of" ["shape"] n (F_many_of n) :=
  dok_mk rfl (fun _ => rfl) (T.says.def_ 9 (d := d0_many_of) rfl) (T.glo 36) sc_many_of (fun _ _ _ _ _ _ us hl => match us, hl with | [_], _ => rfl) fun n d0 cdv A outer s H E hr => by
    have hN := sc_many_of.nd
    have d_many_of : ∀ _ : Nat, Dok P w base CX0 G "many_of" ["shape"] n (F_many_of n) := fun _ => d0
    have hU := hr.u200
    have hu1 := hr.u1
    exact (xs1 (xret (xif (xtisN (xv 0)) xint (xbinF op_addX of_add (xbinF op_addX of_add xint (xcP (d_many_of n) rfl rfl hr px0 (xa1 (xix rfl (xv 0) xint) xa0))) (xcP (d_many_of n) rfl rfl hr px0 (xa1 (xix rfl (xv 0) xint) xa0)))))
    xs0)

theorem sc_is_turned_shape : FnScope ["value"] ["value"] (defScope s_is_turned_shape) := ⟨rfl, rfl, rfl, by decide +kernel, rfl, by decide +kernel, by decide +kernel⟩
theorem ok_is_turned_shape (T : Tx fa fn G) (d_many_of : ∀ n, Dok P w base CX0 G "many_of" ["shape"] n (F_many_of n)) (d_has_form_shapes : ∀ n, Dok P w base CX0 G "has_form_shapes" ["value", "deep"] n (F_has_form_shapes n)) : ∀ n, Dok P w base CX0 G "is_turned_shape" ["value"] n (F_is_turned_shape n) :=
  dok_mk rfl (fun _ => rfl) (T.says.def_ 10 (d := d0_is_turned_shape) rfl) (T.glo 37) sc_is_turned_shape (fun _ _ _ _ _ _ us hl => match us, hl with | [_], _ => rfl) fun n d0 cdv A outer s H E hr => by
    have hN := sc_is_turned_shape.nd
    have hU := hr.u200
    have hu1 := hr.u1
    exact (xs1 (xret (xand (xcP (d_has_form_shapes n) rfl rfl hr px0 (xa1 (xv 0) (xa1 (xgint (by rfl) (T.int 7)) xa0))) (xone (xcmp op_le os_le (xcP (d_many_of n) rfl rfl hr px0 (xa1 (xv 0) xa0)) (xgint (by rfl) (T.int 7))))))
    xs0)

theorem sc_need_shape : FnScope ["shape"] ["shape"] (defScope s_need_shape) := ⟨rfl, rfl, rfl, by decide +kernel, rfl, by decide +kernel, by decide +kernel⟩
theorem ok_need_shape (T : Tx fa fn G) (d_is_turned_shape : ∀ n, Dok P w base CX0 G "is_turned_shape" ["value"] n (F_is_turned_shape n)) : ∀ n, Dok P w base (L2.CX P w) G "need_shape" ["shape"] n (F_need_shape n) :=
  dokX_mk rfl (fun _ => rfl) (T.says.def_ 11 (d := d0_need_shape) rfl) (T.glo 38) sc_need_shape (fun _ _ _ _ _ _ us hl => match us, hl with | [_], _ => rfl) fun n d0 cdv A outer s H E hr => by
    have hN := sc_need_shape.nd
    have hU := hr.u200
    have hu1 := hr.u1
    exact (xs1 (xifs (xtnot (xtru rfl (xcP (d_is_turned_shape n) rfl rfl hr px0 (xa1 (xv 0) xa0)))) (xs1 (xrX (T.ex 10 11) (by rfl))
    xs0) xs0)
    xs0)

theorem sc_index_of : FnScope ["shape", "counts", "own", "found", "left", "right"] ["shape", "counts"] (defScope s_index_of) := ⟨rfl, rfl, rfl, by decide +kernel, rfl, by decide +kernel, by decide +kernel⟩
theorem ok_index_of (T : Tx fa fn G) (d_parted : ∀ n, Dok P w base CX0 G "parted" ["n"] n (F_parted n)) (d_many_of : ∀ n, Dok P w base CX0 G "many_of" ["shape"] n (F_many_of n)) : ∀ n, Dok P w base CX0 G "index_of" ["shape", "counts"] n (F_index_of n) :=
  dok_mk rfl (fun _ => rfl) (T.says.def_ 12 (d := d0_index_of) rfl) (T.glo 39) sc_index_of (fun _ _ _ _ _ _ us hl => match us, hl with | [_, _], _ => rfl) fun n d0 cdv A outer s H E hr => by
    have hN := sc_index_of.nd
    have d_index_of : ∀ _ : Nat, Dok P w base CX0 G "index_of" ["shape", "counts"] n (F_index_of n) := fun _ => d0
    have hU := hr.u200
    have hu1 := hr.u1
    exact (xs1 (xifs (xtisN (xv 0)) (xs1 (xret xint)
    xs0) xs0)
    (xs1 (xpar (i := 2) (j := 3) rfl hN (xa1 (xtup (xa1 (xcP (d_many_of n) rfl rfl hr px0 (xa1 (xix rfl (xv 0) xint) xa0)) (xa1 (xcP (d_many_of n) rfl rfl hr px0 (xa1 (xix rfl (xv 0) xint) xa0)) xa0))) (xa1 xint xa0)))
    (xs1 (xfor .never rfl (xis rfl (xcP (d_parted n) rfl rfl hr px0 (xa1 (xcP (d_many_of n) rfl rfl hr px0 (xa1 (xv 0) xa0)) xa0))) (xgt rfl rfl (xgs1 (xgn 4 hN) (xgs1 (xgn 5 hN) xgs0))) (xs1 (xifs (xtcmp op_eqX (os_eq hU) (xtup (xa1 (xv 4) (xa1 (xv 5) xa0))) (xv 2)) (xs1 xbrk
    xs0) xs0)
    (xs1 (xset 3 hN (xbinF op_addX of_add (xv 3) (xbin op_mulY os_mul (xix rfl (xv 1) (xv 4)) (xix rfl (xv 1) (xv 5)))))
    xs0)))
    (xs1 (xret (xbinF op_addX of_add (xbinF op_addX of_add (xv 3) (xbin op_mulY os_mul (xcP (d_index_of n) rfl rfl hr px0 (xa1 (xix rfl (xv 0) xint) (xa1 (xv 1) xa0))) (xix rfl (xv 1) (xix rfl (xv 2) xint)))) (xcP (d_index_of n) rfl rfl hr px0 (xa1 (xix rfl (xv 0) xint) (xa1 (xv 1) xa0)))))
    xs0))))

theorem sc_shape_index : FnScope ["shape"] ["shape"] (defScope s_shape_index) := ⟨rfl, rfl, rfl, by decide +kernel, rfl, by decide +kernel, by decide +kernel⟩
theorem ok_shape_index (T : Tx fa fn G) (d_index_of : ∀ n, Dok P w base CX0 G "index_of" ["shape", "counts"] n (F_index_of n)) (d_counts_to : ∀ n, Dok P w base CX0 G "counts_to" ["n"] n (F_counts_to n)) (d_many_of : ∀ n, Dok P w base CX0 G "many_of" ["shape"] n (F_many_of n)) (d_need_shape : ∀ n, Dok P w base (L2.CX P w) G "need_shape" ["shape"] n (F_need_shape n)) : ∀ n, Dok P w base (L2.CX P w) G "shape_index" ["shape"] n (F_shape_index n) :=
  dokX_mk rfl (fun _ => rfl) (T.says.def_ 13 (d := d0_shape_index) rfl) (T.glo 40) sc_shape_index (fun _ _ _ _ _ _ us hl => match us, hl with | [_], _ => rfl) fun n d0 cdv A outer s H E hr => by
    have hN := sc_shape_index.nd
    have hU := hr.u200
    have hu1 := hr.u1
    exact (xs1 (xexp (xcP (d_need_shape n) rfl rfl hr pxX (xa1 (xv 0) xa0)))
    (xs1 (xret (xcP (d_index_of n) rfl rfl hr px0 (xa1 (xv 0) (xa1 (xcP (d_counts_to n) rfl rfl hr px0 (xa1 (xcP (d_many_of n) rfl rfl hr px0 (xa1 (xv 0) xa0)) xa0)) xa0))))
    xs0))

theorem sc_sizes : FnScope ["shape"] ["shape"] (defScope s_sizes) := ⟨rfl, rfl, rfl, by decide +kernel, rfl, by decide +kernel, by decide +kernel⟩
theorem ok_sizes (T : Tx fa fn G) (d_many_of : ∀ n, Dok P w base CX0 G "many_of" ["shape"] n (F_many_of n)) : ∀ n, Dok P w base CX0 G "sizes" ["shape"] n (F_sizes n) :=
  dok_mk rfl (fun _ => rfl) (T.says.def_ 14 (d := d0_sizes) rfl) (T.glo 41) sc_sizes (fun _ _ _ _ _ _ us hl => match us, hl with | [_], _ => rfl) fun n d0 cdv A outer s H E hr => by
    have hN := sc_sizes.nd
    have d_sizes : ∀ _ : Nat, Dok P w base CX0 G "sizes" ["shape"] n (F_sizes n) := fun _ => d0
    have hU := hr.u200
    have hu1 := hr.u1
    exact (xs1 (xret (xif (xtisN (xv 0)) xint (xbin op_mulY os_mul (xbin op_mulY os_mul (xcP (d_many_of n) rfl rfl hr px0 (xa1 (xv 0) xa0)) (xcP (d_sizes n) rfl rfl hr px0 (xa1 (xix rfl (xv 0) xint) xa0))) (xcP (d_sizes n) rfl rfl hr px0 (xa1 (xix rfl (xv 0) xint) xa0)))))
    xs0)

theorem sc_heaps_of : FnScope ["shape"] ["shape"] (defScope s_heaps_of) := ⟨rfl, rfl, rfl, by decide +kernel, rfl, by decide +kernel, by decide +kernel⟩
theorem ok_heaps_of (T : Tx fa fn G) (d_many_of : ∀ n, Dok P w base CX0 G "many_of" ["shape"] n (F_many_of n)) (d_sizes : ∀ n, Dok P w base CX0 G "sizes" ["shape"] n (F_sizes n)) (m_factorial : G.mg "factorial" = some (.builtin "math.factorial")) : ∀ n, Dok P w base CX0 G "heaps_of" ["shape"] n (F_heaps_of n) :=
  dok_mk rfl (fun _ => rfl) (T.says.def_ 15 (d := d0_heaps_of) rfl) (T.glo 42) sc_heaps_of (fun _ _ _ _ _ _ us hl => match us, hl with | [_], _ => rfl) fun n d0 cdv A outer s H E hr => by
    have hN := sc_heaps_of.nd
    have hU := hr.u200
    have hu1 := hr.u1
    exact (xs1 (xret (xbin op_fdivW os_fdiv (xcm cr_fact cs_fact (by rfl) m_factorial (xa1 (xcP (d_many_of n) rfl rfl hr px0 (xa1 (xv 0) xa0)) xa0)) (xcP (d_sizes n) rfl rfl hr px0 (xa1 (xv 0) xa0))))
    xs0)

theorem sc_shape_heaps : FnScope ["shape"] ["shape"] (defScope s_shape_heaps) := ⟨rfl, rfl, rfl, by decide +kernel, rfl, by decide +kernel, by decide +kernel⟩
theorem ok_shape_heaps (T : Tx fa fn G) (d_heaps_of : ∀ n, Dok P w base CX0 G "heaps_of" ["shape"] n (F_heaps_of n)) (d_need_shape : ∀ n, Dok P w base (L2.CX P w) G "need_shape" ["shape"] n (F_need_shape n)) : ∀ n, Dok P w base (L2.CX P w) G "shape_heaps" ["shape"] n (F_shape_heaps n) :=
  dokX_mk rfl (fun _ => rfl) (T.says.def_ 16 (d := d0_shape_heaps) rfl) (T.glo 43) sc_shape_heaps (fun _ _ _ _ _ _ us hl => match us, hl with | [_], _ => rfl) fun n d0 cdv A outer s H E hr => by
    have hN := sc_shape_heaps.nd
    have hU := hr.u200
    have hu1 := hr.u1
    exact (xs1 (xexp (xcP (d_need_shape n) rfl rfl hr pxX (xa1 (xv 0) xa0)))
    (xs1 (xret (xcP (d_heaps_of n) rfl rfl hr px0 (xa1 (xv 0) xa0)))
    xs0))

theorem sc_stepped : FnScope ["shape", "rest", "is_two"] ["shape"] (defScope s_stepped) := ⟨rfl, rfl, rfl, by decide +kernel, rfl, by decide +kernel, by decide +kernel⟩
theorem ok_stepped (T : Tx fa fn G) : ∀ n, Dok P w base CX0 G "stepped" ["shape"] n (F_stepped n) :=
  dok_mk rfl (fun _ => rfl) (T.says.def_ 17 (d := d0_stepped) rfl) (T.glo 44) sc_stepped (fun _ _ _ _ _ _ us hl => match us, hl with | [_], _ => rfl) fun n d0 cdv A outer s H E hr => by
    have hN := sc_stepped.nd
    have d_stepped : ∀ _ : Nat, Dok P w base CX0 G "stepped" ["shape"] n (F_stepped n) := fun _ => d0
    have hU := hr.u200
    have hu1 := hr.u1
    exact (xs1 (xifs (xtnotN (xix rfl (xv 0) xint)) (xs1 (xasg (xcP (d_stepped n) rfl rfl hr px0 (xa1 (xix rfl (xv 0) xint) xa0)) (xgt rfl rfl (xgs1 (xgn 1 hN) (xgs1 (xgn 2 hN) xgs0))))
    (xs1 (xret (xtup (xa1 (xtup (xa1 (xix rfl (xv 0) xint) (xa1 (xv 1) xa0))) (xa1 (xv 2) xa0))))
    xs0)) xs0)
    (xs1 (xret (xtup (xa1 (xix rfl (xv 0) xint) (xa1 (xcmp op_eqX (os_eq hU) (xix rfl (xv 0) xint) (xtup (xa1 xnon (xa1 xnon xa0)))) xa0))))
    xs0))

theorem sc_choices_of : FnScope ["shape", "found", "is_two"] ["shape"] (defScope s_choices_of) := ⟨rfl, rfl, rfl, by decide +kernel, rfl, by decide +kernel, by decide +kernel⟩
theorem ok_choices_of (T : Tx fa fn G) (d_stepped : ∀ n, Dok P w base CX0 G "stepped" ["shape"] n (F_stepped n)) : ∀ n, Dok P w base CX0 G "choices_of" ["shape"] n (F_choices_of n) :=
  dok_mk rfl (fun _ => rfl) (T.says.def_ 18 (d := d0_choices_of) rfl) (T.glo 45) sc_choices_of (fun _ _ _ _ _ _ us hl => match us, hl with | [_], _ => rfl) fun n d0 cdv A outer s H E hr => by
    have hN := sc_choices_of.nd
    have hU := hr.u200
    have hu1 := hr.u1
    exact (xs1 (xset 1 hN xint)
    (xs1 (xwhl 1000 .never (xtnotN (xv 0)) (xs1 (xasg (xcP (d_stepped n) rfl rfl hr px0 (xa1 (xv 0) xa0)) (xgt rfl rfl (xgs1 (xgn 0 hN) (xgs1 (xgn 2 hN) xgs0))))
    (xs1 (xset 1 hN (xbinF op_addX of_add (xv 1) (xif (xtru rfl (xv 2)) xint xint)))
    xs0)))
    (xs1 (xret (xfrZ (xv 1)))
    xs0)))

theorem sc_shape_choices : FnScope ["shape"] ["shape"] (defScope s_shape_choices) := ⟨rfl, rfl, rfl, by decide +kernel, rfl, by decide +kernel, by decide +kernel⟩
theorem ok_shape_choices (T : Tx fa fn G) (d_choices_of : ∀ n, Dok P w base CX0 G "choices_of" ["shape"] n (F_choices_of n)) (d_need_shape : ∀ n, Dok P w base (L2.CX P w) G "need_shape" ["shape"] n (F_need_shape n)) : ∀ n, Dok P w base (L2.CX P w) G "shape_choices" ["shape"] n (F_shape_choices n) :=
  dokX_mk rfl (fun _ => rfl) (T.says.def_ 19 (d := d0_shape_choices) rfl) (T.glo 46) sc_shape_choices (fun _ _ _ _ _ _ us hl => match us, hl with | [_], _ => rfl) fun n d0 cdv A outer s H E hr => by
    have hN := sc_shape_choices.nd
    have hU := hr.u200
    have hu1 := hr.u1
    exact (xs1 (xexp (xcP (d_need_shape n) rfl rfl hr pxX (xa1 (xv 0) xa0)))
    (xs1 (xret (xcP (d_choices_of n) rfl rfl hr px0 (xa1 (xv 0) xa0)))
    xs0))

theorem sc_most_looks : FnScope ["n", "found", "power", "first"] ["n"] (defScope s_most_looks) := ⟨rfl, rfl, rfl, by decide +kernel, rfl, by decide +kernel, by decide +kernel⟩
theorem ok_most_looks (T : Tx fa fn G) (d_need_number : ∀ n, Dok P w base (L2.CX P w) G "need_number" ["n", "most"] n (F_need_number n)) : ∀ n, Dok P w base (L2.CX P w) G "most_looks" ["n"] n (F_most_looks n) :=
  dokX_mk rfl (fun _ => rfl) (T.says.def_ 20 (d := d0_most_looks) rfl) (T.glo 47) sc_most_looks (fun _ _ _ _ _ _ us hl => match us, hl with | [_], _ => rfl) fun n d0 cdv A outer s H E hr => by
    have hN := sc_most_looks.nd
    have hU := hr.u200
    have hu1 := hr.u1
    exact (xs1 (xexp (xcP (d_need_number n) rfl rfl hr pxX (xa1 (xv 0) (xa1 (xgint (by rfl) (T.int 13)) xa0))))
    (xs1 (xasg (xtup (xa1 xint (xa1 xint (xa1 xint xa0)))) (xgt rfl rfl (xgs1 (xgn 1 hN) (xgs1 (xgn 2 hN) (xgs1 (xgn 3 hN) xgs0)))))
    (xs1 (xwhl 1000 (passes_of rfl) (xtcmp op_le os_le (xv 3) (xv 0)) (xs1 (xset 1 hN (xbinF op_addX of_add (xv 1) (xbin op_mulY os_mul (xv 2) (xbinF op_addX of_add (xbin op_sub os_sub (xcb (call_min2 rfl) cs_min2 (by rfl) (T.free 12) rfl (xa1 (xv 0) (xa1 (xbin op_sub os_sub (xbin op_mulY os_mul xint (xv 3)) xint) xa0))) (xv 3)) xint))))
    (xs1 (xpar (i := 2) (j := 3) rfl hN (xa1 (xbinF op_addX of_add (xv 2) xint) (xa1 (xbin op_mulY os_mul xint (xv 3)) xa0)))
    xs0)))
    (xs1 (xret (xfrZ (xv 1)))
    xs0))))

theorem sc_least_looks : FnScope ["n"] ["n"] (defScope s_least_looks) := ⟨rfl, rfl, rfl, by decide +kernel, rfl, by decide +kernel, by decide +kernel⟩
theorem ok_least_looks (T : Tx fa fn G) (d_need_number : ∀ n, Dok P w base (L2.CX P w) G "need_number" ["n", "most"] n (F_need_number n)) : ∀ n, Dok P w base (L2.CX P w) G "least_looks" ["n"] n (F_least_looks n) :=
  dokX_mk rfl (fun _ => rfl) (T.says.def_ 21 (d := d0_least_looks) rfl) (T.glo 48) sc_least_looks (fun _ _ _ _ _ _ us hl => match us, hl with | [_], _ => rfl) fun n d0 cdv A outer s H E hr => by
    have hN := sc_least_looks.nd
    have hU := hr.u200
    have hu1 := hr.u1
    exact (xs1 (xexp (xcP (d_need_number n) rfl rfl hr pxX (xa1 (xv 0) (xa1 (xgint (by rfl) (T.int 13)) xa0))))
    (xs1 (xret (xcb (call_max2 rfl) cs_max2 (by rfl) (T.free 14) rfl (xa1 (xbin op_sub os_sub (xv 0) xint) (xa1 xint xa0))))
    xs0))

theorem sc_sides : FnScope ["ahead", "behind", "half"] ["ahead", "behind"] (defScope s_sides) := ⟨rfl, rfl, rfl, by decide +kernel, rfl, by decide +kernel, by decide +kernel⟩
theorem ok_sides (T : Tx fa fn G) : ∀ n, Dok P w base CX0 G "sides" ["ahead", "behind"] n (F_sides n) :=
  dok_mk rfl (fun _ => rfl) (T.says.def_ 22 (d := d0_sides) rfl) (T.glo 49) sc_sides (fun _ _ _ _ _ _ us hl => match us, hl with | [_, _], _ => rfl) fun n d0 cdv A outer s H E hr => by
    have hN := sc_sides.nd
    have hU := hr.u200
    have hu1 := hr.u1
    exact (xs1 (xset 2 hN (xbin op_fdivW os_fdiv (xv 1) xint))
    (xs1 (xret (xif (xtcmp op_eqX (os_eq hU) (xbin op_mod os_mod (xv 1) xint) xint) (xtup (xa1 (xbinF op_addX of_add (xv 0) (xv 2)) (xa1 (xv 2) xa0))) (xtup (xa1 (xbinF op_addX of_add (xv 2) xint) (xa1 (xbinF op_addX of_add (xv 0) (xv 2)) xa0)))))
    xs0))

theorem sc_spread_of : FnScope ["n", "found", "sums", "ahead", "behind", "own", "left", "right", "ways", "one", "many", "other", "more", "looks"] ["n", "found"] (defScope s_spread_of) := ⟨rfl, rfl, rfl, by decide +kernel, rfl, by decide +kernel, by decide +kernel⟩
theorem ok_spread_of (T : Tx fa fn G) (d_sides : ∀ n, Dok P w base CX0 G "sides" ["ahead", "behind"] n (F_sides n)) (m_comb : G.mg "comb" = some (.builtin "math.comb")) : ∀ n, Dok P w base CX0 G "spread_of" ["n", "found"] n (F_spread_of n) :=
  dok_mk rfl (fun _ => rfl) (T.says.def_ 23 (d := d0_spread_of) rfl) (T.glo 50) sc_spread_of (fun _ _ _ _ _ _ us hl => match us, hl with | [_, _], _ => rfl) fun n d0 cdv A outer s H E hr => by
    have hN := sc_spread_of.nd
    have hU := hr.u200
    have hu1 := hr.u1
    exact (xs1 (xifs (xtcmp op_eqX (os_eq hU) (xv 0) xint) (xs1 (xret (xfrZ (xd1 xint xint)))
    xs0) xs0)
    (xs1 (xset 2 hN xd0)
    (xs1 (xfor .never rfl (xir1 (xa1 (xv 0) xa0) (by rfl) (T.free 5)) (xgn 3 hN) (xs1 (xset 4 hN (xbin op_sub os_sub (xbin op_sub os_sub (xv 0) xint) (xv 3)))
    (xs1 (xset 5 hN (xbinF op_addX of_add (xv 4) (xif (xtru rfl (xv 3)) xint xint)))
    (xs1 (xasg (xcP (d_sides n) rfl rfl hr px0 (xa1 (xv 3) (xa1 (xv 4) xa0))) (xgt rfl rfl (xgs1 (xgn 6 hN) (xgs1 (xgn 7 hN) xgs0))))
    (xs1 (xset 8 hN (xcm cr_comb cs_comb (by rfl) m_comb (xa1 (xbin op_sub os_sub (xv 0) xint) (xa1 (xv 6) xa0))))
    (xs1 (xfor .never rfl (xid (xix rfl (xv 1) (xv 6))) (xgt rfl rfl (xgs1 (xgn 9 hN) (xgs1 (xgn 10 hN) xgs0))) (xs1 (xfor .never rfl (xid (xix rfl (xv 1) (xv 7))) (xgt rfl rfl (xgs1 (xgn 11 hN) (xgs1 (xgn 12 hN) xgs0))) (xs1 (xset 13 hN (xbinF op_addX of_add (xbinF op_addX of_add (xv 5) (xv 9)) (xv 11)))
    (xs1 (xasg (xbinF op_addX of_add (xget hu1 (xv 2) (xv 13) xint) (xbin op_mulY os_mul (xbin op_mulY os_mul (xv 8) (xv 10)) (xv 12))) (xgsub hu1 (xv 2) (xv 13)))
    xs0)))
    xs0))
    xs0))))))
    (xs1 (xret (xfrZ (xv 2)))
    xs0))))

theorem sc_orders_by_looks : FnScope ["n", "found", "many"] ["n"] (defScope s_orders_by_looks) := ⟨rfl, rfl, rfl, by decide +kernel, rfl, by decide +kernel, by decide +kernel⟩
theorem ok_orders_by_looks (T : Tx fa fn G) (d_spread_of : ∀ n, Dok P w base CX0 G "spread_of" ["n", "found"] n (F_spread_of n)) (d_need_number : ∀ n, Dok P w base (L2.CX P w) G "need_number" ["n", "most"] n (F_need_number n)) : ∀ n, Dok P w base (L2.CX P w) G "orders_by_looks" ["n"] n (F_orders_by_looks n) :=
  dokX_mk rfl (fun _ => rfl) (T.says.def_ 24 (d := d0_orders_by_looks) rfl) (T.glo 51) sc_orders_by_looks (fun _ _ _ _ _ _ us hl => match us, hl with | [_], _ => rfl) fun n d0 cdv A outer s H E hr => by
    have hN := sc_orders_by_looks.nd
    have hU := hr.u200
    have hu1 := hr.u1
    exact (xs1 (xexp (xcP (d_need_number n) rfl rfl hr pxX (xa1 (xv 0) (xa1 (xgint (by rfl) (T.int 16)) xa0))))
    (xs1 (xset 1 hN (xlstR xa0))
    (xs1 (xfor (passes_of rfl) rfl (xir1 (xa1 (xbinF op_addX of_add (xv 0) xint) xa0) (by rfl) (T.free 5)) (xgn 2 hN) (xs1 (xexp (xapp (xv 1) (xcT (d_spread_of n) rfl rfl hr px0 (xa1 (xv 2) (xa1 (xv 1) xa0)))))
    xs0))
    (xs1 (xret (xct call_tuple_of cs_tup (by rfl) (T.free 9) rfl (xa1 (xsit rfl (by rfl) (T.free 15) (xix rfl (xv 1) (xv 0))) xa0)))
    xs0))))

theorem sc_mean_looks : FnScope ["n", "means", "many", "top", "bottom", "ahead", "behind", "some", "one", "other", "common", "size"] ["n"] (defScope s_mean_looks) := ⟨rfl, rfl, rfl, by decide +kernel, rfl, by decide +kernel, by decide +kernel⟩
theorem ok_mean_looks (T : Tx fa fn G) (d_sides : ∀ n, Dok P w base CX0 G "sides" ["ahead", "behind"] n (F_sides n)) (d_need_number : ∀ n, Dok P w base (L2.CX P w) G "need_number" ["n", "most"] n (F_need_number n)) (m_gcd : G.mg "gcd" = some (.builtin "math.gcd")) : ∀ n, Dok P w base (L2.CX P w) G "mean_looks" ["n"] n (F_mean_looks n) :=
  dokX_mk rfl (fun _ => rfl) (T.says.def_ 25 (d := d0_mean_looks) rfl) (T.glo 52) sc_mean_looks (fun _ _ _ _ _ _ us hl => match us, hl with | [_], _ => rfl) fun n d0 cdv A outer s H E hr => by
    have hN := sc_mean_looks.nd
    have hU := hr.u200
    have hu1 := hr.u1
    exact (xs1 (xexp (xcP (d_need_number n) rfl rfl hr pxX (xa1 (xv 0) (xa1 (xgint (by rfl) (T.int 16)) xa0))))
    (xs1 (xset 1 hN (xlstR (xa1 (xtup (xa1 xint (xa1 xint xa0))) xa0)))
    (xs1 (xfor (passes_of rfl) rfl (xir2 (xa1 xint (xa1 (xbinF op_addX of_add (xv 0) xint) xa0)) (by rfl) (T.free 5)) (xgn 2 hN) (xs1 (xasg (xtup (xa1 xint (xa1 xint xa0))) (xgt rfl rfl (xgs1 (xgn 3 hN) (xgs1 (xgn 4 hN) xgs0))))
    (xs1 (xfor (passes_of rfl) rfl (xir1 (xa1 (xv 2) xa0) (by rfl) (T.free 5)) (xgn 5 hN) (xs1 (xset 6 hN (xbin op_sub os_sub (xbin op_sub os_sub (xv 2) xint) (xv 5)))
    (xs1 (xset 7 hN (xbinF op_addX of_add (xlc (own := [("size", 11)]) rfl hN (xis rfl (xcP (d_sides n) rfl rfl hr px0 (xa1 (xv 5) (xa1 (xv 6) xa0)))) (blk_ok (by rfl)) (tg_n (i := 11) (by decide)) pt_0 (fun _ _ _ _ _ => pg_name (i := 11) hN rfl (Or.inl rfl)) (fun _ _ _ _ _ => pts_nil) (fun _ _ _ _ _ => (xix rfl (xv 1) (xv 11)))) (xlstG (xa1 (xtup (xa1 (xbinF op_addX of_add (xv 6) (xif (xtru rfl (xv 5)) xint xint)) (xa1 xint xa0))) xa0))))
    (xs1 (xfor (passes_of rfl) rfl (xis rfl (xv 7)) (xgt rfl rfl (xgs1 (xgn 8 hN) (xgs1 (xgn 9 hN) xgs0))) (xs1 (xpar (i := 3) (j := 4) rfl hN (xa1 (xbinF op_addX of_add (xbin op_mulY os_mul (xv 3) (xv 9)) (xbin op_mulY os_mul (xv 8) (xv 4))) (xa1 (xbin op_mulY os_mul (xv 4) (xv 9)) xa0)))
    (xs1 (xset 10 hN (xcm cr_gcd cs_gcd (by rfl) m_gcd (xa1 (xv 3) (xa1 (xv 4) xa0))))
    (xs1 (xpar (i := 3) (j := 4) rfl hN (xa1 (xbin op_fdivW os_fdiv (xv 3) (xv 10)) (xa1 (xbin op_fdivW os_fdiv (xv 4) (xv 10)) xa0)))
    xs0))))
    xs0))))
    (xs1 (xset 10 hN (xcm cr_gcd cs_gcd (by rfl) m_gcd (xa1 (xv 3) (xa1 (xbin op_mulY os_mul (xv 4) (xv 2)) xa0))))
    (xs1 (xexp (xapp (xv 1) (xtup (xa1 (xbin op_fdivW os_fdiv (xv 3) (xv 10)) (xa1 (xbin op_fdivW os_fdiv (xbin op_mulY os_mul (xv 4) (xv 2)) (xv 10)) xa0)))))
    xs0)))))
    (xs1 (xret (xix rfl (xv 1) (xv 0)))
    xs0))))

theorem sc_looks_of : FnScope ["shape", "left", "right"] ["shape"] (defScope s_looks_of) := ⟨rfl, rfl, rfl, by decide +kernel, rfl, by decide +kernel, by decide +kernel⟩
theorem ok_looks_of (T : Tx fa fn G) (d_many_of : ∀ n, Dok P w base CX0 G "many_of" ["shape"] n (F_many_of n)) : ∀ n, Dok P w base CX0 G "looks_of" ["shape"] n (F_looks_of n) :=
  dok_mk rfl (fun _ => rfl) (T.says.def_ 26 (d := d0_looks_of) rfl) (T.glo 53) sc_looks_of (fun _ _ _ _ _ _ us hl => match us, hl with | [_], _ => rfl) fun n d0 cdv A outer s H E hr => by
    have hN := sc_looks_of.nd
    have d_looks_of : ∀ _ : Nat, Dok P w base CX0 G "looks_of" ["shape"] n (F_looks_of n) := fun _ => d0
    have hU := hr.u200
    have hu1 := hr.u1
    exact (xs1 (xifs (xtisN (xv 0)) (xs1 (xret xint)
    xs0) xs0)
    (xs1 (xpar (i := 1) (j := 2) rfl hN (xa1 (xcP (d_many_of n) rfl rfl hr px0 (xa1 (xix rfl (xv 0) xint) xa0)) (xa1 (xcP (d_many_of n) rfl rfl hr px0 (xa1 (xix rfl (xv 0) xint) xa0)) xa0)))
    (xs1 (xret (xbinF op_addX of_add (xbinF op_addX of_add (xcb (call_min2 rfl) cs_min2 (by rfl) (T.free 12) rfl (xa1 (xbin op_mulY os_mul xint (xv 1)) (xa1 (xbinF op_addX of_add (xbin op_mulY os_mul xint (xv 2)) xint) xa0))) (xcP (d_looks_of n) rfl rfl hr px0 (xa1 (xix rfl (xv 0) xint) xa0))) (xcP (d_looks_of n) rfl rfl hr px0 (xa1 (xix rfl (xv 0) xint) xa0))))
    xs0)))

theorem sc_shape_looks : FnScope ["shape"] ["shape"] (defScope s_shape_looks) := ⟨rfl, rfl, rfl, by decide +kernel, rfl, by decide +kernel, by decide +kernel⟩
theorem ok_shape_looks (T : Tx fa fn G) (d_looks_of : ∀ n, Dok P w base CX0 G "looks_of" ["shape"] n (F_looks_of n)) (d_need_shape : ∀ n, Dok P w base (L2.CX P w) G "need_shape" ["shape"] n (F_need_shape n)) : ∀ n, Dok P w base (L2.CX P w) G "shape_looks" ["shape"] n (F_shape_looks n) :=
  dokX_mk rfl (fun _ => rfl) (T.says.def_ 27 (d := d0_shape_looks) rfl) (T.glo 54) sc_shape_looks (fun _ _ _ _ _ _ us hl => match us, hl with | [_], _ => rfl) fun n d0 cdv A outer s H E hr => by
    have hN := sc_shape_looks.nd
    have hU := hr.u200
    have hu1 := hr.u1
    exact (xs1 (xexp (xcP (d_need_shape n) rfl rfl hr pxX (xa1 (xv 0) xa0)))
    (xs1 (xret (xcP (d_looks_of n) rfl rfl hr px0 (xa1 (xv 0) xa0)))
    xs0))

theorem sc_whole : FnScope ["n", "counts", "some", "index"] ["n"] (defScope s_whole) := ⟨rfl, rfl, rfl, by decide +kernel, rfl, by decide +kernel, by decide +kernel⟩
theorem ok_whole (T : Tx fa fn G) (tb : Tb base G "whole") (d_heaps_of : ∀ n, Dok P w base CX0 G "heaps_of" ["shape"] n (F_heaps_of n)) (d_choices_of : ∀ n, Dok P w base CX0 G "choices_of" ["shape"] n (F_choices_of n)) (d_numbered : ∀ n, Dok P w base CX0 G "numbered" ["n", "index", "counts"] n (F_numbered n)) (d_counts_to : ∀ n, Dok P w base CX0 G "counts_to" ["n"] n (F_counts_to n)) (d_need_number : ∀ n, Dok P w base (L2.CX P w) G "need_number" ["n", "most"] n (F_need_number n)) : ∀ n, Dok P w base (L2.CX P w) G "whole" ["n"] n (F_whole n) :=
  dokTX_mk rfl rfl (fun _ => rfl) (T.says.def_ 28 (d := d0_whole) rfl) (T.glo 55) sc_whole (fun _ _ _ _ _ _ us hl => match us, hl with | [_], _ => rfl) fun n d0 A outer s H E hr1 => by
    have hr := hr1.mono (Nat.le_succ n)
    have hN := sc_whole.nd
    have hU := hr.u200
    have hu1 := hr.u1
    exact (xs1 (xexp (xcP (d_need_number n) rfl rfl hr pxX (xa1 (xv 0) (xa1 (xgint (by rfl) (T.int 17)) xa0))))
    (xs1 (xset 1 hN (xcP (d_counts_to n) rfl rfl hr px0 (xa1 (xv 0) xa0)))
    (xs1 (xsetlc (own := [("index", 3)]) rfl hN rfl rfl (sw_true rfl rfl rfl (by decide +kernel)) (xir1 (xa1 (xix rfl (xv 1) (xv 0)) xa0) (by rfl) (T.free 5)) (blk_ok (by rfl)) (tg_n (i := 3) (by decide)) pt_0 (fun _ _ _ _ _ => pg_name (i := 3) hN rfl (Or.inl rfl)) (fun _ _ _ _ _ => pts_nil) (fun _ _ _ _ _ => (xcP (d_numbered n) rfl rfl hr px0 (xa1 (xv 0) (xa1 (xv 3) (xa1 (xv 1) xa0))))))
    (xs1 (xret (xsumG (N' := ["one"]) ⟨gx_ok (by rfl), (xis rfl (xv 2)), fun _ _ _ _ _ _ => (xgn 0 (show (["one"] : List Str).Nodup by decide +kernel)), fun _ _ _ _ _ _ hr2 => (xbin op_shl os_shl (xcP (d_heaps_of n) rfl rfl hr2 px0 (xa1 (xv 0) xa0)) (xcP (d_choices_of n) rfl rfl hr2 px0 (xa1 (xv 0) xa0))), fun ρ => bk_n (gρ_own rfl), fun _ => rfl⟩ hr1 tb.tb tb.mem rfl (by rfl) (T.free 6)))
    xs0))))

theorem sc_even : FnScope ["n"] ["n"] (defScope s_even) := ⟨rfl, rfl, rfl, by decide +kernel, rfl, by decide +kernel, by decide +kernel⟩
theorem ok_even (T : Tx fa fn G) : ∀ n, Dok P w base CX0 G "even" ["n"] n (F_even n) :=
  dok_mk rfl (fun _ => rfl) (T.says.def_ 29 (d := d0_even) rfl) (T.glo 56) sc_even (fun _ _ _ _ _ _ us hl => match us, hl with | [_], _ => rfl) fun n d0 cdv A outer s H E hr => by
    have hN := sc_even.nd
    have d_even : ∀ _ : Nat, Dok P w base CX0 G "even" ["n"] n (F_even n) := fun _ => d0
    have hU := hr.u200
    have hu1 := hr.u1
    exact (xs1 (xifs (xtcmp op_eqX (os_eq hU) (xv 0) xint) (xs1 (xret xnon)
    xs0) xs0)
    (xs1 (xret (xtup (xa1 (xcP (d_even n) rfl rfl hr px0 (xa1 (xbin op_fdivW os_fdiv (xv 0) xint) xa0)) (xa1 (xcP (d_even n) rfl rfl hr px0 (xa1 (xbin op_fdivW os_fdiv (xbin op_sub os_sub (xv 0) xint) xint) xa0)) xa0))))
    xs0))

theorem sc_most_shape : FnScope ["n"] ["n"] (defScope s_most_shape) := ⟨rfl, rfl, rfl, by decide +kernel, rfl, by decide +kernel, by decide +kernel⟩
theorem ok_most_shape (T : Tx fa fn G) (d_even : ∀ n, Dok P w base CX0 G "even" ["n"] n (F_even n)) (d_need_number : ∀ n, Dok P w base (L2.CX P w) G "need_number" ["n", "most"] n (F_need_number n)) : ∀ n, Dok P w base (L2.CX P w) G "most_shape" ["n"] n (F_most_shape n) :=
  dokX_mk rfl (fun _ => rfl) (T.says.def_ 30 (d := d0_most_shape) rfl) (T.glo 57) sc_most_shape (fun _ _ _ _ _ _ us hl => match us, hl with | [_], _ => rfl) fun n d0 cdv A outer s H E hr => by
    have hN := sc_most_shape.nd
    have hU := hr.u200
    have hu1 := hr.u1
    exact (xs1 (xexp (xcP (d_need_number n) rfl rfl hr pxX (xa1 (xv 0) (xa1 (xgint (by rfl) (T.int 7)) xa0))))
    (xs1 (xret (xcP (d_even n) rfl rfl hr px0 (xa1 (xv 0) xa0)))
    xs0))

theorem sc_least_shape : FnScope ["n", "found", "turn"] ["n"] (defScope s_least_shape) := ⟨rfl, rfl, rfl, by decide +kernel, rfl, by decide +kernel, by decide +kernel⟩
theorem ok_least_shape (T : Tx fa fn G) (d_need_number : ∀ n, Dok P w base (L2.CX P w) G "need_number" ["n", "most"] n (F_need_number n)) : ∀ n, Dok P w base (L2.CX P w) G "least_shape" ["n"] n (F_least_shape n) :=
  dokX_mk rfl (fun _ => rfl) (T.says.def_ 31 (d := d0_least_shape) rfl) (T.glo 58) sc_least_shape (fun _ _ _ _ _ _ us hl => match us, hl with | [_], _ => rfl) fun n d0 cdv A outer s H E hr => by
    have hN := sc_least_shape.nd
    have hU := hr.u200
    have hu1 := hr.u1
    exact (xs1 (xexp (xcP (d_need_number n) rfl rfl hr pxX (xa1 (xv 0) (xa1 (xgint (by rfl) (T.int 7)) xa0))))
    (xs1 (xset 1 hN xnon)
    (xs1 (xfor (passes_of rfl) rfl (xir1 (xa1 (xv 0) xa0) (by rfl) (T.free 5)) (xgn 2 hN) (xs1 (xset 1 hN (xtup (xa1 (xv 1) (xa1 xnon xa0))))
    xs0))
    (xs1 (xret (xfrZ (xv 1)))
    xs0))))

theorem sc_q_written : FnScope ["_law_at", "_law_leaf", "_law_k"] ["_law_at"] (defScope s_q_written) := ⟨rfl, rfl, rfl, by decide +kernel, rfl, by decide +kernel, by decide +kernel⟩
theorem ok_q_written (T : Tx fa fn G) (d_least_shape : ∀ n, Dok P w base (L2.CX P w) G "least_shape" ["n"] n (F_least_shape n)) (d_most_shape : ∀ n, Dok P w base (L2.CX P w) G "most_shape" ["n"] n (F_most_shape n)) (d_whole : ∀ n, Dok P w base (L2.CX P w) G "whole" ["n"] n (F_whole n)) (d_shape_looks : ∀ n, Dok P w base (L2.CX P w) G "shape_looks" ["shape"] n (F_shape_looks n)) (d_mean_looks : ∀ n, Dok P w base (L2.CX P w) G "mean_looks" ["n"] n (F_mean_looks n)) (d_orders_by_looks : ∀ n, Dok P w base (L2.CX P w) G "orders_by_looks" ["n"] n (F_orders_by_looks n)) (d_least_looks : ∀ n, Dok P w base (L2.CX P w) G "least_looks" ["n"] n (F_least_looks n)) (d_most_looks : ∀ n, Dok P w base (L2.CX P w) G "most_looks" ["n"] n (F_most_looks n)) (d_shape_choices : ∀ n, Dok P w base (L2.CX P w) G "shape_choices" ["shape"] n (F_shape_choices n)) (d_shape_heaps : ∀ n, Dok P w base (L2.CX P w) G "shape_heaps" ["shape"] n (F_shape_heaps n)) (d_shape_index : ∀ n, Dok P w base (L2.CX P w) G "shape_index" ["shape"] n (F_shape_index n)) (d_shape_at : ∀ n, Dok P w base (L2.CX P w) G "shape_at" ["n", "index"] n (F_shape_at n)) (d_heap_count : ∀ n, Dok P w base (L2.CX P w) G "heap_count" ["n"] n (F_heap_count n)) (d_shape_count : ∀ n, Dok P w base (L2.CX P w) G "shape_count" ["n"] n (F_shape_count n)) : ∀ n, Dok P w base (L2.CX P w) G "_law_written" ["_law_at"] n (F_q_written n) :=
  dokX_mk rfl (fun _ => rfl) (T.says.def_ 32 (d := d0_q_written) rfl) (T.glo 59) sc_q_written (fun _ _ _ _ _ _ us hl => match us, hl with | [_], _ => rfl) fun n d0 cdv A outer s H E hr => by
    have hN := sc_q_written.nd
    have hU := hr.u200
    have hu1 := hr.u1
    exact (xs1 (xset 1 hN (xtup (xa1 xnon (xa1 xnon xa0))))
    (xs1 (xifs (xtcmp op_neX (os_eq hU) (xlc (own := [("_law_k", 2)]) rfl hN (xir1 (xa1 xint xa0) (by rfl) (T.free 5)) (blk_ok (by rfl)) (tg_n (i := 2) (by decide)) pt_0 (fun _ _ _ _ _ => pg_name (i := 2) hN rfl (Or.inl rfl)) (fun _ _ _ _ _ => pts_nil) (fun _ _ _ _ _ => (xcP (d_shape_count n) rfl rfl hr pxN (xa1 (xv 2) xa0)))) (xlstG (xa1 xint (xa1 xint (xa1 xint (xa1 xint (xa1 xint (xa1 xint (xa1 xint (xa1 xint (xa1 xint xa0))))))))))) (xs1 (xret xbl)
    xs0) xs0)
    (xs1 (xifs (xtcmp op_neX (os_eq hU) (xlc (own := [("_law_k", 2)]) rfl hN (xir1 (xa1 xint xa0) (by rfl) (T.free 5)) (blk_ok (by rfl)) (tg_n (i := 2) (by decide)) pt_0 (fun _ _ _ _ _ => pg_name (i := 2) hN rfl (Or.inl rfl)) (fun _ _ _ _ _ => pts_nil) (fun _ _ _ _ _ => (xcP (d_heap_count n) rfl rfl hr pxN (xa1 (xv 2) xa0)))) (xlstG (xa1 xint (xa1 xint (xa1 xint (xa1 xint (xa1 xint (xa1 xint (xa1 xint (xa1 xint xa0)))))))))) (xs1 (xret xbl)
    xs0) xs0)
    (xs1 (xifs (xtcmp op_neX (os_eq hU) (xcP (d_shape_at n) rfl rfl hr pxX (xa1 xint (xa1 xint xa0))) (xtup (xa1 (xtup (xa1 (xv 1) (xa1 xnon xa0))) (xa1 xnon xa0)))) (xs1 (xret xbl)
    xs0) xs0)
    (xs1 (xifs (xtcmp op_neX (os_eq hU) (xcP (d_shape_at n) rfl rfl hr pxX (xa1 xint (xa1 xint xa0))) (xtup (xa1 (xv 1) (xa1 (xv 1) xa0)))) (xs1 (xret xbl)
    xs0) xs0)
    (xs1 (xifs (xtcmp op_neX (os_eq hU) (xcP (d_shape_index n) rfl rfl hr pxX (xa1 (xtup (xa1 (xv 1) (xa1 (xv 1) xa0))) xa0)) xint) (xs1 (xret xbl)
    xs0) xs0)
    (xs1 (xifs (xtcmp op_neX (os_eq hU) (xcP (d_shape_heaps n) rfl rfl hr pxX (xa1 (xtup (xa1 (xv 1) (xa1 (xv 1) xa0))) xa0)) xint) (xs1 (xret xbl)
    xs0) xs0)
    (xs1 (xifs (xtcmp op_neX (os_eq hU) (xcP (d_shape_choices n) rfl rfl hr pxX (xa1 (xtup (xa1 (xv 1) (xa1 (xv 1) xa0))) xa0)) xint) (xs1 (xret xbl)
    xs0) xs0)
    (xs1 (xifs (xtcmp op_neX (os_eq hU) (xlc (own := [("_law_k", 2)]) rfl hN (xir1 (xa1 xint xa0) (by rfl) (T.free 5)) (blk_ok (by rfl)) (tg_n (i := 2) (by decide)) pt_0 (fun _ _ _ _ _ => pg_name (i := 2) hN rfl (Or.inl rfl)) (fun _ _ _ _ _ => pts_nil) (fun _ _ _ _ _ => (xcP (d_most_looks n) rfl rfl hr pxN (xa1 (xv 2) xa0)))) (xlstG (xa1 xint (xa1 xint (xa1 xint (xa1 xint (xa1 xint (xa1 xint (xa1 xint (xa1 xint (xa1 xint (xa1 xint (xa1 xint (xa1 xint (xa1 xint xa0))))))))))))))) (xs1 (xret xbl)
    xs0) xs0)
    (xs1 (xifs (xtcmp op_neX (os_eq hU) (xcP (d_most_looks n) rfl rfl hr pxX (xa1 xint xa0)) xint) (xs1 (xret xbl)
    xs0) xs0)
    (xs1 (xifs (xtcmp op_neX (os_eq hU) (xcP (d_least_looks n) rfl rfl hr pxX (xa1 (xv 0) xa0)) (xcb (call_max2 rfl) cs_max2 (by rfl) (T.free 14) rfl (xa1 (xbin op_sub os_sub (xv 0) xint) (xa1 xint xa0)))) (xs1 (xret xbl)
    xs0) xs0)
    (xs1 (xifs (xtcmp op_neX (os_eq hU) (xcP (d_orders_by_looks n) rfl rfl hr pxX (xa1 xint xa0)) (xtup (xa1 (xtup (xa1 xint (xa1 xint xa0))) (xa1 (xtup (xa1 xint (xa1 xint xa0))) xa0)))) (xs1 (xret xbl)
    xs0) xs0)
    (xs1 (xifs (xtcmp op_neX (os_eq hU) (xcP (d_orders_by_looks n) rfl rfl hr pxX (xa1 xint xa0)) (xtup (xa1 (xtup (xa1 xint (xa1 xint xa0))) xa0))) (xs1 (xret xbl)
    xs0) xs0)
    (xs1 (xifs (xtcmp op_neX (os_eq hU) (xcP (d_mean_looks n) rfl rfl hr pxX (xa1 xint xa0)) (xtup (xa1 xint (xa1 xint xa0)))) (xs1 (xret xbl)
    xs0) xs0)
    (xs1 (xifs (xtcmp op_neX (os_eq hU) (xcP (d_mean_looks n) rfl rfl hr pxX (xa1 xint xa0)) (xtup (xa1 xint (xa1 xint xa0)))) (xs1 (xret xbl)
    xs0) xs0)
    (xs1 (xifs (xtcmp op_neX (os_eq hU) (xcP (d_mean_looks n) rfl rfl hr pxX (xa1 xint xa0)) (xtup (xa1 xint (xa1 xint xa0)))) (xs1 (xret xbl)
    xs0) xs0)
    (xs1 (xret (xand (xcmp op_eqX (os_eq hU) (xcP (d_shape_looks n) rfl rfl hr pxX (xa1 (xtup (xa1 (xtup (xa1 (xv 1) (xa1 xnon xa0))) (xa1 (xv 1) xa0))) xa0)) xint) (xand (xcmp op_eqX (os_eq hU) (xcP (d_whole n) rfl rfl hr pxX (xa1 xint xa0)) xint) (xand (xcmp op_eqX (os_eq hU) (xcP (d_whole n) rfl rfl hr pxX (xa1 xint xa0)) xint) (xand (xisN (xcP (d_most_shape n) rfl rfl hr pxX (xa1 xint xa0))) (xone (xcmp op_eqX (os_eq hU) (xcP (d_least_shape n) rfl rfl hr pxX (xa1 xint xa0)) (xtup (xa1 (xv 1) (xa1 xnon xa0))))))))))
    xs0)))))))))))))))))

theorem sc_places : FnScope ["shape"] ["shape"] (defScope s_places) := ⟨rfl, rfl, rfl, by decide +kernel, rfl, by decide +kernel, by decide +kernel⟩
theorem ok_places (T : Tx fa fn G) (d_many_of : ∀ n, Dok P w base CX0 G "many_of" ["shape"] n (F_many_of n)) (d_need_shape : ∀ n, Dok P w base (L2.CX P w) G "need_shape" ["shape"] n (F_need_shape n)) : ∀ n, Dok P w base (L2.CX P w) G "places" ["shape"] n (F_places n) :=
  dokX_mk rfl (fun _ => rfl) (T.says.def_ 33 (d := d0_places) rfl) (T.glo 60) sc_places (fun _ _ _ _ _ _ us hl => match us, hl with | [_], _ => rfl) fun n d0 cdv A outer s H E hr => by
    have hN := sc_places.nd
    have hU := hr.u200
    have hu1 := hr.u1
    exact (xs1 (xexp (xcP (d_need_shape n) rfl rfl hr pxX (xa1 (xv 0) xa0)))
    (xs1 (xret (xcP (d_many_of n) rfl rfl hr px0 (xa1 (xv 0) xa0)))
    xs0))

theorem sc_is_key : FnScope ["value"] ["value"] (defScope s_is_key) := ⟨rfl, rfl, rfl, by decide +kernel, rfl, by decide +kernel, by decide +kernel⟩
theorem ok_is_key (T : Tx fa fn G) (d_is_in : ∀ n, Dok P w base CX0 G "is_in" ["value", "least", "most"] n (F_is_in n)) : ∀ n, Dok P w base CX0 G "is_key" ["value"] n (F_is_key n) :=
  dok_mk rfl (fun _ => rfl) (T.says.def_ 34 (d := d0_is_key) rfl) (T.glo 61) sc_is_key (fun _ _ _ _ _ _ us hl => match us, hl with | [_], _ => rfl) fun n d0 cdv A outer s H E hr => by
    have hN := sc_is_key.nd
    have hU := hr.u200
    have hu1 := hr.u1
    exact (xs1 (xret (xcP (d_is_in n) rfl rfl hr px0 (xa1 (xv 0) (xa1 (xbin op_sub os_sub xint (xgint (by rfl) (T.int 18))) (xa1 (xgint (by rfl) (T.int 18)) xa0)))))
    xs0)

theorem sc_has_form_heaps : FnScope ["value", "least", "deep"] ["value", "least", "deep"] (defScope s_has_form_heaps) := ⟨rfl, rfl, rfl, by decide +kernel, rfl, by decide +kernel, by decide +kernel⟩
theorem ok_has_form_heaps (T : Tx fa fn G) (d_is_key : ∀ n, Dok P w base CX0 G "is_key" ["value"] n (F_is_key n)) : ∀ n, Dok P w base CX0 G "has_form_heaps" ["value", "least", "deep"] n (F_has_form_heaps n) :=
  dok_mk rfl (fun _ => rfl) (T.says.def_ 35 (d := d0_has_form_heaps) rfl) (T.glo 62) sc_has_form_heaps (fun _ _ _ _ _ _ us hl => match us, hl with | [_, _, _], _ => rfl) fun n d0 cdv A outer s H E hr => by
    have hN := sc_has_form_heaps.nd
    have d_has_form_heaps : ∀ _ : Nat, Dok P w base CX0 G "has_form_heaps" ["value", "least", "deep"] n (F_has_form_heaps n) := fun _ => d0
    have hU := hr.u200
    have hu1 := hr.u1
    exact (xs1 (xifs (xtisN (xv 0)) (xs1 (xret xbl)
    xs0) xs0)
    (xs1 (xifs (xpw (xwor (xtcmp op_eqX (os_eq hU) (xv 2) xint) (xwor (xtnot (xtru rfl (xisi rfl ok_tuple rfl (T.free 9) (by rfl) (by rfl) (T.free 1) (xv 0)))) (xwor (xtcmp op_neX (os_eq hU) (xcb cr_lenX cs_len (by rfl) (T.free 8) rfl (xa1 (xv 0) xa0)) xint) (xwor (xtnot (xtru rfl (xcP (d_is_key n) rfl rfl hr px0 (xa1 (xix rfl (xv 0) xint) xa0)))) (xwor1 (xtcmp op_le os_le (xix rfl (xv 0) xint) (xv 1)))))))) (xs1 (xret xbl)
    xs0) xs0)
    (xs1 (xret (xand (xcP (d_has_form_heaps n) rfl rfl hr px0 (xa1 (xix rfl (xv 0) xint) (xa1 (xix rfl (xv 0) xint) (xa1 (xbin op_sub os_sub (xv 2) xint) xa0)))) (xone (xcP (d_has_form_heaps n) rfl rfl hr px0 (xa1 (xix rfl (xv 0) xint) (xa1 (xix rfl (xv 0) xint) (xa1 (xbin op_sub os_sub (xv 2) xint) xa0)))))))
    xs0)))

theorem sc_key_list : FnScope ["heap"] ["heap"] (defScope s_key_list) := ⟨rfl, rfl, rfl, by decide +kernel, rfl, by decide +kernel, by decide +kernel⟩
theorem ok_key_list (T : Tx fa fn G) : ∀ n, Dok P w base CX0 G "key_list" ["heap"] n (F_key_list n) :=
  dok_mk rfl (fun _ => rfl) (T.says.def_ 36 (d := d0_key_list) rfl) (T.glo 63) sc_key_list (fun _ _ _ _ _ _ us hl => match us, hl with | [_], _ => rfl) fun n d0 cdv A outer s H E hr => by
    have hN := sc_key_list.nd
    have d_key_list : ∀ _ : Nat, Dok P w base CX0 G "key_list" ["heap"] n (F_key_list n) := fun _ => d0
    have hU := hr.u200
    have hu1 := hr.u1
    exact (xs1 (xret (xif (xtisN (xv 0)) (xlstG xa0) (xlstG (xa1 (xix rfl (xv 0) xint) (xaS rfl (xcP (d_key_list n) rfl rfl hr px0 (xa1 (xix rfl (xv 0) xint) xa0)) (xaS rfl (xcP (d_key_list n) rfl rfl hr px0 (xa1 (xix rfl (xv 0) xint) xa0)) xa0))))))
    xs0)

theorem sc_is_heap : FnScope ["value", "some"] ["value"] (defScope s_is_heap) := ⟨rfl, rfl, rfl, by decide +kernel, rfl, by decide +kernel, by decide +kernel⟩
theorem ok_is_heap (T : Tx fa fn G) (d_key_list : ∀ n, Dok P w base CX0 G "key_list" ["heap"] n (F_key_list n)) (d_has_form_heaps : ∀ n, Dok P w base CX0 G "has_form_heaps" ["value", "least", "deep"] n (F_has_form_heaps n)) : ∀ n, Dok P w base CX0 G "is_heap" ["value"] n (F_is_heap n) :=
  dok_mk rfl (fun _ => rfl) (T.says.def_ 37 (d := d0_is_heap) rfl) (T.glo 64) sc_is_heap (fun _ _ _ _ _ _ us hl => match us, hl with | [_], _ => rfl) fun n d0 cdv A outer s H E hr => by
    have hN := sc_is_heap.nd
    have hU := hr.u200
    have hu1 := hr.u1
    exact (xs1 (xifs (xtnot (xtru rfl (xcP (d_has_form_heaps n) rfl rfl hr px0 (xa1 (xv 0) (xa1 (xbin op_sub os_sub (xbin op_sub os_sub xint (xgint (by rfl) (T.int 18))) xint) (xa1 (xgint (by rfl) (T.int 7)) xa0)))))) (xs1 (xret xbl)
    xs0) xs0)
    (xs1 (xset 1 hN (xcP (d_key_list n) rfl rfl hr px0 (xa1 (xv 0) xa0)))
    (xs1 (xret (xand (xcmp op_le os_le (xcb cr_lenX cs_len (by rfl) (T.free 8) rfl (xa1 (xv 1) xa0)) (xgint (by rfl) (T.int 7))) (xone (xcmp op_eqX (os_eq hU) (xlnS rfl (by rfl) (T.free 8) (by rfl) (T.free 19) (xv 1)) (xcb cr_lenX cs_len (by rfl) (T.free 8) rfl (xa1 (xv 1) xa0))))))
    xs0)))

theorem sc_need_heap : FnScope ["heap"] ["heap"] (defScope s_need_heap) := ⟨rfl, rfl, rfl, by decide +kernel, rfl, by decide +kernel, by decide +kernel⟩
theorem ok_need_heap (T : Tx fa fn G) (d_is_heap : ∀ n, Dok P w base CX0 G "is_heap" ["value"] n (F_is_heap n)) : ∀ n, Dok P w base (L2.CX P w) G "need_heap" ["heap"] n (F_need_heap n) :=
  dokX_mk rfl (fun _ => rfl) (T.says.def_ 38 (d := d0_need_heap) rfl) (T.glo 65) sc_need_heap (fun _ _ _ _ _ _ us hl => match us, hl with | [_], _ => rfl) fun n d0 cdv A outer s H E hr => by
    have hN := sc_need_heap.nd
    have hU := hr.u200
    have hu1 := hr.u1
    exact (xs1 (xifs (xtnot (xtru rfl (xcP (d_is_heap n) rfl rfl hr px0 (xa1 (xv 0) xa0)))) (xs1 (xrX (T.ex 20 21) (by rfl))
    xs0) xs0)
    xs0)

theorem sc_need_both : FnScope ["one", "other", "some"] ["one", "other"] (defScope s_need_both) := ⟨rfl, rfl, rfl, by decide +kernel, rfl, by decide +kernel, by decide +kernel⟩
theorem ok_need_both (T : Tx fa fn G) (d_key_list : ∀ n, Dok P w base CX0 G "key_list" ["heap"] n (F_key_list n)) (d_is_heap : ∀ n, Dok P w base CX0 G "is_heap" ["value"] n (F_is_heap n)) (d_need_heap : ∀ n, Dok P w base (L2.CX P w) G "need_heap" ["heap"] n (F_need_heap n)) : ∀ n, Dok P w base (L2.CX P w) G "need_both" ["one", "other"] n (F_need_both n) :=
  dokX_mk rfl (fun _ => rfl) (T.says.def_ 39 (d := d0_need_both) rfl) (T.glo 66) sc_need_both (fun _ _ _ _ _ _ us hl => match us, hl with | [_, _], _ => rfl) fun n d0 cdv A outer s H E hr => by
    have hN := sc_need_both.nd
    have hU := hr.u200
    have hu1 := hr.u1
    exact (xs1 (xexp (xcP (d_need_heap n) rfl rfl hr pxX (xa1 (xv 0) xa0)))
    (xs1 (xifs (xtnot (xtru rfl (xcP (d_is_heap n) rfl rfl hr px0 (xa1 (xv 1) xa0)))) (xs1 (xrX (T.ex 20 21) (by rfl))
    xs0) xs0)
    (xs1 (xset 2 hN (xbinF op_addX of_add (xcP (d_key_list n) rfl rfl hr px0 (xa1 (xv 0) xa0)) (xcP (d_key_list n) rfl rfl hr px0 (xa1 (xv 1) xa0))))
    (xs1 (xifs (xpw (xwor (xtcmp op_gt os_gt (xcb cr_lenX cs_len (by rfl) (T.free 8) rfl (xa1 (xv 2) xa0)) (xgint (by rfl) (T.int 7))) (xwor1 (xtcmp op_lt os_lt (xlnS rfl (by rfl) (T.free 8) (by rfl) (T.free 19) (xv 2)) (xcb cr_lenX cs_len (by rfl) (T.free 8) rfl (xa1 (xv 2) xa0)))))) (xs1 (xrX (T.ex 20 21) (by rfl))
    xs0) xs0)
    xs0))))

theorem sc_join : FnScope ["one", "other"] ["one", "other"] (defScope s_join) := ⟨rfl, rfl, rfl, by decide +kernel, rfl, by decide +kernel, by decide +kernel⟩
theorem ok_join (T : Tx fa fn G) (d_need_both : ∀ n, Dok P w base (L2.CX P w) G "need_both" ["one", "other"] n (F_need_both n)) : ∀ n, Dok P w base (L2.CX P w) G "join" ["one", "other"] n (F_join n) :=
  dokX_mk rfl (fun _ => rfl) (T.says.def_ 40 (d := d0_join) rfl) (T.glo 67) sc_join (fun _ _ _ _ _ _ us hl => match us, hl with | [_, _], _ => rfl) fun n d0 cdv A outer s H E hr => by
    have hN := sc_join.nd
    have hU := hr.u200
    have hu1 := hr.u1
    exact (xs1 (xexp (xcP (d_need_both n) rfl rfl hr pxX (xa1 (xv 0) (xa1 (xv 1) xa0))))
    (xs1 xnvr
    xs0))

theorem sc_can_put : FnScope ["heap", "key", "some"] ["heap", "key"] (defScope s_can_put) := ⟨rfl, rfl, rfl, by decide +kernel, rfl, by decide +kernel, by decide +kernel⟩
theorem ok_can_put (T : Tx fa fn G) (d_is_key : ∀ n, Dok P w base CX0 G "is_key" ["value"] n (F_is_key n)) (d_key_list : ∀ n, Dok P w base CX0 G "key_list" ["heap"] n (F_key_list n)) : ∀ n, Dok P w base CX0 G "can_put" ["heap", "key"] n (F_can_put n) :=
  dok_mk rfl (fun _ => rfl) (T.says.def_ 41 (d := d0_can_put) rfl) (T.glo 68) sc_can_put (fun _ _ _ _ _ _ us hl => match us, hl with | [_, _], _ => rfl) fun n d0 cdv A outer s H E hr => by
    have hN := sc_can_put.nd
    have hU := hr.u200
    have hu1 := hr.u1
    exact (xs1 (xset 2 hN (xcP (d_key_list n) rfl rfl hr px0 (xa1 (xv 0) xa0)))
    (xs1 (xret (xand (xcP (d_is_key n) rfl rfl hr px0 (xa1 (xv 1) xa0)) (xand (xcmp op_notInX (os_in hU) (xv 1) (xv 2)) (xone (xcmp op_lt os_lt (xcb cr_lenX cs_len (by rfl) (T.free 8) rfl (xa1 (xv 2) xa0)) (xgint (by rfl) (T.int 7)))))))
    xs0))

theorem sc_put : FnScope ["heap", "key"] ["heap", "key"] (defScope s_put) := ⟨rfl, rfl, rfl, by decide +kernel, rfl, by decide +kernel, by decide +kernel⟩
theorem ok_put (T : Tx fa fn G) (d_can_put : ∀ n, Dok P w base CX0 G "can_put" ["heap", "key"] n (F_can_put n)) (d_need_heap : ∀ n, Dok P w base (L2.CX P w) G "need_heap" ["heap"] n (F_need_heap n)) : ∀ n, Dok P w base (L2.CX P w) G "put" ["heap", "key"] n (F_put n) :=
  dokX_mk rfl (fun _ => rfl) (T.says.def_ 42 (d := d0_put) rfl) (T.glo 69) sc_put (fun _ _ _ _ _ _ us hl => match us, hl with | [_, _], _ => rfl) fun n d0 cdv A outer s H E hr => by
    have hN := sc_put.nd
    have hU := hr.u200
    have hu1 := hr.u1
    exact (xs1 (xexp (xcP (d_need_heap n) rfl rfl hr pxX (xa1 (xv 0) xa0)))
    (xs1 (xifs (xtnot (xtru rfl (xcP (d_can_put n) rfl rfl hr px0 (xa1 (xv 0) (xa1 (xv 1) xa0))))) (xs1 (xrX (T.ex 22 23) (by rfl))
    xs0) xs0)
    (xs1 xnvr
    xs0)))

theorem sc_need_some : FnScope ["heap"] ["heap"] (defScope s_need_some) := ⟨rfl, rfl, rfl, by decide +kernel, rfl, by decide +kernel, by decide +kernel⟩
theorem ok_need_some (T : Tx fa fn G) (d_is_heap : ∀ n, Dok P w base CX0 G "is_heap" ["value"] n (F_is_heap n)) : ∀ n, Dok P w base (L2.CX P w) G "need_some" ["heap"] n (F_need_some n) :=
  dokX_mk rfl (fun _ => rfl) (T.says.def_ 43 (d := d0_need_some) rfl) (T.glo 70) sc_need_some (fun _ _ _ _ _ _ us hl => match us, hl with | [_], _ => rfl) fun n d0 cdv A outer s H E hr => by
    have hN := sc_need_some.nd
    have hU := hr.u200
    have hu1 := hr.u1
    exact (xs1 (xifs (xpw (xwor (xtisN (xv 0)) (xwor1 (xtnot (xtru rfl (xcP (d_is_heap n) rfl rfl hr px0 (xa1 (xv 0) xa0))))))) (xs1 (xrX (T.ex 20 21) (by rfl))
    xs0) xs0)
    xs0)

theorem sc_without_last : FnScope ["heap", "key"] ["heap", "key"] (defScope s_without_last) := ⟨rfl, rfl, rfl, by decide +kernel, rfl, by decide +kernel, by decide +kernel⟩
theorem ok_without_last (T : Tx fa fn G) (d_need_some : ∀ n, Dok P w base (L2.CX P w) G "need_some" ["heap"] n (F_need_some n)) : ∀ n, Dok P w base (L2.CX P w) G "without_last" ["heap", "key"] n (F_without_last n) :=
  dokX_mk rfl (fun _ => rfl) (T.says.def_ 44 (d := d0_without_last) rfl) (T.glo 71) sc_without_last (fun _ _ _ _ _ _ us hl => match us, hl with | [_, _], _ => rfl) fun n d0 cdv A outer s H E hr => by
    have hN := sc_without_last.nd
    have hU := hr.u200
    have hu1 := hr.u1
    exact (xs1 (xexp (xcP (d_need_some n) rfl rfl hr pxX (xa1 (xv 0) xa0)))
    (xs1 xnvr
    (xs1 xnvr
    (xs1 xnvr
    xs0))))

theorem sc_need_order : FnScope ["order"] ["order"] (defScope s_need_order) := ⟨rfl, rfl, rfl, by decide +kernel, rfl, by decide +kernel, by decide +kernel⟩
theorem ok_need_order (T : Tx fa fn G) (tb : Tb base G "need_order") (d_is_key : ∀ n, Dok P w base CX0 G "is_key" ["value"] n (F_is_key n)) : ∀ n, Dok P w base (L2.CX P w) G "need_order" ["order"] n (F_need_order n) :=
  dokTX_mk rfl rfl (fun _ => rfl) (T.says.def_ 45 (d := d0_need_order) rfl) (T.glo 72) sc_need_order (fun _ _ _ _ _ _ us hl => match us, hl with | [_], _ => rfl) fun n d0 A outer s H E hr1 => by
    have hr := hr1.mono (Nat.le_succ n)
    have hN := sc_need_order.nd
    have hU := hr.u200
    have hu1 := hr.u1
    exact (xs1 (xifs (xpw (xwor (xtnot (xtru rfl (xisi rfl ok_tuple rfl (T.free 9) (by rfl) (by rfl) (T.free 1) (xv 0)))) (xwor (xtcmp op_gt os_gt (xcb cr_lenX cs_len (by rfl) (T.free 8) rfl (xa1 (xv 0) xa0)) (xgint (by rfl) (T.int 7))) (xwor1 (xtnot (xtru rfl (xallG (N' := ["key"]) ⟨gx_ok (by rfl), (xis rfl (xv 0)), fun _ _ _ _ _ _ => (xgn 0 (show (["key"] : List Str).Nodup by decide +kernel)), fun _ _ _ _ _ _ hr2 => (xcP (d_is_key n) rfl rfl hr2 px0 (xa1 (xv 0) xa0)), fun ρ => bk_n (gρ_own rfl), fun _ => rfl⟩ hr1 tb.tb tb.mem rfl (by rfl) (T.free 26)))))))) (xs1 (xrX (T.ex 24 25) (by rfl))
    xs0) xs0)
    (xs1 (xifs (xtcmp op_lt os_lt (xlnS rfl (by rfl) (T.free 8) (by rfl) (T.free 19) (xv 0)) (xcb cr_lenX cs_len (by rfl) (T.free 8) rfl (xa1 (xv 0) xa0))) (xs1 (xrX (T.ex 24 25) (by rfl))
    xs0) xs0)
    xs0))

theorem sc_renamings : FnScope ["one", "other"] ["one", "other"] (defScope s_renamings) := ⟨rfl, rfl, rfl, by decide +kernel, rfl, by decide +kernel, by decide +kernel⟩
theorem ok_renamings (T : Tx fa fn G) (d_need_order : ∀ n, Dok P w base (L2.CX P w) G "need_order" ["order"] n (F_need_order n)) : ∀ n, Dok P w base (L2.CX P w) G "renamings" ["one", "other"] n (F_renamings n) :=
  dokX_mk rfl (fun _ => rfl) (T.says.def_ 46 (d := d0_renamings) rfl) (T.glo 73) sc_renamings (fun _ _ _ _ _ _ us hl => match us, hl with | [_, _], _ => rfl) fun n d0 cdv A outer s H E hr => by
    have hN := sc_renamings.nd
    have hU := hr.u200
    have hu1 := hr.u1
    exact (xs1 (xexp (xcP (d_need_order n) rfl rfl hr pxX (xa1 (xv 0) xa0)))
    (xs1 xnvr
    (xs1 xnvr
    xs0)))

theorem sc_q_refused : FnScope ["_law_leaf", "_law_deep", "_law_k", "_law_value", "_law_told_here"] [] (defScope s_q_refused) := ⟨rfl, rfl, rfl, by decide +kernel, rfl, by decide +kernel, by decide +kernel⟩
theorem ok_q_refused (T : Tx fa fn G) (tb : Tl base G "_law_refused" "_law_refused.<locals>.<lambda>") {cdt : Value} (td : ToldD P w base G "_law_told" "_law_work" wd Nt (He.ga G.K "_law_told") (defScope s_q_told) (defBody s_q_told) cdt) (d_renamings : ∀ n, Dok P w base (L2.CX P w) G "renamings" ["one", "other"] n (F_renamings n)) (d_without_last : ∀ n, Dok P w base (L2.CX P w) G "without_last" ["heap", "key"] n (F_without_last n)) (d_put : ∀ n, Dok P w base (L2.CX P w) G "put" ["heap", "key"] n (F_put n)) (d_join : ∀ n, Dok P w base (L2.CX P w) G "join" ["one", "other"] n (F_join n)) (d_shape_at : ∀ n, Dok P w base (L2.CX P w) G "shape_at" ["n", "index"] n (F_shape_at n)) (d_shape_index : ∀ n, Dok P w base (L2.CX P w) G "shape_index" ["shape"] n (F_shape_index n)) (d_places : ∀ n, Dok P w base (L2.CX P w) G "places" ["shape"] n (F_places n)) (d_mean_looks : ∀ n, Dok P w base (L2.CX P w) G "mean_looks" ["n"] n (F_mean_looks n)) (d_orders_by_looks : ∀ n, Dok P w base (L2.CX P w) G "orders_by_looks" ["n"] n (F_orders_by_looks n)) (d_whole : ∀ n, Dok P w base (L2.CX P w) G "whole" ["n"] n (F_whole n)) (d_least_looks : ∀ n, Dok P w base (L2.CX P w) G "least_looks" ["n"] n (F_least_looks n)) (d_most_looks : ∀ n, Dok P w base (L2.CX P w) G "most_looks" ["n"] n (F_most_looks n)) (d_least_shape : ∀ n, Dok P w base (L2.CX P w) G "least_shape" ["n"] n (F_least_shape n)) (d_most_shape : ∀ n, Dok P w base (L2.CX P w) G "most_shape" ["n"] n (F_most_shape n)) (d_heap_count : ∀ n, Dok P w base (L2.CX P w) G "heap_count" ["n"] n (F_heap_count n)) (d_shape_count : ∀ n, Dok P w base (L2.CX P w) G "shape_count" ["n"] n (F_shape_count n)) (d_shape_looks : ∀ n, Dok P w base (L2.CX P w) G "shape_looks" ["shape"] n (F_shape_looks n)) (d_shape_choices : ∀ n, Dok P w base (L2.CX P w) G "shape_choices" ["shape"] n (F_shape_choices n)) (d_shape_heaps : ∀ n, Dok P w base (L2.CX P w) G "shape_heaps" ["shape"] n (F_shape_heaps n)) : ∀ n, Dok P w base (L2.CX P w) G "_law_refused" [] n (F_q_refused n) :=
  dokL_mk rfl rfl rfl (fun _ => rfl) (T.says.def_ 47 (d := d0_q_refused) rfl) (T.glo 74) sc_q_refused (fun _ _ _ _ _ _ us hl => match us, hl with | [], _ => rfl) fun n A outer s H E hr2 => by
    have hr := hr2.mono (by omega : n ≤ n + 2)
    have hN := sc_q_refused.nd
    have hU := hr.u200
    have hu1 := hr.u1
    exact (xs1 (xset 0 hN (xtup (xa1 xnon (xa1 xnon xa0))))
    (xs1 (xset 1 hN xnon)
    (xs1 (xfor (passes_of rfl) rfl (xir1 (xa1 xint xa0) (by rfl) (T.free 5)) (xgn 2 hN) (xs1 (xset 1 hN (xtup (xa1 (xv 1) (xa1 xnon xa0))))
    xs0))
    (xs1 (xfor (passes_of rfl) rfl (xis rfl (xlstG (xa1 xint (xa1 (xtup xa0) (xa1 (xtup (xa1 xnon xa0)) (xa1 (xlstG (xa1 xnon (xa1 xnon xa0))) (xa1 (xtup (xa1 xnon (xa1 (xv 0) xa0))) (xa1 (xtup (xa1 (xv 0) (xa1 (xtup (xa1 xnon (xa1 (xv 0) xa0))) xa0))) (xa1 (xtup (xa1 (xv 0) (xa1 xint xa0))) (xa1 (xtup (xa1 xnon (xa1 xnon (xa1 xnon xa0)))) (xa1 (xv 1) xa0))))))))))) (xgn 3 hN) (xs1 (xset 4 hN (xlstR (xa1 (xtold td rfl rfl (by rfl) tb.tb tb.mem rfl tb.nm hr2 (LamX.lamS_by (by rfl)) rfl (fun _ _ _ _ _ => rfl) (fun _ _ _ _ _ _ _ hr3 => (xcP (d_places n) rfl rfl hr3 pxL (xa1 (xv 3) xa0)))) xa0)))
    (xs1 (xexp (xapp (xv 4) (xtold td rfl rfl (by rfl) tb.tb tb.mem rfl tb.nm hr2 (LamX.lamS_by (by rfl)) rfl (fun _ _ _ _ _ => rfl) (fun _ _ _ _ _ _ _ hr3 => (xcP (d_shape_index n) rfl rfl hr3 pxL (xa1 (xv 3) xa0))))))
    (xs1 (xexp (xapp (xv 4) (xtold td rfl rfl (by rfl) tb.tb tb.mem rfl tb.nm hr2 (LamX.lamS_by (by rfl)) rfl (fun _ _ _ _ _ => rfl) (fun _ _ _ _ _ _ _ hr3 => (xcP (d_shape_heaps n) rfl rfl hr3 pxL (xa1 (xv 3) xa0))))))
    (xs1 (xexp (xapp (xv 4) (xtold td rfl rfl (by rfl) tb.tb tb.mem rfl tb.nm hr2 (LamX.lamS_by (by rfl)) rfl (fun _ _ _ _ _ => rfl) (fun _ _ _ _ _ _ _ hr3 => (xcP (d_shape_choices n) rfl rfl hr3 pxL (xa1 (xv 3) xa0))))))
    (xs1 (xexp (xapp (xv 4) (xtold td rfl rfl (by rfl) tb.tb tb.mem rfl tb.nm hr2 (LamX.lamS_by (by rfl)) rfl (fun _ _ _ _ _ => rfl) (fun _ _ _ _ _ _ _ hr3 => (xcP (d_shape_looks n) rfl rfl hr3 pxL (xa1 (xv 3) xa0))))))
    (xs1 (xifs (xtcmp op_neX (os_eq hU) (xv 4) (xrepG (xa1 xstr xa0))) (xs1 (xret xbl)
    xs0) xs0)
    xs0)))))))
    (xs1 (xfor (passes_of rfl) rfl (xis rfl (xlstG (xa1 xnon (xa1 (xneg xint) (xa1 xint (xa1 xbl (xa1 xstr xa0))))))) (xgn 3 hN) (xs1 (xset 4 hN (xlstR (xa1 (xtold td rfl rfl (by rfl) tb.tb tb.mem rfl tb.nm hr2 (LamX.lamS_by (by rfl)) rfl (fun _ _ _ _ _ => rfl) (fun _ _ _ _ _ _ _ hr3 => (xcP (d_shape_count n) rfl rfl hr3 pxL (xa1 (xv 3) xa0)))) xa0)))
    (xs1 (xexp (xapp (xv 4) (xtold td rfl rfl (by rfl) tb.tb tb.mem rfl tb.nm hr2 (LamX.lamS_by (by rfl)) rfl (fun _ _ _ _ _ => rfl) (fun _ _ _ _ _ _ _ hr3 => (xcP (d_shape_at n) rfl rfl hr3 pxL (xa1 (xv 3) (xa1 xnon xa0)))))))
    (xs1 (xexp (xapp (xv 4) (xtold td rfl rfl (by rfl) tb.tb tb.mem rfl tb.nm hr2 (LamX.lamS_by (by rfl)) rfl (fun _ _ _ _ _ => rfl) (fun _ _ _ _ _ _ _ hr3 => (xcP (d_heap_count n) rfl rfl hr3 pxL (xa1 (xv 3) xa0))))))
    (xs1 (xexp (xapp (xv 4) (xtold td rfl rfl (by rfl) tb.tb tb.mem rfl tb.nm hr2 (LamX.lamS_by (by rfl)) rfl (fun _ _ _ _ _ => rfl) (fun _ _ _ _ _ _ _ hr3 => (xcP (d_most_shape n) rfl rfl hr3 pxL (xa1 (xv 3) xa0))))))
    (xs1 (xexp (xapp (xv 4) (xtold td rfl rfl (by rfl) tb.tb tb.mem rfl tb.nm hr2 (LamX.lamS_by (by rfl)) rfl (fun _ _ _ _ _ => rfl) (fun _ _ _ _ _ _ _ hr3 => (xcP (d_least_shape n) rfl rfl hr3 pxL (xa1 (xv 3) xa0))))))
    (xs1 (xifs (xtcmp op_neX (os_eq hU) (xv 4) (xrepG (xa1 xstr xa0))) (xs1 (xret xbl)
    xs0) xs0)
    xs0)))))))
    (xs1 (xfor (passes_of rfl) rfl (xis rfl (xlstG (xa1 xnon (xa1 (xneg xint) (xa1 xbl (xa1 xint xa0)))))) (xgn 3 hN) (xs1 (xset 4 hN (xlstR (xa1 (xtold td rfl rfl (by rfl) tb.tb tb.mem rfl tb.nm hr2 (LamX.lamS_by (by rfl)) rfl (fun _ _ _ _ _ => rfl) (fun _ _ _ _ _ _ _ hr3 => (xcP (d_most_looks n) rfl rfl hr3 pxL (xa1 (xv 3) xa0)))) xa0)))
    (xs1 (xexp (xapp (xv 4) (xtold td rfl rfl (by rfl) tb.tb tb.mem rfl tb.nm hr2 (LamX.lamS_by (by rfl)) rfl (fun _ _ _ _ _ => rfl) (fun _ _ _ _ _ _ _ hr3 => (xcP (d_least_looks n) rfl rfl hr3 pxL (xa1 (xv 3) xa0))))))
    (xs1 (xexp (xapp (xv 4) (xtold td rfl rfl (by rfl) tb.tb tb.mem rfl tb.nm hr2 (LamX.lamS_by (by rfl)) rfl (fun _ _ _ _ _ => rfl) (fun _ _ _ _ _ _ _ hr3 => (xcP (d_whole n) rfl rfl hr3 pxL (xa1 (xv 3) xa0))))))
    (xs1 (xexp (xapp (xv 4) (xtold td rfl rfl (by rfl) tb.tb tb.mem rfl tb.nm hr2 (LamX.lamS_by (by rfl)) rfl (fun _ _ _ _ _ => rfl) (fun _ _ _ _ _ _ _ hr3 => (xcP (d_orders_by_looks n) rfl rfl hr3 pxL (xa1 (xv 3) xa0))))))
    (xs1 (xexp (xapp (xv 4) (xtold td rfl rfl (by rfl) tb.tb tb.mem rfl tb.nm hr2 (LamX.lamS_by (by rfl)) rfl (fun _ _ _ _ _ => rfl) (fun _ _ _ _ _ _ _ hr3 => (xcP (d_mean_looks n) rfl rfl hr3 pxL (xa1 (xv 3) xa0))))))
    (xs1 (xexp (xapp (xv 4) (xtold td rfl rfl (by rfl) tb.tb tb.mem rfl tb.nm hr2 (LamX.lamS_by (by rfl)) rfl (fun _ _ _ _ _ => rfl) (fun _ _ _ _ _ _ _ hr3 => (xcP (d_shape_at n) rfl rfl hr3 pxL (xa1 xint (xa1 (xv 3) xa0)))))))
    (xs1 (xifs (xtcmp op_neX (os_eq hU) (xv 4) (xrepG (xa1 xstr xa0))) (xs1 (xret xbl)
    xs0) xs0)
    xs0))))))))
    (xs1 (xset 4 hN (xlstR (xa1 (xtold td rfl rfl (by rfl) tb.tb tb.mem rfl tb.nm hr2 (LamX.lamS_by (by rfl)) rfl (fun _ _ _ _ _ => rfl) (fun _ _ _ _ _ _ _ hr3 => (xcP (d_whole n) rfl rfl hr3 pxL (xa1 xint xa0)))) xa0)))
    (xs1 (xexp (xapp (xv 4) (xtold td rfl rfl (by rfl) tb.tb tb.mem rfl tb.nm hr2 (LamX.lamS_by (by rfl)) rfl (fun _ _ _ _ _ => rfl) (fun _ _ _ _ _ _ _ hr3 => (xcP (d_orders_by_looks n) rfl rfl hr3 pxL (xa1 xint xa0))))))
    (xs1 (xexp (xapp (xv 4) (xtold td rfl rfl (by rfl) tb.tb tb.mem rfl tb.nm hr2 (LamX.lamS_by (by rfl)) rfl (fun _ _ _ _ _ => rfl) (fun _ _ _ _ _ _ _ hr3 => (xcP (d_mean_looks n) rfl rfl hr3 pxL (xa1 xint xa0))))))
    (xs1 (xexp (xapp (xv 4) (xtold td rfl rfl (by rfl) tb.tb tb.mem rfl tb.nm hr2 (LamX.lamS_by (by rfl)) rfl (fun _ _ _ _ _ => rfl) (fun _ _ _ _ _ _ _ hr3 => (xcP (d_shape_at n) rfl rfl hr3 pxL (xa1 xint (xa1 xint xa0)))))))
    (xs1 (xset 4 hN (xbinF op_addX of_add (xv 4) (xlstG (xa1 (xtold td rfl rfl (by rfl) tb.tb tb.mem rfl tb.nm hr2 (LamX.lamS_by (by rfl)) rfl (fun _ _ _ _ _ => rfl) (fun _ _ _ _ _ _ _ hr3 => (xcP (d_shape_at n) rfl rfl hr3 pxL (xa1 xint (xa1 xint xa0))))) xa0))))
    (xs1 (xifs (xtcmp op_neX (os_eq hU) (xv 4) (xrepG (xa1 xstr xa0))) (xs1 (xret xbl)
    xs0) xs0)
    (xs1 (xifs (xtcmp op_neX (os_eq hU) (xcP (d_places n) rfl rfl hr pxX (xa1 (xix rfl (xv 1) xint) xa0)) xint) (xs1 (xret xbl)
    xs0) xs0)
    (xs1 (xifs (xtcmp op_neX (os_eq hU) (xcP (d_shape_index n) rfl rfl hr pxX (xa1 (xix rfl (xv 1) xint) xa0)) xint) (xs1 (xret xbl)
    xs0) xs0)
    (xs1 (xifs (xtcmp op_neX (os_eq hU) (xcP (d_shape_at n) rfl rfl hr pxX (xa1 xint (xa1 xint xa0))) (xix rfl (xv 1) xint)) (xs1 (xret xbl)
    xs0) xs0)
    (xs1 (xset 4 hN (xlstR (xa1 (xtold td rfl rfl (by rfl) tb.tb tb.mem rfl tb.nm hr2 (LamX.lamS_by (by rfl)) rfl (fun _ _ _ _ _ => rfl) (fun _ _ _ _ _ _ _ hr3 => (xcP (d_join n) rfl rfl hr3 pxL (xa1 xint (xa1 xint xa0))))) xa0)))
    (xs1 (xexp (xapp (xv 4) (xtold td rfl rfl (by rfl) tb.tb tb.mem rfl tb.nm hr2 (LamX.lamS_by (by rfl)) rfl (fun _ _ _ _ _ => rfl) (fun _ _ _ _ _ _ _ hr3 => (xcP (d_put n) rfl rfl hr3 pxL (xa1 xint (xa1 xnon xa0)))))))
    (xs1 (xexp (xapp (xv 4) (xtold td rfl rfl (by rfl) tb.tb tb.mem rfl tb.nm hr2 (LamX.lamS_by (by rfl)) rfl (fun _ _ _ _ _ => rfl) (fun _ _ _ _ _ _ _ hr3 => (xcP (d_put n) rfl rfl hr3 pxL (xa1 xnon (xa1 xnon xa0)))))))
    (xs1 (xexp (xapp (xv 4) (xtold td rfl rfl (by rfl) tb.tb tb.mem rfl tb.nm hr2 (LamX.lamS_by (by rfl)) rfl (fun _ _ _ _ _ => rfl) (fun _ _ _ _ _ _ _ hr3 => (xcP (d_without_last n) rfl rfl hr3 pxL (xa1 xnon (xa1 xnon xa0)))))))
    (xs1 (xexp (xapp (xv 4) (xtold td rfl rfl (by rfl) tb.tb tb.mem rfl tb.nm hr2 (LamX.lamS_by (by rfl)) rfl (fun _ _ _ _ _ => rfl) (fun _ _ _ _ _ _ _ hr3 => (xcP (d_renamings n) rfl rfl hr3 pxL (xa1 xnon (xa1 (xtup (xa1 xint (xa1 xint xa0))) xa0)))))))
    (xs1 (xifs (xtcmp op_neX (os_eq hU) (xv 4) (xlstG (xa1 xstr (xa1 xstr (xa1 xstr (xa1 xstr (xa1 xstr xa0))))))) (xs1 (xret xbl)
    xs0) xs0)
    (xs1 (xret xbl)
    xs0))))))))))))))))))))))

theorem sc_q_taken : FnScope ["_law_row", "_law_many", "_law_found", "_law_cell"] ["_law_row", "_law_many"] (defScope s_q_taken) := ⟨rfl, rfl, rfl, by decide +kernel, rfl, by decide +kernel, by decide +kernel⟩
theorem ok_q_taken (T : Tx fa fn G) : ∀ n, Dok P w base CX0 G "_law_taken" ["_law_row", "_law_many"] n (F_q_taken n) :=
  dok_mk rfl (fun _ => rfl) (T.says.def_ 48 (d := d0_q_taken) rfl) (T.glo 75) sc_q_taken (fun _ _ _ _ _ _ us hl => match us, hl with | [_, _], _ => rfl) fun n d0 cdv A outer s H E hr => by
    have hN := sc_q_taken.nd
    have hU := hr.u200
    have hu1 := hr.u1
    exact (xs1 (xifs (xtcmp op_gt os_gt (xix rfl (xv 0) xint) xint) (xs1 (xset 2 hN (xbin op_mod os_mod (xct call_int1 cs_int (by rfl) (T.free 2) rfl (xa1 (xix rfl (xv 0) xint) xa0)) (xv 1)))
    (xs1 (xasg (xbin op_fdivW os_fdiv (xix rfl (xv 0) xint) (xv 1)) (xgsub hu1 (xv 0) xint))
    (xs1 (xret (xfrZ (xv 2)))
    xs0))) xs0)
    (xs1 (xasg (xbinF op_addX of_add (xix rfl (xv 0) xint) xint) (xgsub hu1 (xv 0) xint))
    (xs1 (xifs (xtcmp op_gt os_gt (xix rfl (xv 0) xint) (xcb cr_lenX cs_len (by rfl) (T.free 8) rfl (xa1 (xix rfl (xv 0) xint) xa0))) (xs1 (xasg (xbin op_mod os_mod (xct call_int1 cs_int (by rfl) (T.free 2) rfl (xa1 (xbinF op_addX of_add (xbin op_mulY os_mul (xix rfl (xv 0) xint) xint) xint) xa0)) xint) (xgsub hu1 (xv 0) xint))
    (xs1 (xret (xbin op_mod os_mod (xct call_int1 cs_int (by rfl) (T.free 2) rfl (xa1 (xbin op_fdivW os_fdiv (xix rfl (xv 0) xint) xint) xa0)) (xv 1)))
    xs0)) xs0)
    (xs1 (xset 3 hN (xix rfl (xix rfl (xv 0) xint) (xbin op_sub os_sub (xix rfl (xv 0) xint) xint)))
    (xs1 (xasg (xbin op_mod os_mod (xct call_int1 cs_int (by rfl) (T.free 2) rfl (xa1 (xbinF op_addX of_add (xbinF op_addX of_add (xbin op_mulY os_mul (xix rfl (xv 0) xint) xint) (xv 3)) xint) xa0)) xint) (xgsub hu1 (xv 0) xint))
    (xs1 (xifs (xtcmp op_ge os_ge (xv 3) (xbin op_pow os_pow xint xint)) (xs1 (xasg (xbin op_fdivW os_fdiv (xv 3) (xv 1)) (xgsub hu1 (xv 0) xint))
    xs0) xs0)
    (xs1 (xret (xbin op_mod os_mod (xct call_int1 cs_int (by rfl) (T.free 2) rfl (xa1 (xv 3) xa0)) (xv 1)))
    xs0)))))))

theorem sc_law : FnScope ["_law_script", "_law_row"] ["_law_script"] (defScope s_law) := ⟨rfl, rfl, rfl, by decide +kernel, rfl, by decide +kernel, by decide +kernel⟩
theorem bd_law (T : Tx fa fn G) (d_q_refused : ∀ n, Dok P w base (L2.CX P w) G "_law_refused" [] n (F_q_refused n)) (d_q_written : ∀ n, Dok P w base (L2.CX P w) G "_law_written" ["_law_at"] n (F_q_written n)) (d_q_taken : ∀ n, Dok P w base CX0 G "_law_taken" ["_law_row", "_law_many"] n (F_q_taken n)) (fA : Addr) (n : Nat) : ∀ (cdv : Value) (A : Around) (outer : List Env) (s : Shared) (H : Hp) (E : XK), Room n (A.deeper (envOfC "law" (defScope s_law) s.heap.objs.size fA cdv)) → PSs (cxOf CX0 P w G.K G.mg base ["_law_script", "_law_row"] "law" (defScope s_law) fA cdv A outer s H E).nox (defBody s_law) (rdS G E (fun ρ => nox (b_law (F_q_refused n) (F_q_written n) (F_q_taken n) ρ))) := by
    intro cdv A outer s H E hr
    have hN := sc_law.nd
    have hU := hr.u200
    have hu1 := hr.u1
    exact pss_nox (xs1 (xset 1 hN (xlstR (xa1 (xv 0) (xa1 xint (xa1 xint (xa1 xint xa0))))))
    (xs1 (xret (xand (xcP (d_q_written n) rfl rfl hr pxN (xa1 (xcT (d_q_taken n) rfl rfl hr px0 (xa1 (xv 1) (xa1 xint xa0))) xa0)) (xone (xcP0 (d_q_refused n) rfl rfl hr pxN))))
    xs0))

end
def tf : List He.Defn := [("counts_to", none), ("heap_count", none), ("whole", none), ("need_order", none), ("_law_refused", none)]
def exT (K : PySem.W.Frag) : Bool := toldB K csT "HeapError"
def exD (K : PySem.W.Frag) : Bool := decide ((He.cT K ("_law_refused", none)).2 ≠ (He.cT K ("counts_to", none)).2) && decide ((He.cT K ("_law_refused", none)).2 ≠ (He.cT K ("heap_count", none)).2) && decide ((He.cT K ("_law_refused", none)).2 ≠ (He.cT K ("whole", none)).2) && decide ((He.cT K ("_law_refused", none)).2 ≠ (He.cT K ("need_order", none)).2)
def nmK (K : PySem.W.Frag) : Addr → Option Str := fun P => if P = (He.cT K ("_law_refused", none)).2 then some "_law_refused.<locals>.<lambda>" else none
def exB (K : PySem.W.Frag) : Bool := exT K && (exD K && (He.eqO (PySem.W.nsIn K mainGlobals "comb") (some (some (.builtin "math.comb"))) && (He.eqO (PySem.W.nsIn K mainGlobals "factorial") (some (some (.builtin "math.factorial"))) && (He.eqO (PySem.W.nsIn K mainGlobals "gcd") (some (some (.builtin "math.gcd"))) && (true)))))
def names0 : List PySem.Str := ["comb", "factorial", "gcd", "HeapError", "BadHeap", "BadKey", "BadOrder", "NotTurned", "BadShape", "BadNumber", "MOST_KEY", "MOST_KEYS", "is_in", "is_key", "has_form", "has_form_heaps", "key_list", "is_heap", "need_heap", "need_some", "all_turned", "MOST_WHOLE", "has_form_shapes", "many_of", "is_turned_shape", "need_shape", "places", "need_number", "parted", "counts_to"]
def names1 : List PySem.Str := ["shape_count", "numbered", "shape_at", "index_of", "shape_index", "sizes", "heaps_of", "shape_heaps", "heap_count", "stepped", "choices_of", "shape_choices", "whole", "MOST_N", "MOST_SPREAD", "looks_of", "shape_looks", "most_looks", "least_looks", "even", "most_shape", "least_shape", "sides", "spread_of", "orders_by_looks", "mean_looks", "joined", "need_both", "join", "can_put"]
def names2 : List PySem.Str := ["put", "need_order", "all_built", "need_turned", "lasts", "taken_out", "without_last", "all_choices", "is_same", "renamed", "all_renamings", "renamings", "_law_taken", "_law_pick", "_law_told", "_law_refused", "_law_written"]
def names : List PySem.Str := names0 ++ names1 ++ names2
abbrev Rw : PySem.W.OpenRow := PySem.W.OpenLaw.row PySem.Challenge.rw_turnheaps_k16_shapes_refused
abbrev hk : PySem.W.Hook := He.hookX 4 fa fn [] tf exB
def ob (s : PySem.W.SharedT) : He.AlX := He.obsX 4 fa fn [] tf exB (HandSHeadRun.getT s)
theorem ob_eq (s : PySem.W.SharedT) : ob s = hk.obs s.abs := He.obsX_eq (HandSHeadRun.getT_eq s)
theorem run (w : World) : Xt.RunI Rw (PySem.W.view Rw.prog [83]) hk ob 4000 "math" names w := by
  unfold Xt.RunI
  kernel_rfl
theorem facts {P : Program} {w : World} {K : PySem.W.Frag} {h : Heap} {mg : Str → Option Value} {f : Addr} (X : K.In h) (Gm : h.Ns mainGlobals mg) (hfa : mg ("law" : Str) = some (.ref f)) (c : He.SaysX fa fn [] tf exB w h K) (n : Nat)
    (hrun : ∀ ns : List Int, ∃ M, F_law (n + 1) [.g (.list (ns.map .int))] [] = .ok (vB true) M) :
    ∃ fd : FuncData, (∀ (s : Shared) (v : Value), BindsTo s fd ⟨[v], []⟩ [("_law_script", v)]) ∧ ∀ base : Heap, K.In base → base.Ns mainGlobals mg → (∀ p ∈ tf.map (He.cT K), LamX.TabB base mg p.1 p.2) → FnOk P w K mg base CX0 (n + 1) f fd ["_law_script"] (spL ⟨K, mg, (tf.map (He.cT K)).map (·.2), nmK K⟩) := by
  have T : Tx fa fn ⟨K, mg, (tf.map (He.cT K)).map (·.2), nmK K⟩ := ⟨c.t.d, h, X, Gm⟩
  obtain ⟨fd, F⟩ := c.t.d.def_ 49 (d := d0_law) rfl
  have e := hfa.symm.trans (T.glo 76)
  cases e
  have b := FunD.bindsA (ps := ["_law_script"]) F fun _ _ _ _ _ _ us hl => match us, hl with | [_], _ => rfl
  have e0 : (exT K && (exD K && (He.eqO (PySem.W.nsIn K mainGlobals "comb") (some (some (.builtin "math.comb"))) && (He.eqO (PySem.W.nsIn K mainGlobals "factorial") (some (some (.builtin "math.factorial"))) && (He.eqO (PySem.W.nsIn K mainGlobals "gcd") (some (some (.builtin "math.gcd"))) && (true)))))) = true := c.more
  obtain ⟨eT, e0⟩ := Bool.and_eq_true_iff.mp e0
  obtain ⟨eD, e0⟩ := Bool.and_eq_true_iff.mp e0
  have eD0 : (decide ((He.cT K ("_law_refused", none)).2 ≠ (He.cT K ("counts_to", none)).2) && decide ((He.cT K ("_law_refused", none)).2 ≠ (He.cT K ("heap_count", none)).2) && decide ((He.cT K ("_law_refused", none)).2 ≠ (He.cT K ("whole", none)).2) && decide ((He.cT K ("_law_refused", none)).2 ≠ (He.cT K ("need_order", none)).2)) = true := eD
  simp only [Bool.and_eq_true, decide_eq_true_eq] at eD0
  have nq_counts_to := Ne.symm (eD0.1.1.1)
  have nq_heap_count := Ne.symm (eD0.1.1.2)
  have nq_whole := Ne.symm (eD0.1.2)
  have nq_need_order := Ne.symm (eD0.2)
  obtain ⟨e0a, e1⟩ := Bool.and_eq_true_iff.mp e0
  have m_comb : mg "comb" = some (.builtin "math.comb") := PySem.W.mg_of X Gm (He.eqO_ok e0a)
  obtain ⟨e1a, e2⟩ := Bool.and_eq_true_iff.mp e1
  have m_factorial : mg "factorial" = some (.builtin "math.factorial") := PySem.W.mg_of X Gm (He.eqO_ok e1a)
  obtain ⟨e2a, e3⟩ := Bool.and_eq_true_iff.mp e2
  have m_gcd : mg "gcd" = some (.builtin "math.gcd") := PySem.W.mg_of X Gm (He.eqO_ok e2a)
  have tb_counts_to : ∀ base : Heap, (∀ p ∈ tf.map (He.cT K), LamX.TabB base mg p.1 p.2) → Tb base ⟨K, mg, (tf.map (He.cT K)).map (·.2), nmK K⟩ "counts_to" := fun base h => ⟨h _ (List.mem_map.mpr ⟨("counts_to", none), by simp [tf], rfl⟩), ⟨List.mem_map.mpr ⟨_, List.mem_map.mpr ⟨("counts_to", none), by simp [tf], rfl⟩, rfl⟩, by simp [nmK, nq_counts_to]⟩⟩
  have tb_heap_count : ∀ base : Heap, (∀ p ∈ tf.map (He.cT K), LamX.TabB base mg p.1 p.2) → Tb base ⟨K, mg, (tf.map (He.cT K)).map (·.2), nmK K⟩ "heap_count" := fun base h => ⟨h _ (List.mem_map.mpr ⟨("heap_count", none), by simp [tf], rfl⟩), ⟨List.mem_map.mpr ⟨_, List.mem_map.mpr ⟨("heap_count", none), by simp [tf], rfl⟩, rfl⟩, by simp [nmK, nq_heap_count]⟩⟩
  have tb_whole : ∀ base : Heap, (∀ p ∈ tf.map (He.cT K), LamX.TabB base mg p.1 p.2) → Tb base ⟨K, mg, (tf.map (He.cT K)).map (·.2), nmK K⟩ "whole" := fun base h => ⟨h _ (List.mem_map.mpr ⟨("whole", none), by simp [tf], rfl⟩), ⟨List.mem_map.mpr ⟨_, List.mem_map.mpr ⟨("whole", none), by simp [tf], rfl⟩, rfl⟩, by simp [nmK, nq_whole]⟩⟩
  have tb_need_order : ∀ base : Heap, (∀ p ∈ tf.map (He.cT K), LamX.TabB base mg p.1 p.2) → Tb base ⟨K, mg, (tf.map (He.cT K)).map (·.2), nmK K⟩ "need_order" := fun base h => ⟨h _ (List.mem_map.mpr ⟨("need_order", none), by simp [tf], rfl⟩), ⟨List.mem_map.mpr ⟨_, List.mem_map.mpr ⟨("need_order", none), by simp [tf], rfl⟩, rfl⟩, by simp [nmK, nq_need_order]⟩⟩
  have tb_q_refused : ∀ base : Heap, (∀ p ∈ tf.map (He.cT K), LamX.TabB base mg p.1 p.2) → Tl base ⟨K, mg, (tf.map (He.cT K)).map (·.2), nmK K⟩ "_law_refused" "_law_refused.<locals>.<lambda>" := fun base h => ⟨h _ (List.mem_map.mpr ⟨("_law_refused", none), by simp [tf], rfl⟩), List.mem_map.mpr ⟨_, List.mem_map.mpr ⟨("_law_refused", none), by simp [tf], rfl⟩, rfl⟩, by simp [nmK]⟩
  refine ⟨fd, fun s v => b s [v] rfl, fun base _ _ hT => ?_⟩
  let G : Gx := ⟨K, mg, (tf.map (He.cT K)).map (·.2), nmK K⟩
  obtain ⟨cdt, td⟩ := ok_q_told (P := P) (w := w) (base := base) (G := G) T eT
  have d_is_in := ok_is_in (P := P) (w := w) (base := base) (G := G) T
  have d_need_number := ok_need_number (P := P) (w := w) (base := base) (G := G) T d_is_in
  have d_parted := ok_parted (P := P) (w := w) (base := base) (G := G) T
  have d_counts_to := ok_counts_to (P := P) (w := w) (base := base) (G := G) T (tb_counts_to base hT) d_parted
  have d_shape_count := ok_shape_count (P := P) (w := w) (base := base) (G := G) T d_counts_to d_need_number
  have d_heap_count := ok_heap_count (P := P) (w := w) (base := base) (G := G) T (tb_heap_count base hT) d_parted d_need_number m_comb
  have d_numbered := ok_numbered (P := P) (w := w) (base := base) (G := G) T d_parted
  have d_shape_at := ok_shape_at (P := P) (w := w) (base := base) (G := G) T d_numbered d_need_number d_counts_to
  have d_has_form_shapes := ok_has_form_shapes (P := P) (w := w) (base := base) (G := G) T
  have d_many_of := ok_many_of (P := P) (w := w) (base := base) (G := G) T
  have d_is_turned_shape := ok_is_turned_shape (P := P) (w := w) (base := base) (G := G) T d_many_of d_has_form_shapes
  have d_need_shape := ok_need_shape (P := P) (w := w) (base := base) (G := G) T d_is_turned_shape
  have d_index_of := ok_index_of (P := P) (w := w) (base := base) (G := G) T d_parted d_many_of
  have d_shape_index := ok_shape_index (P := P) (w := w) (base := base) (G := G) T d_index_of d_counts_to d_many_of d_need_shape
  have d_sizes := ok_sizes (P := P) (w := w) (base := base) (G := G) T d_many_of
  have d_heaps_of := ok_heaps_of (P := P) (w := w) (base := base) (G := G) T d_many_of d_sizes m_factorial
  have d_shape_heaps := ok_shape_heaps (P := P) (w := w) (base := base) (G := G) T d_heaps_of d_need_shape
  have d_stepped := ok_stepped (P := P) (w := w) (base := base) (G := G) T
  have d_choices_of := ok_choices_of (P := P) (w := w) (base := base) (G := G) T d_stepped
  have d_shape_choices := ok_shape_choices (P := P) (w := w) (base := base) (G := G) T d_choices_of d_need_shape
  have d_most_looks := ok_most_looks (P := P) (w := w) (base := base) (G := G) T d_need_number
  have d_least_looks := ok_least_looks (P := P) (w := w) (base := base) (G := G) T d_need_number
  have d_sides := ok_sides (P := P) (w := w) (base := base) (G := G) T
  have d_spread_of := ok_spread_of (P := P) (w := w) (base := base) (G := G) T d_sides m_comb
  have d_orders_by_looks := ok_orders_by_looks (P := P) (w := w) (base := base) (G := G) T d_spread_of d_need_number
  have d_mean_looks := ok_mean_looks (P := P) (w := w) (base := base) (G := G) T d_sides d_need_number m_gcd
  have d_looks_of := ok_looks_of (P := P) (w := w) (base := base) (G := G) T d_many_of
  have d_shape_looks := ok_shape_looks (P := P) (w := w) (base := base) (G := G) T d_looks_of d_need_shape
  have d_whole := ok_whole (P := P) (w := w) (base := base) (G := G) T (tb_whole base hT) d_heaps_of d_choices_of d_numbered d_counts_to d_need_number
  have d_even := ok_even (P := P) (w := w) (base := base) (G := G) T
  have d_most_shape := ok_most_shape (P := P) (w := w) (base := base) (G := G) T d_even d_need_number
  have d_least_shape := ok_least_shape (P := P) (w := w) (base := base) (G := G) T d_need_number
  have d_q_written := ok_q_written (P := P) (w := w) (base := base) (G := G) T d_least_shape d_most_shape d_whole d_shape_looks d_mean_looks d_orders_by_looks d_least_looks d_most_looks d_shape_choices d_shape_heaps d_shape_index d_shape_at d_heap_count d_shape_count
  have d_places := ok_places (P := P) (w := w) (base := base) (G := G) T d_many_of d_need_shape
  have d_is_key := ok_is_key (P := P) (w := w) (base := base) (G := G) T d_is_in
  have d_has_form_heaps := ok_has_form_heaps (P := P) (w := w) (base := base) (G := G) T d_is_key
  have d_key_list := ok_key_list (P := P) (w := w) (base := base) (G := G) T
  have d_is_heap := ok_is_heap (P := P) (w := w) (base := base) (G := G) T d_key_list d_has_form_heaps
  have d_need_heap := ok_need_heap (P := P) (w := w) (base := base) (G := G) T d_is_heap
  have d_need_both := ok_need_both (P := P) (w := w) (base := base) (G := G) T d_key_list d_is_heap d_need_heap
  have d_join := ok_join (P := P) (w := w) (base := base) (G := G) T d_need_both
  have d_can_put := ok_can_put (P := P) (w := w) (base := base) (G := G) T d_is_key d_key_list
  have d_put := ok_put (P := P) (w := w) (base := base) (G := G) T d_can_put d_need_heap
  have d_need_some := ok_need_some (P := P) (w := w) (base := base) (G := G) T d_is_heap
  have d_without_last := ok_without_last (P := P) (w := w) (base := base) (G := G) T d_need_some
  have d_need_order := ok_need_order (P := P) (w := w) (base := base) (G := G) T (tb_need_order base hT) d_is_key
  have d_renamings := ok_renamings (P := P) (w := w) (base := base) (G := G) T d_need_order
  have d_q_refused := ok_q_refused (P := P) (w := w) (base := base) (G := G) T (tb_q_refused base hT) td d_renamings d_without_last d_put d_join d_shape_at d_shape_index d_places d_mean_looks d_orders_by_looks d_whole d_least_looks d_most_looks d_least_shape d_most_shape d_heap_count d_shape_count d_shape_looks d_shape_choices d_shape_heaps
  have d_q_taken := ok_q_taken (P := P) (w := w) (base := base) (G := G) T
  exact law_fn (G := G) F sc_law (bd_law T d_q_refused d_q_written d_q_taken _ n) hrun
end K16
set_option Elab.async false
set_option linter.all false
set_option maxRecDepth 100000
set_option maxHeartbeats 4000000
namespace Xt
open PySem
theorem eqI (a b : Int) (M : Mem) : eqD false (.g (.int a)) (.g (.int b)) M = .ok (.g (.bool (decide (a = b)))) M := by
  have e : PyData.eqv (.int a) (.int b) = decide (a = b) := rfl
  show chk (eqOk (.int a) (.int b)) (rt (vB (PyData.eqv (.int a) (.int b)))) M = _
  rw [e]
  rfl
theorem neI (a b : Int) (M : Mem) : eqD true (.g (.int a)) (.g (.int b)) M = .ok (.g (.bool (!decide (a = b)))) M := by
  have e : PyData.eqv (.int a) (.int b) = decide (a = b) := rfl
  show chk (eqOk (.int a) (.int b)) (rt (vB (!PyData.eqv (.int a) (.int b)))) M = _
  rw [e]
  rfl
inductive Tr
  | e
  | n (k : Int) (l r : Tr)
namespace Tr
def d : Tr → PyData
  | e => .none
  | n k l r => .tuple [.int k, d l, d r]
def sz : Tr → Nat
  | e => 0
  | n _ l r => 1 + sz l + sz r
def ks : Tr → List Int
  | e => []
  | n k l r => k :: (ks l ++ ks r)
/-- keys above lo, rising downwards -/
def hp : Int → Tr → Prop
  | _, e => True
  | lo, n k l r => lo < k ∧ k ≤ 1000000 ∧ hp k l ∧ hp k r
def no : Tr → Bool
  | e => true
  | _ => false
def tn : Tr → Bool
  | e => true
  | n _ l r => (!(no l) || no r) && (tn l && tn r)
theorem ks_len : ∀ t : Tr, t.ks.length = t.sz
  | e => rfl
  | n k l r => by simp [ks, sz, ks_len l, ks_len r]; omega
end Tr
theorem isN_none (b : Bool) (M : Mem) : isN b (.g .none) M = .ok (.g (.bool (!b))) M := rfl
theorem isN_tup (b : Bool) (xs : List PyData) (M : Mem) : isN b (.g (.tuple xs)) M = .ok (.g (.bool b)) M := rfl
theorem isN_lst (b : Bool) (xs : List PyData) (M : Mem) : isN b (.g (.list xs)) M = .ok (.g (.bool b)) M := rfl
theorem isN_int (b : Bool) (i : Int) (M : Mem) : isN b (.g (.int i)) M = .ok (.g (.bool b)) M := rfl
theorem isN_tr (b : Bool) (t : Tr) (M : Mem) : isN b (.g t.d) M = .ok (.g (.bool (b != t.no))) M := by
  cases t <;> cases b <;> rfl
theorem grd_map : ∀ xs : List PyData, grd (xs.map Dv.g) = some xs
  | [] => rfl
  | x :: xs => by
    show (grd (xs.map Dv.g)).map (x :: ·) = _
    rw [grd_map xs]
    rfl
theorem grd_mapI (xs : List Int) : grd (xs.map (Dv.g ∘ PyData.int)) = some (xs.map .int) := by
  have e : xs.map (Dv.g ∘ PyData.int) = (xs.map PyData.int).map Dv.g := by simp
  rw [e, grd_map]
theorem grd_appI (xs ys : List Int) : grd (xs.map (Dv.g ∘ PyData.int) ++ ys.map (Dv.g ∘ PyData.int)) = some (xs.map .int ++ ys.map .int) := by
  have e : xs.map (Dv.g ∘ PyData.int) ++ ys.map (Dv.g ∘ PyData.int) = (xs.map PyData.int ++ ys.map PyData.int).map Dv.g := by simp
  rw [e, grd_map]
theorem ddI_nd : ∀ (r a : List Int), (a ++ r).Nodup → ddI a r = a ++ r
  | [], a, _ => by simp [ddI]
  | x :: r, a, h => by
    have hx : (a.any fun j => decide (j = x)) = false := by
      rw [List.any_eq_false]
      intro y hy
      have := (List.nodup_append.mp h).2.2 y hy x (List.mem_cons_self ..)
      simpa using this
    unfold ddI
    rw [hx]
    show ddI (a ++ [x]) r = _
    rw [ddI_nd r (a ++ [x]) (by simpa using h)]
    simp
theorem intsP_map : ∀ ns : List Int, intsP (ns.map .int) = some ns
  | [] => rfl
  | n :: r => by simp [intsP, intsP_map r]
end Xt
namespace Xt
open PySem
namespace Tr
/-- the last places of a turned heap -/
def las : Tr → List Int
  | e => []
  | n k (n c e e) e => [k, c]
  | n k _ e => [k]
  | n _ l (n _ _ _) => las l
def outT : Tr → Int → Tr
  | e, _ => e
  | n k l e, x => if k = x then l else n k e e
  | n k l (n a b c), x => n k (n a b c) (outT l x)
theorem lay : ∀ t : Tr, t.d.canLay0 = true
  | e => rfl
  | n k l r => by simp [d, PyData.canLay0, PyData.canLayAll0, lay l, lay r]
/-- shapes -/
def sh : Tr → Tr
  | e => e
  | n _ l r => n 0 (sh l) (sh r)
/-- two last places -/
def two : Tr → Bool
  | e => false
  | n _ (n _ e e) e => true
  | n _ _ e => false
  | n _ l (n _ _ _) => two l
/-- a shape without a last place -/
def outS : Tr → Tr
  | e => e
  | n _ l e => if two (n 0 l e) then n 0 e e else l
  | n _ l (n a b c) => n 0 (n a b c) (outS l)
end Tr
theorem eqNN (l r : Tr) (M : Mem) : eqD false (.g (.tuple [l.d, r.d])) (.g (.tuple [.none, .none])) M = .ok (.g (.bool (l.no && r.no))) M := by
  have o : eqOk (.tuple [l.d, r.d]) (.tuple [.none, .none]) = true := by
    have a : PyData.canLay0 (.tuple [l.d, r.d]) = true := by simp [PyData.canLay0, PyData.canLayAll0, Tr.lay]
    unfold eqOk
    rw [a]
    refine Nat.ble_eq_true_of_le (Nat.le_trans (Nat.min_le_right _ _) ?_)
    simp [PyData.depth, PyData.depthAll]
  have q : PyData.eqv (.tuple [l.d, r.d]) (.tuple [.none, .none]) = (l.no && r.no) := by
    cases l <;> cases r <;> simp [PyData.eqv, PyData.eqvAll, Tr.d, Tr.no]
  show chk (eqOk _ _) (rt (vB (PyData.eqv (.tuple [l.d, r.d]) (.tuple [.none, .none])))) M = _
  rw [o, q]
  rfl
theorem cut13 (a b c : PyData) : cutD [a, b, c] (some 1) none = [b, c] := rfl
theorem cut1 {α : Type} (a : α) (r : List α) : cutD (a :: r) (some 1) none = r := by
  have h : HT.sIx (a :: r).length 0 (some 1) = 1 := by
    simp [HT.sIx]
  unfold cutD
  rw [h]
  simp [HT.sIx]
end Xt
namespace Xt
open PySem
theorem gx_true {tf : Dv → Slots → Co Slots} {te : Slots → Co Dv} {ρ : Slots} {M : Mem} : ∀ ds : List Dv, (∀ d ∈ ds, ∃ ρ1, tf d ρ M = .ok ρ1 M ∧ te ρ1 M = .ok (.g (.bool true)) M) → gxL tf te ρ ds M = some (ds.map fun _ => (.bool true, M))
  | [], _ => rfl
  | d :: r, h => by
    obtain ⟨ρ1, h1, h2⟩ := h d (List.mem_cons_self ..)
    have ih := gx_true r fun d hd => h d (List.mem_cons_of_mem _ hd)
    unfold gxL
    simp only [h1, h2, ih]
    rfl
theorem allZ_true {α : Type} {M : Mem} : ∀ ds : List α, allZ (ds.map fun _ => (PyData.bool true, M)) (some (true, M)) = some (true, M)
  | [] => rfl
  | _ :: r => allZ_true r
theorem all_true {src : Slots → Co (List Dv)} {tf : Dv → Slots → Co Slots} {te : Slots → Co Dv} {fr : List (Option Nat)} {ρ : Slots} {M : Mem} {ds : List Dv} (hs : src ρ M = .ok ds M) (h : ∀ d ∈ ds, ∃ ρ1, tf d (gρ ρ fr) M = .ok ρ1 M ∧ te ρ1 M = .ok (.g (.bool true)) M) : allG src tf te fr ρ M = .ok (vB true) M := by
  unfold allG bnd
  simp only [hs]
  rw [gx_true ds h]
  show (match allZ _ _ with
    | none => _
    | some (b, Me) => _) = _
  rw [allZ_true]
end Xt
namespace Xt
open PySem
theorem whl_go {c : Slots → Co Bool} {b : Slots → Co Fl} {n : Nat} {ρ ρ' : Slots} {M M' M1 : Mem} (hc : c ρ M = .ok true M1) (hb : b ρ M1 = .ok (.nx ρ') M') : whl c b (n + 1) ρ M = whl c b n ρ' M' := by
  show bnd (c ρ) _ M = _
  unfold bnd
  simp only [hc]
  show bnd (b ρ) _ M1 = _
  unfold bnd
  simp only [hb]
theorem whl_end {c : Slots → Co Bool} {b : Slots → Co Fl} {n : Nat} {ρ : Slots} {M M1 : Mem} (hc : c ρ M = .ok false M1) : whl c b (n + 1) ρ M = .ok (.nx ρ) M1 := by
  show bnd (c ρ) _ M = _
  unfold bnd
  simp only [hc]
  rfl
theorem for_go {tf : Dv → Slots → Co Slots} {b : Slots → Co Fl} {d : Dv} {r : List Dv} {ρ ρ1 ρ' : Slots} {M M1 M' : Mem} (h1 : tf d ρ M = .ok ρ1 M1) (hb : b ρ1 M1 = .ok (.nx ρ') M') : forL tf b (d :: r) ρ M = forL tf b r ρ' M' := by
  show bnd (tf d ρ) _ M = _
  unfold bnd
  simp only [h1]
  show bnd (b ρ1) _ M1 = _
  unfold bnd
  simp only [hb]
end Xt
namespace Xt
open PySem
theorem sq_nx {a b : Slots → Co Fl} {ρ ρ' : Slots} {M M' : Mem} (h : a ρ M = .ok (.nx ρ') M') : sq a b ρ M = b ρ' M' := by
  show bnd (a ρ) _ M = _
  unfold bnd
  rw [h]
theorem sq_rt {a b : Slots → Co Fl} {ρ : Slots} {M M' : Mem} {d : Dv} (h : a ρ M = .ok (.rt d) M') : sq a b ρ M = .ok (.rt d) M' := by
  show bnd (a ρ) _ M = _
  unfold bnd
  rw [h]
  rfl
theorem bnd_ok {α β : Type} {c : Co α} {k : α → Co β} {M M' : Mem} {x : α} (h : c M = .ok x M') : bnd c k M = k x M' := by
  unfold bnd
  rw [h]
theorem def_rt {n np : Nat} {b : Slots → Co Fl} {ds : List Dv} {M M' : Mem} {d : Dv} (hl : Nat.beq ds.length np = true) (h : b (ds ++ List.replicate (n - np) .u) M = .ok (.rt d) M') : defF n np b ds M = .ok d M' := by
  unfold defF chk
  rw [hl]
  exact (bnd_ok h).trans rfl
theorem for_src {src : Slots → Co (List Dv)} {tf : Dv → Slots → Co Slots} {b : Slots → Co Fl} {ρ : Slots} {M M' : Mem} {ds : List Dv} (h : src ρ M = .ok ds M') : forX src tf b ρ M = forL tf b ds ρ M' := bnd_ok h
theorem sq_assoc (a b c : Slots → Co Fl) : sq (sq a b) c = sq a (sq b c) := by
  funext ρ M
  show bnd (bnd (a ρ) _) _ M = bnd (a ρ) _ M
  unfold bnd
  cases e : a ρ M with
  | fail => rfl
  | ex x M' => rfl
  | ok f M' => cases f <;> rfl
theorem skp_sq (c : Slots → Co Fl) : sq skp c = c := rfl
end Xt
set_option linter.all false
set_option maxRecDepth 100000
namespace Xt
open PySem
/-- the law's row of draws -/
def RW (ns : List Int) (a b c : Int) : MO := .lst [.g (.list (ns.map .int)), dI a, dI b, dI c]
theorem small_of {i : Int} (h : i.natAbs ≤ 2147483647) : small i = true := by
  unfold small
  refine Nat.ble_eq_true_of_le ?_
  have : (2147483647 : Nat) < 2 ^ 4096 := by decide +kernel
  omega
end Xt
namespace K16
open Xt PySem
theorem tk (ns : List Int) (a b c many : Int) (rest : Mem) (hm : 0 < many) (hm2 : many ≤ 1000) (ha : 0 ≤ a) (hb : 0 ≤ b) (hb2 : b < 2147483647) :
    ∃ d a' b' c', 0 ≤ d ∧ d < many ∧ 0 ≤ a' ∧ 0 ≤ b' ∧ b' < 2147483647 ∧ defF 4 2 b_q_taken [.r 0, dI many] (RW ns a b c :: rest) = .ok (dI d) (RW ns a' b' c' :: rest) := by
  have m1 : ∀ x, divOk x many = true := fun x => by
    unfold divOk
    rw [decide_eq_true hm, small_of (by omega)]
    rfl
  have m2 : mulOk b 48271 = true := by
    unfold mulOk
    rw [small_of (by omega), small_of (by decide)]
    rfl
  have m7 : ∀ x, divOk x 7 = true := fun x => by
    unfold divOk
    rw [small_of (by decide)]
    rfl
  have mp : powOk 10 18 = true := by decide +kernel
  have mD : ∀ (x : Int) (e : Dv), mulD (.g (.int x)) e = i2c mulOk (fun i j => dI (i * j)) (.g (.int x)) e := fun _ _ => rfl
  by_cases hc : 0 < c
  · refine ⟨c % many, a, b, c / many, Int.emod_nonneg _ (by omega), Int.emod_lt_of_pos _ hm, ha, hb, hb2, ?_⟩
    simp [b_q_taken, defF, chk, RW, sq, ifs, tst, b2, bnd, sl, kk, rt, ixD, atM, ofO, asI, L2.atI, L2.ixN, i2, i2c, tB, vB, dI, asg, tN, tSub, stD, putM, Xt.ret, b1, frZ, cB, ac, ac0, un1, m1, skp, intD, hc, hm]
  · by_cases hl : a + 1 > (ns.length : Int)
    · refine ⟨((b * 48271 + 11) % 2147483647 / 7) % many, a + 1, (b * 48271 + 11) % 2147483647, c, Int.emod_nonneg _ (by omega), Int.emod_lt_of_pos _ hm, by omega, by omega, by omega, ?_⟩
      have hl' : (ns.length : Int) < a + 1 := hl
      simp [b_q_taken, defF, chk, RW, sq, ifs, tst, b2, bnd, sl, kk, rt, ixD, atM, ofO, asI, L2.atI, L2.ixN, i2, i2c, tB, vB, dI, asg, tN, tSub, stD, putM, Xt.ret, b1, frZ, cB, ac, ac0, un1, m1, m2, m7, mD, skp, intD, hc, hm, lenD, hl', addD]
    · have hj : a.toNat < ns.length := by omega
      have e1 : (ns.map PyData.int)[a.toNat]? = some (.int ns[a.toNat]) := by rw [List.getElem?_map, List.getElem?_eq_getElem hj]; rfl
      have hl' : ¬ ((ns.length : Int) < a + 1) := hl
      have ha2 : a < (ns.length : Int) := by omega
      have e3 : a + 1 - 1 = a := by omega
      by_cases hg : 10 ^ 18 ≤ ns[a.toNat]
      · refine ⟨ns[a.toNat] % many, a + 1, (b * 48271 + ns[a.toNat] + 11) % 2147483647, ns[a.toNat] / many, Int.emod_nonneg _ (by omega), Int.emod_lt_of_pos _ hm, by omega, by omega, by omega, ?_⟩
        have hg' : (1000000000000000000 : Int) ≤ ns[a.toNat] := hg
        simp [b_q_taken, defF, chk, RW, sq, ifs, tst, b2, bnd, sl, kk, rt, ixD, atM, ofO, asI, L2.atI, L2.ixN, i2, i2c, tB, vB, dI, asg, tN, tSub, stD, putM, Xt.ret, b1, frZ, cB, ac, ac0, un1, m1, m2, m7, mD, mp, skp, intD, hc, hm, lenD, hl', addD, e1, e3, ha, ha2, hg', hj]
      · refine ⟨ns[a.toNat] % many, a + 1, (b * 48271 + ns[a.toNat] + 11) % 2147483647, c, Int.emod_nonneg _ (by omega), Int.emod_lt_of_pos _ hm, by omega, by omega, by omega, ?_⟩
        have hg' : ¬ (1000000000000000000 : Int) ≤ ns[a.toNat] := hg
        simp [b_q_taken, defF, chk, RW, sq, ifs, tst, b2, bnd, sl, kk, rt, ixD, atM, ofO, asI, L2.atI, L2.ixN, i2, i2c, tB, vB, dI, asg, tN, tSub, stD, putM, Xt.ret, b1, frZ, cB, ac, ac0, un1, m1, m2, m7, mD, mp, skp, intD, hc, hm, lenD, hl', addD, e1, e3, ha, ha2, hg', hj]
end K16
set_option Elab.async false
set_option linter.all false
set_option maxRecDepth 1000000
set_option maxHeartbeats 4000000
namespace K16
open Xt PySem
def gi (i : Nat) : Dv := .g (.int (i : Int))
/-- n-1, .., 0 -/
def dn : Nat → List Nat
  | 0 => []
  | i + 1 => i :: dn i
def keepP (n i : Nat) : Bool := decide ((i : Int) > 0) || decide ((n : Int) = 1)
def pr (n i : Nat) : PyData := .tuple [.int i, .int ((n : Int) - 1 - i)]
def PL (n : Nat) : List Nat := (dn n).filter (keepP n)
theorem rg_dn : ∀ n : Nat, rngs (-1) ((n : Int) - 1) n = (dn n).map gi
  | 0 => rfl
  | n + 1 => by
    have e : ((n + 1 : Nat) : Int) - 1 = n := by omega
    have e2 : (n : Int) + -1 = (n : Int) - 1 := by omega
    rw [e]
    show dI (n : Int) :: rngs (-1) ((n : Int) + -1) n = _
    rw [e2, rg_dn n]
    rfl
theorem rgN_all : ((List.range 201).all fun n => decide (rgN ((n : Int) - 1) (-1) (-1) = some n)) = true := by decide +kernel
theorem rgN_n {n : Nat} (h : n < 201) : rgN ((n : Int) - 1) (-1) (-1) = some n := of_decide_eq_true (List.all_eq_true.mp rgN_all n (List.mem_range.mpr h))
def tP : Slots → Co Bool := tor (tst (b2 gtD (sl 1) (kk (.int 0)))) (tst (b2 (eqD false) (sl 0) (kk (.int 1))))
def eP : Slots → Co Dv := tup (ac (sl 1) (ac (b2 subD (b2 subD (sl 0) (kk (.int 1))) (sl 1)) ac0))
theorem lcP (n : Nat) (M : Mem) : ∀ l : List Nat, lcL (tN 1) tP eP [.g (.int n), .u] (l.map gi) M = .ok ((l.filter (keepP n)).map (pr n)) M
  | [] => rfl
  | i :: l => by
    have ih := lcP n M l
    have h1 : tP [.g (.int n), .g (.int i)] M = .ok (keepP n i) M := by
      have t1 : tst (b2 gtD (sl 1) (kk (.int 0))) [.g (.int n), .g (.int i)] M = .ok (decide ((i : Int) > 0)) M := rfl
      have t2 : tst (b2 (eqD false) (sl 0) (kk (.int 1))) [.g (.int n), .g (.int i)] M = .ok (decide ((n : Int) = 1)) M := by
        have q : b2 (eqD false) (sl 0) (kk (.int 1)) [.g (.int n), .g (.int i)] M = .ok (.g (.bool (decide ((n : Int) = 1)))) M := eqI _ _ _
        exact (bnd_ok q).trans rfl
      show bnd (tst (b2 gtD (sl 1) (kk (.int 0))) [.g (.int n), .g (.int i)]) (fun b => match b with | true => rt true | false => tst (b2 (eqD false) (sl 0) (kk (.int 1))) [.g (.int n), .g (.int i)]) M = _
      refine (bnd_ok t1).trans ?_
      unfold keepP
      cases decide ((i : Int) > 0)
      · exact t2
      · rfl
    have h2 : eP [.g (.int n), .g (.int i)] M = .ok (.g (pr n i)) M := by simp [defF, chk, sq, ifs, tst, b2, b1, bnd, sl, kk, rt, ixD, atM, ofO, asI, L2.atI, L2.ixN, i2, i2c, tB, vB, dI, asg, tN, tT, tC, tZ, asT, tSub, stD, putM, Xt.ret, frZ, cB, ac, ac0, un1, skp, intD, lenD, addD, isN_none, isN_tup, isN_int, isN_lst, isN_tr, tru, grd_map, grd_mapI, grd_appI, tup, mkT, grd, szOk, trV, tor, tand, tnt, andV, ntV, iff, isi, isi2, knD, isTy, kn, pureC, Xt.ch, drp, par2, asG, asGp, fl, lstG, acS, lsP, eqI, neI, subD, leD, ltD, gtD, geD, eP, pr]
    show bnd (nox (rt [(Dv.g (.int n)), (Dv.g (.int i))])) _ M = _
    cases c : keepP n i with
    | true =>
      rw [c] at h1
      simp [defF, chk, sq, ifs, tst, b2, b1, bnd, sl, kk, rt, ixD, atM, ofO, asI, L2.atI, L2.ixN, i2, i2c, tB, vB, dI, asg, tN, tT, tC, tZ, asT, tSub, stD, putM, Xt.ret, frZ, cB, ac, ac0, un1, skp, intD, lenD, addD, isN_none, isN_tup, isN_int, isN_lst, isN_tr, tru, grd_map, grd_mapI, grd_appI, tup, mkT, grd, szOk, trV, tor, tand, tnt, andV, ntV, iff, isi, isi2, knD, isTy, kn, pureC, Xt.ch, drp, par2, asG, asGp, fl, lstG, acS, lsP, eqI, neI, subD, leD, ltD, gtD, geD, nox, h1, h2, gOf, ih, c]
    | false =>
      rw [c] at h1
      simp [defF, chk, sq, ifs, tst, b2, b1, bnd, sl, kk, rt, ixD, atM, ofO, asI, L2.atI, L2.ixN, i2, i2c, tB, vB, dI, asg, tN, tT, tC, tZ, asT, tSub, stD, putM, Xt.ret, frZ, cB, ac, ac0, un1, skp, intD, lenD, addD, isN_none, isN_tup, isN_int, isN_lst, isN_tr, tru, grd_map, grd_mapI, grd_appI, tup, mkT, grd, szOk, trV, tor, tand, tnt, andV, ntV, iff, isi, isi2, knD, isTy, kn, pureC, Xt.ch, drp, par2, asG, asGp, fl, lstG, acS, lsP, eqI, neI, subD, leD, ltD, gtD, geD, nox, h1, ih, c]
theorem dn_len : ∀ n, (dn n).length = n
  | 0 => rfl
  | n + 1 => by simp [dn, dn_len n]
theorem parted_ok (k n : Nat) (h : n < 201) : F_parted (k + 1) [.g (.int n)] [] = .ok (.g (.list ((PL n).map (pr n)))) [] := by
  have e := lcP n [] (dn n)
  have er := rgN_n h
  have z : ((dn n).map gi).length.ble 16777216 = true := Nat.ble_eq_true_of_le (by rw [List.length_map, dn_len]; omega)
  have s : srcR3 (ac (b2 subD (sl 0) (kk (.int 1))) (ac (b1 ngD (kk (.int 1))) (ac (b1 ngD (kk (.int 1))) ac0))) [.g (.int n), .u] [] = .ok ((dn n).map gi) [] := by
    show bnd (ofO (rgN ((n : Int) - 1) (-1) (-1))) (fun n' => rt (rngs (-1) ((n : Int) - 1) n')) [] = _
    rw [er]
    show RE.ok _ _ = _
    rw [rg_dn]
  have x : lcX [1] (srcR3 (ac (b2 subD (sl 0) (kk (.int 1))) (ac (b1 ngD (kk (.int 1))) (ac (b1 ngD (kk (.int 1))) ac0)))) (tN 1) tP eP [.g (.int n), .u] [] = .ok (.g (.list ((PL n).map (pr n)))) [] := by
    refine (bnd_ok s).trans ?_
    show chk (((dn n).map gi).length.ble 16777216) _ _ = _
    rw [z]
    exact (bnd_ok e).trans rfl
  refine def_rt rfl (sq_rt ((bnd_ok x).trans rfl))
/-- the numbers of shapes -/
def sm (C : List Int) (n : Nat) : Int := sumZ 0 ((PL n).map fun i => (C.getD i 0) * (C.getD (n - 1 - i) 0))
def cL : Nat → List Int
  | 0 => [1]
  | m + 1 => cL m ++ [sm (cL m) (m + 1)]
end K16
set_option Elab.async false
set_option linter.all false
set_option maxRecDepth 1000000
set_option maxHeartbeats 4000000
namespace K16
open Xt PySem
theorem dn_lt : ∀ (n i : Nat), i ∈ dn n → i < n
  | 0, i, h => nomatch h
  | n + 1, i, h => by
    rcases List.mem_cons.mp h with e | h
    · omega
    · have := dn_lt n i h
      omega
theorem PL_lt {n i : Nat} (h : i ∈ PL n) : i < n := dn_lt n i (List.mem_filter.mp h).1
theorem PL_cons (n : Nat) (h : 0 < n) : ∃ r, PL n = (n - 1) :: r := by
  obtain ⟨m, rfl⟩ : ∃ m, n = m + 1 := ⟨n - 1, by omega⟩
  have k : keepP (m + 1) m = true := by
    unfold keepP
    cases m with
    | zero => rfl
    | succ m => simp
  refine ⟨(dn m).filter (keepP (m + 1)), ?_⟩
  show (m :: dn m).filter _ = _
  rw [List.filter_cons, if_pos k]
  rfl
theorem sumZ_eq : ∀ (l : List Int) (a : Int), sumZ a l = a + l.sum
  | [], a => by simp [sumZ]
  | x :: l, a => by
    show sumZ (a + x) l = _
    rw [sumZ_eq l]
    simp
    omega
theorem sum_bd (B : Int) (hB : 0 ≤ B) : ∀ l : List Int, (∀ x ∈ l, 1 ≤ x ∧ x ≤ B) → (l.length : Int) ≤ l.sum ∧ l.sum ≤ l.length * B
  | [], _ => by simp
  | x :: l, h => by
    obtain ⟨h1, h2⟩ := sum_bd B hB l fun y hy => h y (List.mem_cons_of_mem _ hy)
    obtain ⟨h3, h4⟩ := h x (List.mem_cons_self ..)
    have e : ((l.length + 1 : Nat) : Int) * B = l.length * B + B := by
      rw [Int.natCast_add, Int.add_mul]
      simp
    simp only [List.sum_cons, List.length_cons]
    rw [e]
    omega
theorem cL_len : ∀ m, (cL m).length = m + 1
  | 0 => rfl
  | m + 1 => by simp [cL, cL_len m]
/-- between 1 and 201^i -/
def Bd (C : List Int) : Prop := ∀ i, i < C.length → 1 ≤ C.getD i 0 ∧ C.getD i 0 ≤ (201 : Int) ^ i
theorem PL_len (n : Nat) : (PL n).length ≤ n := by
  have := List.length_filter_le (keepP n) (dn n)
  rw [dn_len] at this
  exact this
theorem sm_bd {C : List Int} {n : Nat} (h0 : 0 < n) (h : n ≤ 200) (hl : C.length = n) (hb : Bd C) : 1 ≤ sm C n ∧ sm C n ≤ (201 : Int) ^ n := by
  unfold sm
  rw [sumZ_eq, Int.zero_add]
  have P : (0 : Int) ≤ (201 : Int) ^ (n - 1) := Int.le_of_lt (Int.pow_pos (by decide))
  obtain ⟨h1, h2⟩ := sum_bd ((201 : Int) ^ (n - 1)) P ((PL n).map fun i => C.getD i 0 * C.getD (n - 1 - i) 0) fun x hx => by
    obtain ⟨i, hi, rfl⟩ := List.mem_map.mp hx
    have li := PL_lt hi
    obtain ⟨a1, a2⟩ := hb i (by omega)
    obtain ⟨b1, b2⟩ := hb (n - 1 - i) (by omega)
    refine ⟨Int.mul_le_mul a1 b1 (by decide) (by omega), ?_⟩
    have e : (201 : Int) ^ (n - 1) = (201 : Int) ^ i * (201 : Int) ^ (n - 1 - i) := by
      rw [← Int.pow_add]
      congr 1
      omega
    rw [e]
    exact Int.mul_le_mul a2 b2 (by omega) (Int.le_of_lt (Int.pow_pos (by decide)))
  rw [List.length_map] at h1 h2
  obtain ⟨r, er⟩ := PL_cons n h0
  have l1 : 1 ≤ (PL n).length := by rw [er]; simp
  have l2 := PL_len n
  refine ⟨by omega, Int.le_trans h2 ?_⟩
  have e : (201 : Int) ^ n = 201 * (201 : Int) ^ (n - 1) := by
    obtain ⟨m, rfl⟩ : ∃ m, n = m + 1 := ⟨n - 1, by omega⟩
    rw [Int.pow_succ, Int.mul_comm]
    rfl
  rw [e]
  exact Int.mul_le_mul_of_nonneg_right (by omega) P
theorem cL_bd : ∀ m, m ≤ 200 → Bd (cL m)
  | 0, _ => fun i hi => by
    have : i = 0 := by
      have : i < 1 := hi
      omega
    subst this
    decide
  | m + 1, h => fun i hi => by
    have ih := cL_bd m (by omega)
    have hl := cL_len m
    have hi2 : i < m + 2 := by rw [cL_len] at hi; exact hi
    show 1 ≤ (cL m ++ [sm (cL m) (m + 1)]).getD i 0 ∧ (cL m ++ [sm (cL m) (m + 1)]).getD i 0 ≤ _
    by_cases e : i < m + 1
    · have q : (cL m ++ [sm (cL m) (m + 1)]).getD i 0 = (cL m).getD i 0 := by
        rw [List.getD_eq_getElem?_getD, List.getD_eq_getElem?_getD, List.getElem?_append_left (by omega)]
      rw [q]
      exact ih i (by omega)
    · have e2 : i = m + 1 := by omega
      subst e2
      have q : (cL m ++ [sm (cL m) (m + 1)]).getD (m + 1) 0 = sm (cL m) (m + 1) := by
        rw [List.getD_eq_getElem?_getD, List.getElem?_append_right (by omega), hl]
        simp
      rw [q]
      exact sm_bd (by omega) h hl ih
theorem small_bd {C : List Int} (hb : Bd C) (hl : C.length ≤ 201) {i : Nat} (hi : i < C.length) : small (C.getD i 0) = true := by
  obtain ⟨h1, h2⟩ := hb i hi
  have h3 : (201 : Int) ^ i ≤ (201 : Int) ^ 200 := by
    have e : (201 : Int) ^ 200 = (201 : Int) ^ i * (201 : Int) ^ (200 - i) := by
      rw [← Int.pow_add]
      congr 1
      omega
    rw [e]
    have p1 : (1 : Int) ≤ (201 : Int) ^ (200 - i) := Int.pow_pos (by decide)
    have p2 : (0 : Int) ≤ (201 : Int) ^ i := Int.le_of_lt (Int.pow_pos (by decide))
    calc (201 : Int) ^ i = (201 : Int) ^ i * 1 := by rw [Int.mul_one]
      _ ≤ _ := Int.mul_le_mul_of_nonneg_left p1 p2
  have h4 : (201 : Int) ^ 200 < 2 ^ 4096 := by decide +kernel
  unfold small
  refine Nat.ble_eq_true_of_le ?_
  have h5 : C.getD i 0 < 2 ^ 4096 := Int.lt_of_le_of_lt (Int.le_trans h2 h3) h4
  have h6 : ((C.getD i 0).natAbs : Int) = C.getD i 0 := Int.natAbs_of_nonneg (by omega)
  have h7 : ((C.getD i 0).natAbs : Int) < ((2 ^ 4096 : Nat) : Int) := by
    rw [h6]
    exact_mod_cast h5
  exact Int.ofNat_lt.mp h7
end K16
set_option Elab.async false
set_option linter.all false
set_option maxRecDepth 1000000
set_option maxHeartbeats 4000000
namespace K16
open Xt PySem
theorem pure_ok {c : List Dv → Co Dv} {xs : List PyData} {y : PyData} {M' : Mem} (M : Mem) (h : c (xs.map Dv.g) [] = .ok (.g y) M') : pureC c (xs.map Dv.g) M = .ok (.g y) M := by
  unfold pureC
  refine (bnd_ok (show ofO (grd (xs.map Dv.g)) M = .ok xs M by rw [grd_map]; rfl)).trans ?_
  simp only [h]
def CM (C : List Int) : Mem := [.lst (C.map (Dv.g ∘ PyData.int))]
theorem ixC {C : List Int} {i : Nat} (h : i < C.length) : ixD (.r 0) (.g (.int i)) (CM C) = .ok (.g (.int (C.getD i 0))) (CM C) := by
  have e : L2.atI (C.map (Dv.g ∘ PyData.int)) (i : Int) = some (.g (.int (C.getD i 0))) := by
    unfold L2.atI L2.ixN
    rw [if_pos (by omega), if_pos (by simpa using h)]
    show (C.map (Dv.g ∘ PyData.int))[(i : Int).toNat]? = _
    rw [Int.toNat_natCast, List.getElem?_map, List.getElem?_eq_getElem h, List.getD_eq_getElem?_getD, List.getElem?_eq_getElem h]
    rfl
  show ofO (L2.atI (C.map (Dv.g ∘ PyData.int)) (i : Int)) (CM C) = _
  rw [e]
  rfl
def eS : Slots → Co Dv := b2 mulD (b2 ixD (sl 2) (sl 0)) (b2 ixD (sl 2) (sl 1))
def tS : Dv → Slots → Co Slots := tT 2 (tC (tN 0) (tC (tN 1) tZ))
theorem gxS (C : List Int) (n : Nat) (hl : C.length = n) (hs : ∀ i, i < n → small (C.getD i 0) = true) : ∀ l : List Nat, (∀ i ∈ l, i < n) →
    gxL tS eS [.u, .u, .r 0] (l.map (Dv.g ∘ pr n)) (CM C) = some (l.map fun i => (.int (C.getD i 0 * C.getD (n - 1 - i) 0), CM C))
  | [], _ => rfl
  | i :: l, h => by
    have ih := gxS C n hl hs l fun j hj => h j (List.mem_cons_of_mem _ hj)
    have hi := h i (List.mem_cons_self ..)
    have e : (n : Int) - 1 - i = ((n - 1 - i : Nat) : Int) := by omega
    have q1 : tS (.g (pr n i)) [.u, .u, .r 0] (CM C) = .ok [.g (.int i), .g (.int ((n - 1 - i : Nat) : Int)), .r 0] (CM C) := by
      rw [← e]
      rfl
    have m : mulOk (C.getD i 0) (C.getD (n - 1 - i) 0) = true := by
      unfold mulOk
      rw [hs i hi, hs (n - 1 - i) (by omega)]
      rfl
    have q2 : eS [.g (.int i), .g (.int ((n - 1 - i : Nat) : Int)), .r 0] (CM C) = .ok (.g (.int (C.getD i 0 * C.getD (n - 1 - i) 0))) (CM C) := by
      have a1 : b2 ixD (sl 2) (sl 0) [.g (.int i), .g (.int ((n - 1 - i : Nat) : Int)), .r 0] (CM C) = .ok (.g (.int (C.getD i 0))) (CM C) := ixC (by omega)
      have a2 : b2 ixD (sl 2) (sl 1) [.g (.int i), .g (.int ((n - 1 - i : Nat) : Int)), .r 0] (CM C) = .ok (.g (.int (C.getD (n - 1 - i) 0))) (CM C) := ixC (by omega)
      refine (bnd_ok a1).trans ((bnd_ok a2).trans ?_)
      show chk (mulOk _ _) _ _ = _
      rw [m]
      rfl
    show (match tS (.g (pr n i)) [.u, .u, .r 0] (CM C) with
      | .ok ρ1 M1 => (match eS ρ1 M1 with
        | .ok (.g y) M2 => (match gxL tS eS [.u, .u, .r 0] (l.map (Dv.g ∘ pr n)) M2 with
          | some l => some ((y, M2) :: l)
          | none => none)
        | _ => none)
      | _ => none) = _
    rw [q1]
    show (match eS _ (CM C) with
      | .ok (.g y) M2 => (match gxL tS eS [.u, .u, .r 0] (l.map (Dv.g ∘ pr n)) M2 with
        | some l => some ((y, M2) :: l)
        | none => none)
      | _ => none) = _
    rw [q2]
    show (match gxL tS eS [.u, .u, .r 0] (l.map (Dv.g ∘ pr n)) (CM C) with
        | some l => some ((PyData.int (C.getD i 0 * C.getD (n - 1 - i) 0), CM C) :: l)
        | none => none) = _
    rw [ih]
    rfl
theorem intsZ_map {M : Mem} (f : Nat → Int) : ∀ l : List Nat, intsZ (l.map fun i => (PyData.int (f i), M)) = some (l.map f)
  | [] => rfl
  | i :: l => by
    have ih := intsZ_map (M := M) f l
    simp only [List.map_cons, intsZ, ih]
    try rfl
theorem gxM_map {M : Mem} (f : Nat → PyData) : ∀ l : List Nat, gxM M (l.map fun i => (f i, M)) = M
  | [] => rfl
  | i :: l => gxM_map f l
def b_ct (k : Nat) : Slots → Co Fl := sq (drp (app (sl 1) (sumG (nxS (srcS (cB (pureC (F_parted k)) (ac (sl 2) ac0)))) tS eS [none, none, some 1]))) skp
theorem ct_step (k m : Nat) (hm : m < 200) (d : Dv) (y : Dv) : b_ct (k + 1) [d, .r 0, .g (.int ((m + 1 : Nat) : Int))] (CM (cL m)) = .ok (.nx [d, .r 0, .g (.int ((m + 1 : Nat) : Int))]) (CM (cL (m + 1))) := by
  have hl := cL_len m
  have hb := cL_bd m (by omega)
  have g := gxS (cL m) (m + 1) hl (fun i hi => small_bd hb (by omega) (by omega)) (PL (m + 1)) fun i hi => PL_lt hi
  have p := parted_ok k (m + 1) (by omega)
  have s : nxS (srcS (cB (pureC (F_parted (k + 1))) (ac (sl 2) ac0))) [d, .r 0, .g (.int ((m + 1 : Nat) : Int))] (CM (cL m)) = .ok ((PL (m + 1)).map (Dv.g ∘ pr (m + 1))) (CM (cL m)) := by
    have c : cB (pureC (F_parted (k + 1))) (ac (sl 2) ac0) [d, .r 0, .g (.int ((m + 1 : Nat) : Int))] (CM (cL m)) = .ok (.g (.list ((PL (m + 1)).map (pr (m + 1))))) (CM (cL m)) := pure_ok (xs := [.int ((m + 1 : Nat) : Int)]) (CM (cL m)) p
    have c2 : srcS (cB (pureC (F_parted (k + 1))) (ac (sl 2) ac0)) [d, .r 0, .g (.int ((m + 1 : Nat) : Int))] (CM (cL m)) = .ok ((PL (m + 1)).map (Dv.g ∘ pr (m + 1))) (CM (cL m)) := by
      refine (bnd_ok c).trans ?_
      show RE.ok (((PL (m + 1)).map (pr (m + 1))).map Dv.g) _ = _
      rw [List.map_map]
    show nox (srcS (cB (pureC (F_parted (k + 1))) (ac (sl 2) ac0)) [d, .r 0, .g (.int ((m + 1 : Nat) : Int))]) (CM (cL m)) = _
    unfold nox
    rw [c2]
  have z : sumG (nxS (srcS (cB (pureC (F_parted (k + 1))) (ac (sl 2) ac0)))) tS eS [none, none, some 1] [d, .r 0, .g (.int ((m + 1 : Nat) : Int))] (CM (cL m)) = .ok (dI (sm (cL m) (m + 1))) (CM (cL m)) := by
    refine (bnd_ok s).trans ?_
    show (match gxL tS eS [.u, .u, .r 0] ((PL (m + 1)).map (Dv.g ∘ pr (m + 1))) (CM (cL m)) with
      | none => RE.fail
      | some l => (match intsZ l with
        | none => .fail
        | some zs => .ok (dI (sumZ 0 zs)) (gxM (CM (cL m)) l))) = _
    rw [g]
    show (match intsZ _ with
        | none => RE.fail
        | some zs => .ok (dI (sumZ 0 zs)) (gxM (CM (cL m)) _)) = _
    rw [intsZ_map fun i => (cL m).getD i 0 * (cL m).getD (m + 1 - 1 - i) 0, gxM_map fun i => .int ((cL m).getD i 0 * (cL m).getD (m + 1 - 1 - i) 0)]
    rfl
  have a : app (sl 1) (sumG (nxS (srcS (cB (pureC (F_parted (k + 1))) (ac (sl 2) ac0)))) tS eS [none, none, some 1]) [d, .r 0, .g (.int ((m + 1 : Nat) : Int))] (CM (cL m)) = .ok (.g .none) (CM (cL (m + 1))) := by
    have l0 : lstOf (Dv.r 0) (CM (cL m)) = .ok 0 (CM (cL m)) := rfl
    have c : ((cL m).map (Dv.g ∘ PyData.int)).length.blt 16777216 = true := Nat.ble_eq_true_of_le (by rw [List.length_map, hl]; omega)
    have e : apM 0 (dI (sm (cL m) (m + 1))) (CM (cL m)) = .ok (.g .none) (CM (cL (m + 1))) := by
      show chk (((cL m).map (Dv.g ∘ PyData.int)).length.blt 16777216) _ _ = _
      rw [c]
      show RE.ok (Dv.g .none) [MO.lst ((cL m).map (Dv.g ∘ PyData.int) ++ [dI (sm (cL m) (m + 1))])] = _
      unfold CM
      show _ = RE.ok (Dv.g .none) [MO.lst ((cL m ++ [sm (cL m) (m + 1)]).map (Dv.g ∘ PyData.int))]
      rw [List.map_append]
      rfl
    show bnd (sl 1 [d, .r 0, .g (.int ((m + 1 : Nat) : Int))]) (fun d0 => bnd (lstOf d0) fun i => bnd (sumG (nxS (srcS (cB (pureC (F_parted (k + 1))) (ac (sl 2) ac0)))) tS eS [none, none, some 1] [d, .r 0, .g (.int ((m + 1 : Nat) : Int))]) fun e => apM i e) (CM (cL m)) = _
    refine (bnd_ok (x := Dv.r 0) (M' := CM (cL m)) rfl).trans ((bnd_ok l0).trans ((bnd_ok z).trans e))
  exact (sq_nx ((bnd_ok a).trans rfl)).trans rfl
theorem ct_loop (k : Nat) (d : Dv) : ∀ (j m : Nat) (y : Dv), m + j ≤ 200 → ∃ y', forL (tN 2) (b_ct (k + 1)) (rngs 1 ((m + 1 : Nat) : Int) j) [d, .r 0, y] (CM (cL m)) = .ok (.nx [d, .r 0, y']) (CM (cL (m + j)))
  | 0, m, y, _ => ⟨y, rfl⟩
  | j + 1, m, y, h => by
    obtain ⟨y', ih⟩ := ct_loop k d j (m + 1) (.g (.int ((m + 1 : Nat) : Int))) (by omega)
    refine ⟨y', ?_⟩
    have h0 : tN 2 (dI ((m + 1 : Nat) : Int)) [d, .r 0, y] (CM (cL m)) = .ok [d, .r 0, .g (.int ((m + 1 : Nat) : Int))] (CM (cL m)) := rfl
    have e1 : rngs 1 ((m + 1 : Nat) : Int) (j + 1) = dI ((m + 1 : Nat) : Int) :: rngs 1 ((m + 1 + 1 : Nat) : Int) j := rfl
    rw [e1, for_go h0 (ct_step k m (by omega) d y), ih]
    have e2 : m + 1 + j = m + (j + 1) := by omega
    rw [e2]
theorem counts_ok (k n : Nat) (h : n ≤ 200) : ∃ M, F_counts_to (k + 3) [.g (.int n)] [] = .ok (.g (.list ((cL n).map .int))) M := by
  obtain ⟨y, e⟩ := ct_loop k (.g (.int n)) n 0 .u (by omega)
  rw [show 0 + n = n from Nat.zero_add n] at e
  refine ⟨[.dead], ?_⟩
  show defF 3 1 (sq (asg (lstR (ac (kk (.int 1)) ac0)) (tN 1)) (sq (forX (srcR2 (ac (kk (.int 1)) (ac (b2 addD (sl 0) (kk (.int 1))) ac0))) (tN 2) (b_ct (k + 1))) (sq (ret (b1 frZ (sl 1))) skp))) _ _ = _
  have s0 : asg (lstR (ac (kk (.int 1)) ac0)) (tN 1) [.g (.int n), .u, .u] [] = .ok (.nx [.g (.int n), .r 0, .u]) (CM (cL 0)) := rfl
  have c1 : rOk ((n : Int) + 1) = true := Nat.ble_eq_true_of_le (by omega)
  have s1 : srcR2 (ac (kk (.int 1)) (ac (b2 addD (sl 0) (kk (.int 1))) ac0)) [.g (.int n), .r 0, .u] (CM (cL 0)) = .ok (rngs 1 ((0 + 1 : Nat) : Int) n) (CM (cL 0)) := by
    show chk (rOk 1 && rOk ((n : Int) + 1)) (rt (rngs 1 1 ((n : Int) + 1 - 1).toNat)) (CM (cL 0)) = _
    have z : ((n : Int) + 1 - 1).toNat = n := by omega
    rw [c1, z]
    rfl
  have s2 := (for_src (tf := tN 2) (b := b_ct (k + 1)) s1).trans e
  have s3 : b1 frZ (sl 1) [.g (.int n), .r 0, y] (CM (cL n)) = .ok (.g (.list ((cL n).map .int))) [.dead] := by
    simp [defF, chk, sq, ifs, tst, b2, b1, bnd, sl, kk, rt, ixD, atM, ofO, asI, L2.atI, L2.ixN, i2, i2c, tB, vB, dI, asg, tN, tT, tC, tZ, asT, tSub, stD, putM, Xt.ret, frZ, cB, ac, ac0, un1, skp, intD, lenD, addD, isN_none, isN_tup, isN_int, isN_lst, isN_tr, tru, grd_map, grd_mapI, grd_appI, tup, mkT, grd, szOk, trV, tor, tand, tnt, andV, ntV, iff, isi, isi2, knD, isTy, kn, pureC, Xt.ch, drp, par2, asG, asGp, fl, lstG, acS, lsP, eqI, neI, subD, leD, ltD, gtD, geD, CM]
  refine def_rt rfl ?_
  refine (sq_nx (ρ' := [.g (.int n), .r 0, .u]) (M' := CM (cL 0)) s0).trans ?_
  rw [sq_nx s2]
  exact sq_rt ((bnd_ok s3).trans rfl)
end K16
set_option Elab.async false
set_option linter.all false
set_option maxRecDepth 1000000
set_option maxHeartbeats 4000000
namespace K16
open Xt PySem
def chain : Nat → PyData
  | 0 => .none
  | n + 1 => .tuple [chain n, .none]
theorem isN_ch (n : Nat) (b : Bool) (M : Mem) : isN b (.g (chain n)) M = .ok (.g (.bool (b != decide (n = 0)))) M := by
  cases n <;> cases b <;> rfl
theorem many_ch : ∀ (k n : Nat), n < k → F_many_of k [.g (chain n)] [] = .ok (.g (.int n)) []
  | 0, _, h => absurd h (Nat.not_lt_zero _)
  | k + 1, 0, _ => rfl
  | k + 1, n + 1, h => by
    have e := many_ch k n (by omega)
    have e0 : F_many_of k [.g .none] [] = .ok (.g (.int ((0 : Nat) : Int))) [] := many_ch k 0 (by omega)
    show defF 1 1 (b_many_of (F_many_of k)) _ _ = _
    simp [defF, chk, sq, ifs, tst, b2, b1, bnd, sl, kk, rt, ixD, atM, ofO, asI, L2.atI, L2.ixN, i2, i2c, tB, vB, dI, asg, tN, tT, tC, tZ, asT, tSub, stD, putM, Xt.ret, frZ, cB, ac, ac0, un1, skp, intD, lenD, addD, isN_none, isN_tup, isN_int, isN_lst, isN_tr, tru, grd_map, grd_mapI, grd_appI, tup, mkT, grd, szOk, trV, tor, tand, tnt, andV, ntV, iff, isi, isi2, knD, isTy, kn, pureC, Xt.ch, drp, par2, asG, asGp, fl, lstG, acS, lsP, eqI, neI, subD, leD, ltD, gtD, geD, b_many_of, chain, e, e0]
    omega
theorem form_ch : ∀ (k n : Nat) (d : Int), n < k → (n : Int) ≤ d → F_has_form_shapes k [.g (chain n), .g (.int d)] [] = .ok (.g (.bool true)) []
  | 0, _, _, h, _ => absurd h (Nat.not_lt_zero _)
  | k + 1, 0, _, _, _ => rfl
  | k + 1, n + 1, d, h, h2 => by
    have e := form_ch k n (d - 1) (by omega) (by omega)
    have e0 : F_has_form_shapes k [.g .none, .g (.int (d - 1))] [] = .ok (.g (.bool true)) [] := form_ch k 0 (d - 1) (by omega) (by omega)
    have d0 : ¬ d = 0 := by omega
    show defF 2 2 (b_has_form_shapes (F_has_form_shapes k)) _ _ = _
    cases c : decide (n = 0) <;> simp [defF, chk, sq, ifs, tst, b2, b1, bnd, sl, kk, rt, ixD, atM, ofO, asI, L2.atI, L2.ixN, i2, i2c, tB, vB, dI, asg, tN, tT, tC, tZ, asT, tSub, stD, putM, Xt.ret, frZ, cB, ac, ac0, un1, skp, intD, lenD, addD, isN_none, isN_tup, isN_int, isN_lst, isN_tr, tru, grd_map, grd_mapI, grd_appI, tup, mkT, grd, szOk, trV, tor, tand, tnt, andV, ntV, iff, isi, isi2, knD, isTy, kn, pureC, Xt.ch, drp, par2, asG, asGp, fl, lstG, acS, lsP, eqI, neI, subD, leD, ltD, gtD, geD, b_has_form_shapes, chain, e, e0, d0, isN_ch, c]
theorem shape_ch (k n : Nat) (h : n ≤ 200) (hk : n < k) : F_is_turned_shape (k + 1) [.g (chain n)] [] = .ok (.g (.bool true)) [] := by
  have e1 := form_ch k n 200 hk (by omega)
  have e2 := many_ch k n hk
  have c : (n : Int) ≤ 200 := by omega
  show defF 1 1 (b_is_turned_shape (F_many_of k) (F_has_form_shapes k)) _ _ = _
  simp [defF, chk, sq, ifs, tst, b2, b1, bnd, sl, kk, rt, ixD, atM, ofO, asI, L2.atI, L2.ixN, i2, i2c, tB, vB, dI, asg, tN, tT, tC, tZ, asT, tSub, stD, putM, Xt.ret, frZ, cB, ac, ac0, un1, skp, intD, lenD, addD, isN_none, isN_tup, isN_int, isN_lst, isN_tr, tru, grd_map, grd_mapI, grd_appI, tup, mkT, grd, szOk, trV, tor, tand, tnt, andV, ntV, iff, isi, isi2, knD, isTy, kn, pureC, Xt.ch, drp, par2, asG, asGp, fl, lstG, acS, lsP, eqI, neI, subD, leD, ltD, gtD, geD, b_is_turned_shape, e1, e2, c]
theorem need_ch (k n : Nat) (h : n ≤ 200) (hk : n < k) : F_need_shape (k + 2) [.g (chain n)] [] = .ok (.g .none) [] := by
  have e := shape_ch k n h hk
  show defF 1 1 (b_need_shape (F_is_turned_shape (k + 1))) _ _ = _
  simp [defF, chk, sq, ifs, tst, b2, b1, bnd, sl, kk, rt, ixD, atM, ofO, asI, L2.atI, L2.ixN, i2, i2c, tB, vB, dI, asg, tN, tT, tC, tZ, asT, tSub, stD, putM, Xt.ret, frZ, cB, ac, ac0, un1, skp, intD, lenD, addD, isN_none, isN_tup, isN_int, isN_lst, isN_tr, tru, grd_map, grd_mapI, grd_appI, tup, mkT, grd, szOk, trV, tor, tand, tnt, andV, ntV, iff, isi, isi2, knD, isTy, kn, pureC, Xt.ch, drp, par2, asG, asGp, fl, lstG, acS, lsP, eqI, neI, subD, leD, ltD, gtD, geD, b_need_shape, e]
theorem places_ch (k n : Nat) (h : n ≤ 200) (hk : n < k) : F_places (k + 3) [.g (chain n)] [] = .ok (.g (.int n)) [] := by
  have e := need_ch k n h hk
  have e2 := many_ch (k + 2) n (by omega)
  show defF 1 1 (b_places (F_many_of (k + 2)) (F_need_shape (k + 2))) _ _ = _
  simp [defF, chk, sq, ifs, tst, b2, b1, bnd, sl, kk, rt, ixD, atM, ofO, asI, L2.atI, L2.ixN, i2, i2c, tB, vB, dI, asg, tN, tT, tC, tZ, asT, tSub, stD, putM, Xt.ret, frZ, cB, ac, ac0, un1, skp, intD, lenD, addD, isN_none, isN_tup, isN_int, isN_lst, isN_tr, tru, grd_map, grd_mapI, grd_appI, tup, mkT, grd, szOk, trV, tor, tand, tnt, andV, ntV, iff, isi, isi2, knD, isTy, kn, pureC, Xt.ch, drp, par2, asG, asGp, fl, lstG, acS, lsP, eqI, neI, subD, leD, ltD, gtD, geD, b_places, e, e2]
theorem eqPP (a b c d : Int) (M : Mem) : eqD false (.g (.tuple [.int a, .int b])) (.g (.tuple [.int c, .int d])) M = .ok (.g (.bool (decide (a = c) && decide (b = d)))) M := by
  have o : eqOk (.tuple [.int a, .int b]) (.tuple [.int c, .int d]) = true := rfl
  have q : PyData.eqv (.tuple [.int a, .int b]) (.tuple [.int c, .int d]) = (decide (a = c) && decide (b = d)) := by
    have q1 : PyData.eqv (.tuple [.int a, .int b]) (.tuple [.int c, .int d]) = ((a == c) && ((b == d) && true)) := by simp [PyData.eqv, PyData.eqvAll]
    rw [q1, Bool.and_true]
    rfl
  show chk (eqOk (.tuple [.int a, .int b]) (.tuple [.int c, .int d])) (rt (vB (PyData.eqv (.tuple [.int a, .int b]) (.tuple [.int c, .int d])))) M = _
  rw [o, q]
  rfl
theorem ixG {C : List Int} {i : Nat} (h : i < C.length) (M : Mem) : ixD (.g (.list (C.map .int))) (.g (.int i)) M = .ok (.g (.int (C.getD i 0))) M := by
  have e : L2.atI (C.map PyData.int) (i : Int) = some (.int (C.getD i 0)) := by
    unfold L2.atI L2.ixN
    rw [if_pos (by omega), if_pos (by simpa using h)]
    show (C.map PyData.int)[(i : Int).toNat]? = _
    rw [Int.toNat_natCast, List.getElem?_map, List.getElem?_eq_getElem h, List.getD_eq_getElem?_getD, List.getElem?_eq_getElem h]
    rfl
  show bnd (ofO (L2.atI (C.map PyData.int) (i : Int))) (fun x => rt (Dv.g x)) M = _
  rw [e]
  rfl
theorem cL_cons : ∀ m, ∃ R, cL m = 1 :: R
  | 0 => ⟨[], rfl⟩
  | m + 1 => by
    obtain ⟨R, e⟩ := cL_cons m
    exact ⟨R ++ [sm (cL m) (m + 1)], by show cL m ++ _ = _; rw [e]; simp⟩
theorem PL_hd (n : Nat) : ∃ r, (PL (n + 1)).map (pr (n + 1)) = .tuple [.int n, .int 0] :: r := by
  obtain ⟨r, e⟩ := PL_cons (n + 1) (by omega)
  refine ⟨r.map (pr (n + 1)), ?_⟩
  rw [e]
  have z : ((n + 1 : Nat) : Int) - 1 - ((n + 1 - 1 : Nat) : Int) = 0 := by omega
  show pr (n + 1) (n + 1 - 1) :: _ = _
  unfold pr
  rw [z]
  rfl
theorem index_ch (R : List Int) : ∀ (k n : Nat), n < k → n ≤ 200 → F_index_of (k + 1) [.g (chain n), .g (.list ((1 :: R).map .int))] [] = .ok (.g (.int 0)) []
  | 0, _, h, _ => absurd h (Nat.not_lt_zero _)
  | k + 1, 0, _, _ => rfl
  | k + 1, n + 1, h, h2 => by
    have e := index_ch R k n (by omega) (by omega)
    have e0 : F_index_of (k + 1) [.g .none, .g (.list ((1 :: R).map .int))] [] = .ok (.g (.int 0)) [] := index_ch R k 0 (by omega) (by omega)
    obtain ⟨r, er⟩ := PL_hd n
    have ep := parted_ok k (n + 1) (by omega)
    rw [er] at ep
    have em := many_ch (k + 1) (n + 1) (by omega)
    have em1 := many_ch (k + 1) n (by omega)
    have em0 : F_many_of (k + 1) [.g .none] [] = .ok (.g (.int 0)) [] := many_ch (k + 1) 0 (by omega)
    have mz : mulOk 0 1 = true := by decide +kernel
    have ch : (chain (n + 1)) = .tuple [chain n, .none] := rfl
    rw [ch] at em
    rw [show (((n + 1 : Nat)) : Int) = (n : Int) + 1 from rfl] at ep em
    simp only [List.map_cons] at e e0
    show defF 6 2 (b_index_of (F_index_of (k + 1)) (F_parted (k + 1)) (F_many_of (k + 1))) _ _ = _
    simp [defF, chk, sq, ifs, tst, b2, b1, bnd, sl, kk, rt, ixD, atM, ofO, asI, L2.atI, L2.ixN, i2, i2c, tB, vB, dI, asg, tN, tT, tC, tZ, asT, tSub, stD, putM, Xt.ret, frZ, cB, ac, ac0, un1, skp, intD, lenD, addD, isN_none, isN_tup, isN_int, isN_lst, isN_tr, tru, grd_map, grd_mapI, grd_appI, tup, mkT, grd, szOk, trV, tor, tand, tnt, andV, ntV, iff, isi, isi2, knD, isTy, kn, pureC, Xt.ch, drp, par2, asG, asGp, fl, lstG, acS, lsP, eqI, neI, subD, leD, ltD, gtD, geD, b_index_of, ch, e, e0, ep, em, em1, em0, forX, srcS, its, forL, eqPP, brk, mulD, i2c, mz]
theorem num_ch (C : List Int) (hb : Bd C) (hl : C.length ≤ 201) : ∀ (k n : Nat), n < k → n < C.length → F_numbered (k + 1) [.g (.int n), .g (.int 0), .g (.list (C.map .int))] [] = .ok (.g (chain n)) []
  | 0, _, h, _ => absurd h (Nat.not_lt_zero _)
  | k + 1, 0, _, _ => rfl
  | k + 1, n + 1, h, h2 => by
    have e := num_ch C hb hl k n (by omega) (by omega)
    have e0 : F_numbered (k + 1) [.g (.int 0), .g (.int 0), .g (.list (C.map .int))] [] = .ok (.g .none) [] := num_ch C hb hl k 0 (by omega) (by omega)
    obtain ⟨r, er⟩ := PL_hd n
    have ep := parted_ok k (n + 1) (by omega)
    rw [er] at ep
    have i1 := ixG (C := C) (i := n) (by omega) []
    have i0 : ixD (.g (.list (C.map .int))) (.g (.int 0)) [] = .ok (.g (.int 1)) [] := by
      have q := ixG (C := C) (i := 0) (by omega) []
      obtain ⟨b1, b2⟩ := hb 0 (by omega)
      have z : C.getD 0 0 = 1 := by
        have : (201 : Int) ^ 0 = 1 := rfl
        omega
      rw [z] at q
      exact q
    obtain ⟨p1, p2⟩ := hb n (by omega)
    have s1 := small_bd hb (by omega) (i := n) (by omega)
    have mz : mulOk (C.getD n 0) 1 = true := by
      unfold mulOk
      rw [s1]
      decide +kernel
    have pos : 0 < C.getD n 0 := by omega
    have n0 : ¬ ((n : Int) + 1 = 0) := by omega
    have dz : divOk 0 1 = true := by decide +kernel
    rw [show (((n + 1 : Nat)) : Int) = (n : Int) + 1 from rfl] at ep ⊢
    have j1 := i1
    generalize hC : C.map PyData.int = CC at *
    show defF 6 3 (b_numbered (F_numbered (k + 1)) (F_parted (k + 1))) _ _ = _
    have mm : mulD (.g (.int (C.getD n 0))) (.g (.int 1)) [] = .ok (.g (.int (C.getD n 0))) [] := by
      show chk (mulOk (C.getD n 0) 1) (rt (dI (C.getD n 0 * 1))) [] = _
      rw [mz, Int.mul_one]
      rfl
    have fd : fdivD (.g (.int 0)) (.g (.int 1)) [] = .ok (.g (.int 0)) [] := by rfl
    have md : modD (.g (.int 0)) (.g (.int 1)) [] = .ok (.g (.int 0)) [] := by rfl
    clear p1 p2 s1 mz j1
    generalize C.getD n 0 = cn at i1 mm pos
    simp [defF, chk, sq, ifs, tst, b2, b1, bnd, sl, kk, rt, atM, ofO, asI, i2, i2c, tB, vB, dI, asg, tN, tT, tC, tZ, asT, tSub, stD, putM, Xt.ret, frZ, cB, ac, ac0, un1, skp, intD, lenD, addD, isN_none, isN_tup, isN_int, isN_lst, isN_tr, tru, grd_map, grd_mapI, grd_appI, tup, mkT, grd, szOk, trV, tor, tand, tnt, andV, ntV, iff, isi, isi2, knD, isTy, kn, pureC, Xt.ch, drp, par2, asG, asGp, fl, lstG, acS, lsP, eqI, neI, subD, leD, ltD, gtD, geD, b_numbered, chain, n0, ep, forX, srcS, its, forL, brk, i1, i0, mm, pos, fd, md, e, e0]
end K16
set_option Elab.async false
set_option linter.all false
set_option maxRecDepth 1000000
set_option maxHeartbeats 4000000
namespace K16
open Xt PySem
theorem index_n (k n : Nat) (hn : n ≤ 200) (h : n + 1 < k) : ∃ M, F_shape_index (k + 4) [.g (chain n)] [] = .ok (.g (.int 0)) M := by
  have e1 := need_ch (k + 1) n (by omega) (by omega)
  have e2 := many_ch (k + 3) n (by omega)
  obtain ⟨M, e3⟩ := counts_ok k n (by omega)
  obtain ⟨R, eR⟩ := cL_cons n
  have e4 := index_ch R (k + 2) n (by omega) (by omega)
  rw [eR] at e3
  generalize chain n = c2 at *
  generalize (1 :: R).map PyData.int = CC at *
  refine ⟨[], ?_⟩
  show defF 1 1 (b_shape_index (F_index_of (k + 3)) (F_counts_to (k + 3)) (F_many_of (k + 3)) (F_need_shape (k + 3))) _ _ = _
  simp [defF, chk, sq, ifs, tst, b2, b1, bnd, sl, kk, rt, ixD, atM, ofO, asI, L2.atI, L2.ixN, i2, i2c, tB, vB, dI, asg, tN, tT, tC, tZ, asT, tSub, stD, putM, Xt.ret, frZ, cB, ac, ac0, un1, skp, intD, lenD, addD, isN_none, isN_tup, isN_int, isN_lst, isN_tr, tru, grd_map, grd_mapI, grd_appI, tup, mkT, grd, szOk, trV, tor, tand, tnt, andV, ntV, iff, isi, isi2, knD, isTy, kn, pureC, Xt.ch, drp, par2, asG, asGp, fl, lstG, acS, lsP, eqI, neI, subD, leD, ltD, gtD, geD, b_shape_index, e1, e2, e3, e4]
theorem num_ok (k : Nat) (a b : Int) (h0 : 0 ≤ a) (h1 : a ≤ b) : F_need_number (k + 2) [.g (.int a), .g (.int b)] [] = .ok (.g .none) [] := by
  have e : F_is_in (k + 1) [.g (.int a), .g (.int 0), .g (.int b)] [] = .ok (.g (.bool true)) [] := by
    show defF 3 3 b_is_in _ _ = _
    simp [defF, chk, sq, ifs, tst, b2, b1, bnd, sl, kk, rt, ixD, atM, ofO, asI, L2.atI, L2.ixN, i2, i2c, tB, vB, dI, asg, tN, tT, tC, tZ, asT, tSub, stD, putM, Xt.ret, frZ, cB, ac, ac0, un1, skp, intD, lenD, addD, isN_none, isN_tup, isN_int, isN_lst, isN_tr, tru, grd_map, grd_mapI, grd_appI, tup, mkT, grd, szOk, trV, tor, tand, tnt, andV, ntV, iff, isi, isi2, knD, isTy, kn, pureC, Xt.ch, drp, par2, asG, asGp, fl, lstG, acS, lsP, eqI, neI, subD, leD, ltD, gtD, geD, b_is_in, h0, h1]
  show defF 2 2 (b_need_number (F_is_in (k + 1))) _ _ = _
  simp [defF, chk, sq, ifs, tst, b2, b1, bnd, sl, kk, rt, ixD, atM, ofO, asI, L2.atI, L2.ixN, i2, i2c, tB, vB, dI, asg, tN, tT, tC, tZ, asT, tSub, stD, putM, Xt.ret, frZ, cB, ac, ac0, un1, skp, intD, lenD, addD, isN_none, isN_tup, isN_int, isN_lst, isN_tr, tru, grd_map, grd_mapI, grd_appI, tup, mkT, grd, szOk, trV, tor, tand, tnt, andV, ntV, iff, isi, isi2, knD, isTy, kn, pureC, Xt.ch, drp, par2, asG, asGp, fl, lstG, acS, lsP, eqI, neI, subD, leD, ltD, gtD, geD, b_need_number, e]
theorem at_n (k n : Nat) (hn : n ≤ 200) (h : n + 1 < k) : ∃ M, F_shape_at (k + 4) [.g (.int n), .g (.int 0)] [] = .ok (.g (chain n)) M := by
  obtain ⟨M, e3⟩ := counts_ok k n (by omega)
  have hb := cL_bd n (by omega)
  have hl := cL_len n
  have e4 := num_ch (cL n) hb (by omega) (k + 2) n (by omega) (by omega)
  have yi2 := ixG (C := cL n) (i := n) (by omega) []
  obtain ⟨p1, _⟩ := hb n (by omega)
  have e1 := num_ok (k + 1) n 200 (by omega) (by omega)
  have e5 := num_ok (k + 1) 0 ((cL n).getD n 0 - 1) (by omega) (by omega)
  generalize chain n = c2 at *
  generalize (cL n).getD n 0 = q at *
  generalize (cL n).map PyData.int = CC at *
  refine ⟨[], ?_⟩
  show defF 3 2 (b_shape_at (F_numbered (k + 3)) (F_need_number (k + 3)) (F_counts_to (k + 3))) _ _ = _
  simp [defF, chk, sq, ifs, tst, b2, b1, bnd, sl, kk, rt, atM, ofO, asI, i2, i2c, tB, vB, dI, asg, tN, tT, tC, tZ, asT, tSub, stD, putM, Xt.ret, frZ, cB, ac, ac0, un1, skp, intD, lenD, addD, isN_none, isN_tup, isN_int, isN_lst, isN_tr, tru, grd_map, grd_mapI, grd_appI, tup, mkT, grd, szOk, trV, tor, tand, tnt, andV, ntV, iff, isi, isi2, knD, isTy, kn, pureC, Xt.ch, drp, par2, asG, asGp, fl, lstG, acS, lsP, eqI, neI, subD, leD, ltD, gtD, geD, b_shape_at, e1, e3, yi2, e5, e4]
end K16
set_option Elab.async false
set_option linter.all false
set_option maxRecDepth 1000000
set_option maxHeartbeats 0
namespace K16
open Xt PySem
def okT : RE Dv → Bool
  | .ok (.g (.bool true)) _ => true
  | _ => false
def okF : RE Fl → Bool
  | .ok (.rt (.g (.bool true))) _ => true
  | _ => false
def mm1 : Mem := [.lst [.g (.str "shape"), .g (.str "shape"), .g (.str "shape"), .g (.str "shape"), .g (.str "shape")], .lst [.g (.str "shape"), .g (.str "shape"), .g (.str "shape"), .g (.str "shape"), .g (.str "shape")], .lst [.g (.str "shape"), .g (.str "shape"), .g (.str "shape"), .g (.str "shape"), .g (.str "shape")], .lst [.g (.str "shape"), .g (.str "shape"), .g (.str "shape"), .g (.str "shape"), .g (.str "shape")], .lst [.g (.str "shape"), .g (.str "shape"), .g (.str "shape"), .g (.str "shape"), .g (.str "shape")], .lst [.g (.str "shape"), .g (.str "shape"), .g (.str "shape"), .g (.str "shape"), .g (.str "shape")], .lst [.g (.str "shape"), .g (.str "shape"), .g (.str "shape"), .g (.str "shape"), .g (.str "shape")], .lst [.g (.str "shape"), .g (.str "shape"), .g (.str "shape"), .g (.str "shape"), .g (.str "shape")], .lst [.g (.str "shape"), .g (.str "shape"), .g (.str "shape"), .g (.str "shape"), .g (.str "shape")]]
def mm2 : Mem := [.lst [.g (.str "shape"), .g (.str "shape"), .g (.str "shape"), .g (.str "shape"), .g (.str "shape")], .lst [.g (.str "shape"), .g (.str "shape"), .g (.str "shape"), .g (.str "shape"), .g (.str "shape")], .lst [.g (.str "shape"), .g (.str "shape"), .g (.str "shape"), .g (.str "shape"), .g (.str "shape")], .lst [.g (.str "shape"), .g (.str "shape"), .g (.str "shape"), .g (.str "shape"), .g (.str "shape")], .lst [.g (.str "shape"), .g (.str "shape"), .g (.str "shape"), .g (.str "shape"), .g (.str "shape")], .lst [.g (.str "shape"), .g (.str "shape"), .g (.str "shape"), .g (.str "shape"), .g (.str "shape")], .lst [.g (.str "shape"), .g (.str "shape"), .g (.str "shape"), .g (.str "shape"), .g (.str "shape")], .lst [.g (.str "shape"), .g (.str "shape"), .g (.str "shape"), .g (.str "shape"), .g (.str "shape")], .lst [.g (.str "shape"), .g (.str "shape"), .g (.str "shape"), .g (.str "shape"), .g (.str "shape")], .lst [.g (.str "number"), .g (.str "number"), .g (.str "number"), .g (.str "number"), .g (.str "number")], .lst [.g (.str "number"), .g (.str "number"), .g (.str "number"), .g (.str "number"), .g (.str "number")], .lst [.g (.str "number"), .g (.str "number"), .g (.str "number"), .g (.str "number"), .g (.str "number")], .lst [.g (.str "number"), .g (.str "number"), .g (.str "number"), .g (.str "number"), .g (.str "number")], .lst [.g (.str "number"), .g (.str "number"), .g (.str "number"), .g (.str "number"), .g (.str "number")]]
def mm3 : Mem := [.lst [.g (.str "shape"), .g (.str "shape"), .g (.str "shape"), .g (.str "shape"), .g (.str "shape")], .lst [.g (.str "shape"), .g (.str "shape"), .g (.str "shape"), .g (.str "shape"), .g (.str "shape")], .lst [.g (.str "shape"), .g (.str "shape"), .g (.str "shape"), .g (.str "shape"), .g (.str "shape")], .lst [.g (.str "shape"), .g (.str "shape"), .g (.str "shape"), .g (.str "shape"), .g (.str "shape")], .lst [.g (.str "shape"), .g (.str "shape"), .g (.str "shape"), .g (.str "shape"), .g (.str "shape")], .lst [.g (.str "shape"), .g (.str "shape"), .g (.str "shape"), .g (.str "shape"), .g (.str "shape")], .lst [.g (.str "shape"), .g (.str "shape"), .g (.str "shape"), .g (.str "shape"), .g (.str "shape")], .lst [.g (.str "shape"), .g (.str "shape"), .g (.str "shape"), .g (.str "shape"), .g (.str "shape")], .lst [.g (.str "shape"), .g (.str "shape"), .g (.str "shape"), .g (.str "shape"), .g (.str "shape")], .lst [.g (.str "number"), .g (.str "number"), .g (.str "number"), .g (.str "number"), .g (.str "number")], .lst [.g (.str "number"), .g (.str "number"), .g (.str "number"), .g (.str "number"), .g (.str "number")], .lst [.g (.str "number"), .g (.str "number"), .g (.str "number"), .g (.str "number"), .g (.str "number")], .lst [.g (.str "number"), .g (.str "number"), .g (.str "number"), .g (.str "number"), .g (.str "number")], .lst [.g (.str "number"), .g (.str "number"), .g (.str "number"), .g (.str "number"), .g (.str "number")], .lst [.g (.str "number"), .g (.str "number"), .g (.str "number"), .g (.str "number"), .g (.str "number"), .g (.str "number")], .lst [.g (.str "number"), .g (.str "number"), .g (.str "number"), .g (.str "number"), .g (.str "number"), .g (.str "number")], .lst [.g (.str "number"), .g (.str "number"), .g (.str "number"), .g (.str "number"), .g (.str "number"), .g (.str "number")], .lst [.g (.str "number"), .g (.str "number"), .g (.str "number"), .g (.str "number"), .g (.str "number"), .g (.str "number")]]
def mm4 : Mem := [.lst [.g (.str "shape"), .g (.str "shape"), .g (.str "shape"), .g (.str "shape"), .g (.str "shape")], .lst [.g (.str "shape"), .g (.str "shape"), .g (.str "shape"), .g (.str "shape"), .g (.str "shape")], .lst [.g (.str "shape"), .g (.str "shape"), .g (.str "shape"), .g (.str "shape"), .g (.str "shape")], .lst [.g (.str "shape"), .g (.str "shape"), .g (.str "shape"), .g (.str "shape"), .g (.str "shape")], .lst [.g (.str "shape"), .g (.str "shape"), .g (.str "shape"), .g (.str "shape"), .g (.str "shape")], .lst [.g (.str "shape"), .g (.str "shape"), .g (.str "shape"), .g (.str "shape"), .g (.str "shape")], .lst [.g (.str "shape"), .g (.str "shape"), .g (.str "shape"), .g (.str "shape"), .g (.str "shape")], .lst [.g (.str "shape"), .g (.str "shape"), .g (.str "shape"), .g (.str "shape"), .g (.str "shape")], .lst [.g (.str "shape"), .g (.str "shape"), .g (.str "shape"), .g (.str "shape"), .g (.str "shape")], .lst [.g (.str "number"), .g (.str "number"), .g (.str "number"), .g (.str "number"), .g (.str "number")], .lst [.g (.str "number"), .g (.str "number"), .g (.str "number"), .g (.str "number"), .g (.str "number")], .lst [.g (.str "number"), .g (.str "number"), .g (.str "number"), .g (.str "number"), .g (.str "number")], .lst [.g (.str "number"), .g (.str "number"), .g (.str "number"), .g (.str "number"), .g (.str "number")], .lst [.g (.str "number"), .g (.str "number"), .g (.str "number"), .g (.str "number"), .g (.str "number")], .lst [.g (.str "number"), .g (.str "number"), .g (.str "number"), .g (.str "number"), .g (.str "number"), .g (.str "number")], .lst [.g (.str "number"), .g (.str "number"), .g (.str "number"), .g (.str "number"), .g (.str "number"), .g (.str "number")], .lst [.g (.str "number"), .g (.str "number"), .g (.str "number"), .g (.str "number"), .g (.str "number"), .g (.str "number")], .lst [.g (.str "number"), .g (.str "number"), .g (.str "number"), .g (.str "number"), .g (.str "number"), .g (.str "number")], .lst [.g (.str "number"), .g (.str "number"), .g (.str "number"), .g (.str "number")]]
def ss1 : Slots := [.g (.tuple [.none, .none]), .g (chain 201), .g (.int 200), .u, .u]
def ss2 : Slots := [.g (.tuple [.none, .none]), .g (chain 201), .g (.int 200), .g (chain 201), .r 8]
def ss3 : Slots := [.g (.tuple [.none, .none]), .g (chain 201), .g (.int 200), .g (.str "3"), .r 13]
def ss4 : Slots := [.g (.tuple [.none, .none]), .g (chain 201), .g (.int 200), .g (.int 1000000000000000000000000000001), .r 17]
def ss5 : Slots := [.g (.tuple [.none, .none]), .g (chain 201), .g (.int 200), .g (.int 1000000000000000000000000000001), .g (.list [.str "number", .str "number", .str "number", .str "number", .str "number"])]
theorem r0 : (sq (q_refused_0 222) (sq (q_refused_1 222) (sq (q_refused_2 222) skp))) [.u, .u, .u, .u, .u] [] = .ok (.nx ss1) [] := by kernel_rfl
theorem r3 : q_refused_3 222 ss1 [] = .ok (.nx ss2) mm1 := by kernel_rfl
theorem r4 : q_refused_4 222 ss2 mm1 = .ok (.nx ss3) mm2 := by kernel_rfl
theorem r5 : q_refused_5 222 ss3 mm2 = .ok (.nx ss4) mm3 := by kernel_rfl
theorem r6 : (sq (q_refused_6 222) (sq (q_refused_7 222) (sq (q_refused_8 222) (sq (q_refused_9 222) (sq (q_refused_10 222) (sq (q_refused_11 222) skp)))))) ss4 mm3 = .ok (.nx ss5) mm4 := by kernel_rfl
theorem r15 : okF ((sq (q_refused_15 222) (sq (q_refused_16 222) (sq (q_refused_17 222) (sq (q_refused_18 222) (sq (q_refused_19 222) (sq (q_refused_20 222) (sq (q_refused_21 222) skp))))))) ss5 mm4) = true := by kernel_rfl
theorem wr0 : okT (F_q_written 225 [dI 0] []) = true := by kernel_rfl
theorem wr1 : okT (F_q_written 225 [dI 1] []) = true := by kernel_rfl
theorem wr2 : okT (F_q_written 225 [dI 2] []) = true := by kernel_rfl
theorem wr3 : okT (F_q_written 225 [dI 3] []) = true := by kernel_rfl
theorem wr4 : okT (F_q_written 225 [dI 4] []) = true := by kernel_rfl
theorem wr5 : okT (F_q_written 225 [dI 5] []) = true := by kernel_rfl
theorem wr6 : okT (F_q_written 225 [dI 6] []) = true := by kernel_rfl
theorem wr7 : okT (F_q_written 225 [dI 7] []) = true := by kernel_rfl
theorem wr8 : okT (F_q_written 225 [dI 8] []) = true := by kernel_rfl
end K16
set_option Elab.async false
set_option linter.all false
set_option maxRecDepth 1000000
set_option maxHeartbeats 4000000
namespace K16
open Xt PySem
theorem ch_lay : ∀ n, (chain n).canLay0 = true
  | 0 => rfl
  | n + 1 => by simp [chain, PyData.canLay0, PyData.canLayAll0, ch_lay n]
theorem ch_eqv : ∀ n, PyData.eqv (chain n) (chain n) = true
  | 0 => rfl
  | n + 1 => by simp [chain, PyData.eqv, PyData.eqvAll, ch_eqv n]
theorem ch_depth : ∀ n, (chain n).depth ≤ n
  | 0 => by simp [chain, PyData.depth]
  | n + 1 => by
    have := ch_depth n
    simp [chain, PyData.depth, PyData.depthAll]
    omega
theorem neC (n : Nat) (h : n ≤ 200) (M : Mem) : eqD true (.g (chain n)) (.g (chain n)) M = .ok (.g (.bool false)) M := by
  have o : eqOk (chain n) (chain n) = true := by
    have h1 := ch_depth n
    unfold eqOk
    rw [ch_lay]
    exact Nat.ble_eq_true_of_le (by omega)
  show chk (eqOk (chain n) (chain n)) (rt (vB (!PyData.eqv (chain n) (chain n)))) M = _
  rw [o, ch_eqv]
  rfl
theorem seg14g (FF : List Dv → Co Dv) (c2 : PyData) (M M' : Mem) (a b c d : Dv) (x y : PyData) (e : FF [.g x, .g y] [] = .ok (.g c2) M') (q : eqD true (.g c2) (.g c2) M = .ok (.g (.bool false)) M) :
    (ifs (tst (b2 (eqD true) (cB (pureC FF) (ac (kk x) (ac (kk y) ac0))) (b2 ixD (sl 1) (kk (.int 0))))) (sq (ret (kk (.bool false))) skp) skp) [a, .g (.tuple [c2, .none]), b, c, d] M = .ok (.nx [a, .g (.tuple [c2, .none]), b, c, d]) M := by
  simp [defF, chk, sq, ifs, tst, b2, b1, bnd, sl, kk, rt, ixD, atM, ofO, asI, L2.atI, L2.ixN, i2, i2c, tB, vB, dI, asg, tN, tT, tC, tZ, asT, tSub, stD, putM, Xt.ret, frZ, cB, ac, ac0, un1, skp, intD, lenD, addD, isN_none, isN_tup, isN_int, isN_lst, isN_tr, tru, grd_map, grd_mapI, grd_appI, tup, mkT, grd, szOk, trV, tor, tand, tnt, andV, ntV, iff, isi, isi2, knD, isTy, kn, pureC, Xt.ch, drp, par2, asG, asGp, fl, lstG, acS, lsP, eqI, neI, subD, leD, ltD, gtD, geD, e, q]
section
variable (k n : Nat) (hn : n ≤ 200) (hk : n + 2 < k) (hz : (n : Int) = 200) (a b c d : Dv) (M : Mem)
include hn hk hz
theorem seg12 : q_refused_12 (k + 4) [a, .g (.tuple [chain n, .none]), b, c, d] M = .ok (.nx [a, .g (.tuple [chain n, .none]), b, c, d]) M := by
  have e := places_ch (k + 1) n hn (by omega)
  show (ifs (tst (b2 (eqD true) (cB (pureC (F_places (k + 4))) (ac (b2 ixD (sl 1) (kk (.int 0))) ac0)) (kk (.int 200)))) (sq (ret (kk (.bool false))) skp) skp) _ M = _
  generalize chain n = c2 at *
  rw [hz] at e
  simp [defF, chk, sq, ifs, tst, b2, b1, bnd, sl, kk, rt, ixD, atM, ofO, asI, L2.atI, L2.ixN, i2, i2c, tB, vB, dI, asg, tN, tT, tC, tZ, asT, tSub, stD, putM, Xt.ret, frZ, cB, ac, ac0, un1, skp, intD, lenD, addD, isN_none, isN_tup, isN_int, isN_lst, isN_tr, tru, grd_map, grd_mapI, grd_appI, tup, mkT, grd, szOk, trV, tor, tand, tnt, andV, ntV, iff, isi, isi2, knD, isTy, kn, pureC, Xt.ch, drp, par2, asG, asGp, fl, lstG, acS, lsP, eqI, neI, subD, leD, ltD, gtD, geD, e]
theorem seg13 : q_refused_13 (k + 4) [a, .g (.tuple [chain n, .none]), b, c, d] M = .ok (.nx [a, .g (.tuple [chain n, .none]), b, c, d]) M := by
  obtain ⟨M', e⟩ := index_n k n hn (by omega)
  show (ifs (tst (b2 (eqD true) (cB (pureC (F_shape_index (k + 4))) (ac (b2 ixD (sl 1) (kk (.int 0))) ac0)) (kk (.int 0)))) (sq (ret (kk (.bool false))) skp) skp) _ M = _
  generalize chain n = c2 at *
  simp [defF, chk, sq, ifs, tst, b2, b1, bnd, sl, kk, rt, ixD, atM, ofO, asI, L2.atI, L2.ixN, i2, i2c, tB, vB, dI, asg, tN, tT, tC, tZ, asT, tSub, stD, putM, Xt.ret, frZ, cB, ac, ac0, un1, skp, intD, lenD, addD, isN_none, isN_tup, isN_int, isN_lst, isN_tr, tru, grd_map, grd_mapI, grd_appI, tup, mkT, grd, szOk, trV, tor, tand, tnt, andV, ntV, iff, isi, isi2, knD, isTy, kn, pureC, Xt.ch, drp, par2, asG, asGp, fl, lstG, acS, lsP, eqI, neI, subD, leD, ltD, gtD, geD, e]
theorem seg14 : q_refused_14 (k + 4) [a, .g (.tuple [chain n, .none]), b, c, d] M = .ok (.nx [a, .g (.tuple [chain n, .none]), b, c, d]) M := by
  obtain ⟨M', e⟩ := at_n k n hn (by omega)
  have q := neC n hn M
  rw [hz] at e
  exact seg14g _ _ M M' a b c d (.int 200) (.int 0) e q
end
theorem okF_ok {r : RE Fl} (h : okF r = true) : ∃ M, r = .ok (.rt (vB true)) M := by
  unfold okF at h
  split at h
  · exact ⟨_, rfl⟩
  · cases h
theorem ss5_eq : ss5 = [.g (.tuple [.none, .none]), .g (.tuple [chain 200, .none]), .g (.int 200), .g (.int 1000000000000000000000000000001), .g (.list [.str "number", .str "number", .str "number", .str "number", .str "number"])] := by kernel_rfl
theorem t12 (M : Mem) : q_refused_12 (218 + 4) ss5 M = .ok (.nx ss5) M := by
  rw [ss5_eq]
  exact seg12 218 200 (Nat.le_refl _) (by decide) (by decide) _ _ _ _ M
theorem t13 (M : Mem) : q_refused_13 (218 + 4) ss5 M = .ok (.nx ss5) M := by
  rw [ss5_eq]
  exact seg13 218 200 (Nat.le_refl _) (by decide) (by decide) _ _ _ _ M
theorem t14 (M : Mem) : q_refused_14 (218 + 4) ss5 M = .ok (.nx ss5) M := by
  rw [ss5_eq]
  exact seg14 218 200 (Nat.le_refl _) (by decide) (by decide) _ _ _ _ M
theorem rf : okT (F_q_refused 225 [] []) = true := by
  obtain ⟨M, e15⟩ := okF_ok r15
  have A : ∀ K, sq (q_refused_0 222) (sq (q_refused_1 222) (sq (q_refused_2 222) K)) = sq (sq (q_refused_0 222) (sq (q_refused_1 222) (sq (q_refused_2 222) skp))) K := fun K => by simp only [sq_assoc, skp_sq]
  have B : ∀ K, sq (q_refused_6 222) (sq (q_refused_7 222) (sq (q_refused_8 222) (sq (q_refused_9 222) (sq (q_refused_10 222) (sq (q_refused_11 222) K))))) = sq (sq (q_refused_6 222) (sq (q_refused_7 222) (sq (q_refused_8 222) (sq (q_refused_9 222) (sq (q_refused_10 222) (sq (q_refused_11 222) skp)))))) K := fun K => by simp only [sq_assoc, skp_sq]
  have F : F_q_refused (222 + 3) [] [] = .ok (vB true) M := by
    rw [F_q_refused_eq, A, B]
    refine def_rt rfl ?_
    refine (sq_nx (ρ' := ss1) (M' := []) r0).trans ?_
    rw [sq_nx r3, sq_nx r4, sq_nx r5, sq_nx r6, sq_nx (t12 mm4), sq_nx (t13 mm4), sq_nx (t14 mm4), e15]
  show okT (F_q_refused (222 + 3) [] []) = true
  rw [F]
  rfl
end K16
set_option Elab.async false
set_option linter.all false
set_option maxRecDepth 1000000
set_option maxHeartbeats 4000000
namespace K16
open Xt PySem
theorem okT_ok {F : List Dv → Co Dv} {xs : List PyData} (h : okT (F (xs.map Dv.g) []) = true) (M : Mem) : pureC F (xs.map Dv.g) M = .ok (vB true) M := by
  unfold pureC
  refine (bnd_ok (x := xs) (M' := M) ?_).trans ?_
  · rw [grd_map]
    rfl
  · unfold okT at h
    split at h
    · rename_i M' e
      simp only [e]
      rfl
    · cases h
theorem trim_ok {F : List Dv → Co Dv} {ds : List Dv} {M M' : Mem} {x : PyData} (h : F ds M = .ok (.g x) M') (hl : M'.length = M.length) (hg : M'.all grdO = true) : trimC F ds M = .ok (.g x) M' := by
  unfold trimC
  rw [h]
  have e : M'.take M.length = M' := by rw [← hl]; exact List.take_length
  simp only [e, hg]
theorem law_gen (ns : List Int) (FT FW FR : List Dv → Co Dv) (hT : ∃ d a' b' c', 0 ≤ d ∧ d < 9 ∧ trimC FT [.r 0, .g (.int 9)] [RW ns 0 14516 0] = .ok (.g (.int d)) [RW ns a' b' c'])
    (hW : ∀ d M, 0 ≤ d → d < 9 → pureC FW [.g (.int d)] M = .ok (vB true) M) (hR : ∀ M, pureC FR [] M = .ok (vB true) M) :
    ∃ M, defF 2 1 (fun ρ => nox ((sq (law_s0 FR FW FT) (sq (law_s1 FR FW FT) skp)) ρ)) [.g (.list (ns.map .int))] [] = .ok (vB true) M := by
  obtain ⟨d, a', b', c', h1, h2, et⟩ := hT
  have ew := hW d [RW ns a' b' c'] h1 h2
  have er := hR [RW ns a' b' c']
  refine ⟨[RW ns a' b' c'], def_rt rfl ?_⟩
  have e0 : law_s0 FR FW FT [.g (.list (ns.map .int)), .u] [] = .ok (.nx [.g (.list (ns.map .int)), .r 0]) [RW ns 0 14516 0] := rfl
  have e1 : law_s1 FR FW FT [.g (.list (ns.map .int)), .r 0] [RW ns 0 14516 0] = .ok (.rt (vB true)) [RW ns a' b' c'] := by
    have q1 : cB (trimC FT) (ac (sl 1) (ac (kk (.int 9)) ac0)) [.g (.list (ns.map .int)), .r 0] [RW ns 0 14516 0] = .ok (.g (.int d)) [RW ns a' b' c'] := et
    have qa : ac (cB (trimC FT) (ac (sl 1) (ac (kk (.int 9)) ac0))) ac0 [.g (.list (ns.map .int)), .r 0] [RW ns 0 14516 0] = .ok [.g (.int d)] [RW ns a' b' c'] := (bnd_ok q1).trans rfl
    have q2 : cB (pureC FW) (ac (cB (trimC FT) (ac (sl 1) (ac (kk (.int 9)) ac0))) ac0) [.g (.list (ns.map .int)), .r 0] [RW ns 0 14516 0] = .ok (vB true) [RW ns a' b' c'] := (bnd_ok qa).trans ew
    have qb : tst (cB (pureC FW) (ac (cB (trimC FT) (ac (sl 1) (ac (kk (.int 9)) ac0))) ac0)) [.g (.list (ns.map .int)), .r 0] [RW ns 0 14516 0] = .ok true [RW ns a' b' c'] := (bnd_ok q2).trans rfl
    have q3 : andV (cB (pureC FW) (ac (cB (trimC FT) (ac (sl 1) (ac (kk (.int 9)) ac0))) ac0)) (cB (pureC FR) ac0) [.g (.list (ns.map .int)), .r 0] [RW ns 0 14516 0] = .ok (vB true) [RW ns a' b' c'] := (bnd_ok qb).trans er
    exact (bnd_ok q3).trans rfl
  have main : (sq (law_s0 FR FW FT) (sq (law_s1 FR FW FT) skp)) [.g (.list (ns.map .int)), .u] [] = .ok (.rt (vB true)) [RW ns a' b' c'] := by
    rw [sq_nx e0]
    exact sq_rt e1
  show nox ((sq (law_s0 FR FW FT) (sq (law_s1 FR FW FT) skp)) [.g (.list (ns.map .int)), .u]) [] = _
  unfold nox
  rw [main]
theorem law_n (n : Nat) (hW : ∀ d, 0 ≤ d → d < 9 → okT (F_q_written (n + 1) [dI d] []) = true) (hR : okT (F_q_refused (n + 1) [] []) = true) (ns : List Int) : ∃ M, F_law (n + 2) [.g (.list (ns.map .int))] [] = .ok (vB true) M :=
  law_gen ns (F_q_taken (n + 1)) (F_q_written (n + 1)) (F_q_refused (n + 1)) (by
    obtain ⟨d, a', b', c', h1, h2, h3, h4, h5, e⟩ := tk ns 0 14516 0 9 [] (by decide) (by decide) (by decide) (by decide) (by decide)
    exact ⟨d, a', b', c', h1, h2, trim_ok (F := F_q_taken (n + 1)) e rfl rfl⟩) (fun d M h0 h1 => okT_ok (xs := [.int d]) (hW d h0 h1) M) (fun M => okT_ok (xs := []) hR M)
theorem wrs (d : Int) (h0 : 0 ≤ d) (h1 : d < 9) : okT (F_q_written 225 [dI d] []) = true := by
  have c : d = 0 ∨ d = 1 ∨ d = 2 ∨ d = 3 ∨ d = 4 ∨ d = 5 ∨ d = 6 ∨ d = 7 ∨ d = 8 := by omega
  rcases c with rfl | rfl | rfl | rfl | rfl | rfl | rfl | rfl | rfl
  · exact wr0
  · exact wr1
  · exact wr2
  · exact wr3
  · exact wr4
  · exact wr5
  · exact wr6
  · exact wr7
  · exact wr8
theorem law_true (ns : List Int) : ∃ M, F_law 226 [.g (.list (ns.map .int))] [] = .ok (vB true) M := law_n 224 wrs rf ns
end K16
open PySem PySem.W PySem.Calls PyProof.Rows
theorem PySem.Challenge.cw_turnheaps_k16_shapes_refused_holds : PySem.Challenge.rw_turnheaps_k16_shapes_refused.Holds := by
  w_on; o_law
  refine Xt.head_imp (m := "math") (r := OpenLaw.row PySem.Challenge.rw_turnheaps_k16_shapes_refused) (q := view (OpenLaw.row PySem.Challenge.rw_turnheaps_k16_shapes_refused).prog [83]) (H := K16.hk) (ob := K16.ob) (M := 4000) (loose := K16.names) (d := HandSHeadRun.topDef (OpenLaw.row PySem.Challenge.rw_turnheaps_k16_shapes_refused).prog 83) (kwd := []) K16.ob_eq
    (by kernel_rfl) (by kernel_rfl) K16.run (by kernel_rfl) (by kernel_rfl) (by kernel_rfl) (by rfl) (by first | assumption | decide +kernel) (by decide +kernel) ⟨rfl, rfl, rfl, rfl, rfl, by decide +kernel⟩ ?hw ?hc
  case hw => w_witness2
  case hc =>
    refine LamX.walk_ofTsE (l := PySem.Challenge.rw_turnheaps_k16_shapes_refused) (n := 63) (k := 226) (x := "_law_script") (CX := fun _ => L2.CX0) rfl (by decide) (by kernel_rfl) ⟨rfl, by decide, by decide⟩ ?F (fun _ _ _ _ _ z => z)
    intro w mg fa h Y G hmg0
    obtain ⟨K, KX, c⟩ := Y
    have hmg : mg ("law" : PySem.Str) = some (.ref fa) := by
      have e : (HandSHeadRun.topDef (OpenLaw.row PySem.Challenge.rw_turnheaps_k16_shapes_refused).prog 83).name = ("law" : PySem.Str) := by kernel_rfl
      rw [← e]
      exact hmg0
    obtain ⟨fd, hb, hF⟩ := K16.facts (P := (PySem.Challenge.rw_turnheaps_k16_shapes_refused).prog) (w := w) KX G hmg c 225 K16.law_true
    refine ⟨K, KX, fd, K16.tf.map (He.cT K), Xt.spL ⟨K, mg, (K16.tf.map (He.cT K)).map (·.2), K16.nmK K⟩, fun p hp => ?_, fun p hp => ?_, fun p hp => ?_, hb, fun H a ns hl _ hT hS => ⟨a, ns, rfl, hS, fun P hP => ?_, fun _ => rfl⟩, hF⟩
    · obtain ⟨q, hq, rfl⟩ := List.mem_map.mp hp
      exact c.empty q hq
    · obtain ⟨q, hq, rfl⟩ := List.mem_map.mp hp
      exact c.out q hq
    · obtain ⟨q, hq, rfl⟩ := List.mem_map.mp hp
      exact PySem.W.codeHd_of_K KX (c.hd q hq)
    · obtain ⟨p, hp, rfl⟩ := List.mem_map.mp hP
      exact ⟨#[], hT p hp, trivial, fun q _ pos cv z => by simp [codeAmong] at z⟩
